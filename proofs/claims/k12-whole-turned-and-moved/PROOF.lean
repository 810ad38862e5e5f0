import PyProof.Rows.All
import Wide.All
import OpenK.AllK
import Wide.FinOn
import HandS.ForMost
import HandS.SortInts
import HandS.Strs
import HandS.SetFor
import KE.SortData
import KE.GoesNew
import HandS.CallLocal
import HandS.Codes
import HandS.SetKeys
import HandS.Conv
import PySem.Challenge.RW_maskwright_k12_whole_turned_and_moved
set_option Elab.async false
set_option linter.all false
set_option maxRecDepth 100000
set_option maxHeartbeats 4000000
-- M1
/-! Lines and regions as plain lists: what places they have, when they are told rightly, and that then they are told by their places. -/
namespace Mk

abbrev Ln := List (Int × Int)
abbrev Bd := Int × Int × Ln
abbrev Rg := List Bd
abbrev Rc := Int × Int × Int × Int

def inL (l : Ln) (x : Int) : Prop := ∃ s ∈ l, s.1 ≤ x ∧ x < s.2
def inR (r : Rg) (x y : Int) : Prop := ∃ b ∈ r, b.1 ≤ y ∧ y < b.2.1 ∧ inL b.2.2 x
def inC (q : Rc) (x y : Int) : Prop := q.1 ≤ x ∧ x < q.2.2.1 ∧ q.2.1 ≤ y ∧ y < q.2.2.2
def inCs (qs : List Rc) (x y : Int) : Prop := ∃ q ∈ qs, inC q x y

theorem no {α : Type} {a : α} {P : Prop} (h : a ∈ ([] : List α)) : P := nomatch h
structure LOK (l : Ln) : Prop where
  pos : ∀ s ∈ l, s.1 < s.2
  gap : l.Pairwise fun s t => s.2 < t.1
structure ROK (r : Rg) : Prop where
  pos : ∀ b ∈ r, b.1 < b.2.1
  full : ∀ b ∈ r, b.2.2 ≠ []
  lines : ∀ b ∈ r, LOK b.2.2
  gap : r.Pairwise fun b c => b.2.1 ≤ c.1 ∧ (b.2.1 = c.1 → b.2.2 ≠ c.2.2)

theorem inL_nil {x : Int} : ¬ inL [] x := fun ⟨_, h, _⟩ => by cases h
theorem inL_cons {s : Int × Int} {l : Ln} {x : Int} : inL (s :: l) x ↔ (s.1 ≤ x ∧ x < s.2) ∨ inL l x := by
  constructor
  · rintro ⟨t, ht, h⟩
    rcases List.mem_cons.mp ht with rfl | ht
    · exact .inl h
    · exact .inr ⟨t, ht, h⟩
  · rintro (h | ⟨t, ht, h⟩)
    · exact ⟨s, List.mem_cons_self, h⟩
    · exact ⟨t, List.mem_cons_of_mem _ ht, h⟩
theorem inL_app {l m : Ln} {x : Int} : inL (l ++ m) x ↔ inL l x ∨ inL m x := by
  constructor
  · rintro ⟨t, ht, h⟩
    rcases List.mem_append.mp ht with ht | ht
    · exact .inl ⟨t, ht, h⟩
    · exact .inr ⟨t, ht, h⟩
  · rintro (⟨t, ht, h⟩ | ⟨t, ht, h⟩)
    · exact ⟨t, List.mem_append_left _ ht, h⟩
    · exact ⟨t, List.mem_append_right _ ht, h⟩
theorem inL_one {s : Int × Int} {x : Int} : inL [s] x ↔ s.1 ≤ x ∧ x < s.2 := by
  rw [inL_cons]
  exact ⟨fun h => h.elim id fun h => (inL_nil h).elim, .inl⟩
theorem inR_app {l m : Rg} {x y : Int} : inR (l ++ m) x y ↔ inR l x y ∨ inR m x y := by
  constructor
  · rintro ⟨t, ht, h⟩
    rcases List.mem_append.mp ht with ht | ht
    · exact .inl ⟨t, ht, h⟩
    · exact .inr ⟨t, ht, h⟩
  · rintro (⟨t, ht, h⟩ | ⟨t, ht, h⟩)
    · exact ⟨t, List.mem_append_left _ ht, h⟩
    · exact ⟨t, List.mem_append_right _ ht, h⟩
theorem inR_one {b : Bd} {x y : Int} : inR [b] x y ↔ b.1 ≤ y ∧ y < b.2.1 ∧ inL b.2.2 x := by
  constructor
  · rintro ⟨t, ht, h⟩
    rw [List.mem_singleton] at ht
    subst ht
    exact h
  · exact fun h => ⟨b, List.mem_singleton.mpr rfl, h⟩
theorem inR_nil {x y : Int} : ¬ inR [] x y := fun ⟨_, h, _⟩ => by cases h

theorem LOK.nil : LOK [] := ⟨fun _ h => no h, List.Pairwise.nil⟩
theorem LOK.tail {s : Int × Int} {l : Ln} (h : LOK (s :: l)) : LOK l := ⟨fun t ht => h.pos t (List.mem_cons_of_mem _ ht), (List.pairwise_cons.mp h.gap).2⟩
theorem ROK.nil : ROK [] := ⟨fun _ h => no h, fun _ h => no h, fun _ h => no h, List.Pairwise.nil⟩
theorem ROK.tail {s : Bd} {l : Rg} (h : ROK (s :: l)) : ROK l :=
  ⟨fun t ht => h.pos t (List.mem_cons_of_mem _ ht), fun t ht => h.full t (List.mem_cons_of_mem _ ht), fun t ht => h.lines t (List.mem_cons_of_mem _ ht), (List.pairwise_cons.mp h.gap).2⟩

theorem LOK.nil_of {l : Ln} (h : LOK l) (e : ∀ x, ¬ inL l x) : l = [] := by
  cases l with
  | nil => rfl
  | cons s t => exact (e s.1 (inL_cons.mpr (.inl ⟨Int.le_refl _, h.pos s List.mem_cons_self⟩))).elim
/-- what lies in the rest lies behind the first -/
theorem LOK.behind {s : Int × Int} {l : Ln} (h : LOK (s :: l)) {x : Int} (hx : inL l x) : s.2 < x := by
  obtain ⟨t, ht, h1, h2⟩ := hx
  have := (List.pairwise_cons.mp h.gap).1 t ht
  omega
theorem LOK.ext : ∀ {l m : Ln}, LOK l → LOK m → (∀ x, inL l x ↔ inL m x) → l = m
  | [], m, _, hm, e => (hm.nil_of fun x h => inL_nil ((e x).mpr h)).symm
  | s :: l, [], hl, _, e => hl.nil_of fun x h => inL_nil ((e x).mp h)
  | s :: l, t :: m, hl, hm, e => by
    have ps := hl.pos s List.mem_cons_self
    have pt := hm.pos t List.mem_cons_self
    have first : ∀ {s t : Int × Int} {l m : Ln}, LOK (s :: l) → LOK (t :: m) → (∀ x, inL (s :: l) x ↔ inL (t :: m) x) → t.1 ≤ s.1 := by
      intro s t l m hl hm e
      have := (e s.1).mp (inL_cons.mpr (.inl ⟨Int.le_refl _, hl.pos s List.mem_cons_self⟩))
      rcases inL_cons.mp this with h | h
      · exact h.1
      · have := hm.behind h
        have := hm.pos t List.mem_cons_self
        omega
    have a1 : s.1 = t.1 := by
      have := first hl hm e
      have := first hm hl fun x => (e x).symm
      omega
    have second : ∀ {s t : Int × Int} {l m : Ln}, LOK (s :: l) → LOK (t :: m) → s.1 = t.1 → (∀ x, inL (s :: l) x ↔ inL (t :: m) x) → t.2 ≤ s.2 := by
      intro s t l m hl hm a e
      have ps := hl.pos s List.mem_cons_self
      by_cases c : t.2 ≤ s.2
      · exact c
      · have := (e s.2).mpr (inL_cons.mpr (.inl ⟨by omega, by omega⟩))
        rcases inL_cons.mp this with h | h
        · omega
        · have := hl.behind h
          omega
    have a2 : s.2 = t.2 := by
      have := second hl hm a1 e
      have := second hm hl a1.symm fun x => (e x).symm
      omega
    have st : s = t := Prod.ext a1 a2
    subst st
    congr 1
    refine LOK.ext hl.tail hm.tail fun x => ?_
    have ex := e x
    rw [inL_cons, inL_cons] at ex
    constructor
    · intro h
      have := hl.behind h
      rcases ex.mp (.inr h) with k | k
      · omega
      · exact k
    · intro h
      have := hm.behind h
      rcases ex.mpr (.inr h) with k | k
      · omega
      · exact k

/-- the line at a height -/
def row : Rg → Int → Ln
  | [], _ => []
  | b :: r, y => if b.1 ≤ y ∧ y < b.2.1 then b.2.2 else row r y
theorem row_none : ∀ {r : Rg} {y : Int}, (∀ b ∈ r, ¬ (b.1 ≤ y ∧ y < b.2.1)) → row r y = []
  | [], _, _ => rfl
  | b :: r, y, h => by
    rw [row, if_neg (h b List.mem_cons_self)]
    exact row_none fun c hc => h c (List.mem_cons_of_mem _ hc)
theorem ROK.row_of : ∀ {r : Rg}, ROK r → ∀ {b : Bd} {y : Int}, b ∈ r → b.1 ≤ y → y < b.2.1 → row r y = b.2.2
  | c :: r, h, b, y, hb, h1, h2 => by
    rw [row]
    rcases List.mem_cons.mp hb with rfl | hb
    · rw [if_pos ⟨h1, h2⟩]
    · have g := ((List.pairwise_cons.mp h.gap).1 b hb).1
      rw [if_neg (by omega)]
      exact h.tail.row_of hb h1 h2
theorem ROK.inR_row {r : Rg} (h : ROK r) {x y : Int} : inR r x y ↔ inL (row r y) x := by
  constructor
  · rintro ⟨b, hb, h1, h2, h3⟩
    rw [h.row_of hb h1 h2]
    exact h3
  · intro hx
    by_cases e : ∃ b ∈ r, b.1 ≤ y ∧ y < b.2.1
    · obtain ⟨b, hb, h1, h2⟩ := e
      rw [h.row_of hb h1 h2] at hx
      exact ⟨b, hb, h1, h2, hx⟩
    · rw [row_none fun b hb h => e ⟨b, hb, h⟩] at hx
      exact (inL_nil hx).elim
theorem ROK.row_ok {r : Rg} (h : ROK r) (y : Int) : LOK (row r y) := by
  by_cases e : ∃ b ∈ r, b.1 ≤ y ∧ y < b.2.1
  · obtain ⟨b, hb, h1, h2⟩ := e
    rw [h.row_of hb h1 h2]
    exact h.lines b hb
  · rw [row_none fun b hb h => e ⟨b, hb, h⟩]
    exact LOK.nil
theorem row_cons_full {r : Rg} {y : Int} (h : ROK r) (ne : row r y ≠ []) : ∃ b ∈ r, b.1 ≤ y ∧ y < b.2.1 ∧ row r y = b.2.2 := by
  by_cases e : ∃ b ∈ r, b.1 ≤ y ∧ y < b.2.1
  · obtain ⟨b, hb, h1, h2⟩ := e
    exact ⟨b, hb, h1, h2, h.row_of hb h1 h2⟩
  · exact (ne (row_none fun b hb h => e ⟨b, hb, h⟩)).elim
/-- two regions with the same lines at all heights are one -/
theorem ROK.ext_row : ∀ {r q : Rg}, ROK r → ROK q → (∀ y, row r y = row q y) → r = q
  | [], [], _, _, _ => rfl
  | [], c :: q, _, hq, e => by
    have k := e c.1
    rw [hq.row_of (b := c) List.mem_cons_self (Int.le_refl _) (hq.pos c List.mem_cons_self)] at k
    exact (hq.full c List.mem_cons_self k.symm).elim
  | c :: q, [], hq, _, e => by
    have k := e c.1
    rw [hq.row_of (b := c) List.mem_cons_self (Int.le_refl _) (hq.pos c List.mem_cons_self)] at k
    exact (hq.full c List.mem_cons_self k).elim
  | b :: r, c :: q, hr, hq, e => by
    have first : ∀ {b c : Bd} {r q : Rg}, ROK (b :: r) → ROK (c :: q) → (∀ y, row (b :: r) y = row (c :: q) y) → c.1 ≤ b.1 ∧ (c.1 = b.1 → c.2.2 = b.2.2) := by
      intro b c r q hr hq e
      have k := e b.1
      rw [hr.row_of (b := b) List.mem_cons_self (Int.le_refl _) (hr.pos b List.mem_cons_self)] at k
      obtain ⟨d, hd, h1, h2, h3⟩ := row_cons_full hq (y := b.1) (by rw [← k]; exact hr.full b List.mem_cons_self)
      rcases List.mem_cons.mp hd with rfl | hd
      · exact ⟨h1, fun _ => by rw [← h3, k]⟩
      · have g := ((List.pairwise_cons.mp hq.gap).1 d hd).1
        have p := hq.pos c List.mem_cons_self
        exact ⟨by omega, fun z => by omega⟩
    obtain ⟨f1, f2⟩ := first hr hq e
    obtain ⟨g1, g2⟩ := first hq hr fun y => (e y).symm
    have a1 : b.1 = c.1 := by omega
    have a3 : b.2.2 = c.2.2 := g2 a1
    have pb := hr.pos b List.mem_cons_self
    have pc := hq.pos c List.mem_cons_self
    have second : ∀ {b c : Bd} {r q : Rg}, ROK (b :: r) → ROK (c :: q) → b.1 = c.1 → b.2.2 = c.2.2 → (∀ y, row (b :: r) y = row (c :: q) y) → c.2.1 ≤ b.2.1 := by
      intro b c r q hr hq a1 a3 e
      by_cases z : c.2.1 ≤ b.2.1
      · exact z
      · have pb := hr.pos b List.mem_cons_self
        have k := e b.2.1
        rw [hq.row_of (b := c) List.mem_cons_self (by omega) (by omega)] at k
        obtain ⟨d, hd, h1, h2, h3⟩ := row_cons_full hr (y := b.2.1) (by rw [k]; exact hq.full c List.mem_cons_self)
        rcases List.mem_cons.mp hd with rfl | hd
        · omega
        · obtain ⟨g, g'⟩ := (List.pairwise_cons.mp hr.gap).1 d hd
          exact (g' (by omega) (by rw [← h3, k, a3])).elim
    have a2 : b.2.1 = c.2.1 := by
      have := second hr hq a1 a3 e
      have := second hq hr a1.symm a3.symm fun y => (e y).symm
      omega
    have bc : b = c := Prod.ext a1 (Prod.ext a2 a3)
    subst bc
    congr 1
    refine ROK.ext_row hr.tail hq.tail fun y => ?_
    have k := e y
    by_cases z : b.1 ≤ y ∧ y < b.2.1
    · have no : ∀ {q : Rg}, ROK (b :: q) → row q y = [] := fun {q} hq => row_none fun d hd w => by
        have g := ((List.pairwise_cons.mp hq.gap).1 d hd).1
        omega
      rw [no hr, no hq]
    · rw [row, row, if_neg z, if_neg z] at k
      exact k
theorem ROK.ext {r q : Rg} (hr : ROK r) (hq : ROK q) (e : ∀ x y, inR r x y ↔ inR q x y) : r = q :=
  hr.ext_row hq fun y => (hr.row_ok y).ext (hq.row_ok y) fun x => by rw [← hr.inR_row, ← hq.inR_row]; exact e x y
theorem ROK.nil_of {r : Rg} (hr : ROK r) (e : ∀ x y, ¬ inR r x y) : r = [] := hr.ext ROK.nil fun x y => ⟨fun h => (e x y h).elim, fun h => (inR_nil h).elim⟩

/-! ### stretches put together -/
def jstep (found : Ln) (s : Int × Int) : Ln :=
  match found.getLast? with
  | none => found ++ [s]
  | some l => if s.1 ≤ l.2 then found.dropLast ++ [(l.1, if s.2 > l.2 then s.2 else l.2)] else found ++ [s]
theorem snoc_cases {α : Type} (l : List α) : l = [] ∨ ∃ m x, l = m ++ [x] := by
  rcases List.eq_nil_or_concat l with h | ⟨m, x, h⟩
  · exact .inl h
  · exact .inr ⟨m, x, by rw [h, List.concat_eq_append]⟩
theorem jstep_nil (s : Int × Int) : jstep [] s = [s] := rfl
theorem jstep_snoc (m : Ln) (l s : Int × Int) : jstep (m ++ [l]) s = if s.1 ≤ l.2 then m ++ [(l.1, if s.2 > l.2 then s.2 else l.2)] else m ++ [l] ++ [s] := by
  unfold jstep
  rw [List.getLast?_append]
  simp
theorem LOK.snoc {m : Ln} {l : Int × Int} (h : LOK m) (p : l.1 < l.2) (g : ∀ s ∈ m, s.2 < l.1) : LOK (m ++ [l]) := by
  refine ⟨fun s hs => ?_, List.pairwise_append.mpr ⟨h.gap, List.pairwise_singleton _ _, fun a ha b hb => ?_⟩⟩
  · rcases List.mem_append.mp hs with hs | hs
    · exact h.pos s hs
    · rw [List.mem_singleton.mp hs]
      exact p
  · rw [List.mem_singleton.mp hb]
    exact g a ha
theorem LOK.unsnoc {m : Ln} {l : Int × Int} (h : LOK (m ++ [l])) : LOK m ∧ l.1 < l.2 ∧ ∀ s ∈ m, s.2 < l.1 := by
  obtain ⟨a, b, c⟩ := List.pairwise_append.mp h.gap
  exact ⟨⟨fun s hs => h.pos s (List.mem_append_left _ hs), a⟩, h.pos l (List.mem_append_right _ (List.mem_singleton.mpr rfl)), fun s hs => c s hs l (List.mem_singleton.mpr rfl)⟩
theorem jstep_ok {found : Ln} {s : Int × Int} (h : LOK found) (p : s.1 < s.2) (le : ∀ f ∈ found, f.1 ≤ s.1) :
    LOK (jstep found s) ∧ (∀ x, inL (jstep found s) x ↔ inL found x ∨ (s.1 ≤ x ∧ x < s.2)) ∧ (∀ f ∈ jstep found s, f.1 ≤ s.1) ∧
      ∀ (PX : Int → Prop), (∀ f ∈ found, PX f.1 ∧ PX f.2) → PX s.1 → PX s.2 → ∀ f ∈ jstep found s, PX f.1 ∧ PX f.2 := by
  rcases snoc_cases found with rfl | ⟨m, l, rfl⟩
  · rw [jstep_nil]
    refine ⟨⟨fun t ht => by rw [List.mem_singleton.mp ht]; exact p, List.pairwise_singleton _ _⟩, fun x => ?_, fun f hf => by rw [List.mem_singleton.mp hf]; exact Int.le_refl _, fun PX _ h1 h2 f hf => by rw [List.mem_singleton.mp hf]; exact ⟨h1, h2⟩⟩
    rw [inL_one]
    exact ⟨.inr, fun h => h.elim (fun h => (inL_nil h).elim) id⟩
  · obtain ⟨hm, pl, gl⟩ := h.unsnoc
    have l1 := le l (List.mem_append_right _ (List.mem_singleton.mpr rfl))
    rw [jstep_snoc]
    by_cases c : s.1 ≤ l.2
    · rw [if_pos c]
      have e : ∀ z, (l.1 ≤ z ∧ z < (if s.2 > l.2 then s.2 else l.2)) ↔ (l.1 ≤ z ∧ z < l.2) ∨ (s.1 ≤ z ∧ z < s.2) := by
        intro z
        split <;> omega
      refine ⟨hm.snoc (by show l.1 < (if s.2 > l.2 then s.2 else l.2); split <;> omega) gl, fun x => ?_, fun f hf => ?_, fun PX hf h1 h2 f hf' => ?_⟩
      · rw [inL_app, inL_app, inL_one, inL_one]
        have := e x
        show inL m x ∨ (l.1 ≤ x ∧ x < (if s.2 > l.2 then s.2 else l.2)) ↔ _
        rw [this]
        exact or_assoc.symm
      · rcases List.mem_append.mp hf with hf | hf
        · exact le f (List.mem_append_left _ hf)
        · rw [List.mem_singleton.mp hf]
          exact l1
      · rcases List.mem_append.mp hf' with hf' | hf'
        · exact hf f (List.mem_append_left _ hf')
        · rw [List.mem_singleton.mp hf']
          have k := hf l (List.mem_append_right _ (List.mem_singleton.mpr rfl))
          refine ⟨k.1, ?_⟩
          show PX (if s.2 > l.2 then s.2 else l.2)
          split
          · exact h2
          · exact k.2
    · rw [if_neg c]
      refine ⟨h.snoc p fun t ht => ?_, fun x => ?_, fun f hf => ?_, fun PX hf h1 h2 f hf' => ?_⟩
      · rcases List.mem_append.mp ht with ht | ht
        · have := gl t ht
          omega
        · rw [List.mem_singleton.mp ht]
          omega
      · rw [inL_app, inL_one]
      · rcases List.mem_append.mp hf with hf | hf
        · exact le f hf
        · rw [List.mem_singleton.mp hf]
          exact Int.le_refl _
      · rcases List.mem_append.mp hf' with hf' | hf'
        · exact hf f hf'
        · rw [List.mem_singleton.mp hf']
          exact ⟨h1, h2⟩
theorem jfold_ok : ∀ {xs : Ln} {found : Ln}, LOK found → (∀ s ∈ xs, s.1 < s.2) → xs.Pairwise (fun s t => s.1 ≤ t.1) → (∀ f ∈ found, ∀ s ∈ xs, f.1 ≤ s.1) →
    LOK (xs.foldl jstep found) ∧ (∀ x, inL (xs.foldl jstep found) x ↔ inL found x ∨ inL xs x) ∧
      ∀ (PX : Int → Prop), (∀ f ∈ found, PX f.1 ∧ PX f.2) → (∀ f ∈ xs, PX f.1 ∧ PX f.2) → ∀ f ∈ xs.foldl jstep found, PX f.1 ∧ PX f.2
  | [], found, h, _, _, _ => ⟨h, fun x => ⟨.inl, fun k => k.elim id fun k => (inL_nil k).elim⟩, fun PX a _ => a⟩
  | s :: xs, found, h, p, so, le => by
    obtain ⟨s1, s2⟩ := List.pairwise_cons.mp so
    obtain ⟨a, b, c, d⟩ := jstep_ok h (p s List.mem_cons_self) fun f hf => le f hf s List.mem_cons_self
    obtain ⟨a', b', d'⟩ := jfold_ok (xs := xs) (found := jstep found s) a (fun t ht => p t (List.mem_cons_of_mem _ ht)) s2 fun f hf t ht => Int.le_trans (c f hf) (s1 t ht)
    refine ⟨a', fun x => ?_, fun PX hf hx => d' PX (d PX hf (hx s List.mem_cons_self).1 (hx s List.mem_cons_self).2) fun f hf' => hx f (List.mem_cons_of_mem _ hf')⟩
    show inL (xs.foldl jstep (jstep found s)) x ↔ _
    rw [b', b, inL_cons, or_assoc]
theorem joined_ok {xs : Ln} (p : ∀ s ∈ xs, s.1 < s.2) (so : xs.Pairwise fun s t => s.1 ≤ t.1) : LOK (xs.foldl jstep []) ∧ (∀ x, inL (xs.foldl jstep []) x ↔ inL xs x) ∧
    ∀ (PX : Int → Prop), (∀ f ∈ xs, PX f.1 ∧ PX f.2) → ∀ f ∈ xs.foldl jstep [], PX f.1 ∧ PX f.2 := by
  obtain ⟨a, b, c⟩ := jfold_ok LOK.nil p so fun f hf => no hf
  exact ⟨a, fun x => (b x).trans ⟨fun k => k.elim (fun k => (inL_nil k).elim) id, .inr⟩, fun PX h => c PX (fun f hf => no hf) h⟩

/-! ### bands put together -/
def bstep (found : Rg) (z : Bd) : Rg :=
  if z.2.2 = [] then found else
    match found.getLast? with
    | none => found ++ [z]
    | some b => if b.2.1 = z.1 ∧ b.2.2 = z.2.2 then found.dropLast ++ [(b.1, z.2.1, z.2.2)] else found ++ [z]
theorem bstep_empty {found : Rg} {z : Bd} (h : z.2.2 = []) : bstep found z = found := by
  unfold bstep
  rw [if_pos h]
theorem bstep_nil {z : Bd} (h : z.2.2 ≠ []) : bstep [] z = [z] := by
  unfold bstep
  rw [if_neg h] <;> rfl
theorem bstep_snoc {m : Rg} {b z : Bd} (h : z.2.2 ≠ []) : bstep (m ++ [b]) z = if b.2.1 = z.1 ∧ b.2.2 = z.2.2 then m ++ [(b.1, z.2.1, z.2.2)] else m ++ [b] ++ [z] := by
  unfold bstep
  rw [if_neg h, List.getLast?_append]
  simp
theorem ROK.snoc {m : Rg} {z : Bd} (h : ROK m) (p : z.1 < z.2.1) (f : z.2.2 ≠ []) (l : LOK z.2.2) (g : ∀ b ∈ m, b.2.1 ≤ z.1 ∧ (b.2.1 = z.1 → b.2.2 ≠ z.2.2)) : ROK (m ++ [z]) := by
  refine ⟨fun s hs => ?_, fun s hs => ?_, fun s hs => ?_, List.pairwise_append.mpr ⟨h.gap, List.pairwise_singleton _ _, fun a ha b hb => ?_⟩⟩
  · rcases List.mem_append.mp hs with hs | hs
    · exact h.pos s hs
    · rw [List.mem_singleton.mp hs]
      exact p
  · rcases List.mem_append.mp hs with hs | hs
    · exact h.full s hs
    · rw [List.mem_singleton.mp hs]
      exact f
  · rcases List.mem_append.mp hs with hs | hs
    · exact h.lines s hs
    · rw [List.mem_singleton.mp hs]
      exact l
  · rw [List.mem_singleton.mp hb]
    exact g a ha
theorem ROK.unsnoc {m : Rg} {z : Bd} (h : ROK (m ++ [z])) : ROK m ∧ z.1 < z.2.1 ∧ z.2.2 ≠ [] ∧ LOK z.2.2 ∧ ∀ b ∈ m, b.2.1 ≤ z.1 ∧ (b.2.1 = z.1 → b.2.2 ≠ z.2.2) := by
  obtain ⟨a, b, c⟩ := List.pairwise_append.mp h.gap
  have hz : z ∈ m ++ [z] := List.mem_append_right _ (List.mem_singleton.mpr rfl)
  exact ⟨⟨fun s hs => h.pos s (List.mem_append_left _ hs), fun s hs => h.full s (List.mem_append_left _ hs), fun s hs => h.lines s (List.mem_append_left _ hs), a⟩, h.pos z hz, h.full z hz, h.lines z hz, fun s hs => c s hs z (List.mem_singleton.mpr rfl)⟩
/-- the numbers of a region -/
def Crs (r : Rg) (PX PY : Int → Prop) : Prop := ∀ b ∈ r, PY b.1 ∧ PY b.2.1 ∧ ∀ s ∈ b.2.2, PX s.1 ∧ PX s.2
theorem Crs.snoc {m : Rg} {z : Bd} {PX PY : Int → Prop} (h : Crs m PX PY) (hz : PY z.1 ∧ PY z.2.1 ∧ ∀ s ∈ z.2.2, PX s.1 ∧ PX s.2) : Crs (m ++ [z]) PX PY := fun b hb => by
  rcases List.mem_append.mp hb with hb | hb
  · exact h b hb
  · rw [List.mem_singleton.mp hb]
    exact hz
theorem bstep_ok {found : Rg} {z : Bd} (h : ROK found) (p : z.1 < z.2.1) (lz : LOK z.2.2) (le : ∀ b ∈ found, b.2.1 ≤ z.1) :
    ROK (bstep found z) ∧ (∀ x y, inR (bstep found z) x y ↔ inR found x y ∨ (z.1 ≤ y ∧ y < z.2.1 ∧ inL z.2.2 x)) ∧ (∀ b ∈ bstep found z, b.2.1 ≤ z.2.1) ∧
      ∀ PX PY : Int → Prop, Crs found PX PY → (PY z.1 ∧ PY z.2.1 ∧ ∀ s ∈ z.2.2, PX s.1 ∧ PX s.2) → Crs (bstep found z) PX PY := by
  by_cases e : z.2.2 = []
  · rw [bstep_empty e]
    refine ⟨h, fun x y => ⟨.inl, fun k => k.elim id fun k => ?_⟩, fun b hb => by have := le b hb; omega, fun _ _ k _ => k⟩
    rw [e] at k
    exact (inL_nil k.2.2).elim
  · rcases snoc_cases found with rfl | ⟨m, b, rfl⟩
    · rw [bstep_nil e]
      refine ⟨ROK.nil.snoc p e lz fun b hb => no hb, fun x y => ?_, fun b hb => by rw [List.mem_singleton.mp hb]; exact Int.le_refl _, fun PX PY k kz => Crs.snoc (m := []) k kz⟩
      rw [inR_one]
      exact ⟨.inr, fun k => k.elim (fun k => (inR_nil k).elim) id⟩
    · obtain ⟨hm, pb, fb, lb, gb⟩ := h.unsnoc
      have lb1 := le b (List.mem_append_right _ (List.mem_singleton.mpr rfl))
      rw [bstep_snoc e]
      by_cases c : b.2.1 = z.1 ∧ b.2.2 = z.2.2
      · rw [if_pos c]
        refine ⟨hm.snoc (by show b.1 < z.2.1; omega) e lz fun d hd => ?_, fun x y => ?_, fun d hd => ?_, fun PX PY k kz => ?_⟩
        · rw [← c.2]
          exact gb d hd
        · rw [inR_app, inR_app, inR_one, inR_one, or_assoc]
          refine or_congr Iff.rfl ?_
          show b.1 ≤ y ∧ y < z.2.1 ∧ inL z.2.2 x ↔ _
          rw [c.2]
          constructor
          · rintro ⟨k1, k2, k3⟩
            by_cases w : y < z.1
            · exact .inl ⟨k1, by omega, k3⟩
            · exact .inr ⟨by omega, k2, k3⟩
          · rintro (⟨k1, k2, k3⟩ | ⟨k1, k2, k3⟩)
            · exact ⟨k1, by omega, k3⟩
            · exact ⟨by omega, k2, k3⟩
        · rcases List.mem_append.mp hd with hd | hd
          · have := (gb d hd).1
            omega
          · rw [List.mem_singleton.mp hd]
            exact Int.le_refl _
        · refine Crs.snoc (fun d hd => k d (List.mem_append_left _ hd)) ⟨?_, kz.2⟩
          exact (k b (List.mem_append_right _ (List.mem_singleton.mpr rfl))).1
      · rw [if_neg c]
        refine ⟨h.snoc p e lz fun d hd => ?_, fun x y => ?_, fun d hd => ?_, fun PX PY k kz => k.snoc kz⟩
        · refine ⟨le d hd, fun w => ?_⟩
          rcases List.mem_append.mp hd with hd | hd
          · have := (gb d hd).1
            omega
          · have : d = b := List.mem_singleton.mp hd
            subst this
            exact fun v => c ⟨w, v⟩
        · rw [inR_app, inR_one]
        · rcases List.mem_append.mp hd with hd | hd
          · have := le d hd
            omega
          · rw [List.mem_singleton.mp hd]
            exact Int.le_refl _
theorem bfold_ok : ∀ {zs : Rg} {found : Rg}, ROK found → (∀ z ∈ zs, z.1 < z.2.1 ∧ LOK z.2.2) → zs.Pairwise (fun s t => s.2.1 ≤ t.1) → (∀ f ∈ found, ∀ s ∈ zs, f.2.1 ≤ s.1) →
    ROK (zs.foldl bstep found) ∧ (∀ x y, inR (zs.foldl bstep found) x y ↔ inR found x y ∨ inR zs x y) ∧ ∀ PX PY : Int → Prop, Crs found PX PY → Crs zs PX PY → Crs (zs.foldl bstep found) PX PY
  | [], found, h, _, _, _ => ⟨h, fun x y => ⟨.inl, fun k => k.elim id fun k => (inR_nil k).elim⟩, fun _ _ a _ => a⟩
  | z :: zs, found, h, p, so, le => by
    obtain ⟨s1, s2⟩ := List.pairwise_cons.mp so
    obtain ⟨p1, p2⟩ := p z List.mem_cons_self
    obtain ⟨a, b, c, d⟩ := bstep_ok h p1 p2 fun f hf => le f hf z List.mem_cons_self
    obtain ⟨a', b', d'⟩ := bfold_ok (zs := zs) (found := bstep found z) a (fun t ht => p t (List.mem_cons_of_mem _ ht)) s2 fun f hf t ht => Int.le_trans (c f hf) (s1 t ht)
    refine ⟨a', fun x y => ?_, fun PX PY k kz => d' PX PY (d PX PY k (kz z List.mem_cons_self)) fun t ht => kz t (List.mem_cons_of_mem _ ht)⟩
    show inR (zs.foldl bstep (bstep found z)) x y ↔ _
    rw [b', b, or_assoc, ← inR_one, ← inR_app] <;> rfl
end Mk

-- M2
/-! Cuts, regions made of rectangles, lines and regions mixed. -/
namespace Mk

/-! ### cuts -/
def bands : List Int → List Ln → Rg
  | a :: b :: t, l :: ls => (a, b, l) :: bands (b :: t) ls
  | _, _ => []
theorem bands_in {f : Int → Ln} {x y : Int} : ∀ {cuts : List Int}, inR (bands cuts (cuts.dropLast.map f)) x y ↔ ∃ p ∈ cuts.zip cuts.tail, p.1 ≤ y ∧ y < p.2 ∧ inL (f p.1) x
  | [] => ⟨fun h => (inR_nil h).elim, fun ⟨_, h, _⟩ => no h⟩
  | [a] => ⟨fun h => (inR_nil h).elim, fun ⟨_, h, _⟩ => no h⟩
  | a :: b :: t => by
    have ih := bands_in (f := f) (x := x) (y := y) (cuts := b :: t)
    show inR ((a, b, f a) :: bands (b :: t) ((b :: t).dropLast.map f)) x y ↔ ∃ p ∈ (a, b) :: (b :: t).zip t, p.1 ≤ y ∧ y < p.2 ∧ inL (f p.1) x
    rw [show ((a, b, f a) :: bands (b :: t) ((b :: t).dropLast.map f) : Rg) = [(a, b, f a)] ++ bands (b :: t) ((b :: t).dropLast.map f) from rfl, inR_app, inR_one, ih]
    constructor
    · rintro (h | ⟨p, hp, h⟩)
      · exact ⟨(a, b), List.mem_cons_self, h⟩
      · exact ⟨p, List.mem_cons_of_mem _ hp, h⟩
    · rintro ⟨p, hp, h⟩
      rcases List.mem_cons.mp hp with rfl | hp
      · exact .inl h
      · exact .inr ⟨p, hp, h⟩
theorem gap_of : ∀ {cuts : List Int}, cuts.Pairwise (· < ·) → ∀ {p : Int × Int}, p ∈ cuts.zip cuts.tail → p.1 < p.2 ∧ p.1 ∈ cuts ∧ p.2 ∈ cuts ∧ ∀ c ∈ cuts, c ≤ p.1 ∨ p.2 ≤ c
  | [], _, _, h => no h
  | [_], _, _, h => no h
  | a :: b :: t, h, p, hp => by
    obtain ⟨h1, h2⟩ := List.pairwise_cons.mp h
    rcases List.mem_cons.mp (show p ∈ (a, b) :: (b :: t).zip t from hp) with rfl | hp
    · refine ⟨h1 b List.mem_cons_self, List.mem_cons_self, List.mem_cons_of_mem _ List.mem_cons_self, fun c hc => ?_⟩
      rcases List.mem_cons.mp hc with rfl | hc
      · exact .inl (Int.le_refl _)
      · rcases List.mem_cons.mp hc with rfl | hc
        · exact .inr (Int.le_refl _)
        · exact .inr (Int.le_of_lt ((List.pairwise_cons.mp h2).1 c hc))
    · obtain ⟨a1, a2, a3, a4⟩ := gap_of h2 hp
      refine ⟨a1, List.mem_cons_of_mem _ a2, List.mem_cons_of_mem _ a3, fun c hc => ?_⟩
      rcases List.mem_cons.mp hc with rfl | hc
      · exact .inl (Int.le_of_lt (h1 _ a2))
      · exact a4 c hc
theorem seg_of : ∀ {cuts : List Int}, cuts.Pairwise (· < ·) → ∀ {a b y : Int}, a ∈ cuts → b ∈ cuts → a ≤ y → y < b → ∃ p ∈ cuts.zip cuts.tail, p.1 ≤ y ∧ y < p.2
  | [], _, _, _, _, h, _, _, _ => no h
  | [c], _, a, b, y, h, h', h1, h2 => by
    rw [List.mem_singleton] at h h'
    omega
  | c :: d :: t, h, a, b, y, ha, hb, h1, h2 => by
    obtain ⟨k1, k2⟩ := List.pairwise_cons.mp h
    by_cases e : d ≤ y
    · have hb' : b ∈ d :: t := by
        rcases List.mem_cons.mp hb with rfl | hb
        · have := k1 d List.mem_cons_self
          omega
        · exact hb
      obtain ⟨p, hp, q⟩ := seg_of k2 (a := d) List.mem_cons_self hb' e h2
      exact ⟨p, List.mem_cons_of_mem _ hp, q⟩
    · refine ⟨(c, d), List.mem_cons_self, ?_, by show y < d; omega⟩
      show c ≤ y
      rcases List.mem_cons.mp ha with rfl | ha
      · exact h1
      · rcases List.mem_cons.mp ha with rfl | ha
        · omega
        · have := (List.pairwise_cons.mp k2).1 a ha
          omega
theorem bands_mem {ls : List Ln} : ∀ {cuts : List Int} {ls : List Ln} {z : Bd}, z ∈ bands cuts ls → (z.1, z.2.1) ∈ cuts.zip cuts.tail ∧ z.2.2 ∈ ls
  | [], _, _, h => no h
  | [_], _, _, h => no h
  | _ :: _ :: _, [], _, h => no h
  | a :: b :: t, l :: ls, z, h => by
    rcases List.mem_cons.mp (show z ∈ (a, b, l) :: bands (b :: t) ls from h) with rfl | h
    · exact ⟨List.mem_cons_self, List.mem_cons_self⟩
    · obtain ⟨h1, h2⟩ := bands_mem (ls := ls) h
      exact ⟨List.mem_cons_of_mem _ h1, List.mem_cons_of_mem _ h2⟩
theorem bands_so : ∀ {cuts : List Int} {ls : List Ln}, cuts.Pairwise (· < ·) → (bands cuts ls).Pairwise fun s t => s.2.1 ≤ t.1
  | [], _, _ => List.Pairwise.nil
  | [_], _, _ => List.Pairwise.nil
  | _ :: _ :: _, [], _ => List.Pairwise.nil
  | a :: b :: t, l :: ls, h => by
    obtain ⟨k1, k2⟩ := List.pairwise_cons.mp h
    refine List.pairwise_cons.mpr ⟨fun z hz => ?_, bands_so k2⟩
    have q := (gap_of k2 (bands_mem (ls := ls) hz).1).2.1
    show b ≤ z.1
    rcases List.mem_cons.mp q with q | q
    · exact Int.le_of_eq q.symm
    · exact Int.le_of_lt ((List.pairwise_cons.mp k2).1 _ q)
def banded (cuts : List Int) (ls : List Ln) : Rg := (bands cuts ls).foldl bstep []
theorem mem_dropLast {α : Type} {l : List α} {a : α} (h : a ∈ l.dropLast) : a ∈ l := by
  rcases snoc_cases l with rfl | ⟨m, x, rfl⟩
  · exact no h
  · rw [List.dropLast_concat] at h
    exact List.mem_append_left _ h
theorem banded_ok {cuts : List Int} {f : Int → Ln} (h : cuts.Pairwise (· < ·)) (hl : ∀ a ∈ cuts, LOK (f a)) :
    ROK (banded cuts (cuts.dropLast.map f)) ∧ (∀ x y, inR (banded cuts (cuts.dropLast.map f)) x y ↔ ∃ p ∈ cuts.zip cuts.tail, p.1 ≤ y ∧ y < p.2 ∧ inL (f p.1) x) ∧
      ∀ PX PY : Int → Prop, (∀ a ∈ cuts, PY a) → (∀ a ∈ cuts, ∀ s ∈ f a, PX s.1 ∧ PX s.2) → Crs (banded cuts (cuts.dropLast.map f)) PX PY := by
  have ml : ∀ z ∈ bands cuts (cuts.dropLast.map f), (z.1, z.2.1) ∈ cuts.zip cuts.tail ∧ ∃ a ∈ cuts, z.2.2 = f a := fun z hz => by
    obtain ⟨h1, h2⟩ := bands_mem (ls := cuts.dropLast.map f) hz
    obtain ⟨a, ha, e⟩ := List.mem_map.mp h2
    exact ⟨h1, a, mem_dropLast ha, e.symm⟩
  obtain ⟨a, b, c⟩ := bfold_ok (zs := bands cuts (cuts.dropLast.map f)) ROK.nil (fun z hz => by
    obtain ⟨h1, a, ha, e⟩ := ml z hz
    refine ⟨(gap_of h h1).1, ?_⟩
    rw [e]
    exact hl a ha) (bands_so h) (fun f hf => no hf)
  refine ⟨a, fun x y => ?_, fun PX PY hy hx => c PX PY (fun b hb => no hb) fun z hz => ?_⟩
  · rw [← bands_in]
    exact (b x y).trans ⟨fun k => k.elim (fun k => (inR_nil k).elim) id, .inr⟩
  · obtain ⟨h1, a, ha, e⟩ := ml z hz
    have g := gap_of h h1
    refine ⟨hy _ g.2.1, hy _ g.2.2.1, ?_⟩
    rw [e]
    exact hx a ha

/-! ### the region of rectangles -/
def RcOk (q : Rc) : Prop := q.1 < q.2.2.1 ∧ q.2.1 < q.2.2.2
theorem region_ok {rects : List Rc} {cuts : List Int} {f : Int → Ln} (v : ∀ q ∈ rects, RcOk q) (h : cuts.Pairwise (· < ·)) (hc : ∀ c, c ∈ cuts ↔ ∃ q ∈ rects, c = q.2.1 ∨ c = q.2.2.2)
    (hf : ∀ a ∈ cuts, LOK (f a) ∧ (∀ x, inL (f a) x ↔ ∃ q ∈ rects, q.2.1 ≤ a ∧ a < q.2.2.2 ∧ q.1 ≤ x ∧ x < q.2.2.1) ∧ ∀ PX : Int → Prop, (∀ q ∈ rects, PX q.1 ∧ PX q.2.2.1) → ∀ s ∈ f a, PX s.1 ∧ PX s.2) :
    ROK (banded cuts (cuts.dropLast.map f)) ∧ (∀ x y, inR (banded cuts (cuts.dropLast.map f)) x y ↔ inCs rects x y) ∧
      ∀ PX PY : Int → Prop, (∀ q ∈ rects, PX q.1 ∧ PX q.2.2.1 ∧ PY q.2.1 ∧ PY q.2.2.2) → Crs (banded cuts (cuts.dropLast.map f)) PX PY := by
  obtain ⟨a, b, c⟩ := banded_ok h fun a ha => (hf a ha).1
  refine ⟨a, fun x y => ?_, fun PX PY k => c PX PY (fun z hz => ?_) fun z hz => (hf z hz).2.2 PX fun q hq => ⟨(k q hq).1, (k q hq).2.1⟩⟩
  · rw [b]
    constructor
    · rintro ⟨p, hp, h1, h2, h3⟩
      obtain ⟨g1, g2, g3, g4⟩ := gap_of h hp
      obtain ⟨q, hq, k1, k2, k3, k4⟩ := ((hf _ g2).2.1 x).mp h3
      refine ⟨q, hq, k3, k4, by omega, ?_⟩
      have := g4 q.2.2.2 ((hc _).mpr ⟨q, hq, .inr rfl⟩)
      omega
    · rintro ⟨q, hq, k1, k2, k3, k4⟩
      obtain ⟨p, hp, h1, h2⟩ := seg_of h ((hc _).mpr ⟨q, hq, .inl rfl⟩) ((hc _).mpr ⟨q, hq, .inr rfl⟩) k3 k4
      obtain ⟨g1, g2, g3, g4⟩ := gap_of h hp
      refine ⟨p, hp, h1, h2, ((hf _ g2).2.1 x).mpr ⟨q, hq, ?_, by omega, k1, k2⟩⟩
      have := g4 q.2.1 ((hc _).mpr ⟨q, hq, .inl rfl⟩)
      omega
  · obtain ⟨q, hq, e⟩ := (hc z).mp hz
    rcases e with rfl | rfl
    · exact (k q hq).2.2.1
    · exact (k q hq).2.2.2

/-! ### what is alive -/
structure AInv (rest : List Rc) (low : Int) (A : List Rc) (at' : Nat) : Prop where
  mem : ∀ e ∈ A, e ∈ rest ∧ e.1 ≤ low ∧ low < e.2.1
  has : ∀ (j : Nat) (e : Rc), rest[j]? = some e → j < at' → low < e.2.1 → e ∈ A
  le : at' ≤ rest.length
  up : ∀ (j : Nat) (e : Rc), rest[j]? = some e → at' ≤ j → low ≤ e.1
  dn : ∀ (j : Nat) (e : Rc), rest[j]? = some e → j < at' → e.1 ≤ low
theorem AInv.step {rest : List Rc} {low : Int} {A : List Rc} {at' : Nat} {e : Rc} (h : AInv rest low A at') (he : rest[at']? = some e) (e1 : e.1 = low) (e2 : low < e.2.1) : AInv rest low (A ++ [e]) (at' + 1) := by
  refine ⟨fun d hd => ?_, fun j d hj lt l => ?_, ?_, fun j d hj le => h.up j d hj (by omega), fun j d hj lt => ?_⟩
  · rcases List.mem_append.mp hd with hd | hd
    · exact h.mem d hd
    · rw [List.mem_singleton.mp hd]
      exact ⟨List.mem_of_getElem? he, by omega, e2⟩
  · by_cases c : j < at'
    · exact List.mem_append_left _ (h.has j d hj c l)
    · have : j = at' := by omega
      subst this
      rw [he] at hj
      cases hj
      exact List.mem_append_right _ (List.mem_singleton.mpr rfl)
  · have := (List.getElem?_eq_some_iff.mp he).1
    omega
  · by_cases c : j < at'
    · exact h.dn j d hj c
    · have : j = at' := by omega
      subst this
      rw [he] at hj
      cases hj
      omega
/-- behind the loop: just those that are alive at low -/
theorem AInv.done {rest : List Rc} {low : Int} {A : List Rc} {at' : Nat} (h : AInv rest low A at') (so : rest.Pairwise fun s t => s.1 ≤ t.1) (nx : ∀ e, rest[at']? = some e → e.1 ≠ low) :
    (∀ (j : Nat) (e : Rc), rest[j]? = some e → at' ≤ j → low < e.1) ∧ ∀ e, e ∈ A ↔ e ∈ rest ∧ e.1 ≤ low ∧ low < e.2.1 := by
  have up : ∀ (j : Nat) (e : Rc), rest[j]? = some e → at' ≤ j → low < e.1 := fun j e hj le => by
    obtain ⟨hl, ej⟩ := List.getElem?_eq_some_iff.mp hj
    have ha : rest[at']? = some (rest[at']'(by omega)) := List.getElem?_eq_getElem (by omega)
    have n1 := nx _ ha
    have n2 := h.up _ _ ha (Nat.le_refl _)
    by_cases c : at' = j
    · subst c
      rw [ha] at hj
      cases hj
      omega
    · have := List.pairwise_iff_getElem.mp so at' j (by omega) hl (by omega)
      rw [ej] at this
      omega
  refine ⟨up, fun e => ⟨h.mem e, fun ⟨k1, k2, k3⟩ => ?_⟩⟩
  obtain ⟨j, hj⟩ := List.mem_iff_getElem?.mp k1
  by_cases c : j < at'
  · exact h.has j e hj c k3
  · have := up j e hj (by omega)
    omega
/-- the next low -/
theorem AInv.next {rest : List Rc} {low low' : Int} {A : List Rc} {at' : Nat} (h : AInv rest low A at') (lt : low < low') (up : ∀ (j : Nat) (e : Rc), rest[j]? = some e → at' ≤ j → low' ≤ e.1) :
    AInv rest low' (A.filter fun e => decide (e.2.1 > low')) at' := by
  refine ⟨fun e he => ?_, fun j e hj c l => ?_, h.le, up, fun j e hj c => ?_⟩
  · obtain ⟨k1, k2⟩ := List.mem_filter.mp he
    have := h.mem e k1
    have := of_decide_eq_true k2
    exact ⟨(h.mem e k1).1, by omega, by omega⟩
  · exact List.mem_filter.mpr ⟨h.has j e hj c (by omega), decide_eq_true l⟩
  · have := h.dn j e hj c
    omega
theorem AInv.first {rest : List Rc} {low : Int} (up : ∀ e ∈ rest, low ≤ e.1) : AInv rest low (([] : List Rc).filter fun e => decide (e.2.1 > low)) 0 :=
  ⟨fun e he => no he, fun j e _ c => absurd c (Nat.not_lt_zero _), Nat.zero_le _, fun j e hj _ => up e (List.mem_of_getElem? hj), fun j e _ c => absurd c (Nat.not_lt_zero _)⟩

/-! ### truth values -/
def inLb (l : Ln) (x : Int) : Bool := l.any fun s => decide (s.1 ≤ x ∧ x < s.2)
theorem inLb_iff {l : Ln} {x : Int} : inLb l x = true ↔ inL l x := by
  unfold inLb inL
  rw [List.any_eq_true]
  exact ⟨fun ⟨s, h, k⟩ => ⟨s, h, of_decide_eq_true k⟩, fun ⟨s, h, k⟩ => ⟨s, h, decide_eq_true k⟩⟩
theorem inLb_false {l : Ln} {x : Int} (h : ¬ inL l x) : inLb l x = false := by
  cases e : inLb l x with
  | false => rfl
  | true => exact (h (inLb_iff.mp e)).elim
theorem inLb_nil {x : Int} : inLb [] x = false := rfl
def inRb (r : Rg) (x y : Int) : Bool := inLb (row r y) x
theorem ROK.inRb_iff {r : Rg} (h : ROK r) {x y : Int} : inRb r x y = true ↔ inR r x y := by
  rw [h.inR_row]
  exact inLb_iff
theorem LOK.extb {l m : Ln} (hl : LOK l) (hm : LOK m) (e : ∀ x, inLb l x = inLb m x) : l = m := hl.ext hm fun x => by rw [← inLb_iff, ← inLb_iff, e x]
theorem ROK.extb {r q : Rg} (hr : ROK r) (hq : ROK q) (e : ∀ x y, inRb r x y = inRb q x y) : r = q := hr.ext hq fun x y => by rw [← hr.inRb_iff, ← hq.inRb_iff, e x y]

/-! ### two lines mixed -/
/-- what is left to do: the edges that are left, whether one is inside of the first, of the second; what is found; where a stretch has begun -/
def brk (e : Int × Int) : List (Int × Int) → Bool
  | [] => true
  | d :: _ => decide (d.1 > e.1)
def mrun (keep : Bool → Bool → Bool) : List (Int × Int) → Bool → Bool → Ln → Option Int → Ln
  | [], _, _, found, _ => found
  | e :: rest, i0, i1, found, begun =>
    if brk e rest = true then
      if keep (if e.2 = 0 then !i0 else i0) (if e.2 = 1 then !i1 else i1) = true then
        mrun keep rest (if e.2 = 0 then !i0 else i0) (if e.2 = 1 then !i1 else i1) found (match begun with | none => some e.1 | some b => some b)
      else match begun with
        | none => mrun keep rest (if e.2 = 0 then !i0 else i0) (if e.2 = 1 then !i1 else i1) found none
        | some b => mrun keep rest (if e.2 = 0 then !i0 else i0) (if e.2 = 1 then !i1 else i1) (found ++ [(b, e.1)]) none
    else mrun keep rest (if e.2 = 0 then !i0 else i0) (if e.2 = 1 then !i1 else i1) found begun
theorem mrun_cons {keep : Bool → Bool → Bool} {e : Int × Int} {rest : List (Int × Int)} {i0 i1 : Bool} {found : Ln} {begun : Option Int} : mrun keep (e :: rest) i0 i1 found begun =
    if brk e rest = true then
      if keep (if e.2 = 0 then !i0 else i0) (if e.2 = 1 then !i1 else i1) = true then
        mrun keep rest (if e.2 = 0 then !i0 else i0) (if e.2 = 1 then !i1 else i1) found (match begun with | none => some e.1 | some b => some b)
      else match begun with
        | none => mrun keep rest (if e.2 = 0 then !i0 else i0) (if e.2 = 1 then !i1 else i1) found none
        | some b => mrun keep rest (if e.2 = 0 then !i0 else i0) (if e.2 = 1 then !i1 else i1) (found ++ [(b, e.1)]) none
    else mrun keep rest (if e.2 = 0 then !i0 else i0) (if e.2 = 1 then !i1 else i1) found begun := by
  cases begun <;> rfl
/-- inside, behind all edges up to x -/
def tog (i : Bool) (s x : Int) : List (Int × Int) → Bool
  | [] => i
  | e :: rest => tog (if e.2 = s ∧ e.1 ≤ x then !i else i) s x rest
def fin (i : Bool) (s : Int) : List (Int × Int) → Bool
  | [] => i
  | e :: rest => fin (if e.2 = s then !i else i) s rest
theorem tog_low {s x : Int} : ∀ {es : List (Int × Int)} {i : Bool}, (∀ e ∈ es, x < e.1) → tog i s x es = i
  | [], _, _ => rfl
  | e :: es, i, h => by
    have := h e List.mem_cons_self
    rw [tog, if_neg (by omega)]
    exact tog_low fun d hd => h d (List.mem_cons_of_mem _ hd)
def isB (b : Option Int) (x : Int) : Prop := ∃ z, b = some z ∧ z ≤ x
theorem mrun_ok {keep : Bool → Bool → Bool} : ∀ {es : List (Int × Int)} {i0 i1 : Bool} {found : Ln} {begun : Option Int}, es.Pairwise (fun a b => a.1 ≤ b.1) → LOK found → (∀ s ∈ found, ∀ e ∈ es, s.2 < e.1) →
    (∀ b, begun = some b → (∀ e ∈ es, b < e.1) ∧ ∀ s ∈ found, s.2 < b) → (es = [] → begun = none) → keep (fin i0 0 es) (fin i1 1 es) = false →
    LOK (mrun keep es i0 i1 found begun) ∧ (∀ x, inL (mrun keep es i0 i1 found begun) x ↔ inL found x ∨ (es ≠ [] ∧ ((∀ e ∈ es, x < e.1) ∧ isB begun x ∨ (∃ e ∈ es, e.1 ≤ x) ∧ keep (tog i0 0 x es) (tog i1 1 x es) = true))) ∧
      ∀ PX : Int → Prop, (∀ s ∈ found, PX s.1 ∧ PX s.2) → (∀ b, begun = some b → PX b) → (∀ e ∈ es, PX e.1) → ∀ s ∈ mrun keep es i0 i1 found begun, PX s.1 ∧ PX s.2
  | [], i0, i1, found, begun, _, h, _, _, _, _ => ⟨h, fun x => ⟨.inl, fun k => k.elim id fun k => (k.1 rfl).elim⟩, fun PX a _ _ => a⟩
  | e :: rest, i0, i1, found, begun, so, h, fe, hb, _, kf => by
    obtain ⟨s1, s2⟩ := List.pairwise_cons.mp so
    have fe' : ∀ s ∈ found, ∀ d ∈ rest, s.2 < d.1 := fun s hs d hd => fe s hs d (List.mem_cons_of_mem _ hd)
    have hb' : ∀ b, begun = some b → (∀ d ∈ rest, b < d.1) ∧ ∀ s ∈ found, s.2 < b := fun b eb => ⟨fun d hd => (hb b eb).1 d (List.mem_cons_of_mem _ hd), (hb b eb).2⟩
    have kf' : keep (fin (if e.2 = 0 then !i0 else i0) 0 rest) (fin (if e.2 = 1 then !i1 else i1) 1 rest) = false := kf
    have t0 : ∀ x, e.1 ≤ x → tog i0 0 x (e :: rest) = tog (if e.2 = 0 then !i0 else i0) 0 x rest := fun x hx => by
      by_cases c : e.2 = 0
      · rw [tog, if_pos ⟨c, hx⟩, if_pos c]
      · rw [tog, if_neg (fun k => c k.1), if_neg c]
    have t1 : ∀ x, e.1 ≤ x → tog i1 1 x (e :: rest) = tog (if e.2 = 1 then !i1 else i1) 1 x rest := fun x hx => by
      by_cases c : e.2 = 1
      · rw [tog, if_pos ⟨c, hx⟩, if_pos c]
      · rw [tog, if_neg (fun k => c k.1), if_neg c]
    generalize hj0 : (if e.2 = 0 then !i0 else i0) = j0 at *
    generalize hj1 : (if e.2 = 1 then !i1 else i1) = j1 at *
    -- what is wanted, by whether x lies before e
    have want : ∀ {R : Ln}, (∀ x, x < e.1 → (inL R x ↔ inL found x ∨ isB begun x)) → (∀ x, e.1 ≤ x → (inL R x ↔ inL found x ∨ keep (tog j0 0 x rest) (tog j1 1 x rest) = true)) →
        ∀ x, inL R x ↔ inL found x ∨ (e :: rest ≠ [] ∧ ((∀ d ∈ e :: rest, x < d.1) ∧ isB begun x ∨ (∃ d ∈ e :: rest, d.1 ≤ x) ∧ keep (tog i0 0 x (e :: rest)) (tog i1 1 x (e :: rest)) = true)) := by
      intro R w1 w2 x
      by_cases c : x < e.1
      · rw [w1 x c]
        refine or_congr Iff.rfl ⟨fun k => ⟨List.cons_ne_nil _ _, .inl ⟨fun d hd => ?_, k⟩⟩, fun k => ?_⟩
        · rcases List.mem_cons.mp hd with rfl | hd
          · exact c
          · have := s1 d hd
            omega
        · rcases k.2 with k | ⟨⟨d, hd, k⟩, _⟩
          · exact k.2
          · rcases List.mem_cons.mp hd with rfl | hd
            · omega
            · have := s1 d hd
              omega
      · rw [w2 x (by omega), ← t0 x (by omega), ← t1 x (by omega)]
        refine or_congr Iff.rfl ⟨fun k => ⟨List.cons_ne_nil _ _, .inr ⟨⟨e, List.mem_cons_self, by omega⟩, k⟩⟩, fun k => ?_⟩
        rcases k.2 with k | k
        · exact (c (k.1 e List.mem_cons_self)).elim
        · exact k.2
    have fneg : ∀ {x : Int}, e.1 ≤ x → ¬ inL found x := fun {x} hx ⟨s, hs, _, k⟩ => by
      have := fe s hs e List.mem_cons_self
      omega
    rw [mrun_cons, hj0, hj1]
    by_cases last : brk e rest = true
    · rw [if_pos last]
      have lt : ∀ d ∈ rest, e.1 < d.1 := fun d hd => by
        cases rest with
        | nil => exact no hd
        | cons c rest =>
          have c1 := of_decide_eq_true last
          rcases List.mem_cons.mp hd with rfl | hd
          · exact c1
          · have := (List.pairwise_cons.mp s2).1 d hd
            omega
      -- up to the next edge the state is as it is now
      have flat : ∀ x, e.1 ≤ x → (∀ d ∈ rest, x < d.1) → keep (tog j0 0 x rest) (tog j1 1 x rest) = keep j0 j1 := fun x _ hx => by rw [tog_low hx, tog_low hx]
      by_cases kp : keep j0 j1 = true
      · rw [if_pos kp]
        have ne : rest ≠ [] := fun z => by
          subst z
          have : keep j0 j1 = false := kf'
          rw [kp] at this
          cases this
        have ih : ∀ b, (begun = none → b = e.1) → (∀ z, begun = some z → b = z) → LOK (mrun keep rest j0 j1 found (some b)) ∧ (∀ x, inL (mrun keep rest j0 j1 found (some b)) x ↔ inL found x ∨ (e :: rest ≠ [] ∧ ((∀ d ∈ e :: rest, x < d.1) ∧ isB begun x ∨ (∃ d ∈ e :: rest, d.1 ≤ x) ∧ keep (tog i0 0 x (e :: rest)) (tog i1 1 x (e :: rest)) = true))) ∧
            ∀ PX : Int → Prop, (∀ s ∈ found, PX s.1 ∧ PX s.2) → (∀ b, begun = some b → PX b) → (∀ e' ∈ e :: rest, PX e'.1) → ∀ s ∈ mrun keep rest j0 j1 found (some b), PX s.1 ∧ PX s.2 := by
          intro b b1 b2
          have bb : b ≤ e.1 ∧ (∀ s ∈ found, s.2 < b) ∧ ∀ x, x < e.1 → (b ≤ x ↔ isB begun x) := by
            cases begun with
            | none =>
              rw [b1 rfl]
              exact ⟨Int.le_refl _, fun s hs => fe s hs e List.mem_cons_self, fun x hx => ⟨fun k => by omega, fun ⟨_, k, _⟩ => by cases k⟩⟩
            | some z =>
              rw [b2 z rfl]
              have := hb z rfl
              exact ⟨Int.le_of_lt (this.1 e List.mem_cons_self), this.2, fun x hx => ⟨fun k => ⟨z, rfl, k⟩, fun ⟨u, k, w⟩ => by cases k; exact w⟩⟩
          obtain ⟨a1, a2, a3⟩ := mrun_ok (keep := keep) (es := rest) (i0 := j0) (i1 := j1) (found := found) (begun := some b) s2 h fe' (fun z hz => by
            cases hz
            exact ⟨fun d hd => by have := lt d hd; omega, bb.2.1⟩) (fun z => (ne z).elim) kf'
          refine ⟨a1, want (fun x hx => ?_) (fun x hx => ?_), fun PX p1 p2 p3 => a3 PX p1 (fun z hz => ?_) fun d hd => p3 d (List.mem_cons_of_mem _ hd)⟩
          · rw [a2 x]
            refine or_congr Iff.rfl ?_
            rw [← bb.2.2 x hx]
            constructor
            · rintro ⟨_, ⟨_, z, hz, k⟩ | ⟨⟨d, hd, k⟩, _⟩⟩
              · cases hz
                exact k
              · have := lt d hd
                omega
            · exact fun k => ⟨ne, .inl ⟨fun d hd => by have := lt d hd; omega, b, rfl, k⟩⟩
          · rw [a2 x]
            refine or_congr Iff.rfl ?_
            by_cases c : ∀ d ∈ rest, x < d.1
            · rw [flat x hx c]
              exact ⟨fun _ => kp, fun _ => ⟨ne, .inl ⟨c, b, rfl, by omega⟩⟩⟩
            · have c' : ∃ d ∈ rest, d.1 ≤ x := Classical.byContradiction fun w => c fun d hd => Classical.byContradiction fun v => w ⟨d, hd, by omega⟩
              exact ⟨fun ⟨_, k⟩ => k.elim (fun k => (c k.1).elim) fun k => k.2, fun k => ⟨ne, .inr ⟨c', k⟩⟩⟩
          · cases hz
            cases begun with
            | none =>
              rw [b1 rfl]
              exact p3 e List.mem_cons_self
            | some z =>
              rw [b2 z rfl]
              exact p2 z rfl
        cases begun with
        | none => exact ih e.1 (fun _ => rfl) (fun z hz => by cases hz)
        | some z => exact ih z (fun hz => by cases hz) (fun w hw => by cases hw; rfl)
      · rw [if_neg kp]
        have kn : keep j0 j1 = false := by
          cases q : keep j0 j1 with
          | false => rfl
          | true => exact (kp q).elim
        have back : ∀ x, e.1 ≤ x → ((rest ≠ [] ∧ ((∀ d ∈ rest, x < d.1) ∧ isB none x ∨ (∃ d ∈ rest, d.1 ≤ x) ∧ keep (tog j0 0 x rest) (tog j1 1 x rest) = true)) ↔ keep (tog j0 0 x rest) (tog j1 1 x rest) = true) := by
          intro x hx
          by_cases c : ∀ d ∈ rest, x < d.1
          · rw [flat x hx c]
            constructor
            · rintro ⟨_, ⟨_, z, hz, _⟩ | ⟨_, k⟩⟩
              · cases hz
              · exact k
            · exact fun k => (kp k).elim
          · have c' : ∃ d ∈ rest, d.1 ≤ x := Classical.byContradiction fun w => c fun d hd => Classical.byContradiction fun v => w ⟨d, hd, by omega⟩
            have ne : rest ≠ [] := fun z => by
              obtain ⟨d, hd, _⟩ := c'
              rw [z] at hd
              exact no hd
            exact ⟨fun ⟨_, k⟩ => k.elim (fun k => (c k.1).elim) fun k => k.2, fun k => ⟨ne, .inr ⟨c', k⟩⟩⟩
        have nob : ∀ x, x < e.1 → ¬ (rest ≠ [] ∧ ((∀ d ∈ rest, x < d.1) ∧ isB none x ∨ (∃ d ∈ rest, d.1 ≤ x) ∧ keep (tog j0 0 x rest) (tog j1 1 x rest) = true)) := by
          rintro x hx ⟨_, ⟨_, z, hz, _⟩ | ⟨⟨d, hd, k⟩, _⟩⟩
          · cases hz
          · have := lt d hd
            omega
        cases begun with
        | none =>
          show LOK (mrun keep rest j0 j1 found none) ∧ _
          obtain ⟨a1, a2, a3⟩ := mrun_ok (keep := keep) (es := rest) (i0 := j0) (i1 := j1) (found := found) (begun := none) s2 h fe' (fun z hz => by cases hz) (fun _ => rfl) kf'
          refine ⟨a1, want (fun x hx => ?_) (fun x hx => ?_), fun PX p1 p2 p3 => a3 PX p1 p2 fun d hd => p3 d (List.mem_cons_of_mem _ hd)⟩
          · rw [a2 x]
            exact or_congr Iff.rfl ⟨fun k => (nob x hx k).elim, fun ⟨_, k, _⟩ => by cases k⟩
          · rw [a2 x]
            exact or_congr Iff.rfl (back x hx)
        | some b =>
          show LOK (mrun keep rest j0 j1 (found ++ [(b, e.1)]) none) ∧ _
          obtain ⟨q1, q2⟩ := hb b rfl
          have be := q1 e List.mem_cons_self
          obtain ⟨a1, a2, a3⟩ := mrun_ok (keep := keep) (es := rest) (i0 := j0) (i1 := j1) (found := found ++ [(b, e.1)]) (begun := none) s2 (h.snoc be q2) (fun s hs d hd => by
            rcases List.mem_append.mp hs with hs | hs
            · exact fe' s hs d hd
            · rw [List.mem_singleton.mp hs]
              exact lt d hd) (fun z hz => by cases hz) (fun _ => rfl) kf'
          refine ⟨a1, want (fun x hx => ?_) (fun x hx => ?_), fun PX p1 p2 p3 => a3 PX (fun s hs => ?_) (fun z hz => by cases hz) fun d hd => p3 d (List.mem_cons_of_mem _ hd)⟩
          · rw [a2 x, inL_app, inL_one, or_assoc]
            refine or_congr Iff.rfl ⟨fun k => k.elim (fun k => ⟨b, rfl, k.1⟩) fun k => (nob x hx k).elim, fun ⟨z, k, w⟩ => ?_⟩
            cases k
            exact .inl ⟨w, hx⟩
          · rw [a2 x, inL_app, inL_one, or_assoc]
            refine or_congr Iff.rfl ⟨fun k => k.elim (fun k => ?_) (back x hx).mp, fun k => .inr ((back x hx).mpr k)⟩
            have := k.2
            simp only at this
            omega
          · rcases List.mem_append.mp hs with hs | hs
            · exact p1 s hs
            · rw [List.mem_singleton.mp hs]
              exact ⟨p2 b rfl, p3 e List.mem_cons_self⟩
    · rw [if_neg last]
      -- an edge at the same place comes next
      cases rest with
      | nil => exact (last rfl).elim
      | cons c rest =>
        have c1 : c.1 = e.1 := by
          have := s1 c List.mem_cons_self
          have : ¬ c.1 > e.1 := fun z => last (decide_eq_true z)
          omega
        obtain ⟨a1, a2, a3⟩ := mrun_ok (keep := keep) (es := c :: rest) (i0 := j0) (i1 := j1) (found := found) (begun := begun) s2 h fe' hb' (fun z => by cases z) kf'
        refine ⟨a1, want (fun x hx => ?_) (fun x hx => ?_), fun PX p1 p2 p3 => a3 PX p1 p2 fun d hd => p3 d (List.mem_cons_of_mem _ hd)⟩
        · rw [a2 x]
          refine or_congr Iff.rfl ⟨?_, fun k => ⟨List.cons_ne_nil _ _, .inl ⟨fun d hd => ?_, k⟩⟩⟩
          · rintro ⟨_, ⟨_, k⟩ | ⟨⟨d, hd, k⟩, _⟩⟩
            · exact k
            · have := s1 d hd
              omega
          · have := s1 d hd
            omega
        · rw [a2 x]
          refine or_congr Iff.rfl ⟨?_, fun k => ⟨List.cons_ne_nil _ _, .inr ⟨⟨c, List.mem_cons_self, by omega⟩, k⟩⟩⟩
          rintro ⟨_, ⟨k, _⟩ | ⟨_, k⟩⟩
          · have := k c List.mem_cons_self
            omega
          · exact k
end Mk

-- M3
/-! Lines and regions mixed: what they are. -/
namespace Mk

def edges (l : Ln) (s : Int) : List (Int × Int) := l.flatMap fun t => [(t.1, s), (t.2, s)]
theorem edges_cons {t : Int × Int} {l : Ln} {s : Int} : edges (t :: l) s = (t.1, s) :: (t.2, s) :: edges l s := rfl
theorem mem_edges {l : Ln} {s : Int} {e : Int × Int} : e ∈ edges l s ↔ e.2 = s ∧ ∃ t ∈ l, e.1 = t.1 ∨ e.1 = t.2 := by
  unfold edges
  rw [List.mem_flatMap]
  constructor
  · rintro ⟨t, ht, h⟩
    rcases List.mem_cons.mp h with rfl | h
    · exact ⟨rfl, t, ht, .inl rfl⟩
    · rw [List.mem_singleton.mp h]
      exact ⟨rfl, t, ht, .inr rfl⟩
  · rintro ⟨h, t, ht, k⟩
    refine ⟨t, ht, ?_⟩
    obtain ⟨a, b⟩ := e
    simp only at h k
    subst h
    rcases k with rfl | rfl
    · exact List.mem_cons_self
    · exact List.mem_cons_of_mem _ (List.mem_singleton.mpr rfl)

def cnt (s x : Int) (es : List (Int × Int)) : Nat := es.countP fun e => decide (e.2 = s ∧ e.1 ≤ x)
def cntA (s : Int) (es : List (Int × Int)) : Nat := es.countP fun e => decide (e.2 = s)
theorem cnt_cons {s x : Int} {e : Int × Int} {es : List (Int × Int)} : cnt s x (e :: es) = cnt s x es + (if e.2 = s ∧ e.1 ≤ x then 1 else 0) := by
  unfold cnt
  rw [List.countP_cons]
  by_cases c : e.2 = s ∧ e.1 ≤ x
  · rw [if_pos c, decide_eq_true c, if_pos rfl]
  · rw [if_neg c, decide_eq_false c, if_neg (by decide)]
theorem cntA_cons {s : Int} {e : Int × Int} {es : List (Int × Int)} : cntA s (e :: es) = cntA s es + (if e.2 = s then 1 else 0) := by
  unfold cntA
  rw [List.countP_cons]
  by_cases c : e.2 = s
  · rw [if_pos c, decide_eq_true c, if_pos rfl]
  · rw [if_neg c, decide_eq_false c, if_neg (by decide)]
theorem flip_ite {n : Nat} {i : Bool} : (if n % 2 = 1 then !!i else !i) = if (n + 1) % 2 = 1 then !i else i := by
  rcases Nat.mod_two_eq_zero_or_one n with k | k
  · rw [if_neg (by omega), if_pos (by omega)]
  · rw [if_pos k, if_neg (by omega), Bool.not_not]
theorem tog_cnt {s x : Int} : ∀ {es : List (Int × Int)} {i : Bool}, tog i s x es = if cnt s x es % 2 = 1 then !i else i
  | [], _ => rfl
  | e :: es, i => by
    rw [tog, tog_cnt, cnt_cons]
    by_cases c : e.2 = s ∧ e.1 ≤ x
    · rw [if_pos c, if_pos c]
      exact flip_ite
    · rw [if_neg c, if_neg c] <;> rfl
theorem fin_cnt {s : Int} : ∀ {es : List (Int × Int)} {i : Bool}, fin i s es = if cntA s es % 2 = 1 then !i else i
  | [], _ => rfl
  | e :: es, i => by
    rw [fin, fin_cnt, cntA_cons]
    by_cases c : e.2 = s
    · rw [if_pos c, if_pos c]
      exact flip_ite
    · rw [if_neg c, if_neg c] <;> rfl
theorem cnt_other {s u x : Int} (h : u ≠ s) : ∀ l : Ln, cnt s x (edges l u) = 0 := fun l => by
  unfold cnt
  rw [List.countP_eq_zero]
  intro e he k
  have := (mem_edges.mp he).1
  have := (of_decide_eq_true k).1
  omega
theorem cntA_other {s u : Int} (h : u ≠ s) : ∀ l : Ln, cntA s (edges l u) = 0 := fun l => by
  unfold cntA
  rw [List.countP_eq_zero]
  intro e he k
  have := (mem_edges.mp he).1
  have := of_decide_eq_true k
  omega
theorem cntA_own {s : Int} : ∀ l : Ln, cntA s (edges l s) % 2 = 0
  | [] => rfl
  | t :: l => by
    have ih := cntA_own (s := s) l
    rw [edges_cons, cntA_cons, cntA_cons, if_pos rfl]
    omega
theorem cnt_own {s x : Int} : ∀ {l : Ln}, LOK l → (cnt s x (edges l s) % 2 = 1 ↔ inL l x)
  | [], _ => ⟨fun h => absurd (show (0 : Nat) % 2 = 1 from h) (by decide), fun h => (inL_nil h).elim⟩
  | t :: l, h => by
    have ih := cnt_own (s := s) (x := x) h.tail
    have p := h.pos t List.mem_cons_self
    have low : x < t.2 → cnt s x (edges l s) = 0 := fun k => by
      unfold cnt
      rw [List.countP_eq_zero]
      intro e he w
      obtain ⟨_, u, hu, w2⟩ := mem_edges.mp he
      have g := (List.pairwise_cons.mp h.gap).1 u hu
      have pu := h.pos u (List.mem_cons_of_mem _ hu)
      have := (of_decide_eq_true w).2
      rcases w2 with w2 | w2 <;> omega
    rw [inL_cons, edges_cons, cnt_cons, cnt_cons]
    by_cases c1 : t.1 ≤ x
    · rw [if_pos (c := (t.1, s).2 = s ∧ (t.1, s).1 ≤ x) ⟨rfl, c1⟩]
      by_cases c2 : t.2 ≤ x
      · rw [if_pos (c := (t.2, s).2 = s ∧ (t.2, s).1 ≤ x) ⟨rfl, c2⟩]
        constructor
        · intro k
          exact .inr (ih.mp (by omega))
        · rintro (k | k)
          · omega
          · have := ih.mpr k
            omega
      · rw [if_neg (c := (t.2, s).2 = s ∧ (t.2, s).1 ≤ x) (fun k => c2 k.2), low (by omega)]
        exact ⟨fun _ => .inl ⟨c1, by omega⟩, fun _ => rfl⟩
    · rw [if_neg (c := (t.1, s).2 = s ∧ (t.1, s).1 ≤ x) (fun k => c1 k.2), if_neg (c := (t.2, s).2 = s ∧ (t.2, s).1 ≤ x) (fun k => by have := k.2; simp only at this; omega), low (by omega)]
      constructor
      · intro k
        exact absurd k (by decide)
      · rintro (k | k)
        · omega
        · have := h.behind k
          omega
theorem tog_line {one other : Ln} {es : List (Int × Int)} (h1 : LOK one) (h2 : LOK other) (pm : es.Perm (edges one 0 ++ edges other 1)) (x : Int) :
    tog false 0 x es = inLb one x ∧ tog false 1 x es = inLb other x := by
  have a : ∀ s, cnt s x es = cnt s x (edges one 0) + cnt s x (edges other 1) := fun s => by
    unfold cnt
    rw [pm.countP_eq, List.countP_append]
  have b : ∀ {n : Nat} {l : Ln}, (n % 2 = 1 ↔ inL l x) → (if n % 2 = 1 then !false else false) = inLb l x := by
    intro n l h
    by_cases c : inL l x
    · rw [if_pos (h.mpr c)]
      exact (inLb_iff.mpr c).symm
    · rw [if_neg fun k => c (h.mp k)]
      exact (inLb_false c).symm
  rw [tog_cnt, tog_cnt, a, a, cnt_other (s := 0) (u := 1) (by decide), cnt_other (s := 1) (u := 0) (by decide), Nat.zero_add, Nat.add_zero]
  exact ⟨b (cnt_own h1), b (cnt_own h2)⟩
theorem fin_line {one other : Ln} {es : List (Int × Int)} (pm : es.Perm (edges one 0 ++ edges other 1)) : fin false 0 es = false ∧ fin false 1 es = false := by
  have a : ∀ s, cntA s es = cntA s (edges one 0) + cntA s (edges other 1) := fun s => by
    unfold cntA
    rw [pm.countP_eq, List.countP_append]
  rw [fin_cnt, fin_cnt, a, a, cntA_other (s := 0) (u := 1) (by decide), cntA_other (s := 1) (u := 0) (by decide), Nat.zero_add, Nat.add_zero, cntA_own, cntA_own]
  exact ⟨rfl, rfl⟩
theorem mixline_ok {keep : Bool → Bool → Bool} (k0 : keep false false = false) {one other : Ln} {es : List (Int × Int)} (h1 : LOK one) (h2 : LOK other) (pm : es.Perm (edges one 0 ++ edges other 1)) (so : es.Pairwise fun a b => a.1 ≤ b.1) :
    LOK (mrun keep es false false [] none) ∧ (∀ x, inLb (mrun keep es false false [] none) x = keep (inLb one x) (inLb other x)) ∧
      ∀ PX : Int → Prop, (∀ s ∈ one, PX s.1 ∧ PX s.2) → (∀ s ∈ other, PX s.1 ∧ PX s.2) → ∀ s ∈ mrun keep es false false [] none, PX s.1 ∧ PX s.2 := by
  obtain ⟨f0, f1⟩ := fin_line pm
  obtain ⟨a, b, c⟩ := mrun_ok (keep := keep) (es := es) (i0 := false) (i1 := false) (found := []) (begun := none) so LOK.nil (fun _ h => no h) (fun _ h => by cases h) (fun _ => rfl) (by rw [f0, f1]; exact k0)
  refine ⟨a, fun x => ?_, fun PX p1 p2 => c PX (fun _ h => no h) (fun _ h => by cases h) fun e he => ?_⟩
  · obtain ⟨t0, t1⟩ := tog_line h1 h2 pm x
    have key : inL (mrun keep es false false [] none) x ↔ keep (inLb one x) (inLb other x) = true := by
      rw [b x, t0, t1]
      constructor
      · rintro (k | ⟨_, ⟨_, z, hz, _⟩ | ⟨_, k⟩⟩)
        · exact (inL_nil k).elim
        · cases hz
        · exact k
      · intro k
        by_cases w : ∃ e ∈ es, e.1 ≤ x
        · refine .inr ⟨fun z => ?_, .inr ⟨w, k⟩⟩
          rw [z] at w
          obtain ⟨e, he, _⟩ := w
          exact no he
        · have lo : ∀ e ∈ es, x < e.1 := fun e he => Classical.byContradiction fun v => w ⟨e, he, by omega⟩
          rw [← t0, ← t1, tog_low lo, tog_low lo, k0] at k
          cases k
    cases q : keep (inLb one x) (inLb other x) with
    | true => exact inLb_iff.mpr (key.mpr q)
    | false =>
      refine inLb_false fun z => ?_
      have := key.mp z
      rw [q] at this
      cases this
  · have := pm.mem_iff.mp he
    rcases List.mem_append.mp this with k | k
    · obtain ⟨_, t, ht, w⟩ := mem_edges.mp k
      rcases w with w | w <;> rw [w]
      · exact (p1 t ht).1
      · exact (p1 t ht).2
    · obtain ⟨_, t, ht, w⟩ := mem_edges.mp k
      rcases w with w | w <;> rw [w]
      · exact (p2 t ht).1
      · exact (p2 t ht).2

/-- between two cuts that stand side by side the line of a region is one -/
theorem row_flat {cuts : List Int} (hc : cuts.Pairwise (· < ·)) {p : Int × Int} (hp : p ∈ cuts.zip cuts.tail) {y : Int} (h1 : p.1 ≤ y) (h2 : y < p.2) : ∀ {r : Rg}, (∀ b ∈ r, b.1 ∈ cuts ∧ b.2.1 ∈ cuts) → row r y = row r p.1
  | [], _ => rfl
  | b :: r, h => by
    obtain ⟨g1, g2, g3, g4⟩ := gap_of hc hp
    obtain ⟨k1, k2⟩ := h b List.mem_cons_self
    have a1 := g4 _ k1
    have a2 := g4 _ k2
    rw [row, row, row_flat hc hp h1 h2 fun c hc => h c (List.mem_cons_of_mem _ hc)]
    by_cases c : b.1 ≤ y ∧ y < b.2.1
    · rw [if_pos c, if_pos (by omega)]
    · rw [if_neg c, if_neg (by omega)]
theorem row_crs {r : Rg} {PX PY : Int → Prop} (h : Crs r PX PY) (y : Int) : ∀ s ∈ row r y, PX s.1 ∧ PX s.2 := by
  induction r with
  | nil => exact fun s hs => no hs
  | cons b r ih =>
    rw [row]
    split
    · exact (h b List.mem_cons_self).2.2
    · exact ih fun c hc => h c (List.mem_cons_of_mem _ hc)
theorem mixed_ok {keep : Bool → Bool → Bool} (k0 : keep false false = false) {one other : Rg} {cuts : List Int} {f : Int → Ln} (h1 : ROK one) (h2 : ROK other) (hc : cuts.Pairwise (· < ·))
    (mem : ∀ c, c ∈ cuts ↔ ∃ b, (b ∈ one ∨ b ∈ other) ∧ (c = b.1 ∨ c = b.2.1))
    (hf : ∀ a ∈ cuts, LOK (f a) ∧ (∀ x, inLb (f a) x = keep (inLb (row one a) x) (inLb (row other a) x)) ∧ ∀ PX : Int → Prop, (∀ s ∈ row one a, PX s.1 ∧ PX s.2) → (∀ s ∈ row other a, PX s.1 ∧ PX s.2) → ∀ s ∈ f a, PX s.1 ∧ PX s.2) :
    ROK (banded cuts (cuts.dropLast.map f)) ∧ (∀ x y, inRb (banded cuts (cuts.dropLast.map f)) x y = keep (inRb one x y) (inRb other x y)) ∧
      ∀ PX PY : Int → Prop, Crs one PX PY → Crs other PX PY → Crs (banded cuts (cuts.dropLast.map f)) PX PY := by
  obtain ⟨a, b, c⟩ := banded_ok hc fun a ha => (hf a ha).1
  have e1 : ∀ b ∈ one, b.1 ∈ cuts ∧ b.2.1 ∈ cuts := fun b hb => ⟨(mem _).mpr ⟨b, .inl hb, .inl rfl⟩, (mem _).mpr ⟨b, .inl hb, .inr rfl⟩⟩
  have e2 : ∀ b ∈ other, b.1 ∈ cuts ∧ b.2.1 ∈ cuts := fun b hb => ⟨(mem _).mpr ⟨b, .inr hb, .inl rfl⟩, (mem _).mpr ⟨b, .inr hb, .inr rfl⟩⟩
  have key : ∀ x y, inR (banded cuts (cuts.dropLast.map f)) x y ↔ keep (inRb one x y) (inRb other x y) = true := by
    intro x y
    rw [b]
    constructor
    · rintro ⟨p, hp, k1, k2, k3⟩
      have := inLb_iff.mpr k3
      rw [(hf _ (gap_of hc hp).2.1).2.1, ← row_flat hc hp k1 k2 e1, ← row_flat hc hp k1 k2 e2] at this
      exact this
    · intro k
      have w : ∃ b, (b ∈ one ∨ b ∈ other) ∧ b.1 ≤ y ∧ y < b.2.1 := by
        refine Classical.byContradiction fun w => ?_
        have n1 : row one y = [] := row_none fun b hb z => w ⟨b, .inl hb, z⟩
        have n2 : row other y = [] := row_none fun b hb z => w ⟨b, .inr hb, z⟩
        unfold inRb at k
        rw [n1, n2, inLb_nil, k0] at k
        cases k
      obtain ⟨d, hd, d1, d2⟩ := w
      obtain ⟨p, hp, k1, k2⟩ := seg_of hc ((mem _).mpr ⟨d, hd, .inl rfl⟩) ((mem _).mpr ⟨d, hd, .inr rfl⟩) d1 d2
      refine ⟨p, hp, k1, k2, inLb_iff.mp ?_⟩
      rw [(hf _ (gap_of hc hp).2.1).2.1, ← row_flat hc hp k1 k2 e1, ← row_flat hc hp k1 k2 e2]
      exact k
  refine ⟨a, fun x y => ?_, fun PX PY p1 p2 => c PX PY (fun z hz => ?_) fun z hz => (hf z hz).2.2 PX (row_crs p1 z) (row_crs p2 z)⟩
  · cases q : keep (inRb one x y) (inRb other x y) with
    | true => exact a.inRb_iff.mpr ((key x y).mpr q)
    | false =>
      cases w : inRb (banded cuts (cuts.dropLast.map f)) x y with
      | false => rfl
      | true =>
        have := (key x y).mp (a.inRb_iff.mp w)
        rw [q] at this
        cases this
  · obtain ⟨d, hd, e⟩ := (mem z).mp hz
    have hd' : PY d.1 ∧ PY d.2.1 := by
      rcases hd with hd | hd
      · exact ⟨(p1 d hd).1, (p1 d hd).2.1⟩
      · exact ⟨(p2 d hd).1, (p2 d hd).2.1⟩
    rcases e with rfl | rfl
    · exact hd'.1
    · exact hd'.2

/-! ### the line at a height, found by going on -/
theorem row_at {r : Rg} (h : ROK r) {i : Nat} {low : Int} (le : i ≤ r.length) (dn : ∀ (j : Nat) (b : Bd), r[j]? = some b → j < i → b.2.1 ≤ low) (up : ∀ b, r[i]? = some b → low < b.2.1) :
    row r low = match r[i]? with
      | some b => if b.1 ≤ low then b.2.2 else []
      | none => [] := by
  have later : ∀ (j : Nat) (b c : Bd), r[i]? = some c → r[j]? = some b → i < j → c.2.1 ≤ b.1 := fun j b c hc hb lt => by
    obtain ⟨l1, e1⟩ := List.getElem?_eq_some_iff.mp hc
    obtain ⟨l2, e2⟩ := List.getElem?_eq_some_iff.mp hb
    have := (List.pairwise_iff_getElem.mp h.gap i j l1 l2 lt).1
    rw [e1, e2] at this
    exact this
  cases q : r[i]? with
  | some b =>
    have u := up b q
    by_cases c : b.1 ≤ low
    · show row r low = if b.1 ≤ low then b.2.2 else []
      rw [if_pos c]
      exact h.row_of (List.mem_of_getElem? q) c u
    · show row r low = if b.1 ≤ low then b.2.2 else []
      rw [if_neg c]
      refine row_none fun d hd k => ?_
      obtain ⟨j, hj⟩ := List.mem_iff_getElem?.mp hd
      by_cases w : j < i
      · have := dn j d hj w
        omega
      · by_cases v : j = i
        · subst v
          rw [q] at hj
          cases hj
          omega
        · have := later j d b q hj (by omega)
          omega
  | none =>
    have l := List.getElem?_eq_none_iff.mp q
    show row r low = []
    refine row_none fun d hd k => ?_
    obtain ⟨j, hj⟩ := List.mem_iff_getElem?.mp hd
    have lj := (List.getElem?_eq_some_iff.mp hj).1
    have := dn j d hj (by omega)
    omega
end Mk

-- M4
/-! Sets of places turned, grown, shrunk; how many places there are. -/
namespace Mk

abbrev Pl := Int → Int → Prop
theorem pl_ext {S T : Pl} (h : ∀ x y, S x y ↔ T x y) : S = T := funext fun x => funext fun y => propext (h x y)

/-! ### turns -/
def mirrorR (q : Rc) : Rc := (-q.2.2.1, q.2.1, -q.1, q.2.2.2)
def quarterR (q : Rc) : Rc := (-q.2.2.2, q.1, -q.2.1, q.2.2.1)
def moveR (dx dy : Int) (q : Rc) : Rc := (q.1 + dx, q.2.1 + dy, q.2.2.1 + dx, q.2.2.2 + dy)
def quarters : Nat → Rc → Rc
  | 0, q => q
  | n + 1, q => quarterR (quarters n q)
def turnR (t : Nat) (dx dy : Int) (q : Rc) : Rc := moveR dx dy (quarters (t % 4) (if t > 3 then mirrorR q else q))
def mS (S : Pl) : Pl := fun X Y => S (-X - 1) Y
def qS (S : Pl) : Pl := fun X Y => S Y (-X - 1)
def vS (dx dy : Int) (S : Pl) : Pl := fun X Y => S (X - dx) (Y - dy)
def qsS : Nat → Pl → Pl
  | 0, S => S
  | n + 1, S => qS (qsS n S)
def turnS (t : Nat) (dx dy : Int) (S : Pl) : Pl := vS dx dy (qsS (t % 4) (if t > 3 then mS S else S))
theorem inC_mirror {q : Rc} : inC (mirrorR q) = mS (inC q) := pl_ext fun X Y => by
  unfold inC mirrorR mS
  simp only
  omega
theorem inC_quarter {q : Rc} : inC (quarterR q) = qS (inC q) := pl_ext fun X Y => by
  unfold inC quarterR qS
  simp only
  omega
theorem inC_move {dx dy : Int} {q : Rc} : inC (moveR dx dy q) = vS dx dy (inC q) := pl_ext fun X Y => by
  unfold inC moveR vS
  simp only
  omega
theorem inC_quarters : ∀ {n : Nat} {q : Rc}, inC (quarters n q) = qsS n (inC q)
  | 0, _ => rfl
  | n + 1, q => by
    rw [quarters, inC_quarter, inC_quarters]
    rfl
theorem inC_turn {t : Nat} {dx dy : Int} {q : Rc} : inC (turnR t dx dy q) = turnS t dx dy (inC q) := by
  unfold turnR turnS
  rw [inC_move, inC_quarters]
  split
  · rw [inC_mirror]
  · rfl
theorem mirror_ok {q : Rc} (h : RcOk q) : RcOk (mirrorR q) := by
  unfold RcOk mirrorR at *
  simp only
  omega
theorem quarter_ok {q : Rc} (h : RcOk q) : RcOk (quarterR q) := by
  unfold RcOk quarterR at *
  simp only
  omega
theorem move_ok {q : Rc} {dx dy : Int} (h : RcOk q) : RcOk (moveR dx dy q) := by
  unfold RcOk moveR at *
  simp only
  omega
theorem quarters_ok : ∀ {n : Nat} {q : Rc}, RcOk q → RcOk (quarters n q)
  | 0, _, h => h
  | n + 1, _, h => quarter_ok (quarters_ok (n := n) h)
theorem turn_ok {t : Nat} {dx dy : Int} {q : Rc} (h : RcOk q) : RcOk (turnR t dx dy q) := by
  unfold turnR
  refine move_ok (quarters_ok ?_)
  split
  · exact mirror_ok h
  · exact h
theorem inCs_map {g : Rc → Rc} {F : Pl → Pl} (h : ∀ q, inC (g q) = F (inC q)) (hF : ∀ (ι : List Rc), F (inCs ι) = fun x y => ∃ q ∈ ι, F (inC q) x y) (qs : List Rc) : inCs (qs.map g) = F (inCs qs) := by
  rw [hF]
  refine pl_ext fun x y => ?_
  constructor
  · rintro ⟨q, hq, k⟩
    obtain ⟨p, hp, rfl⟩ := List.mem_map.mp hq
    exact ⟨p, hp, by rw [← h]; exact k⟩
  · rintro ⟨p, hp, k⟩
    exact ⟨g p, List.mem_map.mpr ⟨p, hp, rfl⟩, by rw [h]; exact k⟩
theorem qsS_ex {ι : List Rc} {f : Rc → Pl} : ∀ n, qsS n (fun x y => ∃ q ∈ ι, f q x y) = fun x y => ∃ q ∈ ι, qsS n (f q) x y
  | 0 => rfl
  | n + 1 => by
    rw [qsS, qsS_ex n]
    rfl
theorem turnS_ex {ι : List Rc} {f : Rc → Pl} {t : Nat} {dx dy : Int} : turnS t dx dy (fun x y => ∃ q ∈ ι, f q x y) = fun x y => ∃ q ∈ ι, turnS t dx dy (f q) x y := by
  unfold turnS
  by_cases c : t > 3
  · simp only [if_pos c]
    have : mS (fun x y => ∃ q ∈ ι, f q x y) = fun x y => ∃ q ∈ ι, mS (f q) x y := rfl
    rw [this, qsS_ex]
    rfl
  · simp only [if_neg c]
    rw [qsS_ex]
    rfl
theorem inCs_turn {t : Nat} {dx dy : Int} {qs : List Rc} : inCs (qs.map (turnR t dx dy)) = turnS t dx dy (inCs qs) :=
  inCs_map (F := turnS t dx dy) (fun _ => inC_turn) (fun ι => turnS_ex) qs

/-! ### what goes with the turns -/
structure Goes (F : Pl → Pl) : Prop where
  m : ∀ S, F (mS S) = mS (F S)
  q : ∀ S, F (qS S) = qS (F S)
  v : ∀ dx dy S, F (vS dx dy S) = vS dx dy (F S)
theorem Goes.qs {F : Pl → Pl} (h : Goes F) (S : Pl) : ∀ n, F (qsS n S) = qsS n (F S)
  | 0 => rfl
  | n + 1 => by rw [qsS, h.q, h.qs S n, qsS]
theorem Goes.turn {F : Pl → Pl} (h : Goes F) (t : Nat) (dx dy : Int) (S : Pl) : F (turnS t dx dy S) = turnS t dx dy (F S) := by
  unfold turnS
  rw [h.v, h.qs]
  split
  · rw [h.m]
  · rfl
theorem qsS_two {S T : Pl} {k : Prop → Prop → Prop} : ∀ n, (fun x y => k (qsS n S x y) (qsS n T x y)) = qsS n fun x y => k (S x y) (T x y)
  | 0 => rfl
  | n + 1 => by
    show (fun x y => k (qS (qsS n S) x y) (qS (qsS n T) x y)) = qS (qsS n fun x y => k (S x y) (T x y))
    rw [← qsS_two (S := S) (T := T) n]
    rfl
theorem turnS_two {S T : Pl} {k : Prop → Prop → Prop} {t : Nat} {dx dy : Int} : (fun x y => k (turnS t dx dy S x y) (turnS t dx dy T x y)) = turnS t dx dy fun x y => k (S x y) (T x y) := by
  unfold turnS
  by_cases c : t > 3
  · simp only [if_pos c]
    show vS dx dy (fun x y => k (qsS (t % 4) (mS S) x y) (qsS (t % 4) (mS T) x y)) = _
    rw [qsS_two]
    rfl
  · simp only [if_neg c]
    show vS dx dy (fun x y => k (qsS (t % 4) S x y) (qsS (t % 4) T x y)) = _
    rw [qsS_two]

/-! ### grown, shrunk -/
def near (k x y u v : Int) : Prop := x - u ≤ k ∧ u - x ≤ k ∧ y - v ≤ k ∧ v - y ≤ k
def growS (k : Int) (S : Pl) : Pl := fun x y => ∃ u v, S u v ∧ near k x y u v
def shrinkS (k : Int) (S : Pl) : Pl := fun x y => ∀ u v, near k x y u v → S u v
theorem grow_goes (k : Int) : Goes (growS k) := by
  refine ⟨fun S => pl_ext fun x y => ⟨?_, ?_⟩, fun S => pl_ext fun x y => ⟨?_, ?_⟩, fun dx dy S => pl_ext fun x y => ⟨?_, ?_⟩⟩
  · rintro ⟨u, v, h, n⟩
    exact ⟨-u - 1, v, h, by unfold near at *; omega⟩
  · rintro ⟨u, v, h, n⟩
    exact ⟨-u - 1, v, by unfold mS; rw [show -(-u - 1) - 1 = u by omega]; exact h, by unfold near at *; omega⟩
  · rintro ⟨u, v, h, n⟩
    exact ⟨v, -u - 1, h, by unfold near at *; omega⟩
  · rintro ⟨u, v, h, n⟩
    exact ⟨-v - 1, u, by unfold qS; rw [show -(-v - 1) - 1 = v by omega]; exact h, by unfold near at *; omega⟩
  · rintro ⟨u, v, h, n⟩
    exact ⟨u - dx, v - dy, h, by unfold near at *; omega⟩
  · rintro ⟨u, v, h, n⟩
    exact ⟨u + dx, v + dy, by unfold vS; rw [Int.add_sub_cancel, Int.add_sub_cancel]; exact h, by unfold near at *; omega⟩
theorem shrink_goes (k : Int) : Goes (shrinkS k) := by
  refine ⟨fun S => pl_ext fun x y => ⟨?_, ?_⟩, fun S => pl_ext fun x y => ⟨?_, ?_⟩, fun dx dy S => pl_ext fun x y => ⟨?_, ?_⟩⟩
  · intro h u v n
    have := h (-u - 1) v (by unfold near at *; omega)
    unfold mS at this
    rw [show -(-u - 1) - 1 = u by omega] at this
    exact this
  · exact fun h u v n => h (-u - 1) v (by unfold near at *; omega)
  · intro h u v n
    have := h (-v - 1) u (by unfold near at *; omega)
    unfold qS at this
    rw [show -(-v - 1) - 1 = v by omega] at this
    exact this
  · exact fun h u v n => h v (-u - 1) (by unfold near at *; omega)
  · intro h u v n
    have := h (u + dx) (v + dy) (by unfold near at *; omega)
    unfold vS at this
    rw [Int.add_sub_cancel, Int.add_sub_cancel] at this
    exact this
  · exact fun h u v n => h (u - dx) (v - dy) (by unfold near at *; omega)
def growR (k : Int) (q : Rc) : Rc := (q.1 - k, q.2.1 - k, q.2.2.1 + k, q.2.2.2 + k)
theorem grow_ok {k : Int} {q : Rc} (h : RcOk q) (hk : 0 ≤ k) : RcOk (growR k q) := by
  unfold RcOk growR at *
  simp only
  omega
theorem inC_grow {k : Int} {q : Rc} (h : RcOk q) (hk : 0 ≤ k) : inC (growR k q) = growS k (inC q) := pl_ext fun x y => by
  obtain ⟨a, b, c, d⟩ := q
  unfold RcOk at h
  simp only at h
  constructor
  · rintro ⟨h1, h2, h3, h4⟩
    simp only [growR] at h1 h2 h3 h4
    refine ⟨if x < a then a else if c ≤ x then c - 1 else x, if y < b then b else if d ≤ y then d - 1 else y, ?_, ?_⟩
    · refine ⟨?_, ?_, ?_, ?_⟩ <;> simp only <;> (repeat' split) <;> omega
    · refine ⟨?_, ?_, ?_, ?_⟩ <;> (repeat' split) <;> omega
  · rintro ⟨u, v, ⟨h1, h2, h3, h4⟩, n⟩
    simp only at h1 h2 h3 h4
    unfold near at n
    refine ⟨?_, ?_, ?_, ?_⟩ <;> simp only [growR] <;> omega
theorem inCs_grow {k : Int} {qs : List Rc} (h : ∀ q ∈ qs, RcOk q) (hk : 0 ≤ k) : inCs (qs.map (growR k)) = growS k (inCs qs) := pl_ext fun x y => by
  constructor
  · rintro ⟨q, hq, w⟩
    obtain ⟨p, hp, rfl⟩ := List.mem_map.mp hq
    rw [inC_grow (h p hp) hk] at w
    obtain ⟨u, v, i, n⟩ := w
    exact ⟨u, v, ⟨p, hp, i⟩, n⟩
  · rintro ⟨u, v, ⟨p, hp, i⟩, n⟩
    refine ⟨growR k p, List.mem_map.mpr ⟨p, hp, rfl⟩, ?_⟩
    rw [inC_grow (h p hp) hk]
    exact ⟨u, v, i, n⟩
theorem grow_grow {k m : Int} (hk : 0 ≤ k) (hm : 0 ≤ m) (S : Pl) : growS m (growS k S) = growS (k + m) S := pl_ext fun x y => by
  constructor
  · rintro ⟨u, v, ⟨a, b, h, n⟩, n'⟩
    exact ⟨a, b, h, by unfold near at *; omega⟩
  · rintro ⟨a, b, h, n⟩
    refine ⟨if x > a + m then x - m else if x < a - m then x + m else a, if y > b + m then y - m else if y < b - m then y + m else b, ⟨a, b, h, ?_⟩, ?_⟩
    · unfold near at *
      refine ⟨?_, ?_, ?_, ?_⟩ <;> (repeat' split) <;> omega
    · unfold near at *
      refine ⟨?_, ?_, ?_, ?_⟩ <;> (repeat' split) <;> omega
theorem shrink_shrink {k m : Int} (hk : 0 ≤ k) (hm : 0 ≤ m) (S : Pl) : shrinkS m (shrinkS k S) = shrinkS (k + m) S := pl_ext fun x y => by
  constructor
  · intro h a b n
    refine h (if x > a + m then x - m else if x < a - m then x + m else a) (if y > b + m then y - m else if y < b - m then y + m else b) ?_ a b ?_
    · unfold near at *
      refine ⟨?_, ?_, ?_, ?_⟩ <;> (repeat' split) <;> omega
    · unfold near at *
      refine ⟨?_, ?_, ?_, ?_⟩ <;> (repeat' split) <;> omega
  · intro h u v n a b n'
    exact h a b (by unfold near at *; omega)
theorem shrink_grow {k : Int} {S : Pl} {x y : Int} (h : growS k (shrinkS k S) x y) : S x y := by
  obtain ⟨u, v, h, n⟩ := h
  exact h x y (by unfold near at *; omega)
theorem grow_shrink {k : Int} {S : Pl} {x y : Int} (h : S x y) : shrinkS k (growS k S) x y := fun u v n => ⟨x, y, h, by unfold near at *; omega⟩
/-- what the program does to shrink -/
theorem shrink_is {k : Int} (hk : 0 ≤ k) {S B : Pl} (hb : ∀ x y u v, S x y → near k x y u v → B u v) : (fun x y => S x y ∧ ¬ growS k (fun x y => B x y ∧ ¬ S x y) x y) = shrinkS k S := pl_ext fun x y => by
  constructor
  · rintro ⟨h, n⟩ u v w
    refine Classical.byContradiction fun z => n ⟨u, v, ⟨hb x y u v h w, z⟩, w⟩
  · intro h
    refine ⟨h x y (by unfold near; omega), fun ⟨u, v, ⟨_, z⟩, w⟩ => z (h u v w)⟩

/-! ### ways -/
def adj (x y u v : Int) : Prop := (x = u ∧ (y = v + 1 ∨ v = y + 1)) ∨ (y = v ∧ (x = u + 1 ∨ u = x + 1))
inductive Way (S : Pl) (x y : Int) : Int → Int → Prop
  | refl : S x y → Way S x y x y
  | step {u v a b : Int} : Way S x y u v → S a b → adj u v a b → Way S x y a b
theorem Way.left {S : Pl} {x y u v : Int} (h : Way S x y u v) : S x y := by
  induction h with
  | refl h => exact h
  | step _ _ _ ih => exact ih
theorem Way.right {S : Pl} {x y u v : Int} (h : Way S x y u v) : S u v := by
  cases h with
  | refl h => exact h
  | step _ h _ => exact h
theorem Way.trans {S : Pl} {x y u v a b : Int} (h : Way S x y u v) (k : Way S u v a b) : Way S x y a b := by
  induction k with
  | refl _ => exact h
  | step _ h1 h2 ih => exact ih.step h1 h2
theorem Way.one {S : Pl} {x y u v : Int} (h : S x y) (k : S u v) (a : adj x y u v) : Way S x y u v := (Way.refl h).step k a
theorem adj_symm {x y u v : Int} (h : adj x y u v) : adj u v x y := by
  unfold adj at *
  omega
theorem Way.symm {S : Pl} {x y u v : Int} (h : Way S x y u v) : Way S u v x y := by
  induction h with
  | refl h => exact .refl h
  | step h1 h2 h3 ih => exact (Way.one h2 h1.right (adj_symm h3)).trans ih
theorem way_mono {S T : Pl} {f g : Int → Int → Int} (hS : ∀ x y, S x y → T (f x y) (g x y)) (ha : ∀ x y u v, adj x y u v → adj (f x y) (g x y) (f u v) (g u v)) {x y u v : Int} (h : Way S x y u v) : Way T (f x y) (g x y) (f u v) (g u v) := by
  induction h with
  | refl h => exact .refl (hS _ _ h)
  | step _ h2 h3 ih => exact ih.step (hS _ _ h2) (ha _ _ _ _ h3)
/-- the places that ways lead to from a place -/
structure IsPc (S : Pl) (T : Pl) : Prop where
  ex : ∃ x y, S x y ∧ T = fun u v => Way S x y u v
theorem IsPc.m {S T : Pl} (h : IsPc S T) : IsPc (mS S) (mS T) := by
  obtain ⟨x, y, hs, rfl⟩ := h
  refine ⟨-x - 1, y, by unfold mS; rw [show -(-x - 1) - 1 = x by omega]; exact hs, pl_ext fun u v => ⟨fun k => ?_, fun k => ?_⟩⟩
  · have := way_mono (S := S) (T := mS S) (f := fun x y => -x - 1) (g := fun x y => y) (fun a b h => by unfold mS; rw [show -(-a - 1) - 1 = a by omega]; exact h) (fun a b c d h => by unfold adj at *; omega) k
    rw [show -(-u - 1) - 1 = u by omega] at this
    exact this
  · have := way_mono (S := mS S) (T := S) (f := fun x y => -x - 1) (g := fun x y => y) (fun a b h => h) (fun a b c d h => by unfold adj at *; omega) k
    rw [show -(-x - 1) - 1 = x by omega] at this
    exact this
theorem IsPc.q {S T : Pl} (h : IsPc S T) : IsPc (qS S) (qS T) := by
  obtain ⟨x, y, hs, rfl⟩ := h
  refine ⟨-y - 1, x, by unfold qS; rw [show -(-y - 1) - 1 = y by omega]; exact hs, pl_ext fun u v => ⟨fun k => ?_, fun k => ?_⟩⟩
  · have := way_mono (S := S) (T := qS S) (f := fun x y => -y - 1) (g := fun x y => x) (fun a b h => by unfold qS; rw [show -(-b - 1) - 1 = b by omega]; exact h) (fun a b c d h => by unfold adj at *; omega) k
    rw [show -(-u - 1) - 1 = u by omega] at this
    exact this
  · have := way_mono (S := qS S) (T := S) (f := fun x y => y) (g := fun x y => -x - 1) (fun a b h => h) (fun a b c d h => by unfold adj at *; omega) k
    rw [show -(-y - 1) - 1 = y by omega] at this
    exact this
theorem IsPc.v {S T : Pl} {dx dy : Int} (h : IsPc S T) : IsPc (vS dx dy S) (vS dx dy T) := by
  obtain ⟨x, y, hs, rfl⟩ := h
  refine ⟨x + dx, y + dy, by unfold vS; rw [Int.add_sub_cancel, Int.add_sub_cancel]; exact hs, pl_ext fun u v => ⟨fun k => ?_, fun k => ?_⟩⟩
  · have := way_mono (S := S) (T := vS dx dy S) (f := fun x y => x + dx) (g := fun x y => y + dy) (fun a b h => by unfold vS; rw [Int.add_sub_cancel, Int.add_sub_cancel]; exact h) (fun a b c d h => by unfold adj at *; omega) k
    rw [Int.sub_add_cancel, Int.sub_add_cancel] at this
    exact this
  · have := way_mono (S := vS dx dy S) (T := S) (f := fun x y => x - dx) (g := fun x y => y - dy) (fun a b h => h) (fun a b c d h => by unfold adj at *; omega) k
    rw [Int.add_sub_cancel, Int.add_sub_cancel] at this
    exact this
theorem IsPc.qs {S T : Pl} (h : IsPc S T) : ∀ n, IsPc (qsS n S) (qsS n T)
  | 0 => h
  | n + 1 => (h.qs n).q
theorem IsPc.turn {S T : Pl} {t : Nat} {dx dy : Int} (h : IsPc S T) : IsPc (turnS t dx dy S) (turnS t dx dy T) := by
  unfold turnS
  refine IsPc.v (IsPc.qs ?_ _)
  split
  · exact h.m
  · exact h
/-- two pieces with a place in common are one -/
theorem IsPc.eq {S T U : Pl} (h : IsPc S T) (k : IsPc S U) {x y : Int} (ht : T x y) (hu : U x y) : T = U := by
  obtain ⟨a, b, _, rfl⟩ := h
  obtain ⟨c, d, _, rfl⟩ := k
  have hcd : Way S a b c d := Way.trans ht hu.symm
  exact pl_ext fun u v => ⟨fun w => hcd.symm.trans w, fun w => hcd.trans w⟩
theorem IsPc.sub {S T : Pl} (h : IsPc S T) {x y : Int} (ht : T x y) : S x y := by
  obtain ⟨a, b, _, rfl⟩ := h
  exact ht.right
theorem IsPc.some {S T : Pl} (h : IsPc S T) : ∃ x y, T x y := by
  obtain ⟨a, b, hs, rfl⟩ := h
  exact ⟨a, b, .refl hs⟩

/-! ### turns lead back -/
theorem turnS_inj {t : Nat} {dx dy : Int} {S T : Pl} (h : turnS t dx dy S = turnS t dx dy T) : S = T := by
  have v : ∀ {S T : Pl}, vS dx dy S = vS dx dy T → S = T := fun {S T} h => pl_ext fun x y => by
    have := congrFun (congrFun h (x + dx)) (y + dy)
    unfold vS at this
    rw [Int.add_sub_cancel, Int.add_sub_cancel] at this
    rw [this]
  have q : ∀ {S T : Pl}, qS S = qS T → S = T := fun {S T} h => pl_ext fun x y => by
    have := congrFun (congrFun h (-y - 1)) x
    unfold qS at this
    rw [show -(-y - 1) - 1 = y by omega] at this
    rw [this]
  have m : ∀ {S T : Pl}, mS S = mS T → S = T := fun {S T} h => pl_ext fun x y => by
    have := congrFun (congrFun h (-x - 1)) y
    unfold mS at this
    rw [show -(-x - 1) - 1 = x by omega] at this
    rw [this]
  have qs : ∀ n {S T : Pl}, qsS n S = qsS n T → S = T := fun n => by
    induction n with
    | zero => exact fun h => h
    | succ n ih => exact fun h => ih (q h)
  unfold turnS at h
  have h2 := qs _ (v h)
  by_cases c : t > 3
  · rw [if_pos c, if_pos c] at h2
    exact m h2
  · rw [if_neg c, if_neg c] at h2
    exact h2
theorem turnS_some {t : Nat} {dx dy : Int} {S : Pl} (h : ∃ x y, turnS t dx dy S x y) : ∃ x y, S x y := by
  have qs : ∀ n {S : Pl}, (∃ x y, qsS n S x y) → ∃ x y, S x y := fun n => by
    induction n with
    | zero => exact fun h => h
    | succ n ih =>
      rintro S ⟨x, y, h⟩
      exact ih ⟨_, _, h⟩
  obtain ⟨x, y, h⟩ := h
  obtain ⟨u, v, k⟩ := qs _ ⟨_, _, h⟩
  by_cases c : t > 3
  · rw [if_pos c] at k
    exact ⟨_, _, k⟩
  · rw [if_neg c] at k
    exact ⟨_, _, k⟩
end Mk

-- M5
/-! How many places and how many sides a region has. -/
namespace Mk

def HC (S : Pl) (n : Int) : Prop := ∃ l : List (Int × Int), l.Nodup ∧ (l.length : Int) = n ∧ ∀ p, p ∈ l ↔ S p.1 p.2
theorem HC.uniq {S : Pl} {n m : Int} (h : HC S n) (k : HC S m) : n = m := by
  obtain ⟨l, h1, h2, h3⟩ := h
  obtain ⟨l', k1, k2, k3⟩ := k
  have a := h1.length_le_of_subset fun p hp => (k3 p).mpr ((h3 p).mp hp)
  have b := k1.length_le_of_subset fun p hp => (h3 p).mpr ((k3 p).mp hp)
  omega
theorem HC.to {S T : Pl} {n m : Int} (h : HC S n) (e : ∀ x y, T x y ↔ S x y) (en : m = n) : HC T m := by
  have : T = S := pl_ext e
  subst this
  subst en
  exact h
theorem hc_none {S : Pl} (h : ∀ x y, ¬ S x y) : HC S 0 := ⟨[], List.nodup_nil, rfl, fun p => ⟨fun k => no k, fun k => (h _ _ k).elim⟩⟩
theorem hc_or {S T : Pl} {n m : Int} (h : HC S n) (k : HC T m) (d : ∀ x y, S x y → ¬ T x y) : HC (fun x y => S x y ∨ T x y) (n + m) := by
  obtain ⟨l, h1, h2, h3⟩ := h
  obtain ⟨l', k1, k2, k3⟩ := k
  refine ⟨l ++ l', List.nodup_append.mpr ⟨h1, k1, fun a ha b hb e => ?_⟩, by rw [List.length_append]; omega, fun p => ?_⟩
  · subst e
    exact d _ _ ((h3 a).mp ha) ((k3 a).mp hb)
  · rw [List.mem_append, h3, k3]
theorem hc_pt (a b : Int) : HC (fun x y => x = a ∧ y = b) 1 := ⟨[(a, b)], List.nodup_cons.mpr ⟨fun h => no h, List.nodup_nil⟩, rfl, fun p => by
  rw [List.mem_singleton]
  exact ⟨fun e => by rw [e]; exact ⟨rfl, rfl⟩, fun e => Prod.ext e.1 e.2⟩⟩
theorem nodup_map_inj {α β : Type} {f : α → β} (hf : ∀ a b, f a = f b → a = b) {l : List α} (h : l.Nodup) : (l.map f).Nodup := by
  refine List.pairwise_map.mpr (List.Pairwise.imp ?_ h)
  exact fun ne e => ne (hf _ _ e)
theorem hc_map {S T : Pl} {n : Int} (f g : Int × Int → Int × Int) (fg : ∀ p, f (g p) = p) (gf : ∀ p, g (f p) = p) (e : ∀ x y, T x y ↔ S (g (x, y)).1 (g (x, y)).2) (h : HC S n) : HC T n := by
  obtain ⟨l, h1, h2, h3⟩ := h
  refine ⟨l.map f, nodup_map_inj (fun a b k => by rw [← gf a, k, gf]) h1, by rw [List.length_map]; exact h2, fun p => ?_⟩
  rw [List.mem_map]
  constructor
  · rintro ⟨q, hq, rfl⟩
    refine (e _ _).mpr ?_
    show S (g (f q)).1 (g (f q)).2
    rw [gf]
    exact (h3 q).mp hq
  · intro k
    exact ⟨g p, (h3 _).mpr ((e p.1 p.2).mp k), fg p⟩

/-! ### turns -/
theorem hc_m {S : Pl} {n : Int} (h : HC S n) : HC (mS S) n :=
  hc_map (fun p => (-p.1 - 1, p.2)) (fun p => (-p.1 - 1, p.2)) (fun p => Prod.ext (by show -(-p.1 - 1) - 1 = p.1; omega) rfl) (fun p => Prod.ext (by show -(-p.1 - 1) - 1 = p.1; omega) rfl) (fun x y => Iff.rfl) h
theorem hc_q {S : Pl} {n : Int} (h : HC S n) : HC (qS S) n :=
  hc_map (fun p => (-p.2 - 1, p.1)) (fun p => (p.2, -p.1 - 1)) (fun p => Prod.ext (by show -(-p.1 - 1) - 1 = p.1; omega) rfl) (fun p => Prod.ext rfl (by show -(-p.2 - 1) - 1 = p.2; omega)) (fun x y => Iff.rfl) h
theorem hc_v {S : Pl} {n dx dy : Int} (h : HC S n) : HC (vS dx dy S) n :=
  hc_map (fun p => (p.1 + dx, p.2 + dy)) (fun p => (p.1 - dx, p.2 - dy)) (fun p => Prod.ext (Int.sub_add_cancel _ _) (Int.sub_add_cancel _ _)) (fun p => Prod.ext (Int.add_sub_cancel _ _) (Int.add_sub_cancel _ _)) (fun x y => Iff.rfl) h
theorem hc_qs {S : Pl} {n : Int} (h : HC S n) : ∀ k, HC (qsS k S) n
  | 0 => h
  | k + 1 => hc_q (hc_qs h k)
theorem hc_turn {S : Pl} {n : Int} {t : Nat} {dx dy : Int} (h : HC S n) : HC (turnS t dx dy S) n := by
  unfold turnS
  refine hc_v (hc_qs ?_ _)
  split
  · exact hc_m h
  · exact h
def rimV (S : Pl) : Pl := fun x y => ¬ (S x y ↔ S (x - 1) y)
def rimH (S : Pl) : Pl := fun x y => ¬ (S x y ↔ S x (y - 1))
structure RimOk (S : Pl) (v h : Int) : Prop where
  v : HC (rimV S) v
  h : HC (rimH S) h
theorem RimOk.m {S : Pl} {v h : Int} (r : RimOk S v h) : RimOk (mS S) v h := by
  refine ⟨hc_map (fun p => (-p.1, p.2)) (fun p => (-p.1, p.2)) (fun p => Prod.ext (Int.neg_neg _) rfl) (fun p => Prod.ext (Int.neg_neg _) rfl) (fun x y => ?_) r.v, ?_⟩
  · show ¬ (S (-x - 1) y ↔ S (-(x - 1) - 1) y) ↔ ¬ (S (-x) y ↔ S (-x - 1) y)
    rw [show -(x - 1) - 1 = -x by omega]
    exact not_congr iff_comm
  · exact hc_m r.h
theorem RimOk.q {S : Pl} {v h : Int} (r : RimOk S v h) : RimOk (qS S) h v := by
  refine ⟨hc_map (fun p => (-p.2, p.1)) (fun p => (p.2, -p.1)) (fun p => Prod.ext (Int.neg_neg _) rfl) (fun p => Prod.ext rfl (Int.neg_neg _)) (fun x y => ?_) r.h, ?_⟩
  · show ¬ (S y (-x - 1) ↔ S y (-(x - 1) - 1)) ↔ ¬ (S y (-x) ↔ S y (-x - 1))
    rw [show -(x - 1) - 1 = -x by omega]
    exact not_congr iff_comm
  · exact hc_q r.v
theorem RimOk.vv {S : Pl} {v h dx dy : Int} (r : RimOk S v h) : RimOk (vS dx dy S) v h := by
  refine ⟨(hc_v (dx := dx) (dy := dy) r.v).to (fun x y => ?_) rfl, (hc_v (dx := dx) (dy := dy) r.h).to (fun x y => ?_) rfl⟩
  · show ¬ (S (x - dx) (y - dy) ↔ S (x - 1 - dx) (y - dy)) ↔ ¬ (S (x - dx) (y - dy) ↔ S (x - dx - 1) (y - dy))
    rw [show x - 1 - dx = x - dx - 1 by omega]
  · show ¬ (S (x - dx) (y - dy) ↔ S (x - dx) (y - 1 - dy)) ↔ ¬ (S (x - dx) (y - dy) ↔ S (x - dx) (y - dy - 1))
    rw [show y - 1 - dy = y - dy - 1 by omega]
theorem RimOk.qs {S : Pl} {v h : Int} (r : RimOk S v h) : ∀ k, ∃ v' h', RimOk (qsS k S) v' h' ∧ v' + h' = v + h
  | 0 => ⟨v, h, r, rfl⟩
  | k + 1 => by
    obtain ⟨v', h', r', e⟩ := r.qs k
    exact ⟨h', v', r'.q, by omega⟩
theorem RimOk.turn {S : Pl} {v h : Int} {t : Nat} {dx dy : Int} (r : RimOk S v h) : ∃ v' h', RimOk (turnS t dx dy S) v' h' ∧ v' + h' = v + h := by
  unfold turnS
  have : ∃ v' h', RimOk (qsS (t % 4) (if t > 3 then mS S else S)) v' h' ∧ v' + h' = v + h := by
    split
    · exact r.m.qs _
    · exact r.qs _
  obtain ⟨v', h', r', e⟩ := this
  exact ⟨v', h', r'.vv, e⟩
theorem RimOk.uniq {S : Pl} {v h v' h' : Int} (r : RimOk S v h) (r' : RimOk S v' h') : v + h = v' + h' := by
  rw [r.v.uniq r'.v, r.h.uniq r'.h]

/-! ### counted -/
def long (l : Ln) : Int := (l.map fun s => s.2 - s.1).sum
theorem long_cons {s : Int × Int} {l : Ln} : long (s :: l) = s.2 - s.1 + long l := List.sum_cons
theorem hc_seg (c a : Int) : ∀ n : Nat, HC (fun x y => y = c ∧ a ≤ x ∧ x < a + n) n
  | 0 => hc_none fun x y h => by have := h.2; omega
  | n + 1 => by
    refine (hc_or (hc_seg c a n) (hc_pt (a + n) c) fun x y h k => by have := h.2; have := k.1; omega).to (fun x y => ?_) (by omega)
    constructor
    · rintro ⟨h1, h2, h3⟩
      by_cases e : x = a + n
      · exact .inr ⟨e, h1⟩
      · exact .inl ⟨h1, h2, by omega⟩
    · rintro (⟨h1, h2, h3⟩ | ⟨h1, h2⟩)
      · exact ⟨h1, h2, by omega⟩
      · exact ⟨h2, by omega, by omega⟩
theorem hc_seg' {c a b : Int} (h : a ≤ b) : HC (fun x y => y = c ∧ a ≤ x ∧ x < b) (b - a) := by
  refine (hc_seg c a (b - a).toNat).to (fun x y => ?_) (by omega)
  rw [show a + ((b - a).toNat : Int) = b by omega]
theorem hc_line {c : Int} : ∀ {l : Ln}, LOK l → HC (fun x y => y = c ∧ inL l x) (long l)
  | [], _ => hc_none fun x y h => inL_nil h.2
  | s :: l, h => by
    have p := h.pos s List.mem_cons_self
    refine (hc_or (hc_seg' (c := c) (Int.le_of_lt p)) (hc_line (c := c) h.tail) fun x y k w => ?_).to (fun x y => ?_) long_cons
    · have := h.behind w.2
      omega
    · rw [inL_cons, and_or_left]
theorem hc_rows {P : Int → Prop} {m : Int} (h : ∀ c, HC (fun x y => y = c ∧ P x) m) (lo : Int) : ∀ n : Nat, HC (fun x y => (lo ≤ y ∧ y < lo + n) ∧ P x) (n * m)
  | 0 => by
    refine (hc_none (S := fun x y => (lo ≤ y ∧ y < lo + (0 : Nat)) ∧ P x) fun x y h => by have := h.1; omega).to (fun _ _ => Iff.rfl) ?_
    show ((0 : Nat) : Int) * m = 0
    omega
  | n + 1 => by
    refine (hc_or (hc_rows h lo n) (h (lo + n)) fun x y k w => by have := k.1; have := w.1; omega).to (fun x y => ?_) ?_
    · rw [← or_and_right]
      refine and_congr ?_ Iff.rfl
      omega
    · rw [Int.natCast_add, Int.add_mul]
      omega
theorem hc_rows' {P : Int → Prop} {m : Int} (h : ∀ c, HC (fun x y => y = c ∧ P x) m) {lo hi : Int} (le : lo ≤ hi) : HC (fun x y => (lo ≤ y ∧ y < hi) ∧ P x) ((hi - lo) * m) := by
  refine (hc_rows h lo (hi - lo).toNat).to (fun x y => ?_) ?_
  · rw [show lo + ((hi - lo).toNat : Int) = hi by omega]
  · rw [show ((hi - lo).toNat : Int) = hi - lo by omega]
/-- what each band gives, together -/
theorem hc_bands {P : Ln → Int → Prop} {m : Ln → Int} (h : ∀ l, LOK l → ∀ c, HC (fun x y => y = c ∧ P l x) (m l)) : ∀ {r : Rg}, ROK r → HC (fun x y => ∃ b ∈ r, (b.1 ≤ y ∧ y < b.2.1) ∧ P b.2.2 x) (r.map fun b => (b.2.1 - b.1) * m b.2.2).sum
  | [], _ => hc_none fun x y ⟨_, hb, _⟩ => no hb
  | b :: r, k => by
    refine (hc_or (hc_rows' (h b.2.2 (k.lines b List.mem_cons_self)) (Int.le_of_lt (k.pos b List.mem_cons_self))) (hc_bands h k.tail) fun x y w ⟨d, hd, v⟩ => ?_).to (fun x y => ?_) List.sum_cons
    · have := ((List.pairwise_cons.mp k.gap).1 d hd).1
      omega
    · constructor
      · rintro ⟨d, hd, w⟩
        rcases List.mem_cons.mp hd with rfl | hd
        · exact .inl w
        · exact .inr ⟨d, hd, w⟩
      · rintro (w | ⟨d, hd, w⟩)
        · exact ⟨b, List.mem_cons_self, w⟩
        · exact ⟨d, List.mem_cons_of_mem _ hd, w⟩
def areaM (r : Rg) : Int := (r.map fun b => (b.2.1 - b.1) * long b.2.2).sum
theorem area_ok {r : Rg} (h : ROK r) : HC (inR r) (areaM r) :=
  (hc_bands (P := inL) (m := long) (fun l hl c => hc_line hl) h).to (fun x y => ⟨fun ⟨b, hb, a1, a2, a3⟩ => ⟨b, hb, ⟨a1, a2⟩, a3⟩, fun ⟨b, hb, ⟨a1, a2⟩, a3⟩ => ⟨b, hb, a1, a2, a3⟩⟩) rfl

/-! ### the rim -/
def isEnd (l : Ln) (x : Int) : Prop := ∃ s ∈ l, x = s.1 ∨ x = s.2
theorem LOK.apart : ∀ {l : Ln}, LOK l → ∀ {s t : Int × Int}, s ∈ l → t ∈ l → s = t ∨ s.2 < t.1 ∨ t.2 < s.1
  | c :: l, h, s, t, hs, ht => by
    have g := (List.pairwise_cons.mp h.gap).1
    rcases List.mem_cons.mp hs with e | hs'
    · rcases List.mem_cons.mp ht with e' | ht'
      · exact .inl (e.trans e'.symm)
      · exact .inr (.inl (by rw [e]; exact g t ht'))
    · rcases List.mem_cons.mp ht with e | ht'
      · exact .inr (.inr (by rw [e]; exact g s hs'))
      · exact h.tail.apart hs' ht'
theorem end_iff {l : Ln} (h : LOK l) {x : Int} : ¬ (inL l x ↔ inL l (x - 1)) ↔ isEnd l x := by
  constructor
  · intro k
    by_cases a : inL l x
    · by_cases b : inL l (x - 1)
      · exact (k ⟨fun _ => b, fun _ => a⟩).elim
      · obtain ⟨s, hs, a1, a2⟩ := a
        refine ⟨s, hs, .inl ?_⟩
        refine Classical.byContradiction fun w => b ⟨s, hs, by omega, by omega⟩
    · by_cases b : inL l (x - 1)
      · obtain ⟨s, hs, a1, a2⟩ := b
        refine ⟨s, hs, .inr ?_⟩
        refine Classical.byContradiction fun w => a ⟨s, hs, by omega, by omega⟩
      · exact (k ⟨fun z => (a z).elim, fun z => (b z).elim⟩).elim
  · rintro ⟨s, hs, e⟩ k
    have p := h.pos s hs
    rcases e with rfl | rfl
    · obtain ⟨t, ht, a1, a2⟩ := k.mp ⟨s, hs, Int.le_refl _, p⟩
      rcases h.apart hs ht with rfl | w | w <;> omega
    · obtain ⟨t, ht, a1, a2⟩ := k.mpr ⟨s, hs, by omega, by omega⟩
      rcases h.apart hs ht with rfl | w | w <;> omega
theorem hc_ends {c : Int} : ∀ {l : Ln}, LOK l → HC (fun x y => y = c ∧ isEnd l x) (2 * l.length)
  | [], _ => hc_none fun x y ⟨_, _, hb, _⟩ => no hb
  | s :: l, h => by
    have p := h.pos s List.mem_cons_self
    refine (hc_or (hc_or (hc_pt s.1 c) (hc_pt s.2 c) fun x y a b => by omega) (hc_ends (c := c) h.tail) fun x y a ⟨_, t, ht, b⟩ => ?_).to (fun x y => ?_) (by rw [List.length_cons]; omega)
    · have := (List.pairwise_cons.mp h.gap).1 t ht
      have := h.pos t (List.mem_cons_of_mem _ ht)
      rcases a with ⟨a, _⟩ | ⟨a, _⟩ <;> rcases b with b | b <;> omega
    · constructor
      · rintro ⟨e, t, ht, w⟩
        rcases List.mem_cons.mp ht with rfl | ht
        · exact .inl (w.imp (fun w => ⟨w, e⟩) fun w => ⟨w, e⟩)
        · exact .inr ⟨e, t, ht, w⟩
      · rintro ((⟨w, e⟩ | ⟨w, e⟩) | ⟨e, t, ht, w⟩)
        · exact ⟨e, s, List.mem_cons_self, .inl w⟩
        · exact ⟨e, s, List.mem_cons_self, .inr w⟩
        · exact ⟨e, t, List.mem_cons_of_mem _ ht, w⟩
theorem rimV_ok {r : Rg} (h : ROK r) : HC (rimV (inR r)) (r.map fun b => 2 * (b.2.1 - b.1) * (b.2.2.length : Int)).sum := by
  refine (hc_bands (P := isEnd) (m := fun l => 2 * (l.length : Int)) (fun l hl c => hc_ends hl) h).to (fun x y => ?_) ?_
  · show ¬ (inR r x y ↔ inR r (x - 1) y) ↔ _
    rw [h.inR_row, h.inR_row, end_iff (h.row_ok y)]
    constructor
    · rintro ⟨s, hs, e⟩
      obtain ⟨b, hb, b1, b2, b3⟩ := row_cons_full h (y := y) (fun z => by rw [z] at hs; exact no hs)
      rw [b3] at hs
      exact ⟨b, hb, ⟨b1, b2⟩, s, hs, e⟩
    · rintro ⟨b, hb, ⟨b1, b2⟩, w⟩
      rw [h.row_of hb b1 b2]
      exact w
  · congr 2
    funext b
    rw [Int.mul_comm 2, Int.mul_assoc]
def neB (a b : Bool) : Bool := a != b
/-- two lines mixed, as a function -/
def mixL (keep : Bool → Bool → Bool) (one other : Ln) : Ln := mrun keep ((edges one 0 ++ edges other 1).mergeSort fun a b => decide (a.1 ≤ b.1)) false false [] none
theorem mixL_ok {keep : Bool → Bool → Bool} (k0 : keep false false = false) {one other : Ln} (h1 : LOK one) (h2 : LOK other) :
    LOK (mixL keep one other) ∧ (∀ x, inLb (mixL keep one other) x = keep (inLb one x) (inLb other x)) ∧
      ∀ PX : Int → Prop, (∀ s ∈ one, PX s.1 ∧ PX s.2) → (∀ s ∈ other, PX s.1 ∧ PX s.2) → ∀ s ∈ mixL keep one other, PX s.1 ∧ PX s.2 := by
  refine mixline_ok k0 h1 h2 (List.mergeSort_perm _ _) ?_
  refine List.Pairwise.imp (fun h => of_decide_eq_true h) (List.pairwise_mergeSort (le := fun a b : Int × Int => decide (a.1 ≤ b.1)) ?_ ?_ _)
  · intro a b c h k
    have := of_decide_eq_true h
    have := of_decide_eq_true k
    exact decide_eq_true (by omega)
  · intro a b
    rcases Int.le_total a.1 b.1 with h | h
    · rw [decide_eq_true h]
      rfl
    · rw [decide_eq_true h, Bool.or_true]
theorem mixL_eq {keep : Bool → Bool → Bool} (k0 : keep false false = false) {one other : Ln} {es : List (Int × Int)} (h1 : LOK one) (h2 : LOK other) (pm : es.Perm (edges one 0 ++ edges other 1)) (so : es.Pairwise fun a b => a.1 ≤ b.1) :
    mrun keep es false false [] none = mixL keep one other := by
  obtain ⟨a, b, _⟩ := mixline_ok k0 h1 h2 pm so
  obtain ⟨c, d, _⟩ := mixL_ok k0 h1 h2
  exact a.extb c fun x => by rw [b, d]
theorem row_step {y : Int} : ∀ {r : Rg}, (∀ b ∈ r, b.1 ≠ y ∧ b.2.1 ≠ y) → row r y = row r (y - 1)
  | [], _ => rfl
  | b :: r, h => by
    obtain ⟨k1, k2⟩ := h b List.mem_cons_self
    rw [row, row, row_step fun c hc => h c (List.mem_cons_of_mem _ hc)]
    by_cases c : b.1 ≤ y ∧ y < b.2.1
    · rw [if_pos c, if_pos (by omega)]
    · rw [if_neg c, if_neg (by omega)]
theorem hc_cuts {g : Int → Ln} : ∀ {cuts : List Int}, cuts.Nodup → (∀ c ∈ cuts, LOK (g c)) → HC (fun x y => y ∈ cuts ∧ inL (g y) x) (cuts.map fun c => long (g c)).sum
  | [], _, _ => hc_none fun x y ⟨h, _⟩ => no h
  | c :: cuts, nd, h => by
    obtain ⟨n1, n2⟩ := List.nodup_cons.mp nd
    refine (hc_or (hc_line (c := c) (h c List.mem_cons_self)) (hc_cuts n2 fun d hd => h d (List.mem_cons_of_mem _ hd)) fun x y a b => ?_).to (fun x y => ?_) List.sum_cons
    · have := a.1
      subst this
      exact n1 b.1
    · constructor
      · rintro ⟨a, b⟩
        rcases List.mem_cons.mp a with rfl | a
        · exact .inl ⟨rfl, b⟩
        · exact .inr ⟨a, b⟩
      · rintro (⟨rfl, b⟩ | ⟨a, b⟩)
        · exact ⟨List.mem_cons_self, b⟩
        · exact ⟨List.mem_cons_of_mem _ a, b⟩
theorem rimH_ok {r : Rg} (h : ROK r) {cuts : List Int} (hc : cuts.Pairwise (· < ·)) (mem : ∀ b ∈ r, b.1 ∈ cuts ∧ b.2.1 ∈ cuts) : HC (rimH (inR r)) (cuts.map fun c => long (mixL neB (row r (c - 1)) (row r c))).sum := by
  have ok := fun c => mixL_ok (keep := neB) rfl (h.row_ok (c - 1)) (h.row_ok c)
  refine (hc_cuts (g := fun c => mixL neB (row r (c - 1)) (row r c)) (List.Pairwise.imp (fun k e => by omega) hc) fun c _ => (ok c).1).to (fun x y => ?_) rfl
  show ¬ (inR r x y ↔ inR r x (y - 1)) ↔ y ∈ cuts ∧ inL (mixL neB (row r (y - 1)) (row r y)) x
  rw [h.inR_row, h.inR_row, ← inLb_iff (l := mixL neB _ _), (ok y).2.1, ← inLb_iff, ← inLb_iff]
  constructor
  · intro k
    refine ⟨?_, ?_⟩
    · refine Classical.byContradiction fun w => k ?_
      rw [row_step (r := r) (y := y) fun b hb => ⟨fun e => w (e ▸ (mem b hb).1), fun e => w (e ▸ (mem b hb).2)⟩]
    · unfold neB
      cases a : inLb (row r (y - 1)) x <;> cases b : inLb (row r y) x <;> rw [a, b] at k <;> first | rfl | exact (k Iff.rfl).elim
  · rintro ⟨_, k⟩ e
    unfold neB at k
    cases a : inLb (row r (y - 1)) x <;> cases b : inLb (row r y) x <;> rw [a, b] at k e
    · cases k
    · exact absurd (e.mp rfl) (by decide)
    · exact absurd (e.mpr rfl) (by decide)
    · cases k
/-- the lines at the cuts, from below and from above -/
theorem cuts_up {r : Rg} {cuts : List Int} (hc : cuts.Pairwise (· < ·)) (mem : ∀ b ∈ r, b.1 ∈ cuts ∧ b.2.1 ∈ cuts) (ne : cuts ≠ []) : cuts.dropLast.map (row r) ++ [[]] = cuts.map (row r) := by
  rcases snoc_cases cuts with rfl | ⟨m, z, rfl⟩
  · exact (ne rfl).elim
  · rw [List.dropLast_concat, List.map_append]
    congr 1
    show [[]] = [row r z]
    rw [row_none fun b hb k => ?_]
    have := (mem b hb).2
    rcases List.mem_append.mp this with w | w
    · have := (List.pairwise_append.mp hc).2.2 _ w z (List.mem_singleton.mpr rfl)
      omega
    · rw [List.mem_singleton] at w
      omega
theorem drop_map {f g : Int → Ln} : ∀ {a : Int} {t : List Int}, (∀ p ∈ (a :: t).zip t, f p.1 = g p.2) → (a :: t).dropLast.map f = t.map g
  | _, [], _ => rfl
  | a, b :: t, h => by
    show f a :: (b :: t).dropLast.map f = g b :: t.map g
    rw [h (a, b) List.mem_cons_self, drop_map (a := b) (t := t) fun p hp => h p (List.mem_cons_of_mem _ hp)]
theorem cuts_dn {r : Rg} {cuts : List Int} (hc : cuts.Pairwise (· < ·)) (mem : ∀ b ∈ r, b.1 ∈ cuts ∧ b.2.1 ∈ cuts) (ne : cuts ≠ []) : [] :: cuts.dropLast.map (row r) = cuts.map fun c => row r (c - 1) := by
  cases cuts with
  | nil => exact (ne rfl).elim
  | cons a t =>
    rw [List.map_cons]
    congr 1
    · rw [row_none fun b hb k => ?_]
      rcases List.mem_cons.mp (mem b hb).1 with w | w
      · omega
      · have := (List.pairwise_cons.mp hc).1 _ w
        omega
    · refine drop_map fun p hp => ?_
      have g := gap_of hc (p := p) hp
      exact (row_flat hc (p := p) hp (y := p.2 - 1) (by omega) (by omega) mem).symm
end Mk

-- M6
/-! The pieces of a region. -/
namespace Mk

/-! ### heads -/
def rootF (h : List Nat) (n : Nat) : Nat := if _c : h.getD n n < n then rootF h (h.getD n n) else n
  termination_by n
def HdOk (h : List Nat) : Prop := ∀ (i m : Nat), h[i]? = some m → m ≤ i
theorem rootF_step {h : List Nat} {n m : Nat} (e : h[n]? = some m) (lt : m < n) : rootF h n = rootF h m := by
  have g : h.getD n n = m := by rw [List.getD_eq_getElem?_getD, e]; rfl
  rw [rootF, dif_pos (by rw [g]; exact lt), g]
theorem rootF_fix {h : List Nat} {n : Nat} (e : h[n]? = some n) : rootF h n = n := by
  have g : h.getD n n = n := by rw [List.getD_eq_getElem?_getD, e]; rfl
  rw [rootF, dif_neg (by rw [g]; exact Nat.lt_irrefl _)]
theorem root_ok {h : List Nat} (ok : HdOk h) : ∀ (k n : Nat), n ≤ k → n < h.length → rootF h n ≤ n ∧ h[rootF h n]? = some (rootF h n) := by
  intro k
  induction k with
  | zero =>
    intro n hk hn
    have e : h[n]? = some h[n] := List.getElem?_eq_getElem hn
    have := ok n _ e
    have e2 : h[n]? = some n := by rw [e]; congr 1; omega
    rw [rootF_fix e2]
    exact ⟨Nat.le_refl _, e2⟩
  | succ k ih =>
    intro n hk hn
    have e : h[n]? = some h[n] := List.getElem?_eq_getElem hn
    have le := ok n _ e
    by_cases c : h[n] = n
    · have e2 : h[n]? = some n := by rw [e, c]
      rw [rootF_fix e2]
      exact ⟨Nat.le_refl _, e2⟩
    · rw [rootF_step e (by omega)]
      have := ih h[n] (by omega) (by omega)
      exact ⟨by omega, this.2⟩
def ustep (h : List Nat) (p : Nat × Nat) : List Nat := h.set (if rootF h p.2 > rootF h p.1 then rootF h p.2 else rootF h p.1) (if rootF h p.2 < rootF h p.1 then rootF h p.2 else rootF h p.1)
theorem ustep_len (h : List Nat) (p : Nat × Nat) : (ustep h p).length = h.length := by
  unfold ustep
  rw [List.length_set]
theorem set_root {h : List Nat} (ok : HdOk h) {M m : Nat} (hM : h[M]? = some M) (hm : h[m]? = some m) (le : m ≤ M) :
    HdOk (h.set M m) ∧ ∀ (k i : Nat), i ≤ k → i < h.length → rootF (h.set M m) i = if rootF h i = M then m else rootF h i := by
  have lM := (List.getElem?_eq_some_iff.mp hM).1
  have atM : (h.set M m)[M]? = some m := List.getElem?_set_self lM
  have atO : ∀ i, i ≠ M → (h.set M m)[i]? = h[i]? := fun i hi => List.getElem?_set_ne (Ne.symm hi)
  refine ⟨fun i w e => ?_, fun k => ?_⟩
  · by_cases c : i = M
    · subst c
      rw [atM] at e
      cases e
      exact le
    · rw [atO i c] at e
      exact ok i w e
  · have rm : rootF (h.set M m) m = m := by
      by_cases c : m = M
      · subst c
        exact rootF_fix atM
      · exact rootF_fix (by rw [atO m c]; exact hm)
    induction k with
    | zero =>
      intro i hk hi
      have i0 : i = 0 := by omega
      subst i0
      have e : h[0]? = some h[0] := List.getElem?_eq_getElem hi
      have z : h[0] = 0 := by have := ok 0 _ e; omega
      have e2 : h[0]? = some 0 := by rw [e, z]
      rw [rootF_fix e2]
      by_cases c : 0 = M
      · rw [if_pos c]
        have m0 : m = 0 := by omega
        subst m0
        exact rm
      · rw [if_neg c]
        exact rootF_fix (by rw [atO 0 c]; exact e2)
    | succ k ih =>
      intro i hk hi
      have e : h[i]? = some h[i] := List.getElem?_eq_getElem hi
      have le' := ok i _ e
      by_cases cM : i = M
      · subst cM
        rw [rootF_fix hM, if_pos rfl]
        by_cases c : m = i
        · subst c
          exact rm
        · rw [rootF_step atM (by omega), rm]
      · by_cases c : h[i] = i
        · have e2 : h[i]? = some i := by rw [e, c]
          rw [rootF_fix e2, if_neg cM]
          exact rootF_fix (by rw [atO i cM]; exact e2)
        · rw [rootF_step (h := h) e (by omega), rootF_step (h := h.set M m) (by rw [atO i cM]; exact e) (by omega)]
          exact ih h[i] (by omega) (by omega)
inductive Cn (E : Nat → Nat → Prop) : Nat → Nat → Prop
  | refl (i : Nat) : Cn E i i
  | fwd {i j : Nat} : E i j → Cn E i j
  | symm {i j : Nat} : Cn E i j → Cn E j i
  | trans {i j k : Nat} : Cn E i j → Cn E j k → Cn E i k
theorem Cn.mono {E F : Nat → Nat → Prop} (h : ∀ i j, E i j → F i j) {i j : Nat} (k : Cn E i j) : Cn F i j := by
  induction k with
  | refl i => exact .refl i
  | fwd e => exact .fwd (h _ _ e)
  | symm _ ih => exact ih.symm
  | trans _ _ a b => exact a.trans b
structure UF (h : List Nat) (E : Nat → Nat → Prop) : Prop where
  ok : HdOk h
  eq : ∀ i j, i < h.length → j < h.length → (rootF h i = rootF h j ↔ Cn E i j)
theorem Cn.inside {E : Nat → Nat → Prop} {n : Nat} (h : ∀ i j, E i j → i < n ∧ j < n) {i j : Nat} (k : Cn E i j) : i = j ∨ (i < n ∧ j < n) := by
  induction k with
  | refl i => exact .inl rfl
  | fwd e => exact .inr (h _ _ e)
  | symm _ ih => exact ih.elim (fun e => .inl e.symm) fun e => .inr ⟨e.2, e.1⟩
  | trans _ _ a b =>
    rcases a with rfl | a
    · exact b
    · rcases b with rfl | b
      · exact .inr a
      · exact .inr ⟨a.1, b.2⟩
theorem uf_zero (n : Nat) : UF (List.range n) fun _ _ => False := by
  have at' : ∀ i, i < n → (List.range n)[i]? = some i := fun i hi => by rw [List.getElem?_range hi]
  refine ⟨fun i m e => ?_, fun i j hi hj => ?_⟩
  · have l := (List.getElem?_eq_some_iff.mp e).1
    rw [List.length_range] at l
    rw [at' i l] at e
    cases e
    exact Nat.le_refl _
  · rw [List.length_range] at hi hj
    rw [rootF_fix (at' i hi), rootF_fix (at' j hj)]
    constructor
    · rintro rfl
      exact .refl _
    · intro k
      induction k with
      | refl i => rfl
      | fwd e => exact e.elim
      | symm k ih =>
        exact (ih hj hi).symm
      | trans k1 k2 a b =>
        rcases k1.inside (n := n) (fun _ _ e => e.elim) with rfl | w
        · exact b hi hj
        · exact (a hi w.2).trans (b w.2 hj)
theorem uf_step {h : List Nat} {E : Nat → Nat → Prop} (u : UF h E) (hE : ∀ i j, E i j → i < h.length ∧ j < h.length) {p : Nat × Nat} (h1 : p.1 < h.length) (h2 : p.2 < h.length) : UF (ustep h p) fun i j => E i j ∨ (i = p.1 ∧ j = p.2) := by
  obtain ⟨a, b⟩ := p
  simp only at h1 h2
  have ra := root_ok u.ok a a (Nat.le_refl _) h1
  have rb := root_ok u.ok b b (Nat.le_refl _) h2
  have key : ∃ M m, ustep h (a, b) = h.set M m ∧ h[M]? = some M ∧ h[m]? = some m ∧ m ≤ M ∧ ((M = rootF h a ∧ m = rootF h b) ∨ (M = rootF h b ∧ m = rootF h a)) := by
    unfold ustep
    simp only
    by_cases c : rootF h b > rootF h a
    · rw [if_pos c, if_neg (by omega)]
      exact ⟨_, _, rfl, rb.2, ra.2, by omega, .inr ⟨rfl, rfl⟩⟩
    · rw [if_neg c]
      by_cases d : rootF h b < rootF h a
      · rw [if_pos d]
        exact ⟨_, _, rfl, ra.2, rb.2, by omega, .inl ⟨rfl, rfl⟩⟩
      · rw [if_neg d]
        exact ⟨_, _, rfl, ra.2, ra.2, Nat.le_refl _, .inl ⟨rfl, by omega⟩⟩
  obtain ⟨M, m, e, hM, hm, le, who⟩ := key
  obtain ⟨o, rt⟩ := set_root u.ok hM hm le
  have rt' : ∀ i, i < h.length → rootF (h.set M m) i = if rootF h i = M then m else rootF h i := fun i hi => rt i i (Nat.le_refl _) hi
  rw [e]
  have up : ∀ {i j}, Cn E i j → Cn (fun i j => E i j ∨ (i = a ∧ j = b)) i j := fun k => k.mono fun _ _ => .inl
  have ab : Cn (fun i j => E i j ∨ (i = a ∧ j = b)) a b := .fwd (.inr ⟨rfl, rfl⟩)
  have isM : ∀ i, i < h.length → rootF h i = M → Cn (fun i j => E i j ∨ (i = a ∧ j = b)) i a := fun i hi k => by
    rcases who with ⟨w, _⟩ | ⟨w, _⟩
    · exact up ((u.eq i a hi h1).mp (k.trans w))
    · exact (up ((u.eq i b hi h2).mp (k.trans w))).trans ab.symm
  have ism : ∀ i, i < h.length → rootF h i = m → Cn (fun i j => E i j ∨ (i = a ∧ j = b)) i a := fun i hi k => by
    rcases who with ⟨_, w⟩ | ⟨_, w⟩
    · exact (up ((u.eq i b hi h2).mp (k.trans w))).trans ab.symm
    · exact up ((u.eq i a hi h1).mp (k.trans w))
  refine ⟨o, fun i j hi hj => ?_⟩
  rw [List.length_set] at hi hj
  constructor
  · intro k
    rw [rt' i hi, rt' j hj] at k
    by_cases c : rootF h i = M
    · rw [if_pos c] at k
      by_cases d : rootF h j = M
      · exact (isM i hi c).trans (isM j hj d).symm
      · rw [if_neg d] at k
        exact (isM i hi c).trans (ism j hj k.symm).symm
    · rw [if_neg c] at k
      by_cases d : rootF h j = M
      · rw [if_pos d] at k
        exact (ism i hi k).trans (isM j hj d).symm
      · rw [if_neg d] at k
        exact up ((u.eq i j hi hj).mp k)
  · intro k
    have hE' : ∀ i j, (E i j ∨ (i = a ∧ j = b)) → i < h.length ∧ j < h.length := fun i j w => w.elim (hE i j) fun w => ⟨by omega, by omega⟩
    have same : ∀ i j, i < h.length → j < h.length → rootF h i = rootF h j → rootF (h.set M m) i = rootF (h.set M m) j := fun i j hi hj w => by rw [rt' i hi, rt' j hj, w]
    induction k with
    | refl i => rfl
    | fwd w =>
      rcases w with w | ⟨rfl, rfl⟩
      · exact same _ _ hi hj ((u.eq _ _ hi hj).mpr (.fwd w))
      · rw [rt' _ hi, rt' _ hj]
        rcases who with ⟨w1, w2⟩ | ⟨w1, w2⟩
        · rw [if_pos w1.symm]
          split
          · rfl
          · exact w2
        · rw [if_pos (c := rootF h _ = M) w1.symm]
          split
          · rfl
          · exact w2.symm
    | symm k ih => exact (ih hj hi).symm
    | trans k1 k2 x y =>
      rcases k1.inside hE' with rfl | w
      · exact y hi hj
      · exact (x hi w.2).trans (y w.2 hj)
theorem uf_fold {n : Nat} : ∀ {ps : List (Nat × Nat)} {h : List Nat} {E : Nat → Nat → Prop}, h.length = n → UF h E → (∀ i j, E i j → i < n ∧ j < n) → (∀ p ∈ ps, p.1 < n ∧ p.2 < n) →
    (ps.foldl ustep h).length = n ∧ UF (ps.foldl ustep h) fun i j => E i j ∨ (i, j) ∈ ps
  | [], h, E, hl, u, _, _ => by
    refine ⟨hl, ?_⟩
    have : (fun i j => E i j ∨ (i, j) ∈ ([] : List (Nat × Nat))) = E := funext fun i => funext fun j => propext ⟨fun w => w.elim id fun w => no w, .inl⟩
    rw [this]
    exact u
  | p :: ps, h, E, hl, u, hE, hp => by
    subst hl
    have s := uf_step u hE (hp p List.mem_cons_self).1 (hp p List.mem_cons_self).2
    obtain ⟨a, b⟩ := uf_fold (n := h.length) (ps := ps) (ustep_len h p) s (fun i j w => w.elim (hE i j) fun w => by rw [w.1, w.2]; exact hp p List.mem_cons_self) fun q hq => hp q (List.mem_cons_of_mem _ hq)
    refine ⟨a, ?_⟩
    have : (fun i j => E i j ∨ (i, j) ∈ p :: ps) = fun i j => (E i j ∨ (i = p.1 ∧ j = p.2)) ∨ (i, j) ∈ ps := funext fun i => funext fun j => propext (by
      rw [List.mem_cons, or_assoc]
      refine or_congr Iff.rfl (or_congr ⟨fun w => by rw [← w]; exact ⟨rfl, rfl⟩, fun w => Prod.ext w.1 w.2⟩ Iff.rfl))
    rw [this]
    exact b

/-! ### rectangles of a region, numbered -/
def rectsB (b : Bd) : List Rc := b.2.2.map fun s => (s.1, b.1, s.2, b.2.1)
def rectsM (r : Rg) : List Rc := r.flatMap rectsB
theorem rectsM_cons {b : Bd} {r : Rg} : rectsM (b :: r) = rectsB b ++ rectsM r := rfl
theorem mem_rectsB {b : Bd} {q : Rc} : q ∈ rectsB b ↔ ∃ s ∈ b.2.2, q = (s.1, b.1, s.2, b.2.1) := by
  unfold rectsB
  rw [List.mem_map]
  exact ⟨fun ⟨s, h, e⟩ => ⟨s, h, e.symm⟩, fun ⟨s, h, e⟩ => ⟨s, h, e.symm⟩⟩
theorem mem_rectsM {r : Rg} {q : Rc} : q ∈ rectsM r ↔ ∃ b ∈ r, q ∈ rectsB b := List.mem_flatMap
theorem rectsM_in {r : Rg} {x y : Int} : inCs (rectsM r) x y ↔ inR r x y := by
  constructor
  · rintro ⟨q, hq, k1, k2, k3, k4⟩
    obtain ⟨b, hb, hq⟩ := mem_rectsM.mp hq
    obtain ⟨s, hs, rfl⟩ := mem_rectsB.mp hq
    exact ⟨b, hb, k3, k4, s, hs, k1, k2⟩
  · rintro ⟨b, hb, k3, k4, s, hs, k1, k2⟩
    exact ⟨_, mem_rectsM.mpr ⟨b, hb, mem_rectsB.mpr ⟨s, hs, rfl⟩⟩, k1, k2, k3, k4⟩
theorem rectsM_ok {r : Rg} (h : ROK r) : ∀ q ∈ rectsM r, RcOk q := fun q hq => by
  obtain ⟨b, hb, hq⟩ := mem_rectsM.mp hq
  obtain ⟨s, hs, rfl⟩ := mem_rectsB.mp hq
  exact ⟨(h.lines b hb).pos s hs, h.pos b hb⟩
theorem rectsM_crs {r : Rg} {PX PY : Int → Prop} (h : Crs r PX PY) : ∀ q ∈ rectsM r, PX q.1 ∧ PX q.2.2.1 ∧ PY q.2.1 ∧ PY q.2.2.2 := fun q hq => by
  obtain ⟨b, hb, hq⟩ := mem_rectsM.mp hq
  obtain ⟨s, hs, rfl⟩ := mem_rectsB.mp hq
  obtain ⟨h1, h2, h3⟩ := h b hb
  exact ⟨(h3 s hs).1, (h3 s hs).2, h1, h2⟩
theorem rectsM_nodup : ∀ {r : Rg}, ROK r → (rectsM r).Nodup
  | [], _ => List.nodup_nil
  | b :: r, h => by
    rw [rectsM_cons]
    refine List.nodup_append.mpr ⟨?_, rectsM_nodup h.tail, fun p hp q hq e => ?_⟩
    · refine List.pairwise_map.mpr (List.Pairwise.imp_of_mem ?_ (h.lines b List.mem_cons_self).gap)
      intro s t hs ht g e
      have := (h.lines b List.mem_cons_self).pos s hs
      have e1 : s.1 = t.1 := congrArg (fun q : Rc => q.1) e
      omega
    · subst e
      obtain ⟨s, hs, e1⟩ := mem_rectsB.mp hp
      obtain ⟨c, hc, hq⟩ := mem_rectsM.mp hq
      obtain ⟨t, ht, e2⟩ := mem_rectsB.mp hq
      have g := ((List.pairwise_cons.mp h.gap).1 c hc).1
      have pb := h.pos b List.mem_cons_self
      rw [e1] at e2
      have e3 : b.1 = c.1 := congrArg (fun q : Rc => q.2.1) e2
      omega
/-- two rectangles of a line that have a place, or places side by side, are one -/
theorem rects_same {b : Bd} (h : LOK b.2.2) {p q : Rc} (hp : p ∈ rectsB b) (hq : q ∈ rectsB b) {x u : Int} (hx : p.1 ≤ x ∧ x < p.2.2.1) (hu : q.1 ≤ u ∧ u < q.2.2.1) (d : u = x ∨ u = x + 1 ∨ x = u + 1) : p = q := by
  obtain ⟨s, hs, rfl⟩ := mem_rectsB.mp hp
  obtain ⟨t, ht, rfl⟩ := mem_rectsB.mp hq
  simp only at hx hu
  rcases h.apart hs ht with rfl | w | w
  · rfl
  · omega
  · omega
theorem rects_row {r : Rg} (h : ROK r) {p q : Rc} (hp : p ∈ rectsM r) (hq : q ∈ rectsM r) {x u y : Int} (hx : inC p x y) (hu : inC q u y) (d : u = x ∨ u = x + 1 ∨ x = u + 1) : p = q := by
  obtain ⟨b, hb, hp'⟩ := mem_rectsM.mp hp
  obtain ⟨c, hc, hq'⟩ := mem_rectsM.mp hq
  obtain ⟨s, hs, e1⟩ := mem_rectsB.mp hp'
  obtain ⟨t, ht, e2⟩ := mem_rectsB.mp hq'
  have bc : row r y = b.2.2 := h.row_of hb (by have := hx.2.2; rw [e1] at this; exact this.1) (by have := hx.2.2; rw [e1] at this; exact this.2)
  have cc : row r y = c.2.2 := h.row_of hc (by have := hu.2.2; rw [e2] at this; exact this.1) (by have := hu.2.2; rw [e2] at this; exact this.2)
  have ebc : b = c := by
    have hy1 : b.1 ≤ y ∧ y < b.2.1 := by have := hx.2.2; rw [e1] at this; exact this
    have hy2 : c.1 ≤ y ∧ y < c.2.1 := by have := hu.2.2; rw [e2] at this; exact this
    obtain ⟨i, hi⟩ := List.mem_iff_getElem?.mp hb
    obtain ⟨j, hj⟩ := List.mem_iff_getElem?.mp hc
    obtain ⟨l1, f1⟩ := List.getElem?_eq_some_iff.mp hi
    obtain ⟨l2, f2⟩ := List.getElem?_eq_some_iff.mp hj
    rcases Nat.lt_trichotomy i j with w | w | w
    · have := (List.pairwise_iff_getElem.mp h.gap i j l1 l2 w).1
      rw [f1, f2] at this
      omega
    · subst w
      rw [← f1, ← f2]
    · have := (List.pairwise_iff_getElem.mp h.gap j i l2 l1 w).1
      rw [f1, f2] at this
      omega
  subst ebc
  exact rects_same (h.lines b hb) hp' hq' ⟨hx.1, hx.2.1⟩ ⟨hu.1, hu.2.1⟩ d

/-- the banks: each rectangle with its number -/
def bankM (lo hi : Int) : Nat → Ln → List (Nat × Rc)
  | _, [] => []
  | n, s :: l => (n, (s.1, lo, s.2, hi)) :: bankM lo hi (n + 1) l
def banksM : Nat → Rg → List (List (Nat × Rc))
  | _, [] => []
  | n, b :: r => bankM b.1 b.2.1 n b.2.2 :: banksM (n + b.2.2.length) r
theorem bankM_mem {lo hi : Int} : ∀ {l : Ln} {n : Nat} {e : Nat × Rc}, e ∈ bankM lo hi n l ↔ ∃ i s, l[i]? = some s ∧ e = (n + i, (s.1, lo, s.2, hi))
  | [], n, e => ⟨fun h => no h, fun ⟨i, s, h, _⟩ => by simp at h⟩
  | t :: l, n, e => by
    show e ∈ (n, (t.1, lo, t.2, hi)) :: bankM lo hi (n + 1) l ↔ _
    rw [List.mem_cons, bankM_mem]
    constructor
    · rintro (h | ⟨i, s, h, k⟩)
      · exact ⟨0, t, rfl, h⟩
      · exact ⟨i + 1, s, h, by rw [k]; congr 1; omega⟩
    · rintro ⟨i, s, h, k⟩
      cases i with
      | zero =>
        have : t = s := Option.some.inj h
        subst this
        exact .inl k
      | succ i => exact .inr ⟨i, s, h, by rw [k]; congr 1; omega⟩
theorem rectsB_get {b : Bd} {i : Nat} {q : Rc} : (rectsB b)[i]? = some q ↔ ∃ s, b.2.2[i]? = some s ∧ q = (s.1, b.1, s.2, b.2.1) := by
  unfold rectsB
  rw [List.getElem?_map]
  cases b.2.2[i]? with
  | none => exact ⟨fun h => (nomatch h), fun ⟨_, h, _⟩ => (nomatch h)⟩
  | some s =>
    constructor
    · intro h
      exact ⟨s, rfl, (Option.some.inj h).symm⟩
    · rintro ⟨t, h, e⟩
      cases h
      rw [e] <;> rfl
theorem rectsB_len {b : Bd} : (rectsB b).length = b.2.2.length := List.length_map ..
/-- a numbered rectangle of the banks is that of its number -/
theorem banksM_mem : ∀ {r : Rg} {n : Nat} {A : List (Nat × Rc)} {e : Nat × Rc}, A ∈ banksM n r → e ∈ A → ∃ i, e.1 = n + i ∧ (rectsM r)[i]? = some e.2
  | [], _, _, _, h, _ => no h
  | b :: r, n, A, e, h, he => by
    rcases List.mem_cons.mp (show A ∈ bankM b.1 b.2.1 n b.2.2 :: banksM (n + b.2.2.length) r from h) with rfl | h
    · obtain ⟨i, s, hi, rfl⟩ := bankM_mem.mp he
      refine ⟨i, rfl, ?_⟩
      rw [rectsM_cons, List.getElem?_append_left (by rw [rectsB_len]; exact (List.getElem?_eq_some_iff.mp hi).1)]
      exact rectsB_get.mpr ⟨s, hi, rfl⟩
    · obtain ⟨i, e1, e2⟩ := banksM_mem h he
      refine ⟨b.2.2.length + i, by omega, ?_⟩
      rw [rectsM_cons, List.getElem?_append_right (by rw [rectsB_len]; omega), rectsB_len, Nat.add_sub_cancel_left]
      exact e2
theorem banksM_flat : ∀ {r : Rg} {n i : Nat} {q : Rc}, (rectsM r)[i]? = some q → (n + i, q) ∈ (banksM n r).flatten
  | [], _, _, _, h => by simp [rectsM] at h
  | b :: r, n, i, q, h => by
    show (n + i, q) ∈ bankM b.1 b.2.1 n b.2.2 ++ (banksM (n + b.2.2.length) r).flatten
    rw [rectsM_cons] at h
    by_cases c : i < b.2.2.length
    · rw [List.getElem?_append_left (by rw [rectsB_len]; exact c)] at h
      obtain ⟨s, hs, rfl⟩ := rectsB_get.mp h
      exact List.mem_append_left _ (bankM_mem.mpr ⟨i, s, hs, rfl⟩)
    · rw [List.getElem?_append_right (by rw [rectsB_len]; omega), rectsB_len] at h
      have := banksM_flat (n := n + b.2.2.length) h
      rw [show n + b.2.2.length + (i - b.2.2.length) = n + i by omega] at this
      exact List.mem_append_right _ this
def touB (a b : Rc) : Bool := decide (a.2.2.2 = b.2.1) && decide ((if b.1 > a.1 then b.1 else a.1) < (if b.2.2.1 < a.2.2.1 then b.2.2.1 else a.2.2.1))
def touchM (A B : List (Nat × Rc)) : List (Nat × Nat) := A.flatMap fun a => (B.filter fun b => touB a.2 b.2).map fun b => (a.1, b.1)
def pairsM (rows : List (List (Nat × Rc))) : List (Nat × Nat) := (rows.zip rows.tail).flatMap fun p => touchM p.1 p.2
theorem touchM_mem {A B : List (Nat × Rc)} {p : Nat × Nat} : p ∈ touchM A B ↔ ∃ a ∈ A, ∃ b ∈ B, touB a.2 b.2 = true ∧ p = (a.1, b.1) := by
  unfold touchM
  rw [List.mem_flatMap]
  constructor
  · rintro ⟨a, ha, h⟩
    obtain ⟨b, hb, e⟩ := List.mem_map.mp h
    obtain ⟨b1, b2⟩ := List.mem_filter.mp hb
    exact ⟨a, ha, b, b1, b2, e.symm⟩
  · rintro ⟨a, ha, b, hb, t, e⟩
    exact ⟨a, ha, List.mem_map.mpr ⟨b, List.mem_filter.mpr ⟨hb, t⟩, e.symm⟩⟩
theorem pairsM_mem {rows : List (List (Nat × Rc))} {p : Nat × Nat} : p ∈ pairsM rows ↔ ∃ w ∈ rows.zip rows.tail, ∃ a ∈ w.1, ∃ b ∈ w.2, touB a.2 b.2 = true ∧ p = (a.1, b.1) := by
  unfold pairsM
  rw [List.mem_flatMap]
  exact ⟨fun ⟨w, hw, h⟩ => ⟨w, hw, touchM_mem.mp h⟩, fun ⟨w, hw, h⟩ => ⟨w, hw, touchM_mem.mpr h⟩⟩
theorem zip_tail_mem {α : Type} {l : List α} {p : α × α} (h : p ∈ l.zip l.tail) : p.1 ∈ l ∧ p.2 ∈ l := by
  have := List.of_mem_zip (a := p.1) (b := p.2) h
  exact ⟨this.1, List.mem_of_mem_tail this.2⟩
/-- places one above the other lie in one rectangle or in two that touch -/
theorem above : ∀ {r : Rg} (_ : ROK r) {n i j : Nat} {p q : Rc} {x y : Int}, (rectsM r)[i]? = some p → (rectsM r)[j]? = some q → inC p x y → inC q x (y + 1) → p = q ∨ (n + i, n + j) ∈ pairsM (banksM n r)
  | [], _, _, _, _, _, _, _, _, h, _, _, _ => by simp [rectsM] at h
  | b :: r, h, n, i, j, p, q, x, y, hi, hj, hp, hq => by
    rw [rectsM_cons] at hi hj
    have g := (List.pairwise_cons.mp h.gap).1
    by_cases ci : i < b.2.2.length
    · rw [List.getElem?_append_left (by rw [rectsB_len]; exact ci)] at hi
      by_cases cj : j < b.2.2.length
      · rw [List.getElem?_append_left (by rw [rectsB_len]; exact cj)] at hj
        exact .inl (rects_same (h.lines b List.mem_cons_self) (List.mem_of_getElem? hi) (List.mem_of_getElem? hj) ⟨hp.1, hp.2.1⟩ ⟨hq.1, hq.2.1⟩ (.inl rfl))
      · rw [List.getElem?_append_right (by rw [rectsB_len]; omega), rectsB_len] at hj
        obtain ⟨s, hs, ep⟩ := rectsB_get.mp hi
        cases r with
        | nil => simp [rectsM] at hj
        | cons c r =>
          have yb : y < b.2.1 := by have := hp.2.2.2; rw [ep] at this; exact this
          have gc := (g c List.mem_cons_self).1
          have pc := h.pos c (List.mem_cons_of_mem _ List.mem_cons_self)
          rw [rectsM_cons] at hj
          by_cases cc : j - b.2.2.length < c.2.2.length
          · rw [List.getElem?_append_left (by rw [rectsB_len]; exact cc)] at hj
            obtain ⟨t, ht, eq⟩ := rectsB_get.mp hj
            refine .inr (pairsM_mem.mpr ⟨(bankM b.1 b.2.1 n b.2.2, bankM c.1 c.2.1 (n + b.2.2.length) c.2.2), List.mem_cons_self, (n + i, p), bankM_mem.mpr ⟨i, s, hs, by rw [ep]⟩, (n + j, q), bankM_mem.mpr ⟨j - b.2.2.length, t, ht, by rw [eq]; congr 1; omega⟩, ?_, rfl⟩)
            unfold touB
            obtain ⟨p1, p2, p3, p4⟩ := hp
            obtain ⟨q1, q2, q3, q4⟩ := hq
            subst ep eq
            simp only at p1 p2 p3 p4 q1 q2 q3 q4 ⊢
            rw [decide_eq_true (show b.2.1 = c.1 by omega), Bool.true_and]
            refine decide_eq_true ?_
            (repeat' split) <;> omega
          · rw [List.getElem?_append_right (by rw [rectsB_len]; omega)] at hj
            obtain ⟨d, hd, hq'⟩ := mem_rectsM.mp (List.mem_of_getElem? hj)
            obtain ⟨t, ht, eq⟩ := mem_rectsB.mp hq'
            have gd := ((List.pairwise_cons.mp h.tail.gap).1 d hd).1
            have q3 := hq.2.2.1
            rw [eq] at q3
            simp only at q3
            omega
    · rw [List.getElem?_append_right (by rw [rectsB_len]; omega), rectsB_len] at hi
      by_cases cj : j < b.2.2.length
      · rw [List.getElem?_append_left (by rw [rectsB_len]; exact cj)] at hj
        obtain ⟨t, ht, eq⟩ := rectsB_get.mp hj
        obtain ⟨d, hd, hp'⟩ := mem_rectsM.mp (List.mem_of_getElem? hi)
        obtain ⟨s, hs, ep⟩ := mem_rectsB.mp hp'
        have gd := (g d hd).1
        have p3 := hp.2.2.1
        have q4 := hq.2.2.2
        rw [ep] at p3
        rw [eq] at q4
        simp only at p3 q4
        omega
      · rw [List.getElem?_append_right (by rw [rectsB_len]; omega), rectsB_len] at hj
        rcases above h.tail (n := n + b.2.2.length) hi hj hp hq with e | e
        · exact .inl e
        · refine .inr ?_
          rw [show n + b.2.2.length + (i - b.2.2.length) = n + i by omega, show n + b.2.2.length + (j - b.2.2.length) = n + j by omega] at e
          obtain ⟨w, hw, k⟩ := pairsM_mem.mp e
          refine pairsM_mem.mpr ⟨w, ?_, k⟩
          cases r with
          | nil => exact no hw
          | cons c r => exact List.mem_cons_of_mem _ hw
/-- two that touch have places side by side -/
theorem touch_adj {r : Rg} (h : ROK r) {n i j : Nat} (e : (n + i, n + j) ∈ pairsM (banksM n r)) : ∃ p q, (rectsM r)[i]? = some p ∧ (rectsM r)[j]? = some q ∧ ∃ x y, inC p x y ∧ inC q x (y + 1) := by
  obtain ⟨w, hw, a, ha, b, hb, t, e⟩ := pairsM_mem.mp e
  obtain ⟨m1, m2⟩ := zip_tail_mem hw
  obtain ⟨i', e1, f1⟩ := banksM_mem m1 ha
  obtain ⟨j', e2, f2⟩ := banksM_mem m2 hb
  have g1 : n + i = a.1 := congrArg (fun z : Nat × Nat => z.1) e
  have g2 : n + j = b.1 := congrArg (fun z : Nat × Nat => z.2) e
  obtain rfl : i = i' := by omega
  obtain rfl : j = j' := by omega
  refine ⟨a.2, b.2, f1, f2, ?_⟩
  have o1 := rectsM_ok h _ (List.mem_of_getElem? f1)
  have o2 := rectsM_ok h _ (List.mem_of_getElem? f2)
  unfold touB at t
  obtain ⟨t1, t2⟩ := (Bool.and_eq_true_iff).mp t
  have t1 := of_decide_eq_true t1
  have t2 := of_decide_eq_true t2
  unfold RcOk at o1 o2
  refine ⟨if b.2.1 > a.2.1 then b.2.1 else a.2.1, a.2.2.2.2 - 1, ⟨?_, ?_, ?_, ?_⟩, ⟨?_, ?_, ?_, ?_⟩⟩ <;> (revert t2; (repeat' split) <;> intro t2 <;> omega)
theorem pairs_in {r : Rg} {p : Nat × Nat} (h : p ∈ pairsM (banksM 0 r)) : p.1 < (rectsM r).length ∧ p.2 < (rectsM r).length := by
  obtain ⟨w, hw, a, ha, b, hb, _, e⟩ := pairsM_mem.mp h
  obtain ⟨m1, m2⟩ := zip_tail_mem hw
  obtain ⟨i', e1, f1⟩ := banksM_mem m1 ha
  obtain ⟨j', e2, f2⟩ := banksM_mem m2 hb
  rw [e]
  have := (List.getElem?_eq_some_iff.mp f1).1
  have := (List.getElem?_eq_some_iff.mp f2).1
  exact ⟨by show a.1 < _; omega, by show b.1 < _; omega⟩

/-! ### ways and numbers -/
theorem way_x {S : Pl} {x y : Int} : ∀ n : Nat, (∀ i : Nat, i ≤ n → S (x + i) y) → Way S x y (x + n) y
  | 0, h => by
    have := h 0 (Nat.le_refl _)
    have e : x + ((0 : Nat) : Int) = x := by omega
    rw [e] at this ⊢
    exact .refl this
  | n + 1, h => (way_x n fun i hi => h i (by omega)).step (h (n + 1) (Nat.le_refl _)) (by unfold adj; omega)
theorem way_y {S : Pl} {x y : Int} : ∀ n : Nat, (∀ i : Nat, i ≤ n → S x (y + i)) → Way S x y x (y + n)
  | 0, h => by
    have := h 0 (Nat.le_refl _)
    have e : y + ((0 : Nat) : Int) = y := by omega
    rw [e] at this ⊢
    exact .refl this
  | n + 1, h => (way_y n fun i hi => h i (by omega)).step (h (n + 1) (Nat.le_refl _)) (by unfold adj; omega)
theorem rect_way {S : Pl} {q : Rc} (h : ∀ x y, inC q x y → S x y) {x y u v : Int} (h1 : inC q x y) (h2 : inC q u v) : Way S x y u v := by
  have hx : ∀ {x u y : Int}, inC q x y → inC q u y → x ≤ u → Way S x y u y := fun {x u y} a b le => by
    have := way_x (S := S) (x := x) (y := y) (u - x).toNat fun i hi => h _ _ (by unfold inC at *; omega)
    rw [show x + ((u - x).toNat : Int) = u by omega] at this
    exact this
  have hy : ∀ {x y v : Int}, inC q x y → inC q x v → y ≤ v → Way S x y x v := fun {x y v} a b le => by
    have := way_y (S := S) (x := x) (y := y) (v - y).toNat fun i hi => h _ _ (by unfold inC at *; omega)
    rw [show y + ((v - y).toNat : Int) = v by omega] at this
    exact this
  have mid : inC q u y := by unfold inC at *; omega
  have a : Way S x y u y := by
    by_cases c : x ≤ u
    · exact hx h1 mid c
    · exact (hx mid h1 (by omega)).symm
  have b : Way S u y u v := by
    by_cases c : y ≤ v
    · exact hy mid h2 c
    · exact (hy h2 mid (by omega)).symm
  exact a.trans b
theorem rc_some {q : Rc} (h : RcOk q) : inC q q.1 q.2.1 := by
  unfold RcOk at h
  exact ⟨Int.le_refl _, h.1, Int.le_refl _, h.2⟩
def EOf (r : Rg) : Nat → Nat → Prop := fun i j => (i, j) ∈ pairsM (banksM 0 r)
theorem nodup_at {α : Type} {l : List α} (h : l.Nodup) {i j : Nat} {a : α} (hi : l[i]? = some a) (hj : l[j]? = some a) : i = j := by
  obtain ⟨l1, e1⟩ := List.getElem?_eq_some_iff.mp hi
  obtain ⟨l2, e2⟩ := List.getElem?_eq_some_iff.mp hj
  rcases Nat.lt_trichotomy i j with w | w | w
  · exact (List.pairwise_iff_getElem.mp h i j l1 l2 w (e1.trans e2.symm)).elim
  · exact w
  · exact (List.pairwise_iff_getElem.mp h j i l2 l1 w (e2.trans e1.symm)).elim
theorem way_iff {r : Rg} (h : ROK r) {i j : Nat} {p q : Rc} {x y u v : Int} (hi : (rectsM r)[i]? = some p) (hj : (rectsM r)[j]? = some q) (hp : inC p x y) (hq : inC q u v) : Way (inR r) x y u v ↔ Cn (EOf r) i j := by
  have sub : ∀ {k : Nat} {c : Rc}, (rectsM r)[k]? = some c → ∀ a b, inC c a b → inR r a b := fun hk a b w => rectsM_in.mp ⟨_, List.mem_of_getElem? hk, w⟩
  have nd := rectsM_nodup h
  constructor
  · intro w
    have gen : ∀ {u v : Int}, Way (inR r) x y u v → ∀ {j : Nat} {q : Rc}, (rectsM r)[j]? = some q → inC q u v → Cn (EOf r) i j := by
      intro u v w
      induction w with
      | refl _ =>
        intro j q hj hq
        have : p = q := rects_row h (List.mem_of_getElem? hi) (List.mem_of_getElem? hj) hp hq (.inl rfl)
        subst this
        rw [nodup_at nd hi hj]
        exact .refl _
      | step w' s ad ih =>
        intro j q hj hq
        obtain ⟨c, hc, ic⟩ := rectsM_in.mpr w'.right
        obtain ⟨k, hk⟩ := List.mem_iff_getElem?.mp hc
        refine (ih hk ic).trans ?_
        have same : c = q → Cn (EOf r) k j := fun e => by
          subst e
          rw [nodup_at nd hk hj]
          exact .refl _
        unfold adj at ad
        rcases ad with ⟨rfl, e | e⟩ | ⟨rfl, e⟩
        · subst e
          rcases above h (n := 0) hj hk hq ic with e | e
          · exact same e.symm
          · rw [Nat.zero_add, Nat.zero_add] at e
            exact (Cn.fwd e).symm
        · subst e
          rcases above h (n := 0) hk hj ic hq with e | e
          · exact same e
          · rw [Nat.zero_add, Nat.zero_add] at e
            exact .fwd e
        · exact same (rects_row h (List.mem_of_getElem? hk) (List.mem_of_getElem? hj) ic hq (by omega))
    exact gen w hj hq
  · intro k
    have gen : ∀ {i j : Nat}, Cn (EOf r) i j → ∀ {p q : Rc} {x y u v : Int}, (rectsM r)[i]? = some p → (rectsM r)[j]? = some q → inC p x y → inC q u v → Way (inR r) x y u v := by
      intro i j k
      induction k with
      | refl i =>
        intro p q x y u v hi hj hp hq
        rw [hi] at hj
        cases hj
        exact rect_way (sub hi) hp hq
      | fwd e =>
        intro p q x y u v hi hj hp hq
        have e0 : ∀ i j, EOf r i j → (0 + i, 0 + j) ∈ pairsM (banksM 0 r) := fun i j e => by
          rw [Nat.zero_add, Nat.zero_add]
          exact e
        obtain ⟨p', q', f1, f2, a, b, k1, k2⟩ := touch_adj h (n := 0) (e0 _ _ e)
        rw [hi] at f1
        rw [hj] at f2
        cases f1
        cases f2
        exact ((rect_way (sub hi) hp k1).trans (Way.one (sub hi _ _ k1) (sub hj _ _ k2) (by unfold adj; omega))).trans (rect_way (sub hj) k2 hq)
      | symm _ ih =>
        intro p q x y u v hi hj hp hq
        exact (ih hj hi hq hp).symm
      | trans k1 k2 a b =>
        intro p q x y u v hi hj hp hq
        rcases k1.inside (n := (rectsM r).length) (fun _ _ e => pairs_in e) with rfl | w
        · exact b hi hj hp hq
        · have f := List.getElem?_eq_getElem w.2
          have o := rc_some (rectsM_ok h _ (List.mem_of_getElem? f))
          exact (a hi f hp o).trans (b f hj o hq)
    exact gen k hi hj hp hq

/-! ### the groups -/
def headsM (r : Rg) : List Nat := (pairsM (banksM 0 r)).foldl ustep (List.range (rectsM r).length)
theorem heads_uf (r : Rg) : (headsM r).length = (rectsM r).length ∧ UF (headsM r) (EOf r) := by
  obtain ⟨a, b⟩ := uf_fold (n := (rectsM r).length) (ps := pairsM (banksM 0 r)) (List.length_range) (uf_zero _) (fun _ _ e => e.elim) fun p hp => pairs_in hp
  refine ⟨a, ?_⟩
  have : (fun i j => False ∨ (i, j) ∈ pairsM (banksM 0 r)) = EOf r := funext fun i => funext fun j => propext ⟨fun w => w.elim False.elim id, .inr⟩
  rw [← this]
  exact b
abbrev Gr := List (Nat × List Rc)
def gstep (f : Nat → Nat) (g : Gr) (e : Nat × Rc) : Gr :=
  if g.any (fun p => decide (p.1 = f e.1)) = true then g.map fun p => if p.1 = f e.1 then (p.1, p.2 ++ [e.2]) else p else g ++ [(f e.1, [e.2])]
structure GOk (f : Nat → Nat) (ns : List (Nat × Rc)) (g : Gr) : Prop where
  nd : (g.map (·.1)).Nodup
  all : ∀ p ∈ g, p.2 = (ns.filter fun e => decide (f e.1 = p.1)).map (·.2) ∧ ∃ e ∈ ns, f e.1 = p.1
  has : ∀ e ∈ ns, ∃ p ∈ g, p.1 = f e.1
theorem gstep_ok {f : Nat → Nat} {ns : List (Nat × Rc)} {g : Gr} {e : Nat × Rc} (h : GOk f ns g) : GOk f (ns ++ [e]) (gstep f g e) := by
  have other : ∀ k, ¬ f e.1 = k → ((ns ++ [e]).filter fun e => decide (f e.1 = k)).map (·.2) = (ns.filter fun e => decide (f e.1 = k)).map (·.2) := fun k hk => by
    rw [List.filter_append, List.filter_cons, if_neg (by rw [decide_eq_false hk]; decide), List.filter_nil, List.append_nil]
  have own : ((ns ++ [e]).filter fun d => decide (f d.1 = f e.1)).map (·.2) = (ns.filter fun d => decide (f d.1 = f e.1)).map (·.2) ++ [e.2] := by
    rw [List.filter_append, List.filter_cons, if_pos (decide_eq_true rfl), List.filter_nil, List.map_append]
    rfl
  unfold gstep
  by_cases c : g.any (fun p => decide (p.1 = f e.1)) = true
  · rw [if_pos c]
    obtain ⟨p0, hp0, e0⟩ := List.any_eq_true.mp c
    have e0 := of_decide_eq_true e0
    refine ⟨?_, fun p hp => ?_, fun d hd => ?_⟩
    · have : ((g.map fun p => if p.1 = f e.1 then (p.1, p.2 ++ [e.2]) else p).map (·.1)) = g.map (·.1) := by
        rw [List.map_map]
        refine List.map_congr_left fun p _ => ?_
        show (if p.1 = f e.1 then (p.1, p.2 ++ [e.2]) else p).1 = p.1
        split <;> rfl
      rw [this]
      exact h.nd
    · obtain ⟨q, hq, rfl⟩ := List.mem_map.mp hp
      obtain ⟨a, d, hd, w⟩ := h.all q hq
      by_cases k : q.1 = f e.1
      · rw [if_pos k]
        refine ⟨?_, d, List.mem_append_left _ hd, w⟩
        show q.2 ++ [e.2] = _
        simp only [k]
        rw [own, a, k]
      · rw [if_neg k]
        exact ⟨by rw [other _ (fun z => k z.symm)]; exact a, d, List.mem_append_left _ hd, w⟩
    · rcases List.mem_append.mp hd with hd | hd
      · obtain ⟨q, hq, w⟩ := h.has d hd
        refine ⟨_, List.mem_map.mpr ⟨q, hq, rfl⟩, ?_⟩
        split <;> exact w
      · rw [List.mem_singleton.mp hd]
        refine ⟨_, List.mem_map.mpr ⟨p0, hp0, rfl⟩, ?_⟩
        split <;> exact e0
  · rw [if_neg c]
    have nw : ∀ p ∈ g, ¬ p.1 = f e.1 := fun p hp k => c (List.any_eq_true.mpr ⟨p, hp, decide_eq_true k⟩)
    refine ⟨?_, fun p hp => ?_, fun d hd => ?_⟩
    · rw [List.map_append]
      refine List.nodup_append.mpr ⟨h.nd, List.nodup_cons.mpr ⟨fun z => no z, List.nodup_nil⟩, fun a ha b hb k => ?_⟩
      obtain ⟨p, hp, rfl⟩ := List.mem_map.mp ha
      rw [List.mem_singleton.mp hb] at k
      exact nw p hp k
    · rcases List.mem_append.mp hp with hp | hp
      · obtain ⟨a, d, hd, w⟩ := h.all p hp
        exact ⟨by rw [other _ (fun z => nw p hp z.symm)]; exact a, d, List.mem_append_left _ hd, w⟩
      · rw [List.mem_singleton.mp hp]
        refine ⟨?_, e, List.mem_append_right _ (List.mem_singleton.mpr rfl), rfl⟩
        simp only
        rw [own]
        have : (ns.filter fun d => decide (f d.1 = f e.1)) = [] := List.filter_eq_nil_iff.mpr fun d hd k => by
          obtain ⟨p, hp, w⟩ := h.has d hd
          exact nw p hp (w.trans (of_decide_eq_true k))
        rw [this]
        rfl
    · rcases List.mem_append.mp hd with hd | hd
      · obtain ⟨p, hp, w⟩ := h.has d hd
        exact ⟨p, List.mem_append_left _ hp, w⟩
      · rw [List.mem_singleton.mp hd]
        exact ⟨_, List.mem_append_right _ (List.mem_singleton.mpr rfl), rfl⟩
theorem gfold_ok {f : Nat → Nat} : ∀ {ns ms : List (Nat × Rc)} {g : Gr}, GOk f ms g → GOk f (ms ++ ns) (ns.foldl (gstep f) g)
  | [], ms, g, h => by rw [List.append_nil]; exact h
  | e :: ns, ms, g, h => by
    have := gfold_ok (ns := ns) (gstep_ok (e := e) h)
    rw [List.append_assoc] at this
    exact this
theorem gok_nil {f : Nat → Nat} : GOk f [] [] := ⟨List.nodup_nil, fun p h => no h, fun p h => no h⟩

/-- the pieces of a region, in some order -/
structure Pcs (S : Pl) (L : List Rg) : Prop where
  nd : L.Nodup
  ok : ∀ R ∈ L, ROK R ∧ IsPc S (inR R)
  has : ∀ T, IsPc S T → ∃ R ∈ L, inR R = T
theorem Pcs.perm {S : Pl} {L M : List Rg} (h : Pcs S L) (k : Pcs S M) : L.Perm M := by
  have sub : ∀ {L M : List Rg}, Pcs S L → Pcs S M → ∀ R, R ∈ L → R ∈ M := fun {L M} h k R hR => by
    obtain ⟨a, b⟩ := h.ok R hR
    obtain ⟨Q, hQ, e⟩ := k.has _ b
    have : Q = R := (k.ok Q hQ).1.ext a fun x y => by rw [e]
    rw [← this]
    exact hQ
  exact (List.perm_ext_iff_of_nodup h.nd k.nd).mpr fun R => ⟨sub h k R, sub k h R⟩
/-- what the program tells: a region for each group -/
theorem pieces_ok {r : Rg} (h : ROK r) {g : Gr} (hg : g = ((banksM 0 r).flatten).foldl (gstep (rootF (headsM r))) []) {ks : List Nat} (hk : ks.Perm (g.map (·.1))) {L : List Rg} (len : L.length = ks.length)
    (hL : ∀ (i k : Nat) (R : Rg), ks[i]? = some k → L[i]? = some R → ROK R ∧ ∃ l, (k, l) ∈ g ∧ ∀ x y, inR R x y ↔ inCs l x y) : Pcs (inR r) L := by
  obtain ⟨hl, u⟩ := heads_uf r
  have G : GOk (rootF (headsM r)) ((banksM 0 r).flatten) g := by
    have := gfold_ok (ns := (banksM 0 r).flatten) (gok_nil (f := rootF (headsM r)))
    rw [List.nil_append, ← hg] at this
    exact this
  have node : ∀ e, e ∈ (banksM 0 r).flatten ↔ (rectsM r)[e.1]? = some e.2 := fun e => by
    constructor
    · intro he
      obtain ⟨A, hA, heA⟩ := List.mem_flatten.mp he
      obtain ⟨i, e1, e2⟩ := banksM_mem hA heA
      rw [Nat.zero_add] at e1
      rw [e1]
      exact e2
    · intro he
      have := banksM_flat (n := 0) he
      rw [Nat.zero_add] at this
      exact this
  -- a group's places
  have grp : ∀ k l, (k, l) ∈ g → ∀ x y, inCs l x y ↔ ∃ i q, (rectsM r)[i]? = some q ∧ rootF (headsM r) i = k ∧ inC q x y := fun k l hkl x y => by
    have e := (G.all _ hkl).1
    simp only at e
    rw [e]
    constructor
    · rintro ⟨q, hq, w⟩
      obtain ⟨d, hd, rfl⟩ := List.mem_map.mp hq
      obtain ⟨d1, d2⟩ := List.mem_filter.mp hd
      exact ⟨d.1, d.2, (node d).mp d1, of_decide_eq_true d2, w⟩
    · rintro ⟨i, q, hi, hr, w⟩
      exact ⟨q, List.mem_map.mpr ⟨(i, q), List.mem_filter.mpr ⟨(node (i, q)).mpr hi, decide_eq_true hr⟩, rfl⟩, w⟩
  have lt : ∀ {i : Nat} {q : Rc}, (rectsM r)[i]? = some q → i < (headsM r).length := fun hi => by rw [hl]; exact (List.getElem?_eq_some_iff.mp hi).1
  -- a group is a piece
  have pc : ∀ i q x y, (rectsM r)[i]? = some q → inC q x y → ∀ l, (rootF (headsM r) i, l) ∈ g → (fun a b => inCs l a b) = fun a b => Way (inR r) x y a b := fun i q x y hi hq l hl' => pl_ext fun a b => by
    rw [grp _ _ hl' a b]
    constructor
    · rintro ⟨j, p, hj, e, w⟩
      exact (way_iff h hi hj hq w).mpr ((u.eq i j (lt hi) (lt hj)).mp e.symm)
    · intro w
      obtain ⟨c, hc, ic⟩ := rectsM_in.mpr w.right
      obtain ⟨j, hj⟩ := List.mem_iff_getElem?.mp hc
      exact ⟨j, c, hj, ((u.eq i j (lt hi) (lt hj)).mpr ((way_iff h hi hj hq ic).mp w)).symm, ic⟩
  have keyOf : ∀ k l, (k, l) ∈ g → ∃ i q, (rectsM r)[i]? = some q ∧ rootF (headsM r) i = k := fun k l hkl => by
    obtain ⟨e, he, w⟩ := (G.all _ hkl).2
    exact ⟨e.1, e.2, (node e).mp he, w⟩
  have ksnd : ks.Nodup := hk.nodup_iff.mpr G.nd
  have getL : ∀ R ∈ L, ∃ i k, ks[i]? = some k ∧ L[i]? = some R := fun R hR => by
    obtain ⟨i, hi⟩ := List.mem_iff_getElem?.mp hR
    have l1 := (List.getElem?_eq_some_iff.mp hi).1
    exact ⟨i, _, List.getElem?_eq_getElem (by omega), hi⟩
  refine ⟨?_, fun R hR => ?_, fun T hT => ?_⟩
  · refine List.pairwise_iff_getElem.mpr fun i j hi hj lij e => ?_
    have ei := List.getElem?_eq_getElem hi
    have ej := List.getElem?_eq_getElem hj
    have ki := List.getElem?_eq_getElem (l := ks) (i := i) (by omega)
    have kj := List.getElem?_eq_getElem (l := ks) (i := j) (by omega)
    obtain ⟨o1, l1, m1, n1⟩ := hL i _ _ ki ei
    obtain ⟨o2, l2, m2, n2⟩ := hL j _ _ kj ej
    obtain ⟨a, q, ha, ra⟩ := keyOf _ _ m1
    have iq := rc_some (rectsM_ok h _ (List.mem_of_getElem? ha))
    have w1 : inCs l1 q.1 q.2.1 := (grp _ _ m1 _ _).mpr ⟨a, q, ha, ra, iq⟩
    have w2 := (n1 _ _).mpr w1
    rw [e] at w2
    obtain ⟨b, p, hb, rb, ip⟩ := (grp _ _ m2 _ _).mp ((n2 _ _).mp w2)
    have eqp : q = p := rects_row h (List.mem_of_getElem? ha) (List.mem_of_getElem? hb) iq ip (.inl rfl)
    subst eqp
    have := nodup_at (rectsM_nodup h) ha hb
    subst this
    have kk : ks[i]? = ks[j]? := by rw [ki, kj, ← ra, ← rb]
    rw [ki] at kk
    have := nodup_at ksnd ki kk.symm
    omega
  · obtain ⟨i, k, hki, hLi⟩ := getL R hR
    obtain ⟨o, l, m, w⟩ := hL i k R hki hLi
    refine ⟨o, ?_⟩
    obtain ⟨a, q, ha, ra⟩ := keyOf _ _ m
    have iq := rc_some (rectsM_ok h _ (List.mem_of_getElem? ha))
    have eR : inR R = fun a b => inCs l a b := pl_ext w
    rw [eR]
    refine ⟨q.1, q.2.1, rectsM_in.mp ⟨q, List.mem_of_getElem? ha, iq⟩, ?_⟩
    exact pc a q q.1 q.2.1 ha iq l (by rw [ra]; exact m)
  · obtain ⟨x, y, hs, rfl⟩ := hT
    obtain ⟨q, hq, iq⟩ := rectsM_in.mpr hs
    obtain ⟨a, ha⟩ := List.mem_iff_getElem?.mp hq
    obtain ⟨p, hp, e⟩ := G.has (a, q) ((node (a, q)).mpr ha)
    have kmem : p.1 ∈ ks := hk.mem_iff.mpr (List.mem_map.mpr ⟨p, hp, rfl⟩)
    obtain ⟨i, hi⟩ := List.mem_iff_getElem?.mp kmem
    have li : i < L.length := by
      rw [len]
      exact (List.getElem?_eq_some_iff.mp hi).1
    obtain ⟨o, l, m, w⟩ := hL i _ _ hi (List.getElem?_eq_getElem li)
    refine ⟨L[i], List.getElem_mem li, ?_⟩
    have eR : inR L[i] = fun a b => inCs l a b := pl_ext w
    rw [eR]
    exact pc a q x y ha iq l (by rw [← e]; exact m)
end Mk

-- R1
/-! Rules of our own over the layer: sorted of data, zip of three lists, set of a list, sorted of a set and of a dict. -/
namespace MkR
open PySem PySem.Spec PyProof.Rows L2

/-! ### data of tuples and ints, which never change -/
mutual
inductive Dt (H : Hp) : V → PyData → Prop
  | int (i : Int) : Dt H (.int i) (.int i)
  | tup {a : Addr} {xs : List V} {ds : List PyData} : H a = some (.tup xs) → DtAll H xs ds → Dt H (.ref a) (.tuple ds)
inductive DtAll (H : Hp) : List V → List PyData → Prop
  | nil : DtAll H [] []
  | cons {v : V} {vs : List V} {d : PyData} {ds : List PyData} : Dt H v d → DtAll H vs ds → DtAll H (v :: vs) (d :: ds)
end
/-- the tuples stand -/
def Keep (H H' : Hp) : Prop := ∀ a xs, H a = some (.tup xs) → H' a = some (.tup xs)
mutual
theorem Dt.keep {H H' : Hp} (k : Keep H H') : ∀ {v : V} {d : PyData}, Dt H v d → Dt H' v d
  | _, _, .int i => .int i
  | _, _, .tup h1 h2 => .tup (k _ _ h1) (DtAll.keep k h2)
theorem DtAll.keep {H H' : Hp} (k : Keep H H') : ∀ {vs : List V} {ds : List PyData}, DtAll H vs ds → DtAll H' vs ds
  | _, _, .nil => .nil
  | _, _, .cons h1 h2 => .cons (Dt.keep k h1) (DtAll.keep k h2)
end
mutual
theorem Dt.dp {K : PySem.W.Frag} {H : Hp} : ∀ {v : V} {d : PyData}, Dt H v d → Dp K H v d
  | _, _, .int i => .int i
  | _, _, .tup h1 h2 => .tup (SqT.of h1) (DtAll.dp h2)
theorem DtAll.dp {K : PySem.W.Frag} {H : Hp} : ∀ {vs : List V} {ds : List PyData}, DtAll H vs ds → DpAll K H vs ds
  | _, _, .nil => .nil
  | _, _, .cons h1 h2 => .cons (Dt.dp h1) (DtAll.dp h2)
end

/-! ### sorted of a list of such data -/
def rSortedT (K : PySem.W.Frag) : List V → Hp → VK → Prop := fun vs H Q => ∃ (β : Type) (enc : β → PyData) (a : Addr) (xs : List V) (bs : List β), vs = [V.ref a] ∧ SqL K H a xs ∧ DtAll H xs (bs.map enc) ∧
  PySem.W.AllAlike (bs.map enc) ∧ PySem.W.Sortable (bs.map enc) ∧ (∀ b ∈ bs, (enc b).depth ≤ 8) ∧
  ∀ ys p, DtAll H ys ((bs.mergeSort (PySem.W.dataLe false enc)).map enc) → H p = none → Q (.ref p) (upd H p (.lst ys))
section
variable {X : Cx} {pins : List (Addr × Obj)} {σ : L2.St} {H : Hp} {s : Shared}
theorem each_both {β : Type} {enc : β → PyData} (I : Inv X pins σ H s) : ∀ {xs : List V} {us : List Value} {bs : List β}, Vals xs us → DtAll H xs (bs.map enc) →
    PySem.W.EachIs (fun u b => ∃ v, RelV v u ∧ Dt H v (enc b)) us bs ∧ PySem.W.EachIs (fun u b => ∃ as, Reads s.heap u (enc b) as) us bs
  | [], us, [], r, _ => by
    cases r
    exact ⟨.nil, .nil⟩
  | v :: xs, us, b :: bs, r, h => by
    cases r with
    | cons r t =>
      cases h with
      | cons h k =>
        obtain ⟨e1, e2⟩ := each_both I t k
        exact ⟨.cons ⟨_, r, h⟩ e1, .cons (Dp.reads I _ _ _ (Dt.dp h) r) e2⟩
  | [], _, _ :: _, _, h => by cases h
  | _ :: _, _, [], _, h => by cases h
theorem each_back {β : Type} {enc : β → PyData} : ∀ {us : List Value} {bs : List β}, PySem.W.EachIs (fun u b => ∃ v, RelV v u ∧ Dt H v (enc b)) us bs → ∃ ys, Vals ys us ∧ DtAll H ys (bs.map enc)
  | _, _, .nil => ⟨[], .nil, .nil⟩
  | _, _, .cons ⟨v, r, d⟩ t => by
    obtain ⟨ys, a, b⟩ := each_back t
    exact ⟨v :: ys, .cons r a, .cons d b⟩
theorem cr_sortedT (hu : X.A.units + 64 < cLine) : CallR X (.builtin "sorted") (rSortedT X.K) := by
  intro pins s σ H vs us Q I r h
  obtain ⟨β, enc, a, xs, bs, rfl, hs, hd, hal, hk, hdep, q⟩ := h
  obtain ⟨its, rv, hl, hz⟩ := I.list hs
  rw [Vals.ref1 r]
  obtain ⟨e1, e2⟩ := each_both I rv hd
  have hlen : its.length = bs.length := e1.length
  refine PySem.W.sorted_data (enc := enc) hl.isList e1 e2 hal hk (by rw [← hlen, ← rv.length]; exact hz) (fun b hb => ?_) fun out ho eo => ?_
  · have := hdep b hb
    omega
  · obtain ⟨ys, b1, b2⟩ := each_back eo
    obtain ⟨ep, he'⟩ := PyProof.Rows.sortedAll_at s.heap its out.toArray
    have hy : ys.length ≤ sizeLine := by
      rw [b1.length, ho, ← hlen, ← rv.length]
      exact hz
    exact ⟨.ref _, upd H (s.heap.objs.size + 1) (.lst ys), I.laid (t' := s.toks) (fun _ _ => PyProof.Rows.sortedAll_old) (Nat.le_succ _) ⟨hy, out, ep, b1, he'⟩, rfl,
      q ys _ b2 (I.hok.fresh (Nat.le_succ _))⟩
end

/-! ### zip of three lists -/
def Itz3 (K : PySem.W.Frag) (a b c : Addr) : It :=
  ⟨fun i H => ∃ (xs ys zs : List V), SqL K H a xs ∧ SqL K H b ys ∧ SqL K H c zs ∧ i < xs.length ∧ i < ys.length ∧ i < zs.length,
    fun i H v H' => ∃ T x y z, v = .ref T ∧ H T = none ∧ H' = upd H T (.tup [x, y, z]) ∧ (∀ xs, SqL K H a xs → xs[i]? = some x) ∧ (∀ ys, SqL K H b ys → ys[i]? = some y) ∧ ∀ zs, SqL K H c zs → zs[i]? = some z,
    fun i H => ∃ xs ys zs : List V, SqL K H a xs ∧ SqL K H b ys ∧ SqL K H c zs ∧ i = min (min xs.length ys.length) zs.length⟩
theorem turn_zip3 {P : Program} {w : World} {K : PySem.W.Frag} {elts : List Expr} {kk : Nat} {tpos : Pos} {a b c N : Addr} (ha : a < N) (hb : b < N) (hc : c < N) :
    Turn P w K (.Tuple elts kk tpos) (Itz3 K a b c) [N + 5, N + 3, N + 4, N, N + 1, N + 2] (N + 5)
      (fun i h => IsZip h (N + 5) (N + 3) (N + 4) .none ∧ IsTupOf3 h (N + 3) (.ref N) (.ref (N + 1)) (.ref (N + 2)) ∧ (∃ x y z, IsTupOf3 h (N + 4) x y z) ∧ h.IsListIter N a i ∧ h.IsListIter (N + 1) b i ∧ h.IsListIter (N + 2) c i) where
  mem := by simp
  obj := fun i h st d hd => by
    obtain ⟨hz, hTI, ⟨x, y, z, hTO⟩, ⟨o1, e1, _, d1⟩, ⟨o2, e2, _, d2⟩, ⟨o3, e3, _, d3⟩⟩ := st
    have e' : d = N + 5 ∨ d = N + 3 ∨ d = N + 4 ∨ d = N ∨ d = N + 1 ∨ d = N + 2 := by simpa using hd
    rcases e' with q | q | q | q | q | q
    · subst q
      exact ⟨_, hz, fun v q => nomatch q⟩
    · subst q
      exact ⟨_, hTI, fun v q => nomatch q⟩
    · subst q
      exact ⟨_, hTO, fun v q => nomatch q⟩
    · subst q
      exact ⟨o1, e1, fun v q => by rw [d1] at q; cases q⟩
    · subst q
      exact ⟨o2, e2, fun v q => by rw [d2] at q; cases q⟩
    · subst q
      exact ⟨o3, e3, fun v q => by rw [d3] at q; cases q⟩
  keep := fun i h h' st k => by
    obtain ⟨hz, hTI, ⟨x, y, z, hTO⟩, h1, h2, h3⟩ := st
    exact ⟨k _ (by simp) _ hz, k _ (by simp) _ hTI, ⟨x, y, z, k _ (by simp) _ hTO⟩, h1.at fun o q => k _ (by simp) o q, h2.at fun o q => k _ (by simp) o q, h3.at fun o q => k _ (by simp) o q⟩
  item := by
    intro X hP hw hK hcalm i pins s σ H E I hf st hg
    subst hP hw hK
    obtain ⟨hz, hTI, hTO, h1, h2, h3⟩ := st
    obtain ⟨xs, ys, zs, q1, q2, q3, l1, l2, l3⟩ := hg
    obtain ⟨us, r1, p1, _⟩ := I.list q1
    obtain ⟨vs, r2, p2, _⟩ := I.list q2
    obtain ⟨ws, r3, p3, _⟩ := I.list q3
    have hh : X.A.in1.handled = none := I.ok.hd hcalm
    have G := GoesN.zip3 (elts := elts) (x1 := kk) (pos := tpos) (zip_sep3 (N := N) (fp1 := [a]) (fp2 := [b]) (fp3 := [c]) (by simpa using ha) (by simpa using hb) (by simpa using hc))
      (Draws.list (prog := X.prog) (w := X.w) hh N a (Nat.ne_of_lt ha) us.toArray) (Draws.list (prog := X.prog) (w := X.w) hh (N + 1) b (Nat.ne_of_lt (Nat.lt_succ_of_lt hb)) vs.toArray)
      (Draws.list (prog := X.prog) (w := X.w) hh (N + 2) c (Nat.ne_of_lt (Nat.lt_succ_of_lt (Nat.lt_succ_of_lt hc))) ws.toArray)
    refine G.goes i s _ E ?_ ⟨hz, hTI, hTO, ⟨h1, p1.isList⟩, ⟨h2, p2.isList⟩, ⟨h3, p3.isList⟩⟩ fun v h' tk hY st' hk _ => ?_
    · simp only [List.size_toArray]
      rw [← r1.length, ← r2.length, ← r3.length]
      omega
    · obtain ⟨T, x, y, z, rfl, hT, hx, hy, hz', hTup⟩ := hY
      obtain ⟨z1, z2, z3, ⟨z4, _⟩, ⟨z5, _⟩, ⟨z6, _⟩⟩ := st'
      have fx : us[i]? = some x := by simpa using hx
      have fy : vs[i]? = some y := by simpa using hy
      have fz : ws[i]? = some z := by simpa using hz'
      obtain ⟨x', ex, rx⟩ : ∃ x', xs[i]? = some x' ∧ RelV x' x := by
        obtain ⟨u, hu, ru⟩ := r1.get (List.getElem?_eq_getElem l1)
        rw [fx] at hu
        cases hu
        exact ⟨_, List.getElem?_eq_getElem l1, ru⟩
      obtain ⟨y', ey, ry⟩ : ∃ y', ys[i]? = some y' ∧ RelV y' y := by
        obtain ⟨u, hu, ru⟩ := r2.get (List.getElem?_eq_getElem l2)
        rw [fy] at hu
        cases hu
        exact ⟨_, List.getElem?_eq_getElem l2, ru⟩
      obtain ⟨z', ez, rz⟩ : ∃ z', zs[i]? = some z' ∧ RelV z' z := by
        obtain ⟨u, hu, ru⟩ := r3.get (List.getElem?_eq_getElem l3)
        rw [fz] at hu
        cases hu
        exact ⟨_, List.getElem?_eq_getElem l3, ru⟩
      have new : ObjOk X.prog X.w (upd H T (.tup [x', y', z'])) h' T (.tup [x', y', z']) :=
        ⟨by show 3 ≤ sizeLine; decide, [x, y, z], .cons rx (.cons ry (.cons rz .nil)), hTup⟩
      have I1 : Inv X pins σ (upd H T (.tup [x', y', z'])) { s with heap := h', toks := tk } :=
        I.turnedNew (ch := [N + 5, N + 3, N + 4, N, N + 1, N + 2]) (fun d o hb q => hk d o (fun m => hb (by
          simp only [List.mem_cons, List.mem_singleton, List.not_mem_nil, or_false] at m ⊢
          rcases m with m | m | m | m | m <;> simp [m])) q) hf hT new
      refine ⟨.ref T, _, I1, rfl, ⟨T, x', y', z', rfl, I.hok.fresh hT, rfl, fun l hl => by rw [I.list_inj hl q1]; exact ex, fun l hl => by rw [I.list_inj hl q2]; exact ey, fun l hl => by rw [I.list_inj hl q3]; exact ez⟩,
        ⟨z1, z2, z3, z4, z5, z6⟩, fun d hd => ?_⟩
      rw [upd_ne fun e => ?_]
      · exact (hf d hd).1
      · have hlt : d < s.heap.objs.size := by
          have e' : d = N + 5 ∨ d = N + 3 ∨ d = N + 4 ∨ d = N ∨ d = N + 1 ∨ d = N + 2 := by simpa using hd
          obtain ⟨_, _, _, hTO'⟩ := hTO
          obtain ⟨_, g1, _⟩ := h1
          obtain ⟨_, g2, _⟩ := h2
          obtain ⟨_, g3, _⟩ := h3
          rcases e' with q | q | q | q | q | q
          · rw [q]; exact Heap.lt_size hz
          · rw [q]; exact Heap.lt_size hTI
          · rw [q]; exact Heap.lt_size hTO'
          · rw [q]; exact Heap.lt_size g1
          · rw [q]; exact Heap.lt_size g2
          · rw [q]; exact Heap.lt_size g3
        rw [e] at hlt
        exact absurd (Nat.lt_of_lt_of_le hlt hT) (Nat.lt_irrefl _)
  done := by
    intro X hP hw hK hcalm i pins s σ H E I hf st hg
    subst hP hw hK
    obtain ⟨hz, hTI, hTO, h1, h2, h3⟩ := st
    obtain ⟨xs, ys, zs, q1, q2, q3, hi⟩ := hg
    obtain ⟨us, r1, p1, _⟩ := I.list q1
    obtain ⟨vs, r2, p2, _⟩ := I.list q2
    obtain ⟨ws, r3, p3, _⟩ := I.list q3
    have hh : X.A.in1.handled = none := I.ok.hd hcalm
    have G := GoesN.zip3 (elts := elts) (x1 := kk) (pos := tpos) (zip_sep3 (N := N) (fp1 := [a]) (fp2 := [b]) (fp3 := [c]) (by simpa using ha) (by simpa using hb) (by simpa using hc))
      (Draws.list (prog := X.prog) (w := X.w) hh N a (Nat.ne_of_lt ha) us.toArray) (Draws.list (prog := X.prog) (w := X.w) hh (N + 1) b (Nat.ne_of_lt (Nat.lt_succ_of_lt hb)) vs.toArray)
      (Draws.list (prog := X.prog) (w := X.w) hh (N + 2) c (Nat.ne_of_lt (Nat.lt_succ_of_lt (Nat.lt_succ_of_lt hc))) ws.toArray)
    have e : min (min us.toArray.size vs.toArray.size) ws.toArray.size = i := by
      simp only [List.size_toArray]
      rw [← r1.length, ← r2.length, ← r3.length, hi]
    refine G.stops s _ E (by rw [e]; exact ⟨hz, hTI, hTO, ⟨h1, p1.isList⟩, ⟨h2, p2.isList⟩, ⟨h3, p3.isList⟩⟩) fun h' tk hk _ => ?_
    exact I.turnedL (t' := tk) (ch := [N + 5, N + 3, N + 4, N, N + 1, N + 2]) (fun d o hb q => hk d o (fun m => hb (by
      simp only [List.mem_cons, List.mem_singleton, List.not_mem_nil, or_false] at m ⊢
      rcases m with m | m | m | m | m <;> simp [m])) q) hf
  self := fun A i s Q E st h => wpAny_pyIter_zip st.1 h
def iZip3 (K : PySem.W.Frag) (ta : TA) : TI := fun σ H R => ta σ H fun vs H1 => ∃ a b c xs ys zs, vs = [.ref a, .ref b, .ref c] ∧ SqL K H1 a xs ∧ SqL K H1 b ys ∧ SqL K H1 c zs ∧ R (Itz3 K a b c) H1
theorem pi_zip3 {X : Cx} {e e2 e3 : Expr} {ta : TA} {p pos tpos : Pos} {elts : List Expr} {kk : Nat} (hg : Gl X "zip") (hm : X.mg "zip" = none) (ha : PA X [e, e2, e3] ta)
    (hs : starEach [e, e2, e3] X.env = (false, eval e X.env) :: starEach [e2, e3] X.env := by rfl) (hpl : (backTo pos (starEach [e2, e3] X.env)).any (·.1) = false := by rfl) :
    PI X (.Tuple elts kk tpos) (.Call (.Name "zip" p) [e, e2, e3] [] pos) (iZip3 X.K ta) := by
  refine ⟨fun pins s σ H R I h => ?_⟩
  refine Call_ (ld_blt I hg hm PyProof.Rows.boot_zip (PyProof.Rows.callWith_type1 (thn (ha.run pos pins s σ H _ I h) fun us s1 ⟨vs, H1, I1, r1, q1⟩ => ?_) hs hpl))
  obtain ⟨a, b, c, xs, ys, zs, ex, hqx, hqy, hqz, q⟩ := q1
  subst ex
  obtain ⟨u1, u2, u3, rfl, e1, e2, e3⟩ : ∃ u1 u2 u3, us = [u1, u2, u3] ∧ u1 = .ref a ∧ u2 = .ref b ∧ u3 = .ref c := by
    cases r1 with
    | cons r rr =>
      cases rr with
      | cons r' rr =>
        cases rr with
        | cons r'' rr =>
          cases rr
          exact ⟨_, _, _, rfl, r, r', r''⟩
  subst e1 e2 e3
  obtain ⟨its, rv, p1, _⟩ := I1.list hqx
  obtain ⟨its2, rv2, p2, _⟩ := I1.list hqy
  obtain ⟨its3, rv3, p3, _⟩ := I1.list hqz
  refine zip_begins3 (begins_list a its.toArray) (begins_list b its2.toArray) (begins_list c its3.toArray) p1.isList p2.isList p3.isList fun h' hz hTI hTO h1 h2 h3 hsz hk => wpAny_pyIter_zip hz ?_
  have I2 : Inv X pins σ H1 { s1 with heap := h' } := I1.kept (t' := s1.toks) hk
  refine ⟨s1.heap.objs.size + 5, [s1.heap.objs.size + 5, s1.heap.objs.size + 3, s1.heap.objs.size + 4, s1.heap.objs.size, s1.heap.objs.size + 1, s1.heap.objs.size + 2], _, _, H1, rfl, I2, turn_zip3 p1.lt p2.lt p3.lt,
    ⟨hz, hTI, ⟨_, _, _, hTO⟩, ⟨_, h1, rfl, rfl⟩, ⟨_, h2, rfl, rfl⟩, ⟨_, h3, rfl, rfl⟩⟩, fun d hd => ?_, q⟩
  have hle : s1.heap.objs.size ≤ d := by
    have e' : d = s1.heap.objs.size + 5 ∨ d = s1.heap.objs.size + 3 ∨ d = s1.heap.objs.size + 4 ∨ d = s1.heap.objs.size ∨ d = s1.heap.objs.size + 1 ∨ d = s1.heap.objs.size + 2 := by simpa using hd
    rcases e' with z | z | z | z | z | z
    · rw [z]; exact Nat.le_add_right _ _
    · rw [z]; exact Nat.le_add_right _ _
    · rw [z]; exact Nat.le_add_right _ _
    · rw [z]; exact Nat.le_refl _
    · rw [z]; exact Nat.le_add_right _ _
    · rw [z]; exact Nat.le_add_right _ _
  exact I1.fpOk hle (I1.hok.fresh hle)
end MkR

-- R2
namespace MkR
open PySem PySem.Spec PyProof.Rows L2

/-! ### set(xs) of a list of ints, however long, of which few are unlike -/
theorem count_le {w : World} {h : Heap} {a : Addr} {S : Int → Bool} {c : Nat} (R : SetR w h a S c) {D : List Int} (hD : ∀ k, S k = true → k ∈ D) : c ≤ D.length := by
  obtain ⟨o, es, ep, t, _, _, _, _, nd, hm, _, _, hn, _⟩ := R
  have := nd.length_le_of_subset fun k hk => hD k ((hm k).2 hk)
  rw [List.length_map, Array.length_toList, hn] at this
  exact this
section
variable {P : Program} {w : World} {A : Around} {E : Value → Shared → Prop} {s : Shared}
theorem fill_set {I : Addr} {fp wr : List Addr} {G : Array GenState → Array GenState → Prop} {n : Nat} {Pv : Nat → Value → Prop} {Sn : Nat → Shared → Prop} {R : Result → Shared → Prop}
    (W : WalksS P w A.in1 I fp wr G n Pv Sn) {T : Addr} (out : T ∉ fp) {ns D : List Int} (hn : n = ns.length) (hD : ∀ k ∈ ns, k ∈ D) (few : D.length + 1 < scanBound) (hval : ∀ i v, Pv i v → ∃ k t, ns[i]? = some k ∧ v = .int k t) :
    ∀ (m i : Nat) (s : Shared), m = n - i → i ≤ n → Sn i s → (∃ c, SetR w s.heap T (fun j => decide (j ∈ ns.take i)) c) →
      (∀ s' c, Moved (T :: wr) G s s' → SetR w s'.heap T (fun j => decide (j ∈ ns)) c → R (.ok (.ret .none)) s') →
      codeAny (model P w) A (.builtin "set.update.loop" ⟨[.ref T, .ref I], []⟩) R s := by
  have notw : T ∉ wr := fun h => out (W.sub _ h)
  have more : ∀ b ∈ wr, b ∈ T :: wr := fun b hb => List.mem_cons_of_mem _ hb
  intro m
  induction m with
  | zero =>
    intro i s hm hi hst ⟨c, hS⟩ fin
    obtain rfl : i = n := by omega
    refine codeAny_builtin PyProof.Rows.F.entry_set_update_loop ?_
    rw [Around.under_plainId PyProof.Rows.F.plain_set_update_loop _]
    show wpAny _ A.in1 (pyNext (.ref I) >>= _) _ _ s
    refine wpAny_bind (W.done s _ _ hst fun s' mv => ?_)
    show wpAny _ A.in1 (ret Value.none) _ _ s'
    rw [List.take_of_length_le (by omega)] at hS
    exact wpAny_pure (fin s' c (mv.mono more) (hS.at fun o e => mv.heap T o notw e))
  | succ m ih =>
    intro i s hm hi hst ⟨c, hS⟩ fin
    have lt : i < n := by omega
    refine codeAny_builtin PyProof.Rows.F.entry_set_update_loop ?_
    rw [Around.under_plainId PyProof.Rows.F.plain_set_update_loop _]
    show wpAny _ A.in1 (pyNext (.ref I) >>= _) _ _ s
    refine wpAny_bind (W.item i s _ _ lt hst fun v s1 hP hst1 mv => ?_)
    obtain ⟨z, t, hz, rfl⟩ := hval i v hP
    have hS1 : SetR w s1.heap T (fun j => decide (j ∈ ns.take i)) c := hS.at fun o e => mv.heap T o notw e
    have cl : c ≤ D.length := count_le hS1 fun k hk => hD k (List.mem_of_mem_take (of_decide_eq_true hk))
    show wpAny _ A.in1 (holding [Value.int z t] (setAdd T (.int z t)) >>= _) _ _ s1
    refine wpAny_bind (wpAny_holding ?_)
    unfold setAdd
    refine wpAny_holding (wpAny_bind ((intKind P w).pyHash (k := z) (intKind_is _ _ _ _) ?_))
    refine setR_add_hashed (s := { s1 with toks := s1.toks + 1 }) hS1 (by omega) fun h2 same hS2 => ?_
    have hS3 : SetR w h2 T (fun j => decide (j ∈ ns.take (i + 1))) (if decide (z ∈ ns.take i) = true then c else c + 1) := hS2.congr fun j => by
      rw [List.take_add_one, hz]
      simp [List.mem_append]
    refine wpAny_pure ⟨plainId_quiet PyProof.Rows.F.plain_set_update_loop _, ih (i + 1) _ (by omega) lt (W.frame _ s1 _ _ hst1 (Nat.le_succ _) fun b hb o e => ?_) ⟨_, hS3⟩ fun s3 c3 mv3 hS4 => ?_⟩
    · rw [same.2 b fun h => out (h ▸ hb)]
      exact e
    · refine fin s3 c3 (Moved.trans W.gtrans ((mv.mono more).then_heap (Nat.le_succ _) fun b o hb e => ?_) mv3) hS4
      rw [same.2 b fun h => hb (h ▸ List.mem_cons_self)]
      exact e
/-- the new set's object -/
abbrev set0 (w : World) : Obj := { cls := .type "set", dict := none, data := .set #[] 0 (.fresh 0 0 (!w.params.followText "set-order")) }
set_option maxHeartbeats 8000000 in
theorem set_of_list {l : Addr} {items : Array Value} {ns D : List Int} {Q : Value → Shared → Prop} (hh : A.handled = none) (hl : s.heap.IsList l items) (hit : IntsAre items.toList ns) (hD : ∀ k ∈ ns, k ∈ D) (few : D.length + 1 < scanBound)
    (h : ∀ (h' : Heap) (tk c : Nat), SetR w h' s.heap.objs.size (fun j => decide (j ∈ ns)) c → (∀ b o, s.heap.get? b = some o → h'.get? b = some o) → Q (.ref s.heap.objs.size) { s with heap := h', toks := tk }) :
    wpAny (model P w) A (call (.type "set") [.ref l]) Q E s := by
  have size : items.size = ns.length := by
    have q := IntsAre.length hit
    rw [Array.length_toList] at q
    exact q
  obtain ⟨c, tl, hmro⟩ := PySem.F.called_set.mro
  have hmade := PySem.F.called_set.made
  have hsub := PySem.F.called_set.sub
  refine wpAny_call (codeAny_of_tree ?_)
  show wpAny _ _ (callAny (.type "set") _) _ _ _
  refine wpAny_pure ⟨Code.quiet_builtin _ (by decide +kernel), codeAny_builtin PySem.F.entry_type_call ?_⟩
  rw [Around.under_plain (weight_type_call_type "set" [.ref l] []) rfl]
  have k1 := PySem.F.called_set.notType
  have k2 := PySem.F.called_set.canCreate
  have k3 := PySem.F.typeCall_set_1 (.ref l)
  repeat (any_goals (first | assumption | wp_step))
  refine codeAny_mono (code_set_led1 (P := P) (w := w) (s := s) (.ref l) (E := E) (Q₁ := fun obj s1 => obj = .ref s.heap.objs.size ∧ s1 = { s with heap := s.heap.push (set0 w) }) ⟨rfl, rfl⟩) fun r s1 hr => ?_
  cases r with
  | error e => exact hr
  | ok fl =>
    cases fl with
    | ret obj =>
      obtain ⟨rfl, rfl⟩ := hr
      have hS : (s.heap.push (set0 w)).get? s.heap.objs.size = some (set0 w) := Heap.get?_push_size _ rfl
      have hT : Shared.TypeIs { s with heap := s.heap.push (set0 w) } (.ref s.heap.objs.size) "set" := ⟨_, hS, rfl⟩
      have k4 := PySem.F.called_set.init.lookup
      have k5 := PySem.F.called_set.init.bind (.ref s.heap.objs.size)
      repeat (any_goals (first | assumption | wp_step))
      refine codeAny_mono (codeAny_call_builtin (R := wants (fun r s2 => r = .none ∧ ∃ h' tk c, s2 = { s with heap := h', toks := tk } ∧ SetR w h' s.heap.objs.size (fun j => decide (j ∈ ns)) c ∧
          (∀ b o, s.heap.get? b = some o → h'.get? b = some o)) E) PySem.F.called_set.init.plain PySem.F.entry_set_init (check_set_init_1 hT ?_)) fun r2 s2 hr2 => ?_
      · obtain ⟨⟨lc, ld, ldata, lsl⟩, lo, lcls, nl, lda⟩ := hl
        simp only at lcls lda
        subst lcls lda
        have lo1 : (s.heap.push (set0 w)).get? l = some { cls := .type "list", dict := ld, data := .seq items nl, slots := lsl } := Heap.get?_push_of_some _ lo
        have n1 := PySem.F.sub_list_set
        have n2 := PySem.F.sub_list_frozenset
        have n3 : (Value.type "list" == Value.type "dict") = false := by decide
        have hl1 : (s.heap.push (set0 w)).IsList l items := ⟨_, lo1, rfl, nl, rfl⟩
        unfold Builtin.«set.__init__» noKeywords Builtin.Frozenset.updateFrom
        generalize hPI : pyIter = PI
        wp_walk
        subst hPI
        refine wpAny_pyIter_list hl1 ?_
        refine wpAny_bind (wpAny_runValue ?_)
        have lS : l < s.heap.objs.size := Heap.lt_size lo
        have hh3 : A.in1.in1.in1.handled = none := by simp [hh]
        have sz1 : (s.heap.push (set0 w)).objs.size = s.heap.objs.size + 1 := Heap.size_push ..
        have neI : l ≠ (s.heap.push (set0 w)).objs.size := by
          rw [sz1]
          exact Nat.ne_of_lt (Nat.lt_succ_of_lt lS)
        have outS : s.heap.objs.size ∉ [(s.heap.push (set0 w)).objs.size, l] := by
          rw [sz1]
          simp only [List.mem_cons, List.mem_singleton, List.not_mem_nil, or_false, not_or]
          exact ⟨Nat.ne_of_lt (Nat.lt_succ_self _), Nat.ne_of_gt lS⟩
        have hval : ∀ (i : Nat) (v : Value), items[i]? = some v → ∃ k t, ns[i]? = some k ∧ v = .int k t := fun i v hv => by
          have hi : i < ns.length := by
            rw [← size]
            exact (Array.getElem?_eq_some_iff.mp hv).1
          obtain ⟨t, e⟩ := PyProof.Rows.IntsAre.int_at hit i v (by rw [Array.getElem?_toList]; exact hv)
          refine ⟨ns[i], t, List.getElem?_eq_getElem hi, ?_⟩
          rw [e, List.getD_eq_getElem?_getD, List.getElem?_eq_getElem hi]
          all_goals rfl
        refine fill_set ((Walks.list hh3 _ l neI items).toS) outS size hD few hval _ 0 _ rfl (Nat.zero_le _) ⟨⟨_, Heap.get?_push_size _ rfl, rfl, rfl⟩, hl1.push _⟩ ⟨0, setR_new_at (Heap.get?_push_of_some _ hS)⟩ ?fin
        case fin =>
          intro s' c' mv hS'
          obtain ⟨h', g2, d', tk', os'⟩ := s'
          have eg : g2 = s.gens := mv.gens
          have ed : d' = s.drawn := mv.drawn
          have eo : os' = s.os := mv.os
          subst eg ed eo
          show wpAny _ _ _ _ _ _
          refine wpAny_pure ?_
          show wpAny _ _ (ret Value.none) _ _ _
          refine wpAny_pure ⟨rfl, h', tk', c', rfl, hS', fun b o e => ?_⟩
          have lb : b < s.heap.objs.size := Heap.lt_size e
          refine mv.heap b o ?_ (Heap.get?_push_of_some _ (Heap.get?_push_of_some _ e))
          rw [sz1]
          simp only [List.mem_cons, List.mem_singleton, List.not_mem_nil, or_false, not_or]
          exact ⟨Nat.ne_of_lt lb, Nat.ne_of_lt (Nat.lt_succ_of_lt lb)⟩
      · cases r2 with
        | error e => exact hr2
        | ok fl2 =>
          cases fl2 with
          | ret r =>
            obtain ⟨rfl, h', tk, c', rfl, hS', hk'⟩ := hr2
            repeat (any_goals (first | assumption | wp_step))
            exact h _ _ _ hS' hk'
          | _ => exact hr2.elim
    | _ => exact hr.elim
end
def rSetD (K : PySem.W.Frag) (w : World) : List V → Hp → VK → Prop := fun vs H Q => ∃ (a : Addr) (ns D : List Int), vs = [V.ref a] ∧ SqL K H a (ns.map V.int) ∧ (∀ k ∈ ns, k ∈ D) ∧ D.length ≤ 4000 ∧
  ∀ p c, H p = none → Q (.ref p) (upd H p (SetO w p (fun j => decide (j ∈ ns)) c))
section
variable {X : Cx}
theorem cr_setD (hc : X.calm = true) : CallR X (.type "set") (rSetD X.K X.w) := by
  intro pins s σ H vs us Q I r h
  obtain ⟨a, ns, D, rfl, hs, hD, few, q⟩ := h
  obtain ⟨its, rv, hl, hz⟩ := I.list hs
  rw [Vals.ref1 r]
  refine set_of_list (ns := ns) (D := D) (I.ok.hd hc) hl.isList (by simpa using rv.ints) hD (by unfold scanBound; omega) fun h' tk c R k => ?_
  have hp : H s.heap.objs.size = none := I.hok.fresh (Nat.le_refl _)
  exact ⟨.ref _, upd H s.heap.objs.size (SetO X.w s.heap.objs.size (fun j => decide (j ∈ ns)) c), I.laid (t' := tk) k (Nat.le_refl _) (setO_new R), rfl, q _ c hp⟩

/-! ### sorted of a set of ints, however large -/
def rSortedSetD (w : World) : List V → Hp → VK → Prop := fun vs H Q => ∃ (a : Addr) (S : Int → Bool) (n : Nat), vs = [V.ref a] ∧ H a = some (SetO w a S n) ∧
  ∀ (ns : List Int) (p : Addr), ns.Pairwise (· < ·) → (∀ k : Int, k ∈ ns ↔ S k = true) → H p = none → Q (.ref p) (upd H p (.lst (ns.map V.int)))
theorem cr_sortedSetD (hc : X.calm = true) : CallR X (.builtin "sorted") (rSortedSetD X.w) := by
  intro pins s σ H vs us Q I r h
  obtain ⟨a, S, n, rfl, ha, q⟩ := h
  have R := setO_get I ha
  rw [Vals.ref1 r]
  obtain ⟨o, es, ep, t, ho, hex, hd, g, nd, hm, hb, hf, hn, hr, hl⟩ := R
  refine Calls.call_function_entry PyProof.Rows.kind_sorted PyProof.Rows.plain_sorted PyProof.Rows.entry_sorted (PyProof.Rows.args_sorted1 _) ?_
  unfold Builtin.«sorted»
  refine wpAny_bind (m := checkCount "sorted" 1 1 _) (wpAny_pure ?_)
  refine wpAny_bind (collect_set (A := X.A.in1) (I.ok.hd hc) ⟨o, ho, hex.1, hd⟩ hf hb hr hl fun s1 vs k1 hz g1 o1 pm => ?_)
  have lv : vs.length ≤ sizeLine := by
    rw [pm.length_eq, List.length_map, Array.length_toList]
    exact fits_of_scanBound hb
  have hI : IntsAre vs (vs.map Builtin.Re.reRawOf) := ints_of vs fun v hv => by
    obtain ⟨e, he, q⟩ := List.mem_map.mp (pm.mem_iff.mp hv)
    obtain ⟨k, tk, h1, _⟩ := g e he
    exact ⟨k, tk, by rw [← q]; exact h1⟩
  have pk : (vs.map Builtin.Re.reRawOf).Perm (es.toList.map keyOf) := by
    have q := pm.map Builtin.Re.reRawOf
    rw [List.map_map] at q
    exact q
  refine wpAny_bind (wpAny_newList ?_ lv)
  have hoL : (s1.heap.push (seqObj "list" vs.toArray 0)).get? s1.heap.objs.size = some (seqObj "list" vs.toArray 0) := Heap.get?_push_size _ rfl
  refine wpAny_bind (wpAny_holding (wpAny_call_entry PyProof.Rows.slot_list_sort ⟨_, hoL, rfl⟩ PyProof.Rows.entry_list_sort
    (SrtO.list_sort_ord (s := { s1 with heap := s1.heap.push (seqObj "list" vs.toArray 0) }) SrtO.swo_int hoL lv (fun h2 => SrtO.ints_sortable hI h2) fun out h1 h2 => ⟨_, rfl, ?_⟩) (PyProof.Rows.args_list_sort _)))
  obtain ⟨a1, a2, a3⟩ := SrtO.ints_out hI h1 h2
  obtain ⟨c, he⟩ := PyProof.Rows.sortedHeap_at (vs := vs) (out := out.toArray) hoL
  have pn : (out.map SrtO.iv).Perm (es.toList.map keyOf) := a2.trans pk
  have hp : H s1.heap.objs.size = none := I.hok.fresh hz
  have hlen : ((out.map SrtO.iv).map V.int).length ≤ sizeLine := by
    rw [List.length_map, pn.length_eq, List.length_map, Array.length_toList]
    exact fits_of_scanBound hb
  have kk : ∀ b u, s.heap.get? b = some u → (sortedHeap (s1.heap.push (seqObj "list" vs.toArray 0)) s1.heap.objs.size vs out.toArray).get? b = some u := fun b u e => by
    have e1 := k1 b u e
    have lt := Heap.lt_size e1
    rw [PyProof.Rows.sortedHeap_old (Nat.ne_of_lt lt) (by rw [size_push']; exact Nat.lt_succ_of_lt lt)]
    exact Heap.get?_push_of_some _ e1
  have J : Inv X pins σ (upd H s1.heap.objs.size (.lst ((out.map SrtO.iv).map V.int))) { s with heap := sortedHeap (s1.heap.push (seqObj "list" vs.toArray 0)) s1.heap.objs.size vs out.toArray, gens := s1.gens, drawn := s1.drawn, toks := s1.toks } :=
    I.call (ch := []) (Un.laid kk hz hp) (I.hok.laid kk hz ⟨hlen, out, c, vals_of_ints a1, he⟩) (by rw [g1]; exact I.bare) (fun _ z => nomatch z)
  have e : ({ s1 with heap := sortedHeap (s1.heap.push (seqObj "list" vs.toArray 0)) s1.heap.objs.size vs out.toArray } : Shared) =
      { s with heap := sortedHeap (s1.heap.push (seqObj "list" vs.toArray 0)) s1.heap.objs.size vs out.toArray, gens := s1.gens, drawn := s1.drawn, toks := s1.toks } := by
    cases s1
    cases s
    cases o1
    rfl
  refine wpAny_pure ⟨_, rfl, ?_⟩
  show EP X pins σ Q _ _
  rw [e]
  exact ⟨.ref _, _, J, rfl, q _ _ (lt_of_le_nodup _ a3 (pn.nodup_iff.mpr nd)) (fun k => by rw [pn.mem_iff, ← hm k]) hp⟩

/-! ### sorted of a dict with int keys, however large -/
def rSortedDI : List V → Hp → VK → Prop := fun vs H Q => ∃ (a : Addr) (kvs : List (Key × V)) (ks : List Int), vs = [V.ref a] ∧ Rd H a (.dK kvs) ∧ kvs.map (·.1) = ks.map Sum.inl ∧
  ∀ (ys : List Int) (p : Addr), ys.Perm ks → ys.Pairwise (· ≤ ·) → H p = none → Q (.ref p) (upd H p (.lst (ys.map V.int)))
theorem cr_sortedDI (hc : X.calm = true) : CallR X (.builtin "sorted") rSortedDI := by
  intro pins s σ H vs us Q I r h
  obtain ⟨a, kvs, ks, rfl, hd, hks, q⟩ := h
  rw [Vals.ref1 r]
  obtain ⟨z, lo, ws, rel, dd⟩ := dk_rd I.hok hd
  obtain ⟨ep, hat⟩ := dd.dictAt
  have hkeys : ws.map (·.1) = ks.map Sum.inl := rel.keys.symm.trans hks
  have lw : ws.length = ks.length := by
    have e := congrArg List.length hkeys
    rw [List.length_map, List.length_map] at e
    exact e
  have lz : ws.length ≤ sizeLine := by
    rw [← rel.length]
    exact z
  refine Calls.call_function_entry PyProof.Rows.kind_sorted PyProof.Rows.plain_sorted PyProof.Rows.entry_sorted (PyProof.Rows.args_sorted1 _) ?_
  unfold Builtin.«sorted»
  refine wpAny_bind (m := checkCount "sorted" 1 1 _) (wpAny_pure ?_)
  refine wpAny_bind (PySem.W.kdu_collect (A := X.A.in1) (PySem.W.kdl_dict (knd := mixKind X.prog X.w) (kvs := ws) (ep := ep) lo) (I.ok.hd hc) hat lz fun h' tk acc hk hacc => ?_)
  have la : acc.toList.length = ks.length := by rw [Array.length_toList, hacc.1, lw]
  have hI : IntsAre acc.toList ks := ints_each la fun j v e => by
    obtain ⟨k, x, e1, e2⟩ := hacc.2 j v (by rw [← Array.getElem?_toList]; exact e)
    have e3 : (ws.map (·.1))[j]? = some k := by
      rw [List.getElem?_map, e1]
      all_goals rfl
    rw [hkeys, List.getElem?_map] at e3
    cases e4 : ks[j]? with
    | none =>
      rw [e4] at e3
      cases e3
    | some y =>
      rw [e4] at e3
      obtain rfl : Sum.inl y = k := Option.some.inj e3
      rcases keyIs_shape (show keyIs (Sum.inl y) v = true from e2) with ⟨i, t, ek, ev⟩ | ⟨_, _, ek, _⟩
      · cases ek
        exact ⟨y, t, rfl, ev⟩
      · cases ek
  have I1 : Inv X pins σ H { s with heap := h', toks := tk } := I.kept hk
  have lz2 : acc.toList.length ≤ sizeLine := by
    rw [la, ← lw]
    exact lz
  refine wpAny_bind (wpAny_newList ?_ lz2)
  have hoL : (h'.push (seqObj "list" acc.toList.toArray 0)).get? h'.objs.size = some (seqObj "list" acc.toList.toArray 0) := Heap.get?_push_size _ rfl
  show wpAny _ _ _ _ _ { s with heap := h'.push (seqObj "list" acc.toList.toArray 0), toks := tk }
  refine wpAny_bind (wpAny_holding (wpAny_call_entry PyProof.Rows.slot_list_sort ⟨_, hoL, rfl⟩ PyProof.Rows.entry_list_sort
    (SrtO.list_sort_ord (s := { s with heap := h'.push (seqObj "list" acc.toList.toArray 0), toks := tk }) SrtO.swo_int hoL lz2 (fun h2 => SrtO.ints_sortable hI h2) fun out h1 h2 => ⟨_, rfl, ?_⟩) (PyProof.Rows.args_list_sort _)))
  obtain ⟨a1, a2, a3⟩ := SrtO.ints_out hI h1 h2
  obtain ⟨c, he⟩ := PyProof.Rows.sortedHeap_at (vs := acc.toList) (out := out.toArray) hoL
  have hlen : ((out.map SrtO.iv).map V.int).length ≤ sizeLine := by
    rw [List.length_map, a2.length_eq, ← lw]
    exact lz
  refine wpAny_pure ⟨_, rfl, .ref h'.objs.size, upd H h'.objs.size (.lst ((out.map SrtO.iv).map V.int)), I1.laid (t' := tk) (fun b u e => ?_) (Nat.le_refl _)
    (show ObjOk X.prog X.w _ _ _ (.lst ((out.map SrtO.iv).map V.int)) from ⟨hlen, out, c, vals_of_ints a1, he⟩), rfl, q _ _ a2 a3 (I1.hok.fresh (Nat.le_refl _))⟩
  have hb : b < h'.objs.size := Heap.lt_size e
  rw [PyProof.Rows.sortedHeap_old (Nat.ne_of_lt hb) (by rw [size_push']; exact Nat.lt_succ_of_lt hb)]
  exact Heap.get?_push_of_some _ e
end
end MkR

-- W0
/-! The text by places; how regions lie in the heap. -/
namespace Mw
open PySem PySem.Spec PyProof.Rows L2 MkR Mk
def topS (i : Nat) : Stmt := PySem.Challenge.pw_maskwright_k12_whole_turned_and_moved.main.body.getD i (.Pass ⟨0, 0, 0, 0⟩)

/-! ### data -/
def dP (p : Int × Int) : PyData := .tuple [.int p.1, .int p.2]
def dL (l : Ln) : PyData := .tuple (l.map dP)
def dB (b : Bd) : PyData := .tuple [.int b.1, .int b.2.1, dL b.2.2]
def dR (r : Rg) : PyData := .tuple (r.map dB)
def dQ (q : Rc) : PyData := .tuple [.int q.1, .int q.2.1, .int q.2.2.1, .int q.2.2.2]

theorem keep_same {H H' : Hp} (h : L2.Same H H') : Keep H H' := fun a xs e => h _ _ e
theorem keep_refl (H : Hp) : Keep H H := fun _ _ e => e
theorem Keep.trans {H H1 H2 : Hp} (a : Keep H H1) (b : Keep H1 H2) : Keep H H2 := fun x o h => b x o (a x o h)
theorem keep_lst {H : Hp} {l : Addr} {xs : List V} {o : HO} (h : H l = some (.lst xs)) : Keep H (upd H l o) := fun a ys e => by
  rw [upd_ne (ne_of e h (by intro q; cases q))]
  exact e
theorem keep_dK {H : Hp} {l : Addr} {xs : List (Key × V)} {o : HO} (h : H l = some (.dK xs)) : Keep H (upd H l o) := fun a ys e => by
  rw [upd_ne (ne_of e h (by intro q; cases q))]
  exact e
theorem keep_new {H : Hp} {l : Addr} {o : HO} (h : H l = none) : Keep H (upd H l o) := fun a ys e => by
  rw [upd_ne (ne_of_none e h)]
  exact e
theorem same_new {H : Hp} {p : Addr} {o : HO} (h : H p = none) : L2.Same H (upd H p o) := fun b x e => by
  rw [upd_ne (ne_of_none e h)]
  exact e
/-- what H did not know may change -/
theorem same_mut {H H' : Hp} {p : Addr} {o : HO} (e : L2.Same H H') (h : H p = none) : L2.Same H (upd H' p o) := fun a u ha => by
  rw [upd_ne (ne_of_none ha h)]
  exact e a u ha

theorem DtAll.len {H : Hp} : ∀ {vs : List V} {ds : List PyData}, DtAll H vs ds → vs.length = ds.length
  | _, _, .nil => rfl
  | _, _, .cons _ h => congrArg (· + 1) (DtAll.len h)
theorem DtAll.get {H : Hp} : ∀ {vs : List V} {ds : List PyData}, DtAll H vs ds → ∀ {i : Nat} {v : V}, vs[i]? = some v → ∃ d, ds[i]? = some d ∧ Dt H v d
  | [], _, _, i, v, e => by simp at e
  | x :: vs, _, .cons h _, 0, v, e => by
    cases e
    exact ⟨_, rfl, h⟩
  | x :: vs, _, .cons _ h, i + 1, v, e => DtAll.get h (i := i) e
theorem DtAll.app {H : Hp} : ∀ {vs ws : List V} {ds es : List PyData}, DtAll H vs ds → DtAll H ws es → DtAll H (vs ++ ws) (ds ++ es)
  | _, _, _, _, .nil, k => k
  | _, _, _, _, .cons h t, k => .cons h (DtAll.app t k)
theorem DtAll.one {H : Hp} {v : V} {d : PyData} (h : Dt H v d) : DtAll H [v] [d] := .cons h .nil
theorem DtAll.snoc {H : Hp} : ∀ {vs : List V} {ds : List PyData} {d : PyData}, DtAll H vs (ds ++ [d]) → ∃ ws w, vs = ws ++ [w] ∧ DtAll H ws ds ∧ Dt H w d
  | [], ds, d, h => by
    have := DtAll.len h
    simp at this
  | v :: vs, [], d, .cons h t => by
    cases t
    exact ⟨[], v, rfl, .nil, h⟩
  | v :: vs, e :: ds, d, .cons h t => by
    obtain ⟨ws, w, e1, h1, h2⟩ := DtAll.snoc (ds := ds) t
    exact ⟨v :: ws, w, by rw [e1]; rfl, .cons h h1, h2⟩
theorem DtAll.nil_of {H : Hp} {vs : List V} (h : DtAll H vs []) : vs = [] := by
  cases h
  rfl
/-- the i-th thing of a list of encoded things -/
theorem DtAll.at {H : Hp} {α : Type} {enc : α → PyData} {vs : List V} {l : List α} {i : Nat} {v : V} (h : DtAll H vs (l.map enc)) (e : vs[i]? = some v) : ∃ a, l[i]? = some a ∧ Dt H v (enc a) := by
  obtain ⟨d, hd, k⟩ := DtAll.get h e
  rw [List.getElem?_map] at hd
  cases q : l[i]? with
  | none => rw [q] at hd; cases hd
  | some a =>
    rw [q] at hd
    cases hd
    exact ⟨a, rfl, k⟩
theorem DtAll.of {H : Hp} {α : Type} {enc : α → PyData} {vs : List V} {l : List α} {i : Nat} {a : α} (h : DtAll H vs (l.map enc)) (e : l[i]? = some a) : ∃ v, vs[i]? = some v ∧ Dt H v (enc a) := by
  have hl := DtAll.len h
  rw [List.length_map] at hl
  have lt := (List.getElem?_eq_some_iff.mp e).1
  have ev : vs[i]? = some (vs[i]'(by omega)) := List.getElem?_eq_getElem (by omega)
  obtain ⟨b, hb, k⟩ := DtAll.at h ev
  rw [e] at hb
  cases hb
  exact ⟨_, ev, k⟩
theorem DtAll.map {H : Hp} {α : Type} {enc : α → PyData} {f : Nat → V} : ∀ {l : List α} {vs : List V}, vs.length = l.length → (∀ (i : Nat) (a : α) (v : V), l[i]? = some a → vs[i]? = some v → Dt H v (enc a)) → DtAll H vs (l.map enc)
  | [], [], _, _ => .nil
  | a :: l, v :: vs, e, h => .cons (h 0 a v rfl rfl) (DtAll.map (f := f) (by simpa using e) fun i b w h1 h2 => h (i + 1) b w h1 h2)
  | [], _ :: _, e, _ => by simp at e
  | _ :: _, [], e, _ => by simp at e
theorem dt_int {H : Hp} {v : V} {i : Int} (h : Dt H v (.int i)) : v = .int i := by
  cases h
  rfl
theorem dt_tup {H : Hp} {v : V} {ds : List PyData} (h : Dt H v (.tuple ds)) : ∃ p xs, v = .ref p ∧ H p = some (.tup xs) ∧ DtAll H xs ds := by
  cases h with
  | tup h1 h2 => exact ⟨_, _, rfl, h1, h2⟩
theorem dt_P {H : Hp} {v : V} {s : Int × Int} (h : Dt H v (dP s)) : ∃ p, v = .ref p ∧ H p = some (.tup [.int s.1, .int s.2]) := by
  obtain ⟨p, xs, rfl, hp, h⟩ := dt_tup h
  cases h with
  | cons h1 h2 => cases h2 with
    | cons h2 h3 =>
      cases h3
      rw [dt_int h1, dt_int h2] at hp
      exact ⟨p, rfl, hp⟩
theorem P_dt {H : Hp} {p : Addr} {a b : Int} (h : H p = some (.tup [.int a, .int b])) : Dt H (.ref p) (dP (a, b)) := .tup h (.cons (.int _) (.cons (.int _) .nil))
theorem dt_Q {H : Hp} {v : V} {q : Rc} (h : Dt H v (dQ q)) : ∃ p, v = .ref p ∧ H p = some (.tup [.int q.1, .int q.2.1, .int q.2.2.1, .int q.2.2.2]) := by
  obtain ⟨p, xs, rfl, hp, h⟩ := dt_tup h
  cases h with
  | cons h1 h2 => cases h2 with
    | cons h2 h3 => cases h3 with
      | cons h3 h4 => cases h4 with
        | cons h4 h5 =>
          cases h5
          rw [dt_int h1, dt_int h2, dt_int h3, dt_int h4] at hp
          exact ⟨p, rfl, hp⟩
theorem Q_dt {H : Hp} {p : Addr} {a b c d : Int} (h : H p = some (.tup [.int a, .int b, .int c, .int d])) : Dt H (.ref p) (dQ (a, b, c, d)) := .tup h (.cons (.int _) (.cons (.int _) (.cons (.int _) (.cons (.int _) .nil))))
theorem dt_B {H : Hp} {v : V} {b : Bd} (h : Dt H v (dB b)) : ∃ p w, v = .ref p ∧ H p = some (.tup [.int b.1, .int b.2.1, w]) ∧ Dt H w (dL b.2.2) := by
  obtain ⟨p, xs, rfl, hp, h⟩ := dt_tup h
  cases h with
  | cons h1 h2 => cases h2 with
    | cons h2 h3 => cases h3 with
      | cons h3 h4 =>
        cases h4
        rw [dt_int h1, dt_int h2] at hp
        exact ⟨p, _, rfl, hp, h3⟩
theorem B_dt {H : Hp} {p : Addr} {a b : Int} {w : V} {l : Ln} (h : H p = some (.tup [.int a, .int b, w])) (hw : Dt H w (dL l)) : Dt H (.ref p) (dB (a, b, l)) := .tup h (.cons (.int _) (.cons (.int _) (.cons hw .nil)))
theorem dt_L {H : Hp} {v : V} {l : Ln} (h : Dt H v (dL l)) : ∃ p ws, v = .ref p ∧ H p = some (.tup ws) ∧ DtAll H ws (l.map dP) := dt_tup h
theorem dt_R {H : Hp} {v : V} {r : Rg} (h : Dt H v (dR r)) : ∃ p ws, v = .ref p ∧ H p = some (.tup ws) ∧ DtAll H ws (r.map dB) := dt_tup h

/-! ### the order of data -/
theorem le_total {β : Type} (enc : β → PyData) : PySem.W.TotalLe (PySem.W.dataLe false enc) := PySem.W.sortLe_total _ _ _
theorem alike_P (a b : Int × Int) : PySem.W.alike (dP a) (dP b) = true := by simp [dP, PySem.W.alike, PySem.W.alikeAll]
theorem alike_Q (a b : Rc) : PySem.W.alike (dQ a) (dQ b) = true := by simp [dQ, PySem.W.alike, PySem.W.alikeAll]
theorem alike_map {α : Type} {enc : α → PyData} (h : ∀ a b, PySem.W.alike (enc a) (enc b) = true) : ∀ l m : List α, PySem.W.alikeAll (l.map enc) (m.map enc) = true
  | [], _ => by simp [PySem.W.alikeAll]
  | _ :: _, [] => by simp [PySem.W.alikeAll]
  | a :: l, b :: m => by
    show PySem.W.alikeAll (enc a :: l.map enc) (enc b :: m.map enc) = true
    rw [PySem.W.alikeAll, h, alike_map h l m]
    rfl
theorem alike_L (l m : Ln) : PySem.W.alike (dL l) (dL m) = true := by
  unfold dL
  rw [PySem.W.alike]
  exact alike_map alike_P l m
theorem alike_B (a b : Bd) : PySem.W.alike (dB a) (dB b) = true := by
  simp [dB, PySem.W.alike, PySem.W.alikeAll, alike_L]
theorem alike_R (l m : Rg) : PySem.W.alike (dR l) (dR m) = true := by
  unfold dR
  rw [PySem.W.alike]
  exact alike_map alike_B l m
theorem depth_map {α : Type} {enc : α → PyData} {n : Nat} (h : ∀ a, (enc a).depth ≤ n) : ∀ l : List α, PyData.depthAll (l.map enc) ≤ n
  | [] => Nat.zero_le _
  | a :: l => by
    show PyData.depthAll (enc a :: l.map enc) ≤ n
    rw [PyData.depthAll]
    exact Nat.max_le.mpr ⟨h a, depth_map h l⟩
theorem depth_P (a : Int × Int) : (dP a).depth ≤ 1 := by simp [dP, PyData.depth, PyData.depthAll]
theorem depth_Q (a : Rc) : (dQ a).depth ≤ 1 := by simp [dQ, PyData.depth, PyData.depthAll]
theorem depth_L (l : Ln) : (dL l).depth ≤ 2 := by
  unfold dL
  rw [PyData.depth]
  exact Nat.succ_le_succ (depth_map depth_P l)
theorem depth_B (b : Bd) : (dB b).depth ≤ 3 := by
  unfold dB
  simp only [PyData.depth, PyData.depthAll]
  have := depth_L b.2.2
  omega
theorem depth_R (r : Rg) : (dR r).depth ≤ 4 := by
  unfold dR
  rw [PyData.depth]
  exact Nat.succ_le_succ (depth_map depth_B r)
theorem lay_map {α : Type} {enc : α → PyData} (h : ∀ a, (enc a).canLay0 = true) : ∀ l : List α, PyData.canLayAll0 (l.map enc) = true
  | [] => by simp [PyData.canLayAll0]
  | a :: l => by
    show PyData.canLayAll0 (enc a :: l.map enc) = true
    rw [PyData.canLayAll0, h, lay_map h l]
    rfl
theorem lay_P (a : Int × Int) : (dP a).canLay0 = true := by simp [dP, PyData.canLay0, PyData.canLayAll0]
theorem lay_L (l : Ln) : (dL l).canLay0 = true := by
  unfold dL
  rw [PyData.canLay0]
  exact lay_map lay_P l
theorem lay_B (b : Bd) : (dB b).canLay0 = true := by simp [dB, PyData.canLay0, PyData.canLayAll0, lay_L]
theorem lay_R (r : Rg) : (dR r).canLay0 = true := by
  unfold dR
  rw [PyData.canLay0]
  exact lay_map lay_B r
theorem shaped_L (l : Ln) : SeqAt.shaped (dL l) = true := by
  unfold SeqAt.shaped
  rw [lay_L, decide_eq_true (Nat.le_trans (depth_L l) (by decide))]
  rfl
theorem shaped_R (r : Rg) : SeqAt.shaped (dR r) = true := by
  unfold SeqAt.shaped
  rw [lay_R, decide_eq_true (Nat.le_trans (depth_R r) (by decide))]
  rfl
theorem eqv_map {α : Type} {enc : α → PyData} (h : ∀ a b, PyData.eqv (enc a) (enc b) = true ↔ a = b) : ∀ l m : List α, PyData.eqvAll (l.map enc) (m.map enc) = true ↔ l = m
  | [], [] => by simp [PyData.eqvAll]
  | _ :: _, [] => by simp [PyData.eqvAll]
  | [], _ :: _ => by simp [PyData.eqvAll]
  | a :: l, b :: m => by
    show PyData.eqvAll (enc a :: l.map enc) (enc b :: m.map enc) = true ↔ _
    rw [PyData.eqvAll, Bool.and_eq_true, h, eqv_map h l m, List.cons.injEq]
theorem eqv_P (a b : Int × Int) : PyData.eqv (dP a) (dP b) = true ↔ a = b := by
  obtain ⟨a1, a2⟩ := a
  obtain ⟨b1, b2⟩ := b
  simp [dP, PyData.eqv, PyData.eqvAll]
theorem eqv_L (l m : Ln) : PyData.eqv (dL l) (dL m) = true ↔ l = m := by
  unfold dL
  rw [PyData.eqv]
  exact eqv_map eqv_P l m
theorem eqv_B (a b : Bd) : PyData.eqv (dB a) (dB b) = true ↔ a = b := by
  obtain ⟨a1, a2, a3⟩ := a
  obtain ⟨b1, b2, b3⟩ := b
  unfold dB
  simp only [PyData.eqv, PyData.eqvAll, Bool.and_eq_true, eqv_L, beq_iff_eq, and_true, Prod.mk.injEq]
theorem eqv_R (l m : Rg) : PyData.eqv (dR l) (dR m) = true ↔ l = m := by
  unfold dR
  rw [PyData.eqv]
  exact eqv_map eqv_B l m
/-- lesser first items go ahead -/
theorem lt_first {x y : Int} {xs ys : List PyData} (h : x < y) : PySem.W.dataLt (.tuple (.int x :: xs)) (.tuple (.int y :: ys)) = true := by
  rw [PySem.W.dataLt_tuple, PySem.W.dataLt_cons (by simp [PySem.W.alike]), if_neg (by simp [PyData.eqv]; omega), PySem.W.dataLt_int]
  exact decide_eq_true h
theorem le_first {β : Type} {f : β → Int} {g : β → List PyData} {a b : β} (h : PySem.W.dataLe false (fun b => .tuple (.int (f b) :: g b)) a b = true) : f a ≤ f b := by
  rw [PySem.W.dataLe_eq] at h
  refine Classical.byContradiction fun w => ?_
  have := lt_first (x := f b) (y := f a) (xs := g b) (ys := g a) (by omega)
  simp only [this] at h
  cases h
theorem sorted_P (l : Ln) : (l.mergeSort (PySem.W.dataLe false dP)).Perm l ∧ (l.mergeSort (PySem.W.dataLe false dP)).Pairwise fun s t => s.1 ≤ t.1 :=
  ⟨List.mergeSort_perm _ _, (PySem.W.sort_pairwise (le_total dP) l).imp fun h => le_first (f := fun p : Int × Int => p.1) (g := fun p => [.int p.2]) h⟩
theorem sorted_Q (l : List Rc) : (l.mergeSort (PySem.W.dataLe false dQ)).Perm l ∧ (l.mergeSort (PySem.W.dataLe false dQ)).Pairwise fun s t => s.1 ≤ t.1 :=
  ⟨List.mergeSort_perm _ _, (PySem.W.sort_pairwise (le_total dQ) l).imp fun h => le_first (f := fun q : Rc => q.1) (g := fun q => [.int q.2.1, .int q.2.2.1, .int q.2.2.2]) h⟩
theorem able_P (l : Ln) : PySem.W.AllAlike (l.map dP) ∧ PySem.W.Sortable (l.map dP) ∧ ∀ b ∈ l, (dP b).depth ≤ 8 :=
  ⟨.of alike_P, .tuples fun b => ⟨_, _, rfl⟩, fun b _ => Nat.le_trans (depth_P b) (by decide)⟩
theorem able_Q (l : List Rc) : PySem.W.AllAlike (l.map dQ) ∧ PySem.W.Sortable (l.map dQ) ∧ ∀ b ∈ l, (dQ b).depth ≤ 8 :=
  ⟨.of alike_Q, .tuples fun b => ⟨_, _, rfl⟩, fun b _ => Nat.le_trans (depth_Q b) (by decide)⟩

/-! ### places in lists -/
theorem ix_last {n : Nat} : ixN (n + 1) (-1) = some n := by
  unfold ixN
  rw [if_neg (by decide), if_pos (by omega)]
  congr 1
  omega
theorem ix_nat {n j : Nat} (h : j < n) : ixN n (j : Int) = some j := by
  unfold ixN
  rw [if_pos (by omega), if_pos (by omega)]
  rfl
theorem set_last {xs : List V} {v w : V} : (xs ++ [v]).set xs.length w = xs ++ [w] := by
  rw [List.set_append_right _ _ (Nat.le_refl _), Nat.sub_self]
  rfl
theorem at_last {xs : List V} {v : V} : atI (xs ++ [v]) (-1) = some v := atI_last _ _
theorem at_0 {x : V} {xs : List V} : atI (x :: xs) 0 = some x := atI_nat (j := 0) rfl
theorem at_1 {x y : V} {xs : List V} : atI (x :: y :: xs) 1 = some y := atI_nat (j := 1) rfl
theorem at_2 {x y z : V} {xs : List V} : atI (x :: y :: z :: xs) 2 = some z := atI_nat (j := 2) rfl
theorem at_3 {x y z u : V} {xs : List V} : atI (x :: y :: z :: u :: xs) 3 = some u := atI_nat (j := 3) rfl
theorem cut_1 (xs : List V) : cutV xs (some 1) none = xs.tail := by
  unfold cutV
  rw [show HT.sIx xs.length 0 (some 1) = min 1 xs.length from HT.sIx_nat xs.length 0 1, HT.sIx_none]
  cases xs with
  | nil => rfl
  | cons x r =>
    rw [show min 1 (x :: r).length = 1 by
      rw [List.length_cons]
      omega]
    show List.take ((x :: r).length - 1) r = r
    rw [List.length_cons, Nat.add_sub_cancel]
    exact List.take_length
theorem cut_m1 (xs : List V) : cutV xs none (some (-1)) = xs.dropLast := by
  have e : HT.sIx xs.length xs.length (some (-1)) = xs.length - 1 := by
    unfold HT.sIx
    simp only
    first
      | rfl
      | (split <;> omega)
      | omega
  unfold cutV
  rw [HT.sIx_none, e, List.drop_zero, Nat.sub_zero, List.dropLast_eq_take]
theorem sz {n : Nat} (h : n ≤ 1000000) : n ≤ sizeLine := Nat.le_trans h (by decide)
theorem sz' {n : Nat} (h : n ≤ 1000000) : n < sizeLine := Nat.lt_of_le_of_lt h (by decide)
/-- the built-ins -/
structure Txt (mg : Str → Option Value) : Prop where
  len : mg "len" = none
  sorted : mg "sorted" = none
  max : mg "max" = none
  min : mg "min" = none
  zip : mg "zip" = none
  set : mg "set" = none
  tuple : mg "tuple" = none
  list : mg "list" = none
  enumerate : mg "enumerate" = none
  range : mg "range" = none
  sum : mg "sum" = none
  abs : mg "abs" = none
end Mw
namespace Mw
open PySem PySem.Spec PyProof.Rows L2 MkR Mk
section
variable {P : Program} {w : World} {K : PySem.W.Frag} {mg : Str → Option Value} {base : Heap}
/-- a def of the text, where it stands -/
def Here (K : PySem.W.Frag) (mg : Str → Option Value) (x : Str) (st : Stmt) (ps : List Str) : Prop := ∃ (f : Addr) (fd : FuncData), C8.Def K mg x st f fd ∧ Binds K fd ps []
theorem Here.cal {x : Str} {st : Stmt} {N ps : List Str} {k : Nat} {sp : Sp} (h : Here K mg x st ps) (S : FnScope N ps (C8.fnScope st)) (len : ∀ vs H Q E, sp vs H Q E → vs.length = ps.length)
    (hbody : ∀ (f : Addr) (cdv : Value) (A : Around) (outer : List Env) (s : Shared) (H : Hp) (vs : List V) (Q : VK) (E : XK), Room k (A.deeper (envOfC x (C8.fnScope st) s.heap.objs.size f cdv)) → sp vs H Q E →
      ∃ t, PSs (cxOf C8.CX0 P w K mg base N x (C8.fnScope st) f cdv A outer s H E).nox (C8.fnBody st) t ∧ t { nx := fun _ H' => Q .non H', rt := Q } (start N vs) H) : C8.Cal P w K mg base (k + 1) x sp [] := by
  obtain ⟨f, fd, D, b⟩ := h
  exact C8.cal0 D b .nil S len fun cdv A outer s H vs Q E hr h => hbody f cdv A outer s H vs Q E hr h
end
end Mw
namespace Mw
open PySem PySem.Spec PyProof.Rows L2 MkR Mk
theorem keep_trans {H H1 H2 : Hp} (a : Keep H H1) (b : Keep H1 H2) : Keep H H2 := fun x o h => b x o (a x o h)
/-- a list of ours is changed -/
theorem put_lst {H H' : Hp} {o : Addr} {zs ws : List V} (sm : L2.Same H H') (no : H o = none) (ho : H' o = some (.lst zs)) :
    L2.Same H (upd H' o (.lst ws)) ∧ upd H' o (.lst ws) o = some (.lst ws) ∧ Keep H' (upd H' o (.lst ws)) ∧ ∀ b x, b ≠ o → H' b = some x → upd H' o (.lst ws) b = some x :=
  ⟨same_mut sm no, upd_same, keep_lst ho, fun b x hb e => by rw [upd_ne hb]; exact e⟩
/-- a new tuple is made, and a list of ours changed -/
theorem put_tup {H H' : Hp} {o t : Addr} {zs ws w : List V} (sm : L2.Same H H') (no : H o = none) (ho : H' o = some (.lst zs)) (nt : H' t = none) :
    (upd H' t (.tup w)) o = some (.lst zs) ∧ L2.Same H (upd (upd H' t (.tup w)) o (.lst ws)) ∧ upd (upd H' t (.tup w)) o (.lst ws) o = some (.lst ws) ∧ Keep H' (upd (upd H' t (.tup w)) o (.lst ws)) ∧
      upd (upd H' t (.tup w)) o (.lst ws) t = some (.tup w) ∧ ∀ b x, b ≠ o → H' b = some x → upd (upd H' t (.tup w)) o (.lst ws) b = some x := by
  have not' : o ≠ t := ne_of_none ho nt
  have h1 : (upd H' t (.tup w)) o = some (.lst zs) := by
    rw [upd_ne not']
    exact ho
  refine ⟨h1, same_mut (sm.trans (same_new nt)) no, upd_same, keep_trans (keep_new nt) (keep_lst h1), ?_, fun b x hb e => ?_⟩
  · rw [upd_ne not'.symm]
    exact upd_same
  · rw [upd_ne hb, upd_ne (ne_of_none e nt)]
    exact e
theorem fresh_ne {H : Hp} {a b : Addr} {o : HO} (h : upd H a o b = none) : b ≠ a ∧ H b = none := by
  have ne : b ≠ a := fun e => by
    rw [e, upd_same] at h
    cases h
  refine ⟨ne, ?_⟩
  rw [upd_ne ne] at h
  exact h
end Mw
namespace Mw
open PySem PySem.Spec PyProof.Rows L2 MkR Mk
theorem bt {p : Prop} [Decidable p] (h : p) : V.bl (decide p) = V.bl true := congrArg V.bl (decide_eq_true h)
theorem bf {p : Prop} [Decidable p] (h : ¬ p) : V.bl (decide p) = V.bl false := congrArg V.bl (decide_eq_false h)
theorem len_snoc_pos {xs : List V} {v : V} : (0 : Int) < (((xs ++ [v]).length : Nat) : Int) := by
  rw [List.length_append, List.length_singleton]
  omega
end Mw

-- W1
namespace Mw
open PySem PySem.Spec PyProof.Rows L2 MkR Mk
section
variable {P : Program} {w : World} {K : PySem.W.Frag} {mg : Str → Option Value} {base : Heap}
abbrev s_joined : Stmt := topS 1
abbrev N_joined : List Str := ["stretches", "found", "start", "end"]
theorem sc_joined : FnScope N_joined ["stretches"] (C8.fnScope s_joined) := C8.fnScope_by (by decide +kernel)
/-- stretches put together -/
structure IsJ (l m : Ln) : Prop where
  ok : LOK m
  mem : ∀ x, inL m x ↔ inL l x
  crs : ∀ PX : Int → Prop, (∀ f ∈ l, PX f.1 ∧ PX f.2) → ∀ f ∈ m, PX f.1 ∧ PX f.2
def sp_joined (K : PySem.W.Frag) : Sp := fun vs H Q _ => ∃ (a : Addr) (xs : List V) (l : Ln), vs = [.ref a] ∧ H a = some (.lst xs) ∧ DtAll H xs (l.map dP) ∧ (∀ s ∈ l, s.1 < s.2) ∧ l.length ≤ 1000000 ∧
  ∀ v H' m, L2.Same H H' → IsJ l m → Dt H' v (dL m) → Q v H'
theorem jstep_len (f : Ln) (s : Int × Int) : (jstep f s).length ≤ f.length + 1 := by
  rcases snoc_cases f with rfl | ⟨m, l, rfl⟩
  · rw [jstep_nil]
    exact Nat.le_refl _
  · rw [jstep_snoc]
    split <;> simp
theorem cal_joined (T : Txt mg) (D : Here K mg "joined" s_joined ["stretches"]) : C8.Cal P w K mg base 1 "joined" (sp_joined K) [] := by
  refine D.cal sc_joined (fun vs H Q E h => ?_) fun f cdv A outer s H vs Q E hr h => ?_
  · obtain ⟨a, xs, l, rfl, _⟩ := h
    rfl
  obtain ⟨a, xs, l, rfl, ha, hx, hv, hn, q⟩ := h
  have sc := sc_joined
  refine ⟨_,
  (pss_cons (ps_set (i := 1) sc.nd rfl (Or.inl rfl) (pe_lst pa_nil))
      (pss_cons (ps_for PassesOwn.never rfl (pi_list (pe_callB (cr_sortedT hr.units) (by rfl) T.sorted (by decide +kernel) (pa_cons (pv 0) pa_nil))) (pg_tup rfl (pgs_cons (pg_name (i := 2) sc.nd rfl (Or.inl rfl)) (pgs_cons (pg_name (i := 3) sc.nd rfl (Or.inl rfl)) pgs_nil))) (pss_one (ps_if (PW.pt (pw_and (pt_cmpR op_gt (pe_callB call_len_seq (by rfl) T.len (by decide +kernel) (pa_cons (pv 1) pa_nil)) pe_int (nomark _)) (pw_and1 (pt_cmpR op_le (pv 2) (pe_ix ix_tup (pe_ix ix_list (pv 1) (pe_un un_neg pe_int) (fun _ _ => rfl)) pe_int (fun _ _ => rfl)) (nomark _))))) (pss_one (ps_asg (pe_tup (pa_cons (pe_ix ix_tup (pe_ix ix_list (pv 1) (pe_un un_neg pe_int) (fun _ _ => rfl)) pe_int (fun _ _ => rfl)) (pa_cons (pe_callB (call_max2 rfl) (by rfl) T.max (by decide +kernel) (pa_cons (pe_ix ix_tup (pe_ix ix_list (pv 1) (pe_un un_neg pe_int) (fun _ _ => rfl)) pe_int (fun _ _ => rfl)) (pa_cons (pv 3) pa_nil))) pa_nil))) (pg_sub (pv 1) (pe_un un_neg pe_int) set_list))) (pss_one (ps_expr (pe_bm PySem.F.plainAttrs_list PySem.F.slot_list_append PySem.F.type_list_append mt_append (pv 1) (pa_cons (pe_tup (pa_cons (pv 2) (pa_cons (pv 3) pa_nil))) pa_nil)))))))
      (pss_one (ps_ret (pe_callTy call_tuple_of (by rfl) T.tuple (by decide +kernel) (pa_cons (pv 1) pa_nil)))))), ?_⟩
  refine ⟨Nat.zero_le _, fun o no => ?_⟩
  have nao : a ≠ o := ne_of_none ha no
  have ha1 : (upd H o (.lst [])) a = some (.lst xs) := by rw [upd_ne nao]; exact ha
  obtain ⟨b1, b2, b3⟩ := able_P l
  refine ⟨.ref a, rfl, Int × Int, dP, a, xs, l, rfl, SqL.of ha1, hx.keep (keep_new no), b1, b2, b3, fun ys p hy hp => ?_⟩
  generalize hsrt : l.mergeSort (PySem.W.dataLe false dP) = srt at hy
  obtain ⟨so1, so2⟩ := sorted_P l
  rw [hsrt] at so1 so2
  have npo : o ≠ p := fun e => by
    rw [← e, upd_same] at hp
    cases hp
  have np0 : H p = none := by
    rw [upd_ne npo.symm] at hp
    exact hp
  refine ⟨p, rfl, ⟨ys, SqL.of upd_same⟩, for_list (K := K) (a := p) (xs := ys) (fun i σ' H' => ∃ zs y2 y3, σ' = [some (.ref a), some (.ref o), y2, y3] ∧ L2.Same H H' ∧ H' p = some (.lst ys) ∧ H' o = some (.lst zs) ∧
    DtAll H' ys (srt.map dP) ∧ DtAll H' zs (((srt.take i).foldl jstep []).map dP) ∧ zs.length ≤ i) ?_ ?_ ?_ ?_⟩
  · refine ⟨[], none, none, rfl, same_mut (same_new no) np0, upd_same, by rw [upd_ne npo]; exact upd_same, hy.keep (keep_new hp), .nil, Nat.le_refl _⟩
  · rintro i σ' H' _ ⟨zs, y2, y3, rfl, sm, hp', _⟩
    exact SqL.of hp'
  · rintro i x σ' H' hi ⟨zs, y2, y3, rfl, sm, hp', ho', dy, dz, lz⟩
    obtain ⟨s0, hs0, hd0⟩ := DtAll.at dy hi
    obtain ⟨pp, rfl, hpp⟩ := dt_P hd0
    have len_ys : ys.length = l.length := by rw [DtAll.len hy, List.length_map, so1.length_eq]
    have li := (List.getElem?_eq_some_iff.mp hi).1
    have step : (srt.take (i + 1)).foldl jstep [] = jstep ((srt.take i).foldl jstep []) s0 := by
      rw [List.take_add_one, hs0, Option.toList_some, List.foldl_append]
      rfl
    refine ⟨pp, _, rfl, SqT.of hpp, rfl, _, _, rfl, _, _, rfl, rfl, ?_⟩
    refine ⟨.ref o, rfl, o, zs, rfl, .inl (SqL.of ho'), _, _, rfl, rfl, ?_⟩
    rw [step]
    rcases snoc_cases ((srt.take i).foldl jstep []) with hf | ⟨m, f, hf⟩
    · rw [hf] at dz ⊢
      have zn := DtAll.nil_of dz
      subst zn
      refine ⟨false, bf (by decide), iteF (iteF ?_)⟩
      -- found.append((start, end))
      refine ⟨.ref o, rfl, .inl ⟨rfl, _, SqL.of ho'⟩, .int s0.1, rfl, .int s0.2, rfl, by show 2 ≤ sizeLine; decide, fun t nt => ?_⟩
      obtain ⟨g0, g1, g2, g3, g4, g5⟩ := put_tup (w := [.int s0.1, .int s0.2]) (ws := [] ++ [V.ref t]) sm no ho' nt
      refine ⟨o, [], .ref t, rfl, rfl, g0, by decide, ?_⟩
      exact ⟨_, _, _, rfl, g1, g5 _ _ npo.symm hp', g2, dy.keep g3, DtAll.one (P_dt g4), by rw [List.nil_append, List.length_singleton]; omega⟩
    · rw [hf, List.map_append] at dz
      obtain ⟨ws, wv, rfl, dw, dl⟩ := DtAll.snoc dz
      obtain ⟨pf, rfl, hpf⟩ := dt_P dl
      rw [hf, jstep_snoc]
      refine ⟨true, bt len_snoc_pos, iteT ?_⟩
      refine ⟨.int s0.1, rfl, .ref o, rfl, 1, rfl, o, _, -1, .ref pf, rfl, rfl, SqL.of ho', at_last, pf, _, 1, .int f.2, rfl, rfl, SqT.of hpf, at_1, s0.1, f.2, rfl, rfl, ?_⟩
      by_cases c : s0.1 ≤ f.2
      · rw [if_pos c]
        refine ⟨true, bt c, iteT ?_⟩
        -- found[-1] = (found[-1][0], max(found[-1][1], end))
        refine ⟨.ref o, rfl, 1, rfl, o, _, -1, .ref pf, rfl, rfl, SqL.of ho', at_last, pf, _, 0, .int f.1, rfl, rfl, SqT.of hpf, at_0, .ref o, rfl, 1, rfl, o, _, -1, .ref pf, rfl, rfl, SqL.of ho', at_last, pf, _, 1, .int f.2, rfl, rfl, SqT.of hpf, at_1,
          .int s0.2, rfl, f.2, s0.2, rfl, by show 2 ≤ sizeLine; decide, fun t nt => ?_⟩
        obtain ⟨g0, g1, g2, g3, g4, g5⟩ := put_tup (w := [.int f.1, .int (if s0.2 > f.2 then s0.2 else f.2)]) (ws := (ws ++ [V.ref pf]).set ws.length (V.ref t)) sm no ho' nt
        refine ⟨.ref o, rfl, 1, rfl, o, _, -1, ws.length, rfl, rfl, g0, by rw [List.length_append, List.length_singleton]; exact ix_last, ?_⟩
        rw [set_last] at g1 g2 g3 g4 g5 ⊢
        refine ⟨_, _, _, rfl, g1, g5 _ _ npo.symm hp', g2, dy.keep g3, ?_, by rw [List.length_append, List.length_singleton] at *; omega⟩
        rw [List.map_append]
        exact DtAll.app (dw.keep g3) (DtAll.one (P_dt g4))
      · rw [if_neg c]
        refine ⟨false, bf c, iteF ?_⟩
        refine ⟨.ref o, rfl, .inl ⟨rfl, _, SqL.of ho'⟩, .int s0.1, rfl, .int s0.2, rfl, by show 2 ≤ sizeLine; decide, fun t nt => ?_⟩
        obtain ⟨g0, g1, g2, g3, g4, g5⟩ := put_tup (w := [.int s0.1, .int s0.2]) (ws := (ws ++ [V.ref pf]) ++ [V.ref t]) sm no ho' nt
        refine ⟨o, _, .ref t, rfl, rfl, g0, sz' (by omega), ?_⟩
        refine ⟨_, _, _, rfl, g1, g5 _ _ npo.symm hp', g2, dy.keep g3, ?_, by rw [List.length_append (bs := [V.ref t]), List.length_singleton]; omega⟩
        rw [List.map_append, List.map_append]
        exact DtAll.app (DtAll.app (dw.keep g3) (DtAll.one (P_dt (g3 _ _ hpf)))) (DtAll.one (P_dt g4))
  · rintro σ' H' ⟨zs, y2, y3, rfl, sm, hp', ho', dy, dz, lz⟩
    have len_ys : ys.length = srt.length := by rw [DtAll.len hy, List.length_map]
    rw [len_ys, List.take_length] at dz
    refine ⟨.ref o, rfl, o, zs, rfl, .inl ⟨SqL.of ho', fun t nt => ?_⟩⟩
    obtain ⟨j1, j2, j3⟩ := joined_ok (xs := srt) (fun s hs => hv s (so1.mem_iff.mp hs)) so2
    refine q _ _ _ (sm.trans (same_new nt)) ⟨j1, fun x => ?_, fun PX h => j3 PX fun f hf => h f (so1.mem_iff.mp hf)⟩ (.tup upd_same (dz.keep (keep_new nt)))
    rw [j2]
    exact ⟨fun ⟨s, hs, k⟩ => ⟨s, so1.mem_iff.mp hs, k⟩, fun ⟨s, hs, k⟩ => ⟨s, so1.mem_iff.mpr hs, k⟩⟩
end
end Mw

-- L0
namespace Mw
open PySem PySem.Spec PyProof.Rows L2 MkR Mk
theorem ixT {X : Cx} {K : PySem.W.Frag} (e : X.K = K) : IxR X (rIxT K) := e ▸ ix_tup
theorem ixL {X : Cx} {K : PySem.W.Frag} (e : X.K = K) : IxR X (rIxL K) := e ▸ ix_list
theorem pgT {X : Cx} {K : PySem.W.Frag} {es : List Expr} {k : Nat} {t : TGs} {n : Nat} {pos : Pos} (e : X.K = K) (hc : X.calm = true) (h : PGs X es t) (hn : (assignEach es X.env).length = n := by rfl) (hst : (assignEach es X.env).findIdx? (·.1) = none := by rfl) : PG X (.Tuple es k pos) (gTup K n t) := e ▸ pg_tup hc h hn hst
theorem setDK {X : Cx} {K : PySem.W.Frag} {w : World} (e : X.K = K) (f : X.w = w) (hc : X.calm = true) : CallR X (.type "set") (rSetD K w) := e ▸ f ▸ cr_setD hc
theorem sortedSetDK {X : Cx} {w : World} (f : X.w = w) (hc : X.calm = true) : CallR X (.builtin "sorted") (rSortedSetD w) := f ▸ cr_sortedSetD hc
def rLenK (K : PySem.W.Frag) : List V → Hp → VK → Prop := fun xs H Q => ∃ p ys, xs = [.ref p] ∧ (SqL K H p ys ∨ SqT K H p ys) ∧ Q (.int ys.length) H
theorem lenK {X : Cx} {K : PySem.W.Frag} (e : X.K = K) : CallR X (.builtin "len") (rLenK K) := e ▸ call_len_seq
theorem yes {σ : L2.St} {H : Hp} {R : V → Hp → Prop} {N : Hp → Prop} {te : TE} (h : te σ H R) : tYes σ H (fun b H3 => if b = true then te σ H3 R else N H3) := by
  show if true = true then te σ H R else N H
  rw [if_pos rfl]
  exact h
/-! ### all but one list stays -/
def Fr (o : Addr) (H H' : Hp) : Prop := ∀ b x, b ≠ o → H b = some x → H' b = some x
theorem Fr.refl {o : Addr} {H : Hp} : Fr o H H := fun _ _ _ h => h
theorem Fr.trans {o : Addr} {H H1 H2 : Hp} (a : Fr o H H1) (b : Fr o H1 H2) : Fr o H H2 := fun c x n h => b c x n (a c x n h)
theorem Fr.of {o : Addr} {H H' : Hp} (a : L2.Same H H') : Fr o H H' := fun c x _ h => a c x h
theorem Fr.new {o t : Addr} {H : Hp} {x : HO} (h : H t = none) : Fr o H (upd H t x) := .of (same_new h)
theorem Fr.put {o : Addr} {H : Hp} {x : HO} : Fr o H (upd H o x) := fun b y n h => by
  rw [upd_ne n]
  exact h
theorem Fr.keep {o : Addr} {H H' : Hp} {zs : List V} (ho : H o = some (.lst zs)) (f : Fr o H H') : Keep H H' := fun a xs e => f a _ (ne_of e ho (by intro q; cases q)) e
theorem Fr.same {o : Addr} {H0 H H' : Hp} (f : Fr o H H') (sm : L2.Same H0 H) (no : H0 o = none) : L2.Same H0 H' := fun b x h => f b x (ne_of_none h no) (sm b x h)
theorem Fr.l {o p : Addr} {H H' : Hp} {xs : List V} (f : Fr o H H') (n : p ≠ o) (h : H p = some (.lst xs)) : H' p = some (.lst xs) := f p _ n h
theorem keepS {H H' : Hp} (h : L2.Same H H') : Keep H H' := keep_same h
/-- a list of ours grows by a new tuple -/
theorem app_new {o t : Addr} {H : Hp} {zs w ws : List V} (ho : H o = some (.lst zs)) (nt : H t = none) :
    (upd H t (.tup w)) o = some (.lst zs) ∧ Fr o H (upd (upd H t (.tup w)) o (.lst ws)) ∧ upd (upd H t (.tup w)) o (.lst ws) o = some (.lst ws) ∧ upd (upd H t (.tup w)) o (.lst ws) t = some (.tup w) ∧ Keep H (upd (upd H t (.tup w)) o (.lst ws)) := by
  have ne : o ≠ t := ne_of_none ho nt
  have f : Fr o H (upd (upd H t (.tup w)) o (.lst ws)) := (Fr.new nt).trans .put
  refine ⟨by rw [upd_ne ne]; exact ho, f, upd_same, ?_, f.keep ho⟩
  rw [upd_ne ne.symm]
  exact upd_same

/-! ### loops over zip and enumerate -/
theorem for_z2 {K : PySem.W.Frag} {a b : Addr} {xs ys : List V} {g : TG} {tb : TS} {D : Ends} {σ : L2.St} {H : Hp} (n : Nat) (h1 : n ≤ xs.length) (h2 : n ≤ ys.length) (h3 : n = xs.length ∨ n = ys.length) (Pv : Nat → L2.St → Hp → Prop) (h0 : Pv 0 σ H)
    (hq : ∀ i σ H, Pv i σ H → SqL K H a xs ∧ SqL K H b ys)
    (hs : ∀ (i : Nat) (x y : V) (T : Addr) (σ : L2.St) (H : Hp), xs[i]? = some x → ys[i]? = some y → Pv i σ H → H T = none → g (.ref T) σ (upd H T (.tup [x, y])) fun σ2 H2 => tb { D with nx := Pv (i + 1), ct := Pv (i + 1), bk := D.nx } σ2 H2) (hd : ∀ σ H, Pv n σ H → D.nx σ H) :
    ∃ W : Nat → Nat → L2.St → Hp → Prop, (∃ m, W 0 m σ H) ∧ ∀ i m σ H, W i m σ H →
      ((Itz K a b).stop i H ∧ D.nx σ H) ∨ ((Itz K a b).go i H ∧ ∃ N : L2.St → Hp → Prop, (∀ σ' H', N σ' H' → ∃ m', m' < m ∧ W (i + 1) m' σ' H') ∧ ∀ v H', (Itz K a b).yld i H v H' → g v σ H' fun σ2 H2 => tb { D with nx := N, ct := N, bk := D.nx } σ2 H2) := by
  refine ⟨fun i m σ H => m = n - i ∧ i ≤ n ∧ Pv i σ H, ⟨n, rfl, Nat.zero_le _, h0⟩, ?_⟩
  rintro i m σ H ⟨rfl, hi, p⟩
  obtain ⟨qx, qy⟩ := hq i σ H p
  by_cases hlt : i < n
  · have hx : xs[i]? = some (xs[i]'(by omega)) := List.getElem?_eq_getElem (by omega)
    have hy : ys[i]? = some (ys[i]'(by omega)) := List.getElem?_eq_getElem (by omega)
    refine .inr ⟨⟨xs, ys, _, _, qx, qy, hx, hy⟩, Pv (i + 1), fun σ' H' p' => ⟨n - (i + 1), by omega, rfl, hlt, p'⟩, fun v H' y => ?_⟩
    obtain ⟨T, x', y', rfl, hT, rfl, f1, f2⟩ := y
    exact hs i x' y' T σ H (f1 xs qx) (f2 ys qy) p hT
  · have e : i = n := by omega
    subst e
    exact .inl ⟨⟨xs, ys, qx, qy, by omega⟩, hd σ H p⟩
theorem for_z3 {K : PySem.W.Frag} {a b c : Addr} {xs ys zs : List V} {g : TG} {tb : TS} {D : Ends} {σ : L2.St} {H : Hp} (n : Nat) (h1 : n = min (min xs.length ys.length) zs.length) (Pv : Nat → L2.St → Hp → Prop) (h0 : Pv 0 σ H)
    (hq : ∀ i σ H, Pv i σ H → SqL K H a xs ∧ SqL K H b ys ∧ SqL K H c zs)
    (hs : ∀ (i : Nat) (x y z : V) (T : Addr) (σ : L2.St) (H : Hp), xs[i]? = some x → ys[i]? = some y → zs[i]? = some z → Pv i σ H → H T = none → g (.ref T) σ (upd H T (.tup [x, y, z])) fun σ2 H2 => tb { D with nx := Pv (i + 1), ct := Pv (i + 1), bk := D.nx } σ2 H2) (hd : ∀ σ H, Pv n σ H → D.nx σ H) :
    ∃ W : Nat → Nat → L2.St → Hp → Prop, (∃ m, W 0 m σ H) ∧ ∀ i m σ H, W i m σ H →
      ((Itz3 K a b c).stop i H ∧ D.nx σ H) ∨ ((Itz3 K a b c).go i H ∧ ∃ N : L2.St → Hp → Prop, (∀ σ' H', N σ' H' → ∃ m', m' < m ∧ W (i + 1) m' σ' H') ∧ ∀ v H', (Itz3 K a b c).yld i H v H' → g v σ H' fun σ2 H2 => tb { D with nx := N, ct := N, bk := D.nx } σ2 H2) := by
  refine ⟨fun i m σ H => m = n - i ∧ i ≤ n ∧ Pv i σ H, ⟨n, rfl, Nat.zero_le _, h0⟩, ?_⟩
  rintro i m σ H ⟨rfl, hi, p⟩
  obtain ⟨qx, qy, qz⟩ := hq i σ H p
  by_cases hlt : i < n
  · refine .inr ⟨⟨xs, ys, zs, qx, qy, qz, by omega, by omega, by omega⟩, Pv (i + 1), fun σ' H' p' => ⟨n - (i + 1), by omega, rfl, hlt, p'⟩, fun v H' y => ?_⟩
    obtain ⟨T, x', y', z', rfl, hT, rfl, f1, f2, f3⟩ := y
    exact hs i x' y' z' T σ H (f1 xs qx) (f2 ys qy) (f3 zs qz) p hT
  · have e : i = n := by omega
    subst e
    exact .inl ⟨⟨xs, ys, zs, qx, qy, qz, h1⟩, hd σ H p⟩
theorem for_enum {K : PySem.W.Frag} {a : Addr} {xs : List V} {g : TG} {tb : TS} {D : Ends} {σ : L2.St} {H : Hp} (Pv : Nat → L2.St → Hp → Prop) (h0 : Pv 0 σ H) (hq : ∀ i σ H, Pv i σ H → SqL K H a xs)
    (hs : ∀ (i : Nat) (x : V) (T : Addr) (σ : L2.St) (H : Hp), xs[i]? = some x → Pv i σ H → H T = none → g (.ref T) σ (upd H T (.tup [.int (i : Nat), x])) fun σ2 H2 => tb { D with nx := Pv (i + 1), ct := Pv (i + 1), bk := D.nx } σ2 H2) (hd : ∀ σ H, Pv xs.length σ H → D.nx σ H) :
    ∃ W : Nat → Nat → L2.St → Hp → Prop, (∃ m, W 0 m σ H) ∧ ∀ i m σ H, W i m σ H →
      ((Ite K a).stop i H ∧ D.nx σ H) ∨ ((Ite K a).go i H ∧ ∃ N : L2.St → Hp → Prop, (∀ σ' H', N σ' H' → ∃ m', m' < m ∧ W (i + 1) m' σ' H') ∧ ∀ v H', (Ite K a).yld i H v H' → g v σ H' fun σ2 H2 => tb { D with nx := N, ct := N, bk := D.nx } σ2 H2) := by
  refine ⟨fun i m σ H => m = xs.length - i ∧ i ≤ xs.length ∧ Pv i σ H, ⟨xs.length, rfl, Nat.zero_le _, h0⟩, ?_⟩
  rintro i m σ H ⟨rfl, hi, p⟩
  have qx := hq i σ H p
  by_cases hlt : i < xs.length
  · have hx : xs[i]? = some xs[i] := List.getElem?_eq_getElem hlt
    refine .inr ⟨⟨xs, _, qx, hx⟩, Pv (i + 1), fun σ' H' p' => ⟨xs.length - (i + 1), by omega, rfl, hlt, p'⟩, fun v H' y => ?_⟩
    obtain ⟨T, x', rfl, hT, rfl, f1⟩ := y
    exact hs i x' T σ H (f1 xs qx) p hT
  · have e : i = xs.length := by omega
    subst e
    exact .inl ⟨⟨xs, qx, Nat.le_refl _⟩, hd σ H p⟩

/-! ### a comprehension that makes data of data -/
theorem filter_snoc {α : Type} {l : List α} {p : α → Bool} {i : Nat} {s : α} (h : l[i]? = some s) : (l.take (i + 1)).filter p = (l.take i).filter p ++ (if p s = true then [s] else []) := by
  rw [List.take_add_one, h, Option.toList_some, List.filter_append, List.filter_cons]
  split <;> rfl
def LcPost (H1 : Hp) (ds : List PyData) (Q : Addr → Hp → Prop) : Prop := ∀ D H' ys, L2.Same H1 H' → H1 D = none → H' D = some (.lst ys) → DtAll H' ys ds → Q D H'
theorem lcD_list {K : PySem.W.Frag} {α β : Type} {enc : α → PyData} {encB : β → PyData} {l : List α} {p : α → Bool} {f : α → β} {a : Addr} {xs : List V} {g : TG} {tt : TT} {te : TE} {vs : List Nat} {σ : L2.St} {H1 : Hp} {Q : Addr → Hp → Prop}
    (hx : H1 a = some (.lst xs)) (dx : DtAll H1 xs (l.map enc)) (hn : l.length ≤ 1000000)
    (hs : ∀ (i : Nat) (x : V) (s : α) (H' : Hp) (R : VK) (N : Hp → Prop), l[i]? = some s → Dt H' x (enc s) → L2.Same H1 H' → (p s = true → ∀ y H4, L2.Same H' H4 → Dt H4 y (encB (f s)) → R y H4) → (p s = false → ∀ H4, L2.Same H' H4 → N H4) →
      g x (wipe σ vs) H' fun σ2 H2 => wipe σ2 vs = wipe σ vs ∧ tt σ2 H2 fun b H3 => if b = true then te σ2 H3 R else N H3)
    (hq : LcPost H1 (((l.filter p).map f).map encB) Q) :
    ∀ D, H1 D = none → ∃ W : Nat → Nat → Hp → Prop, (∃ m, W 0 m (upd H1 D (.lst []))) ∧ ∀ i m H, W i m H →
      ((Itl K a).stop i H ∧ Q D H) ∨ ((Itl K a).go i H ∧ ∃ Nx : Hp → Prop, (∀ H', Nx H' → ∃ m', m' < m ∧ W (i + 1) m' H') ∧ ∀ x H', (Itl K a).yld i H x H' → g x (wipe σ vs) H' fun σ2 H2 => wipe σ2 vs = wipe σ vs ∧ tt σ2 H2 fun b H3 =>
        if b = true then te σ2 H3 fun y H4 => ∃ acc, H4 D = some (.lst acc) ∧ acc.length < sizeLine ∧ Nx (upd H4 D (.lst (acc ++ [y]))) else Nx H3) := fun D nD => by
  refine lc_list (xs := xs) (fun (i : Nat) H => L2.Same H1 H ∧ ∃ zs, H D = some (.lst zs) ∧ DtAll H zs ((((l.take i).filter p).map f).map encB) ∧ zs.length ≤ i) ⟨same_new nD, [], upd_same, .nil, Nat.le_refl _⟩
    (fun i H' _ h => SqL.of (h.1 _ _ hx)) (fun i x H' hi h => ?_) fun H' h => ?_
  · obtain ⟨sm, ys, hD, hy, ly⟩ := h
    obtain ⟨s, hs0, ds⟩ := DtAll.at dx hi
    have key := hs i x s H'
    refine key (fun y H4 => ∃ acc, H4 D = some (.lst acc) ∧ acc.length < sizeLine ∧ (fun (j : Nat) H => L2.Same H1 H ∧ ∃ zs, H D = some (.lst zs) ∧ DtAll H zs ((((l.take j).filter p).map f).map encB) ∧ zs.length ≤ j) (i + 1) (upd H4 D (.lst (acc ++ [y]))))
      ((fun (j : Nat) H => L2.Same H1 H ∧ ∃ zs, H D = some (.lst zs) ∧ DtAll H zs ((((l.take j).filter p).map f).map encB) ∧ zs.length ≤ j) (i + 1)) hs0 (ds.keep (keepS sm)) sm ?_ ?_
    · intro hp y H4 e4 d4
      have li := (List.getElem?_eq_some_iff.mp hs0).1
      refine ⟨ys, e4 D _ hD, sz' (by omega), same_mut (sm.trans e4) nD, _, upd_same, ?_, by rw [List.length_append, List.length_singleton]; omega⟩
      rw [filter_snoc hs0, if_pos hp, List.map_append, List.map_append]
      exact DtAll.app (hy.keep (keep_trans (keepS e4) (keep_lst (e4 D _ hD)))) (DtAll.one (d4.keep (keep_lst (e4 D _ hD))))
    · intro hp H4 e4
      refine ⟨sm.trans e4, ys, e4 D _ hD, ?_, by omega⟩
      rw [filter_snoc hs0, if_neg (by rw [hp]; decide), List.append_nil]
      exact hy.keep (keepS e4)
  · obtain ⟨sm, ys, hD, hy, _⟩ := h
    have e : xs.length = l.length := by rw [DtAll.len dx, List.length_map]
    rw [e, List.take_length] at hy
    exact hq D H' ys sm nD hD hy
theorem lcD_tup {K : PySem.W.Frag} {α β : Type} {enc : α → PyData} {encB : β → PyData} {l : List α} {p : α → Bool} {f : α → β} {a : Addr} {xs : List V} {g : TG} {tt : TT} {te : TE} {vs : List Nat} {σ : L2.St} {H1 : Hp} {Q : Addr → Hp → Prop}
    (hx : H1 a = some (.tup xs)) (dx : DtAll H1 xs (l.map enc)) (hn : l.length ≤ 1000000)
    (hs : ∀ (i : Nat) (x : V) (s : α) (H' : Hp) (R : VK) (N : Hp → Prop), l[i]? = some s → Dt H' x (enc s) → L2.Same H1 H' → (p s = true → ∀ y H4, L2.Same H' H4 → Dt H4 y (encB (f s)) → R y H4) → (p s = false → ∀ H4, L2.Same H' H4 → N H4) →
      g x (wipe σ vs) H' fun σ2 H2 => wipe σ2 vs = wipe σ vs ∧ tt σ2 H2 fun b H3 => if b = true then te σ2 H3 R else N H3)
    (hq : LcPost H1 (((l.filter p).map f).map encB) Q) :
    ∀ D, H1 D = none → ∃ W : Nat → Nat → Hp → Prop, (∃ m, W 0 m (upd H1 D (.lst []))) ∧ ∀ i m H, W i m H →
      ((Itt K a).stop i H ∧ Q D H) ∨ ((Itt K a).go i H ∧ ∃ Nx : Hp → Prop, (∀ H', Nx H' → ∃ m', m' < m ∧ W (i + 1) m' H') ∧ ∀ x H', (Itt K a).yld i H x H' → g x (wipe σ vs) H' fun σ2 H2 => wipe σ2 vs = wipe σ vs ∧ tt σ2 H2 fun b H3 =>
        if b = true then te σ2 H3 fun y H4 => ∃ acc, H4 D = some (.lst acc) ∧ acc.length < sizeLine ∧ Nx (upd H4 D (.lst (acc ++ [y]))) else Nx H3) := fun D nD => by
  refine lc_tup (xs := xs) (fun (i : Nat) H => L2.Same H1 H ∧ ∃ zs, H D = some (.lst zs) ∧ DtAll H zs ((((l.take i).filter p).map f).map encB) ∧ zs.length ≤ i) ⟨same_new nD, [], upd_same, .nil, Nat.le_refl _⟩
    (fun i H' _ h => SqT.of (h.1 _ _ hx)) (fun i x H' hi h => ?_) fun H' h => ?_
  · obtain ⟨sm, ys, hD, hy, ly⟩ := h
    obtain ⟨s, hs0, ds⟩ := DtAll.at dx hi
    have key := hs i x s H'
    refine key (fun y H4 => ∃ acc, H4 D = some (.lst acc) ∧ acc.length < sizeLine ∧ (fun (j : Nat) H => L2.Same H1 H ∧ ∃ zs, H D = some (.lst zs) ∧ DtAll H zs ((((l.take j).filter p).map f).map encB) ∧ zs.length ≤ j) (i + 1) (upd H4 D (.lst (acc ++ [y]))))
      ((fun (j : Nat) H => L2.Same H1 H ∧ ∃ zs, H D = some (.lst zs) ∧ DtAll H zs ((((l.take j).filter p).map f).map encB) ∧ zs.length ≤ j) (i + 1)) hs0 (ds.keep (keepS sm)) sm ?_ ?_
    · intro hp y H4 e4 d4
      have li := (List.getElem?_eq_some_iff.mp hs0).1
      refine ⟨ys, e4 D _ hD, sz' (by omega), same_mut (sm.trans e4) nD, _, upd_same, ?_, by rw [List.length_append, List.length_singleton]; omega⟩
      rw [filter_snoc hs0, if_pos hp, List.map_append, List.map_append]
      exact DtAll.app (hy.keep (keep_trans (keepS e4) (keep_lst (e4 D _ hD)))) (DtAll.one (d4.keep (keep_lst (e4 D _ hD))))
    · intro hp H4 e4
      refine ⟨sm.trans e4, ys, e4 D _ hD, ?_, by omega⟩
      rw [filter_snoc hs0, if_neg (by rw [hp]; decide), List.append_nil]
      exact hy.keep (keepS e4)
  · obtain ⟨sm, ys, hD, hy, _⟩ := h
    have e : xs.length = l.length := by rw [DtAll.len dx, List.length_map]
    rw [e, List.take_length] at hy
    exact hq D H' ys sm nD hD hy
end Mw

-- W2
namespace Mw
open PySem PySem.Spec PyProof.Rows L2 MkR Mk
theorem bands_len : ∀ {cuts : List Int} {ls : List Ln}, (bands cuts ls).length = min (min cuts.length cuts.tail.length) ls.length
  | [], _ => by simp [bands]
  | [_], _ => by simp [bands]
  | a :: b :: t, [] => by simp [bands]
  | a :: b :: t, l :: ls => by
    have := bands_len (cuts := b :: t) (ls := ls)
    show (bands (b :: t) ls).length + 1 = _
    rw [this]
    simp only [List.length_cons, List.tail_cons]
    omega
theorem bands_get : ∀ {cuts : List Int} {ls : List Ln} {i : Nat} {a b : Int} {l : Ln}, cuts[i]? = some a → cuts.tail[i]? = some b → ls[i]? = some l → (bands cuts ls)[i]? = some (a, b, l)
  | [], _, _, _, _, _, h, _, _ => by simp at h
  | [_], _, i, _, _, _, _, h, _ => by simp at h
  | a :: b :: t, [], _, _, _, _, _, _, h => by simp at h
  | a :: b :: t, l :: ls, 0, _, _, _, h1, h2, h3 => by
    cases h1
    cases h2
    cases h3
    rfl
  | a :: b :: t, l :: ls, i + 1, _, _, _, h1, h2, h3 => bands_get (cuts := b :: t) (ls := ls) (i := i) h1 h2 h3
theorem ints_get {ns : List Int} {i : Nat} {v : V} (h : (ns.map V.int)[i]? = some v) : ∃ n, ns[i]? = some n ∧ v = .int n := by
  rw [List.getElem?_map] at h
  cases e : ns[i]? with
  | none => rw [e] at h; cases h
  | some n =>
    rw [e] at h
    cases h
    exact ⟨n, rfl, rfl⟩
section
variable {P : Program} {w : World} {K : PySem.W.Frag} {mg : Str → Option Value} {base : Heap}
abbrev s_banded : Stmt := topS 2
abbrev N_banded : List Str := ["cuts", "lines", "found", "low", "high", "line"]
theorem sc_banded : FnScope N_banded ["cuts", "lines"] (C8.fnScope s_banded) := C8.fnScope_by (by decide +kernel)
def sp_banded (K : PySem.W.Frag) : Sp := fun vs H Q _ => ∃ (a b : Addr) (cuts : List Int) (ys : List V) (ls : List Ln), vs = [.ref a, .ref b] ∧ H a = some (.lst (cuts.map V.int)) ∧ H b = some (.lst ys) ∧ DtAll H ys (ls.map dL) ∧ cuts.length ≤ 1000000 ∧
  ∀ v H', L2.Same H H' → Dt H' v (dR (Mk.banded cuts ls)) → Q v H'
theorem cal_banded (T : Txt mg) (D : Here K mg "banded" s_banded ["cuts", "lines"]) : C8.Cal P w K mg base 1 "banded" (sp_banded K) [] := by
  refine D.cal sc_banded (fun vs H Q E h => ?_) fun f cdv A outer s H vs Q E hr h => ?_
  · obtain ⟨a, b, xs, ys, l, rfl, _⟩ := h
    rfl
  obtain ⟨a, b, cuts, ys, ls, rfl, ha, hb, dy, hn, q⟩ := h
  have sc := sc_banded
  refine ⟨_,
  (pss_cons (ps_set (i := 2) sc.nd rfl (Or.inl rfl) (pe_lst pa_nil))
      (pss_cons (ps_for PassesOwn.never rfl (pi_zip3 (by rfl) T.zip (pa_cons (pv 0) (pa_cons (pe_slice sl_list (pv 0) (po_some pe_int) po_none) (pa_cons (pv 1) pa_nil)))) (pg_tup rfl (pgs_cons (pg_name (i := 3) sc.nd rfl (Or.inl rfl)) (pgs_cons (pg_name (i := 4) sc.nd rfl (Or.inl rfl)) (pgs_cons (pg_name (i := 5) sc.nd rfl (Or.inl rfl)) pgs_nil)))) (pss_one (ps_if (pt_cmpR op_gt (pe_callB call_len_seq (by rfl) T.len (by decide +kernel) (pa_cons (pv 5) pa_nil)) pe_int (nomark _)) (pss_one (ps_if (PW.pt (pw_and (pt_cmpR op_gt (pe_callB call_len_seq (by rfl) T.len (by decide +kernel) (pa_cons (pv 2) pa_nil)) pe_int (nomark _)) (pw_and (pt_cmpR op_eq (pe_ix ix_tup (pe_ix ix_list (pv 2) (pe_un un_neg pe_int) (fun _ _ => rfl)) pe_int (fun _ _ => rfl)) (pv 3) (nomark _)) (pw_and1 (pt_cmpR (op_eqD hr.units) (pe_ix ix_tup (pe_ix ix_list (pv 2) (pe_un un_neg pe_int) (fun _ _ => rfl)) pe_int (fun _ _ => rfl)) (pv 5) (nomark _)))))) (pss_one (ps_asg (pe_tup (pa_cons (pe_ix ix_tup (pe_ix ix_list (pv 2) (pe_un un_neg pe_int) (fun _ _ => rfl)) pe_int (fun _ _ => rfl)) (pa_cons (pv 4) (pa_cons (pv 5) pa_nil)))) (pg_sub (pv 2) (pe_un un_neg pe_int) set_list))) (pss_one (ps_expr (pe_bm PySem.F.plainAttrs_list PySem.F.slot_list_append PySem.F.type_list_append mt_append (pv 2) (pa_cons (pe_tup (pa_cons (pv 3) (pa_cons (pv 4) (pa_cons (pv 5) pa_nil)))) pa_nil)))))) pss_nil)))
      (pss_one (ps_ret (pe_callTy call_tuple_of (by rfl) T.tuple (by decide +kernel) (pa_cons (pv 2) pa_nil)))))), ?_⟩
  refine ⟨Nat.zero_le _, fun o no => ?_⟩
  have nao : a ≠ o := ne_of_none ha no
  have nbo : b ≠ o := ne_of_none hb no
  have ha1 : (upd H o (.lst [])) a = some (.lst (cuts.map V.int)) := by rw [upd_ne nao]; exact ha
  have hb1 : (upd H o (.lst [])) b = some (.lst ys) := by rw [upd_ne nbo]; exact hb
  have dy1 := dy.keep (keep_new (o := .lst []) no)
  refine ⟨.ref a, rfl, .ref a, rfl, 1, rfl, a, _, rfl, SqL.of ha1, fun p np => ?_⟩
  rw [cut_1]
  have ho1 : (upd (upd H o (.lst [])) p (.lst (cuts.map V.int).tail)) o = some (.lst []) := by
    rw [upd_ne (ne_of_none upd_same np)]
    exact upd_same
  have npo : p ≠ o := fun e => by
    rw [e, upd_same] at np
    cases np
  have sm1 : L2.Same H (upd (upd H o (.lst [])) p (.lst (cuts.map V.int).tail)) := (same_new no).trans (same_new np)
  have ha2 := sm1 _ _ ha
  have hb2 := sm1 _ _ hb
  have hp2 : (upd (upd H o (.lst [])) p (.lst (cuts.map V.int).tail)) p = some (.lst (cuts.map V.int).tail) := upd_same
  have dy2 := dy.keep (keepS sm1)
  generalize upd (upd H o (.lst [])) p (.lst (cuts.map V.int).tail) = H1 at *
  have ly : ys.length = ls.length := by rw [DtAll.len dy, List.length_map]
  refine ⟨.ref b, rfl, a, p, b, _, _, _, rfl, SqL.of ha2, SqL.of hp2, SqL.of hb2, for_z3 (K := K) (a := a) (b := p) (c := b) (xs := cuts.map V.int) (ys := (cuts.map V.int).tail) (zs := ys) (bands cuts ls).length
    (by rw [bands_len, ly, List.length_tail, List.length_tail, List.length_map])
    (fun i σ' H' => ∃ zs y3 y4 y5, σ' = [some (.ref a), some (.ref b), some (.ref o), y3, y4, y5] ∧ Fr o H1 H' ∧ H' o = some (.lst zs) ∧ DtAll H' zs ((((bands cuts ls).take i).foldl bstep []).map dB) ∧ zs.length ≤ i) ?_ ?_ ?_ ?_⟩
  · exact ⟨[], none, none, none, rfl, Fr.refl, ho1, .nil, Nat.le_refl _⟩
  · rintro i σ' H' ⟨zs, y3, y4, y5, rfl, fr, _⟩
    exact ⟨SqL.of (fr.l nao ha2), SqL.of (fr.l npo hp2), SqL.of (fr.l nbo hb2)⟩
  · rintro i x y z t σ' H' hx hy hz ⟨zs, y3, y4, y5, rfl, fr, ho', dz, lz⟩ nt
    obtain ⟨lo, hlo, rfl⟩ := ints_get hx
    rw [← List.map_tail] at hy
    obtain ⟨hi, hhi, rfl⟩ := ints_get hy
    obtain ⟨l, hl, dl⟩ := DtAll.at (dy2.keep (fr.keep ho1)) hz
    have hg := bands_get hlo hhi hl
    have li := (List.getElem?_eq_some_iff.mp hg).1
    rw [bands_len] at li
    have lc : i < 1000000 := by omega
    have step : ((bands cuts ls).take (i + 1)).foldl bstep [] = bstep (((bands cuts ls).take i).foldl bstep []) (lo, hi, l) := by
      rw [List.take_add_one, hg, Option.toList_some, List.foldl_append]
      rfl
    have frt : Fr o H1 (upd H' t (.tup [.int lo, .int hi, z])) := fr.trans (.new nt)
    have hot : (upd H' t (.tup [.int lo, .int hi, z])) o = some (.lst zs) := same_new nt _ _ ho'
    have dzt := dz.keep (keep_new (o := .tup [.int lo, .int hi, z]) nt)
    have dlt := dl.keep (keep_new (o := .tup [.int lo, .int hi, z]) nt)
    have htt : (upd H' t (.tup [.int lo, .int hi, z])) t = some (.tup [.int lo, .int hi, z]) := upd_same
    generalize upd H' t (.tup [.int lo, .int hi, z]) = H2 at *
    obtain ⟨pl, wl, rfl, hpl, dwl⟩ := dt_L dlt
    have lwl : wl.length = l.length := by rw [DtAll.len dwl, List.length_map]
    refine ⟨t, _, rfl, SqT.of htt, rfl, _, _, rfl, _, _, rfl, _, _, rfl, rfl, ?_⟩
    refine ⟨.ref pl, rfl, pl, wl, rfl, .inr (SqT.of hpl), _, _, rfl, rfl, ?_⟩
    rw [step]
    by_cases cl : l = []
    · rw [bstep_empty cl]
      refine ⟨false, bf (by rw [lwl, cl]; decide), iteF ?_⟩
      exact ⟨zs, _, _, _, rfl, frt, hot, dzt, by omega⟩
    · have lpos : 0 < l.length := List.length_pos_iff.mpr cl
      refine ⟨true, bt (by rw [lwl]; exact Int.ofNat_lt.mpr lpos), iteT ?_⟩
      refine ⟨.ref o, rfl, o, zs, rfl, .inl (SqL.of hot), _, _, rfl, rfl, ?_⟩
      rcases snoc_cases (((bands cuts ls).take i).foldl bstep []) with hf | ⟨m, b0, hf⟩
      · rw [hf] at dzt ⊢
        have zn := DtAll.nil_of dzt
        subst zn
        rw [bstep_nil cl]
        refine ⟨false, bf (by decide), iteF (iteF ?_)⟩
        refine ⟨.ref o, rfl, .inl ⟨rfl, _, SqL.of hot⟩, .int lo, rfl, .int hi, rfl, .ref pl, rfl, by show 3 ≤ sizeLine; decide, fun u nu => ?_⟩
        obtain ⟨g0, g1, g2, g3, g4⟩ := app_new (w := [.int lo, .int hi, .ref pl]) (ws := [] ++ [V.ref u]) hot nu
        refine ⟨o, [], .ref u, rfl, rfl, g0, by decide, ?_⟩
        exact ⟨_, _, _, _, rfl, frt.trans g1, g2, DtAll.one (B_dt g3 (dlt.keep g4)), by rw [List.nil_append, List.length_singleton]; omega⟩
      · rw [hf, List.map_append] at dzt
        obtain ⟨ws, wv, rfl, dw, db⟩ := DtAll.snoc dzt
        obtain ⟨pf, wf, rfl, hpf, dwf⟩ := dt_B db
        rw [hf, bstep_snoc cl]
        have adds : ∀ (Qn : L2.St → Hp → Prop), (∀ H', (∃ zs y3 y4 y5, [some (V.ref a), some (.ref b), some (.ref o), some (.int lo), some (.int hi), some (.ref pl)] = [some (.ref a), some (.ref b), some (.ref o), y3, y4, y5] ∧ Fr o H1 H' ∧ H' o = some (.lst zs) ∧ DtAll H' zs ((m ++ [b0] ++ [(lo, hi, l)]).map dB) ∧ zs.length ≤ i + 1) → Qn [some (V.ref a), some (.ref b), some (.ref o), some (.int lo), some (.int hi), some (.ref pl)] H') → ∀ u, H2 u = none → Qn [some (V.ref a), some (.ref b), some (.ref o), some (.int lo), some (.int hi), some (.ref pl)] (upd (upd H2 u (.tup [.int lo, .int hi, .ref pl])) o (.lst (ws ++ [V.ref pf] ++ [V.ref u]))) := fun Qn kq u nu => by
          obtain ⟨g0, g1, g2, g3, g4⟩ := app_new (w := [.int lo, .int hi, .ref pl]) (ws := (ws ++ [V.ref pf]) ++ [V.ref u]) hot nu
          refine kq _ ⟨_, _, _, _, rfl, frt.trans g1, g2, ?_, by rw [List.length_append (bs := [V.ref u]), List.length_singleton]; omega⟩
          rw [List.map_append, List.map_append]
          exact DtAll.app (DtAll.app (dw.keep g4) (DtAll.one (db.keep g4))) (DtAll.one (B_dt g3 (dlt.keep g4)))
        refine ⟨true, bt len_snoc_pos, iteT ?_⟩
        refine ⟨.ref o, rfl, 1, rfl, o, _, -1, .ref pf, rfl, rfl, SqL.of hot, at_last, pf, _, 1, .int b0.2.1, rfl, rfl, SqT.of hpf, at_1, .int lo, rfl, rfl, ?_⟩
        by_cases c1 : b0.2.1 = lo
        · refine ⟨true, bt (by rw [c1]), iteT ?_⟩
          refine ⟨.ref o, rfl, 1, rfl, o, _, -1, .ref pf, rfl, rfl, SqL.of hot, at_last, pf, _, 2, wf, rfl, rfl, SqT.of hpf, at_2, .ref pl, rfl, dL b0.2.2, dL l, dwf.dp, dlt.dp, shaped_L _, shaped_L _, ?_⟩
          by_cases c2 : b0.2.2 = l
          · rw [if_pos ⟨c1, c2⟩]
            refine ⟨true, congrArg V.bl ((eqv_L _ _).mpr c2), iteT ?_⟩
            refine ⟨.ref o, rfl, 1, rfl, o, _, -1, .ref pf, rfl, rfl, SqL.of hot, at_last, pf, _, 0, .int b0.1, rfl, rfl, SqT.of hpf, at_0, .int hi, rfl, .ref pl, rfl, by show 3 ≤ sizeLine; decide, fun u nu => ?_⟩
            obtain ⟨g0, g1, g2, g3, g4⟩ := app_new (w := [.int b0.1, .int hi, .ref pl]) (ws := (ws ++ [V.ref pf]).set ws.length (V.ref u)) hot nu
            refine ⟨.ref o, rfl, 1, rfl, o, _, -1, ws.length, rfl, rfl, g0, by rw [List.length_append, List.length_singleton]; exact ix_last, ?_⟩
            rw [set_last] at g1 g2 g3 g4 ⊢
            refine ⟨_, _, _, _, rfl, frt.trans g1, g2, ?_, by rw [List.length_append, List.length_singleton] at *; omega⟩
            rw [List.map_append]
            exact DtAll.app (dw.keep g4) (DtAll.one (B_dt g3 (dlt.keep g4)))
          · rw [if_neg fun h => c2 h.2]
            refine ⟨false, congrArg V.bl (Bool.eq_false_iff.mpr fun h => c2 ((eqv_L _ _).mp h)), iteF ?_⟩
            refine ⟨.ref o, rfl, .inl ⟨rfl, _, SqL.of hot⟩, .int lo, rfl, .int hi, rfl, .ref pl, rfl, by show 3 ≤ sizeLine; decide, fun u nu => ?_⟩
            refine ⟨o, _, .ref u, rfl, rfl, same_new nu _ _ hot, sz' (by omega), ?_⟩
            exact adds _ (fun _ h => h) u nu
        · rw [if_neg fun h => c1 h.1]
          refine ⟨false, bf (fun h => c1 (by cases h; rfl)), iteF (iteF ?_)⟩
          refine ⟨.ref o, rfl, .inl ⟨rfl, _, SqL.of hot⟩, .int lo, rfl, .int hi, rfl, .ref pl, rfl, by show 3 ≤ sizeLine; decide, fun u nu => ?_⟩
          refine ⟨o, _, .ref u, rfl, rfl, same_new nu _ _ hot, sz' (by omega), ?_⟩
          exact adds _ (fun _ h => h) u nu
  · rintro σ' H' ⟨zs, y3, y4, y5, rfl, fr, ho', dz, lz⟩
    rw [List.take_length] at dz
    refine ⟨.ref o, rfl, o, zs, rfl, .inl ⟨SqL.of ho', fun t nt => ?_⟩⟩
    exact q _ _ ((fr.same sm1 no).trans (same_new nt)) (.tup upd_same (dz.keep (keep_new nt)))
end
end Mw

-- W3
namespace Mw
open PySem PySem.Spec PyProof.Rows L2 MkR Mk
theorem ints_of_dt {H : Hp} : ∀ {ns : List Int} {ys : List V}, DtAll H ys (ns.map PyData.int) → ys = ns.map V.int
  | [], _, h => DtAll.nil_of h
  | n :: ns, y :: ys, h => by
    cases h with
    | cons h1 h2 => rw [dt_int h1, ints_of_dt h2]; rfl
  | _ :: _, [], h => by
    have := DtAll.len h
    simp at this
theorem dt_of_ints {H : Hp} : ∀ {ns : List Int}, DtAll H (ns.map V.int) (ns.map PyData.int)
  | [] => .nil
  | n :: ns => .cons (.int n) dt_of_ints
def allT {α : Type} : α → Bool := fun _ => true
theorem filter_all {α : Type} (l : List α) : l.filter (allT : α → Bool) = l := List.filter_eq_self.mpr fun _ _ => rfl
section
variable {P : Program} {w : World} {K : PySem.W.Frag} {mg : Str → Option Value} {base : Heap}
abbrev s_cuts_of : Stmt := topS 3
abbrev N_cuts_of : List Str := ["rects", "rect"]
theorem sc_cuts_of : FnScope N_cuts_of ["rects"] (C8.fnScope s_cuts_of) := C8.fnScope_by (by decide +kernel)
def sp_cuts_of (K : PySem.W.Frag) : Sp := fun vs H Q _ => ∃ (a : Addr) (xs : List V) (rects : List Rc) (D : List Int), vs = [.ref a] ∧ H a = some (.lst xs) ∧ DtAll H xs (rects.map dQ) ∧ rects.length ≤ 400000 ∧ D.length ≤ 4000 ∧ (∀ q ∈ rects, q.2.1 ∈ D ∧ q.2.2.2 ∈ D) ∧
  ∀ (p : Addr) (H' : Hp) (cuts : List Int), L2.Same H H' → H p = none → H' p = some (.lst (cuts.map V.int)) → cuts.Pairwise (· < ·) → (∀ c, c ∈ cuts ↔ ∃ q ∈ rects, c = q.2.1 ∨ c = q.2.2.2) → Q (.ref p) H'
theorem cal_cuts_of (T : Txt mg) (D : Here K mg "cuts_of" s_cuts_of ["rects"]) : C8.Cal P w K mg base 1 "cuts_of" (sp_cuts_of K) [] := by
  refine D.cal sc_cuts_of (fun vs H Q E h => ?_) fun f cdv A outer s H vs Q E hr h => ?_
  · obtain ⟨a, xs, l, Dd, rfl, _⟩ := h
    rfl
  obtain ⟨a, xs, rects, Dd, rfl, ha, dx, hn, hD, hDq, q⟩ := h
  have sc := sc_cuts_of
  refine ⟨_,
  (pss_one (ps_ret (pe_callB (cr_sortedSetD rfl) (by rfl) T.sorted (by decide +kernel) (pa_cons (pe_callTy (cr_setD rfl) (by rfl) T.set (by decide +kernel) (pa_cons (pe_op op_cat (pe_lc rfl sc.nd (pi_list (pv 0)) (blkOk_by (own := [("rect", 1)]) (N := N_cuts_of) (sc := C8.fnScope s_cuts_of) (by decide +kernel)) (fun _ _ _ _ _ => (pg_name (i := 1) sc.nd rfl (Or.inl rfl))) (fun _ _ _ _ _ => pts_nil) (fun _ _ _ _ _ => (pe_ix (ixT (K := K) rfl) (pv 1) pe_int (fun _ _ => rfl)))) (pe_lc rfl sc.nd (pi_list (pv 0)) (blkOk_by (own := [("rect", 1)]) (N := N_cuts_of) (sc := C8.fnScope s_cuts_of) (by decide +kernel)) (fun _ _ _ _ _ => (pg_name (i := 1) sc.nd rfl (Or.inl rfl))) (fun _ _ _ _ _ => pts_nil) (fun _ _ _ _ _ => (pe_ix (ixT (K := K) rfl) (pv 1) pe_int (fun _ _ => rfl))))) pa_nil)) pa_nil)))), ?_⟩
  refine ⟨.ref a, rfl, a, rfl, ⟨xs, SqL.of ha⟩, lcD_list (p := allT) (f := fun q : Rc => q.2.1) (encB := PyData.int) ha dx (by omega) (fun i x s H' R N hi hd sm ky kn => ?_) fun p1 H1 ys1 sm1 np1 hp1 d1 => ?_⟩
  · obtain ⟨p, rfl, hp⟩ := dt_Q hd
    exact ⟨rfl, yes ⟨.ref p, rfl, p, _, 1, .int s.2.1, rfl, rfl, SqT.of hp, at_1, ky rfl _ _ (.refl _) (.int _)⟩⟩
  rw [filter_all] at d1
  have e1 := ints_of_dt d1
  subst e1
  have ha1 := sm1 _ _ ha
  have dx1 := dx.keep (keepS sm1)
  refine ⟨.ref a, rfl, a, rfl, ⟨xs, SqL.of ha1⟩, lcD_list (p := allT) (f := fun q : Rc => q.2.2.2) (encB := PyData.int) ha1 dx1 (by omega) (fun i x s H' R N hi hd sm ky kn => ?_) fun p2 H2 ys2 sm2 np2 hp2 d2 => ?_⟩
  · obtain ⟨p, rfl, hp⟩ := dt_Q hd
    exact ⟨rfl, yes ⟨.ref p, rfl, p, _, 3, .int s.2.2.2, rfl, rfl, SqT.of hp, at_3, ky rfl _ _ (.refl _) (.int _)⟩⟩
  rw [filter_all] at d2
  have e2 := ints_of_dt d2
  subst e2
  refine ⟨p1, p2, _, _, rfl, rfl, sm2 _ _ hp1, hp2, by simp only [List.length_map]; exact sz (by omega), fun p3 np3 => ?_⟩
  have sm3 : L2.Same H (upd H2 p3 (.lst (((rects.map fun q : Rc => q.2.1).map V.int) ++ ((rects.map fun q : Rc => q.2.2.2).map V.int)))) := (sm1.trans sm2).trans (same_new np3)
  refine ⟨p3, (rects.map fun q : Rc => q.2.1) ++ (rects.map fun q : Rc => q.2.2.2), Dd, rfl, SqL.of (by rw [List.map_append]; exact upd_same), fun k hk => ?_, hD, fun p4 c np4 => ?_⟩
  · rcases List.mem_append.mp hk with hk | hk
    · obtain ⟨q0, h0, rfl⟩ := List.mem_map.mp hk
      exact (hDq q0 h0).1
    · obtain ⟨q0, h0, rfl⟩ := List.mem_map.mp hk
      exact (hDq q0 h0).2
  refine ⟨p4, _, c, rfl, upd_same, fun cuts p5 hpw hmem np5 => ?_⟩
  have sm5 := (sm3.trans (same_new (o := SetO w p4 _ c) np4)).trans (same_new (o := .lst (cuts.map V.int)) np5)
  refine q p5 _ cuts sm5 ((sm3.trans (same_new (o := SetO w p4 _ c) np4)).free np5) upd_same hpw fun k => ?_
  rw [hmem, decide_eq_true_iff, List.mem_append, List.mem_map, List.mem_map]
  constructor
  · rintro (⟨q0, h0, rfl⟩ | ⟨q0, h0, rfl⟩)
    · exact ⟨q0, h0, .inl rfl⟩
    · exact ⟨q0, h0, .inr rfl⟩
  · rintro ⟨q0, h0, rfl | rfl⟩
    · exact .inl ⟨q0, h0, rfl⟩
    · exact .inr ⟨q0, h0, rfl⟩

abbrev s_mirrored : Stmt := topS 7
abbrev N_mirrored : List Str := ["rect", "x0", "y0", "x1", "y1"]
theorem sc_mirrored : FnScope N_mirrored ["rect"] (C8.fnScope s_mirrored) := C8.fnScope_by (by decide +kernel)
/-- one rectangle to another -/
def sp_rect (g : Rc → Rc) : Sp := fun vs H Q _ => ∃ (v : V) (r : Rc), vs = [v] ∧ Dt H v (dQ r) ∧ ∀ u H', L2.Same H H' → Dt H' u (dQ (g r)) → Q u H'
theorem cal_mirrored (D : Here K mg "mirrored" s_mirrored ["rect"]) : C8.Cal P w K mg base 1 "mirrored" (sp_rect mirrorR) [] := by
  refine D.cal sc_mirrored (fun vs H Q E h => ?_) fun f cdv A outer s H vs Q E hr h => ?_
  · obtain ⟨v, r, rfl, _⟩ := h
    rfl
  obtain ⟨v, r, rfl, hv, q⟩ := h
  have sc := sc_mirrored
  refine ⟨_,
  (pss_cons (ps_asg (pv 0) (pg_tup rfl (pgs_cons (pg_name (i := 1) sc.nd rfl (Or.inl rfl)) (pgs_cons (pg_name (i := 2) sc.nd rfl (Or.inl rfl)) (pgs_cons (pg_name (i := 3) sc.nd rfl (Or.inl rfl)) (pgs_cons (pg_name (i := 4) sc.nd rfl (Or.inl rfl)) pgs_nil))))))
      (pss_one (ps_ret (pe_tup (pa_cons (pe_un un_neg (pv 3)) (pa_cons (pv 2) (pa_cons (pe_un un_neg (pv 1)) (pa_cons (pv 4) pa_nil)))))))), ?_⟩
  obtain ⟨p, rfl, hp⟩ := dt_Q hv
  refine ⟨.ref p, rfl, p, _, rfl, SqT.of hp, rfl, _, _, rfl, _, _, rfl, _, _, rfl, _, _, rfl, rfl, ?_⟩
  refine ⟨.int r.2.2.1, rfl, r.2.2.1, rfl, .int r.2.1, rfl, .int r.1, rfl, r.1, rfl, .int r.2.2.2, rfl, by show 4 ≤ sizeLine; decide, fun t nt => ?_⟩
  exact q _ _ (same_new nt) (Q_dt (a := -r.2.2.1) (b := r.2.1) (c := -r.1) (d := r.2.2.2) upd_same)
abbrev s_quarter : Stmt := topS 8
abbrev N_quarter : List Str := ["rect", "x0", "y0", "x1", "y1"]
theorem sc_quarter : FnScope N_quarter ["rect"] (C8.fnScope s_quarter) := C8.fnScope_by (by decide +kernel)
theorem cal_quarter (D : Here K mg "quarter" s_quarter ["rect"]) : C8.Cal P w K mg base 1 "quarter" (sp_rect quarterR) [] := by
  refine D.cal sc_quarter (fun vs H Q E h => ?_) fun f cdv A outer s H vs Q E hr h => ?_
  · obtain ⟨v, r, rfl, _⟩ := h
    rfl
  obtain ⟨v, r, rfl, hv, q⟩ := h
  have sc := sc_quarter
  refine ⟨_,
  (pss_cons (ps_asg (pv 0) (pg_tup rfl (pgs_cons (pg_name (i := 1) sc.nd rfl (Or.inl rfl)) (pgs_cons (pg_name (i := 2) sc.nd rfl (Or.inl rfl)) (pgs_cons (pg_name (i := 3) sc.nd rfl (Or.inl rfl)) (pgs_cons (pg_name (i := 4) sc.nd rfl (Or.inl rfl)) pgs_nil))))))
      (pss_one (ps_ret (pe_tup (pa_cons (pe_un un_neg (pv 4)) (pa_cons (pv 1) (pa_cons (pe_un un_neg (pv 2)) (pa_cons (pv 3) pa_nil)))))))), ?_⟩
  obtain ⟨p, rfl, hp⟩ := dt_Q hv
  refine ⟨.ref p, rfl, p, _, rfl, SqT.of hp, rfl, _, _, rfl, _, _, rfl, _, _, rfl, _, _, rfl, rfl, ?_⟩
  refine ⟨.int r.2.2.2, rfl, r.2.2.2, rfl, .int r.1, rfl, .int r.2.1, rfl, r.2.1, rfl, .int r.2.2.1, rfl, by show 4 ≤ sizeLine; decide, fun t nt => ?_⟩
  exact q _ _ (same_new nt) (Q_dt (a := -r.2.2.2) (b := r.1) (c := -r.2.1) (d := r.2.2.1) upd_same)
abbrev s_turned_rect : Stmt := topS 9
abbrev N_turned_rect : List Str := ["rect", "turn", "dx", "dy", "k", "x0", "y0", "x1", "y1"]
theorem sc_turned_rect : FnScope N_turned_rect ["rect", "turn", "dx", "dy"] (C8.fnScope s_turned_rect) := C8.fnScope_by (by decide +kernel)
def sp_turned_rect : Sp := fun vs H Q _ => ∃ (v : V) (r : Rc) (t : Nat) (dx dy : Int), vs = [v, .int (t : Int), .int dx, .int dy] ∧ Dt H v (dQ r) ∧ ∀ u H', L2.Same H H' → Dt H' u (dQ (turnR t dx dy r)) → Q u H'
theorem cal_turned_rect (T : Txt mg) (c_mirrored : C8.Cal P w K mg base 1 "mirrored" (sp_rect mirrorR) []) (c_quarter : C8.Cal P w K mg base 1 "quarter" (sp_rect quarterR) [])
    (D : Here K mg "turned_rect" s_turned_rect ["rect", "turn", "dx", "dy"]) : C8.Cal P w K mg base 2 "turned_rect" sp_turned_rect [] := by
  refine D.cal sc_turned_rect (fun vs H Q E h => ?_) fun f cdv A outer s H vs Q E hr h => ?_
  · obtain ⟨v, r, t, dx, dy, rfl, _⟩ := h
    rfl
  obtain ⟨v, r, t, dx, dy, rfl, hv, q⟩ := h
  have sc := sc_turned_rect
  refine ⟨_,
  (C8.pss_cut (ps_if (pt_cmpR op_gt (pv 1) pe_int (nomark _)) (pss_one (ps_set (i := 0) sc.nd rfl (Or.inl rfl) (C8.pe_c c_mirrored hr (by decide) (by rfl) (pa_cons (pv 0) pa_nil)))) pss_nil)
      (pss_cons (ps_for PassesOwn.never rfl (pi_range1 (by rfl) T.range (pa_cons (pe_op op_mod (pv 1) pe_int) pa_nil)) (pg_name (i := 4) sc.nd rfl (Or.inl rfl)) (pss_one (ps_set (i := 0) sc.nd rfl (Or.inl rfl) (C8.pe_c c_quarter hr (by decide) (by rfl) (pa_cons (pv 0) pa_nil)))))
      (pss_cons (ps_asg (pv 0) (pg_tup rfl (pgs_cons (pg_name (i := 5) sc.nd rfl (Or.inl rfl)) (pgs_cons (pg_name (i := 6) sc.nd rfl (Or.inl rfl)) (pgs_cons (pg_name (i := 7) sc.nd rfl (Or.inl rfl)) (pgs_cons (pg_name (i := 8) sc.nd rfl (Or.inl rfl)) pgs_nil))))))
      (pss_one (ps_ret (pe_tup (pa_cons (pe_op op_add (pv 5) (pv 2)) (pa_cons (pe_op op_add (pv 6) (pv 3)) (pa_cons (pe_op op_add (pv 7) (pv 2)) (pa_cons (pe_op op_add (pv 8) (pv 3)) pa_nil)))))))))), ?_⟩
  refine ⟨fun σ' H1 => ∃ v1, σ' = [some v1, some (.int (t : Int)), some (.int dx), some (.int dy), none, none, none, none, none] ∧ L2.Same H H1 ∧ Dt H1 v1 (dQ (if t > 3 then mirrorR r else r)), ?_, ?_⟩
  · refine ⟨.int t, rfl, (t : Int), 3, rfl, rfl, ?_⟩
    by_cases c : t > 3
    · rw [if_pos c]
      refine ⟨true, bt (by omega), iteT ?_⟩
      exact ⟨v, rfl, v, r, rfl, hv, fun u H' sm hu => ⟨u, rfl, sm, hu⟩⟩
    · rw [if_neg c]
      refine ⟨false, bf (by omega), iteF ?_⟩
      exact ⟨v, rfl, .refl _, hv⟩
  rintro σ' H1 ⟨v1, rfl, sm1, hv1⟩
  refine ⟨.int t, rfl, (t : Int), 4, rfl, rfl, show (0 : Int) < 4 by decide, _, rfl, by omega, by omega, for_range (lo := 0) (fun n σ' H' => ∃ v2 y4, σ' = [some v2, some (.int (t : Int)), some (.int dx), some (.int dy), y4, none, none, none, none] ∧ L2.Same H H' ∧ Dt H' v2 (dQ (quarters n (if t > 3 then mirrorR r else r)))) ?_ ?_ ?_⟩
  · exact ⟨v1, none, rfl, sm1, hv1⟩
  · rintro n σ' H' hn ⟨v2, y4, rfl, sm2, hv2⟩
    exact ⟨v2, rfl, v2, _, rfl, hv2, fun u H' sm hu => ⟨u, _, rfl, sm2.trans sm, hu⟩⟩
  · rintro σ' H' ⟨v2, y4, rfl, sm2, hv2⟩
    have e : ((t : Int) % 4).toNat = t % 4 := by omega
    rw [e] at hv2
    obtain ⟨p, rfl, hp⟩ := dt_Q hv2
    refine ⟨.ref p, rfl, p, _, rfl, SqT.of hp, rfl, _, _, rfl, _, _, rfl, _, _, rfl, _, _, rfl, rfl, ?_⟩
    generalize hg : quarters (t % 4) (if t > 3 then mirrorR r else r) = r2 at *
    refine ⟨.int r2.1, rfl, .int dx, rfl, _, _, rfl, rfl, .int r2.2.1, rfl, .int dy, rfl, _, _, rfl, rfl, .int r2.2.2.1, rfl, .int dx, rfl, _, _, rfl, rfl, .int r2.2.2.2, rfl, .int dy, rfl, _, _, rfl, rfl, by show 4 ≤ sizeLine; decide, fun u nu => ?_⟩
    refine q _ _ (sm2.trans (same_new nu)) ?_
    unfold turnR
    rw [hg]
    exact Q_dt (a := r2.1 + dx) (b := r2.2.1 + dy) (c := r2.2.2.1 + dx) (d := r2.2.2.2 + dy) upd_same
end
end Mw

-- W4
namespace Mw
open PySem PySem.Spec PyProof.Rows L2 MkR Mk
theorem take_succ_map {α β : Type} {l : List α} {f : α → β} {i : Nat} {a : α} (h : l[i]? = some a) : (l.take (i + 1)).map f = (l.take i).map f ++ [f a] := by
  rw [List.take_add_one, h, Option.toList_some, List.map_append]
  rfl
theorem take_succ_flat {α β : Type} {l : List α} {f : α → List β} {i : Nat} {a : α} (h : l[i]? = some a) : (l.take (i + 1)).flatMap f = (l.take i).flatMap f ++ f a := by
  rw [List.take_add_one, h, Option.toList_some, List.flatMap_append]
  show _ ++ (f a ++ []) = _
  rw [List.append_nil]
theorem flat_take_le {α β : Type} {l : List α} {f : α → List β} (i : Nat) : ((l.take i).flatMap f).length ≤ (l.flatMap f).length := by
  have : l.flatMap f = (l.take i).flatMap f ++ (l.drop i).flatMap f := by rw [← List.flatMap_append, List.take_append_drop]
  rw [this, List.length_append]
  omega
section
variable {P : Program} {w : World} {K : PySem.W.Frag} {mg : Str → Option Value} {base : Heap}
abbrev s_rects_of : Stmt := topS 5
abbrev N_rects_of : List Str := ["some", "found", "low", "high", "line", "start", "end"]
theorem sc_rects_of : FnScope N_rects_of ["some"] (C8.fnScope s_rects_of) := C8.fnScope_by (by decide +kernel)
def sp_rects_of : Sp := fun vs H Q _ => ∃ (v : V) (r : Rg), vs = [v] ∧ Dt H v (dR r) ∧ r.length ≤ 1000000 ∧ (rectsM r).length ≤ 1000000 ∧ (∀ b ∈ r, b.2.2.length ≤ 1000000) ∧
  ∀ (p : Addr) (H' : Hp) (xs : List V), L2.Same H H' → H p = none → H' p = some (.lst xs) → DtAll H' xs ((rectsM r).map dQ) → Q (.ref p) H'
theorem cal_rects_of (T : Txt mg) (D : Here K mg "rects_of" s_rects_of ["some"]) : C8.Cal P w K mg base 1 "rects_of" sp_rects_of [] := by
  refine D.cal sc_rects_of (fun vs H Q E h => ?_) fun f cdv A outer s H vs Q E hr h => ?_
  · obtain ⟨v, r, rfl, _⟩ := h
    rfl
  obtain ⟨v, r, rfl, hv, hn, hm, hl, q⟩ := h
  have sc := sc_rects_of
  refine ⟨_, (pss_cons (ps_set (i := 1) sc.nd rfl (Or.inl rfl) (pe_lst pa_nil))
      (pss_cons (ps_for PassesOwn.never rfl (pi_tup (pv 0)) (pgT (K := K) (n := 3) rfl rfl (pgs_cons (pg_name (i := 2) sc.nd rfl (Or.inr rfl)) (pgs_cons (pg_name (i := 3) sc.nd rfl (Or.inr rfl)) (pgs_cons (pg_name (i := 4) sc.nd rfl (Or.inl rfl)) pgs_nil)))) (pss_one (ps_expr (pe_bm PySem.F.plainAttrs_list PySem.F.slot_list_extend PySem.F.type_list_extend mt_extend (pv 1) (pa_cons (pe_lc rfl sc.nd (pi_tup (pv 4)) (blkOk_by (own := [("start", 5), ("end", 6)]) (N := N_rects_of) (sc := C8.fnScope s_rects_of) (by decide +kernel)) (fun _ _ _ _ _ => (pgT (K := K) (n := 2) rfl rfl (pgs_cons (pg_name (i := 5) sc.nd rfl (Or.inl rfl)) (pgs_cons (pg_name (i := 6) sc.nd rfl (Or.inl rfl)) pgs_nil)))) (fun _ _ _ _ _ => pts_nil) (fun _ _ _ _ _ => (pe_tup (pa_cons (pv 5) (pa_cons (pv 2) (pa_cons (pv 6) (pa_cons (pv 3) pa_nil))))))) pa_nil)))))
      (pss_one (ps_ret (pv 1))))), ?_⟩
  obtain ⟨pr, ys, rfl, hpr, dy⟩ := dt_R hv
  refine ⟨Nat.zero_le _, fun o no => ?_⟩
  have sm1 : L2.Same H (upd H o (.lst [])) := same_new no
  have ho1 : (upd H o (.lst [])) o = some (.lst []) := upd_same
  have hpr1 := sm1 _ _ hpr
  have dy1 := dy.keep (keepS sm1)
  have npr : pr ≠ o := ne_of_none hpr no
  generalize upd H o (.lst []) = H1 at *
  have ly : ys.length = r.length := by rw [DtAll.len dy, List.length_map]
  refine ⟨.ref pr, rfl, pr, rfl, ⟨ys, SqT.of hpr1⟩, for_tup (K := K) (a := pr) (xs := ys) (fun i σ' H' => ∃ zs y2 y3 y4, σ' = [some (.ref pr), some (.ref o), y2, y3, y4, none, none] ∧ Fr o H1 H' ∧ H' o = some (.lst zs) ∧ DtAll H' zs (((r.take i).flatMap rectsB).map dQ)) ?_ ?_ ?_ ?_⟩
  · exact ⟨[], none, none, none, rfl, Fr.refl, ho1, .nil⟩
  · rintro i σ' H' _ ⟨zs, y2, y3, y4, rfl, fr, _⟩
    exact SqT.of (fr pr _ npr hpr1)
  · rintro i x σ' H' hi ⟨zs, y2, y3, y4, rfl, fr, ho', dz⟩
    obtain ⟨b, hb, db⟩ := DtAll.at (dy1.keep (fr.keep ho1)) hi
    obtain ⟨pb, wl, rfl, hpb, dwl⟩ := dt_B db
    obtain ⟨pl, ws, rfl, hpl, dws⟩ := dt_L dwl
    have nplo : pl ≠ o := ne_of hpl ho' (by intro q; cases q)
    refine ⟨pb, _, rfl, SqT.of hpb, rfl, _, _, rfl, _, _, rfl, _, _, rfl, rfl, ?_⟩
    refine ⟨.ref o, rfl, .inl ⟨rfl, _, SqL.of ho'⟩, .ref pl, rfl, pl, rfl, ⟨ws, SqT.of hpl⟩, lcD_tup (p := allT) (f := fun s : Int × Int => (s.1, b.1, s.2, b.2.1)) (encB := dQ) hpl dws (hl b (List.mem_of_getElem? hb)) (fun i x s H'' R N hi hd sm ky kn => ?_) fun p1 H2 ys1 sm1 np1 hp1 d1 => ?_⟩
    · obtain ⟨p, rfl, hp⟩ := dt_P hd
      refine ⟨p, _, rfl, SqT.of hp, rfl, _, _, rfl, _, _, rfl, rfl, rfl, yes ⟨.int s.1, rfl, .int b.1, rfl, .int s.2, rfl, .int b.2.1, rfl, by show 4 ≤ sizeLine; decide, fun t nt => ?_⟩⟩
      exact ky rfl _ _ (same_new nt) (Q_dt (a := s.1) (b := b.1) (c := s.2) (d := b.2.1) upd_same)
    rw [filter_all] at d1
    have d1' : DtAll H2 ys1 ((rectsB b).map dQ) := d1
    have e := take_succ_flat (f := rectsB) hb
    have le := flat_take_le (l := r) (f := rectsB) (i + 1)
    rw [e, List.length_append] at le
    have lz : zs.length = ((r.take i).flatMap rectsB).length := by rw [DtAll.len dz, List.length_map]
    have ly1 : ys1.length = (rectsB b).length := by rw [DtAll.len d1', List.length_map]
    have le2 : (r.flatMap rectsB).length ≤ 1000000 := hm
    refine ⟨o, p1, zs, ys1, rfl, rfl, sm1 _ _ ho', hp1, sz (by omega), ?_⟩
    refine ⟨_, _, _, _, rfl, (fr.trans (.of sm1)).trans .put, upd_same, ?_⟩
    rw [e, List.map_append]
    exact DtAll.app (dz.keep (keep_trans (keepS sm1) (keep_lst (sm1 _ _ ho')))) (d1'.keep (keep_lst (sm1 _ _ ho')))
  · rintro σ' H' ⟨zs, y2, y3, y4, rfl, fr, ho', dz⟩
    rw [ly, List.take_length] at dz
    exact ⟨.ref o, rfl, q o H' zs (fr.same sm1 no) no ho' dz⟩
abbrev s_edges : Stmt := topS 16
abbrev N_edges : List Str := ["line", "side", "found", "start", "end"]
theorem sc_edges : FnScope N_edges ["line", "side"] (C8.fnScope s_edges) := C8.fnScope_by (by decide +kernel)
def sp_edges : Sp := fun vs H Q _ => ∃ (v : V) (s : Int) (l : Ln), vs = [v, .int s] ∧ Dt H v (dL l) ∧ l.length ≤ 400000 ∧
  ∀ (p : Addr) (H' : Hp) (xs : List V), L2.Same H H' → H p = none → H' p = some (.lst xs) → DtAll H' xs ((Mk.edges l s).map dP) → Q (.ref p) H'
theorem cal_edges (T : Txt mg) (D : Here K mg "edges" s_edges ["line", "side"]) : C8.Cal P w K mg base 1 "edges" sp_edges [] := by
  refine D.cal sc_edges (fun vs H Q E h => ?_) fun f cdv A outer s H vs Q E hr h => ?_
  · obtain ⟨v, s, r, rfl, _⟩ := h
    rfl
  obtain ⟨v, sd, l, rfl, hv, hn, q⟩ := h
  have sc := sc_edges
  refine ⟨_, (pss_cons (ps_set (i := 2) sc.nd rfl (Or.inl rfl) (pe_lst pa_nil))
      (pss_cons (ps_for PassesOwn.never rfl (pi_tup (pv 0)) (pgT (K := K) (n := 2) rfl rfl (pgs_cons (pg_name (i := 3) sc.nd rfl (Or.inl rfl)) (pgs_cons (pg_name (i := 4) sc.nd rfl (Or.inl rfl)) pgs_nil))) (pss_cons (ps_expr (pe_bm PySem.F.plainAttrs_list PySem.F.slot_list_append PySem.F.type_list_append mt_append (pv 2) (pa_cons (pe_tup (pa_cons (pv 3) (pa_cons (pv 1) pa_nil))) pa_nil)))
      (pss_one (ps_expr (pe_bm PySem.F.plainAttrs_list PySem.F.slot_list_append PySem.F.type_list_append mt_append (pv 2) (pa_cons (pe_tup (pa_cons (pv 4) (pa_cons (pv 1) pa_nil))) pa_nil))))))
      (pss_one (ps_ret (pv 2))))), ?_⟩
  obtain ⟨pr, ys, rfl, hpr, dy⟩ := dt_L hv
  refine ⟨Nat.zero_le _, fun o no => ?_⟩
  have sm1 : L2.Same H (upd H o (.lst [])) := same_new no
  have ho1 : (upd H o (.lst [])) o = some (.lst []) := upd_same
  have hpr1 := sm1 _ _ hpr
  have dy1 := dy.keep (keepS sm1)
  have npr : pr ≠ o := ne_of_none hpr no
  generalize upd H o (.lst []) = H1 at *
  have ly : ys.length = l.length := by rw [DtAll.len dy, List.length_map]
  refine ⟨.ref pr, rfl, pr, rfl, ⟨ys, SqT.of hpr1⟩, for_tup (K := K) (a := pr) (xs := ys) (fun i σ' H' => ∃ zs y3 y4, σ' = [some (.ref pr), some (.int sd), some (.ref o), y3, y4] ∧ Fr o H1 H' ∧ H' o = some (.lst zs) ∧ DtAll H' zs (((Mk.edges (l.take i) sd)).map dP) ∧ zs.length = 2 * i) ?_ ?_ ?_ ?_⟩
  · exact ⟨[], none, none, rfl, Fr.refl, ho1, .nil, rfl⟩
  · rintro i σ' H' _ ⟨zs, y3, y4, rfl, fr, _⟩
    exact SqT.of (fr pr _ npr hpr1)
  · rintro i x σ' H' hi ⟨zs, y3, y4, rfl, fr, ho', dz, lz⟩
    obtain ⟨b, hb, db⟩ := DtAll.at (dy1.keep (fr.keep ho1)) hi
    obtain ⟨pb, rfl, hpb⟩ := dt_P db
    have li := (List.getElem?_eq_some_iff.mp hi).1
    refine ⟨pb, _, rfl, SqT.of hpb, rfl, _, _, rfl, _, _, rfl, rfl, ?_⟩
    refine ⟨.ref o, rfl, .inl ⟨rfl, _, SqL.of ho'⟩, .int b.1, rfl, .int sd, rfl, by show 2 ≤ sizeLine; decide, fun t nt => ?_⟩
    obtain ⟨g0, g1, g2, g3, g4⟩ := app_new (w := [.int b.1, .int sd]) (ws := zs ++ [V.ref t]) ho' nt
    refine ⟨o, zs, .ref t, rfl, rfl, g0, sz' (by omega), ?_⟩
    refine ⟨.ref o, rfl, .inl ⟨rfl, _, SqL.of g2⟩, .int b.2, rfl, .int sd, rfl, by show 2 ≤ sizeLine; decide, fun t2 nt2 => ?_⟩
    obtain ⟨j0, j1, j2, j3, j4⟩ := app_new (w := [.int b.2, .int sd]) (ws := zs ++ [V.ref t] ++ [V.ref t2]) g2 nt2
    refine ⟨o, zs ++ [V.ref t], .ref t2, rfl, rfl, j0, sz' (by rw [List.length_append, List.length_singleton]; omega), ?_⟩
    refine ⟨_, _, _, rfl, (fr.trans g1).trans j1, j2, ?_, by rw [List.length_append, List.length_append, List.length_singleton, List.length_singleton]; omega⟩
    have e : Mk.edges (l.take (i + 1)) sd = Mk.edges (l.take i) sd ++ [(b.1, sd)] ++ [(b.2, sd)] := by
      unfold Mk.edges
      rw [take_succ_flat hb, List.append_assoc]
      rfl
    rw [e, List.map_append, List.map_append]
    exact DtAll.app (DtAll.app (dz.keep (keep_trans g4 j4)) (DtAll.one ((P_dt g3).keep j4))) (DtAll.one (P_dt j3))
  · rintro σ' H' ⟨zs, y3, y4, rfl, fr, ho', dz, lz⟩
    rw [ly, List.take_length] at dz
    exact ⟨.ref o, rfl, q o H' zs (fr.same sm1 no) no ho' dz⟩
abbrev s_ends_of : Stmt := topS 19
abbrev N_ends_of : List Str := ["some", "band"]
theorem sc_ends_of : FnScope N_ends_of ["some"] (C8.fnScope s_ends_of) := C8.fnScope_by (by decide +kernel)
def sp_ends_of : Sp := fun vs H Q _ => ∃ (v : V) (r : Rg), vs = [v] ∧ Dt H v (dR r) ∧ r.length ≤ 400000 ∧
  ∀ (p : Addr) (H' : Hp), L2.Same H H' → H p = none → H' p = some (.lst (((r.map fun b : Bd => b.1) ++ (r.map fun b : Bd => b.2.1)).map V.int)) → Q (.ref p) H'
theorem cal_ends_of (T : Txt mg) (D : Here K mg "ends_of" s_ends_of ["some"]) : C8.Cal P w K mg base 1 "ends_of" sp_ends_of [] := by
  refine D.cal sc_ends_of (fun vs H Q E h => ?_) fun f cdv A outer s H vs Q E hr h => ?_
  · obtain ⟨v, r, rfl, _⟩ := h
    rfl
  obtain ⟨v, r, rfl, hv, hn, q⟩ := h
  have sc := sc_ends_of
  refine ⟨_, (pss_one (ps_ret (pe_op op_cat (pe_lc rfl sc.nd (pi_tup (pv 0)) (blkOk_by (own := [("band", 1)]) (N := N_ends_of) (sc := C8.fnScope s_ends_of) (by decide +kernel)) (fun _ _ _ _ _ => (pg_name (i := 1) sc.nd rfl (Or.inl rfl))) (fun _ _ _ _ _ => pts_nil) (fun _ _ _ _ _ => (pe_ix (ixT (K := K) rfl) (pv 1) pe_int (fun _ _ => rfl)))) (pe_lc rfl sc.nd (pi_tup (pv 0)) (blkOk_by (own := [("band", 1)]) (N := N_ends_of) (sc := C8.fnScope s_ends_of) (by decide +kernel)) (fun _ _ _ _ _ => (pg_name (i := 1) sc.nd rfl (Or.inl rfl))) (fun _ _ _ _ _ => pts_nil) (fun _ _ _ _ _ => (pe_ix (ixT (K := K) rfl) (pv 1) pe_int (fun _ _ => rfl))))))), ?_⟩
  obtain ⟨pr, ys, rfl, hpr, dy⟩ := dt_R hv
  refine ⟨.ref pr, rfl, pr, rfl, ⟨ys, SqT.of hpr⟩, lcD_tup (p := allT) (f := fun b : Bd => b.1) (encB := PyData.int) hpr dy (by omega) (fun i x s H' R N hi hd sm ky kn => ?_) fun p1 H1 ys1 sm1 np1 hp1 d1 => ?_⟩
  · obtain ⟨p, wv, rfl, hp, _⟩ := dt_B hd
    exact ⟨rfl, yes ⟨.ref p, rfl, p, _, 0, .int s.1, rfl, rfl, SqT.of hp, at_0, ky rfl _ _ (.refl _) (.int _)⟩⟩
  rw [filter_all] at d1
  have e1 := ints_of_dt d1
  subst e1
  have hpr1 := sm1 _ _ hpr
  have dy1 := dy.keep (keepS sm1)
  refine ⟨.ref pr, rfl, pr, rfl, ⟨ys, SqT.of hpr1⟩, lcD_tup (p := allT) (f := fun b : Bd => b.2.1) (encB := PyData.int) hpr1 dy1 (by omega) (fun i x s H' R N hi hd sm ky kn => ?_) fun p2 H2 ys2 sm2 np2 hp2 d2 => ?_⟩
  · obtain ⟨p, wv, rfl, hp, _⟩ := dt_B hd
    exact ⟨rfl, yes ⟨.ref p, rfl, p, _, 1, .int s.2.1, rfl, rfl, SqT.of hp, at_1, ky rfl _ _ (.refl _) (.int _)⟩⟩
  rw [filter_all] at d2
  have e2 := ints_of_dt d2
  subst e2
  refine ⟨p1, p2, _, _, rfl, rfl, sm2 _ _ hp1, hp2, by simp only [List.length_map]; exact sz (by omega), fun p3 np3 => ?_⟩
  refine q p3 _ ((sm1.trans sm2).trans (same_new np3)) ((sm1.trans sm2).free np3) ?_
  rw [List.map_append]
  exact upd_same
abbrev s_long : Stmt := topS 24
abbrev N_long : List Str := ["line", "start", "end"]
theorem sc_long : FnScope N_long ["line"] (C8.fnScope s_long) := C8.fnScope_by (by decide +kernel)
def sp_long : Sp := fun vs H Q _ => ∃ (v : V) (l : Ln), vs = [v] ∧ Dt H v (dL l) ∧ l.length ≤ 400000 ∧ ∀ (H' : Hp), L2.Same H H' → Q (.int (Mk.long l)) H'
theorem cal_long (T : Txt mg) (D : Here K mg "long" s_long ["line"]) : C8.Cal P w K mg base 1 "long" sp_long [] := by
  refine D.cal sc_long (fun vs H Q E h => ?_) fun f cdv A outer s H vs Q E hr h => ?_
  · obtain ⟨v, r, rfl, _⟩ := h
    rfl
  obtain ⟨v, l, rfl, hv, hn, q⟩ := h
  have sc := sc_long
  refine ⟨_, (pss_one (ps_ret (pe_callB (cr_sum rfl) (by rfl) T.sum (by decide +kernel) (pa_cons (pe_lc rfl sc.nd (pi_tup (pv 0)) (blkOk_by (own := [("start", 1), ("end", 2)]) (N := N_long) (sc := C8.fnScope s_long) (by decide +kernel)) (fun _ _ _ _ _ => (pgT (K := K) (n := 2) rfl rfl (pgs_cons (pg_name (i := 1) sc.nd rfl (Or.inl rfl)) (pgs_cons (pg_name (i := 2) sc.nd rfl (Or.inl rfl)) pgs_nil)))) (fun _ _ _ _ _ => pts_nil) (fun _ _ _ _ _ => (pe_op op_sub (pv 2) (pv 1)))) pa_nil)))), ?_⟩
  obtain ⟨pr, ys, rfl, hpr, dy⟩ := dt_L hv
  refine ⟨.ref pr, rfl, pr, rfl, ⟨ys, SqT.of hpr⟩, lcD_tup (p := allT) (f := fun s : Int × Int => s.2 - s.1) (encB := PyData.int) hpr dy (by omega) (fun i x s H' R N hi hd sm ky kn => ?_) fun p1 H1 ys1 sm1 np1 hp1 d1 => ?_⟩
  · obtain ⟨p, rfl, hp⟩ := dt_P hd
    exact ⟨p, _, rfl, SqT.of hp, rfl, _, _, rfl, _, _, rfl, rfl, rfl, yes ⟨.int s.2, rfl, .int s.1, rfl, _, _, rfl, rfl, ky rfl _ _ (.refl _) (.int _)⟩⟩
  rw [filter_all] at d1
  have e1 := ints_of_dt d1
  subst e1
  exact ⟨p1, _, rfl, SqL.of hp1, q _ sm1⟩
abbrev s_touches : Stmt := topS 32
abbrev N_touches : List Str := ["one", "other"]
theorem sc_touches : FnScope N_touches ["one", "other"] (C8.fnScope s_touches) := C8.fnScope_by (by decide +kernel)
def sp_touches : Sp := fun vs H Q _ => ∃ (u v : V) (a b : Rc), vs = [u, v] ∧ Dt H u (dQ a) ∧ Dt H v (dQ b) ∧ Q (.bl (touB a b)) H
theorem cal_touches (T : Txt mg) (D : Here K mg "touches" s_touches ["one", "other"]) : C8.Cal P w K mg base 1 "touches" sp_touches [] := by
  refine D.cal sc_touches (fun vs H Q E h => ?_) fun f cdv A outer s H vs Q E hr h => ?_
  · obtain ⟨u, v, a, b, rfl, _⟩ := h
    rfl
  obtain ⟨u, v, a, b, rfl, hu, hv, q⟩ := h
  have sc := sc_touches
  refine ⟨_, (pss_one (ps_ret (pe_and (pe_cmpR op_eq (pe_ix (ixT (K := K) rfl) (pv 0) pe_int (fun _ _ => rfl)) (pe_ix (ixT (K := K) rfl) (pv 1) pe_int (fun _ _ => rfl)) (nomark _)) (pe_one (pe_cmpR op_lt (pe_callB (call_max2 rfl) (by rfl) T.max (by decide +kernel) (pa_cons (pe_ix (ixT (K := K) rfl) (pv 0) pe_int (fun _ _ => rfl)) (pa_cons (pe_ix (ixT (K := K) rfl) (pv 1) pe_int (fun _ _ => rfl)) pa_nil))) (pe_callB (call_min2 rfl) (by rfl) T.min (by decide +kernel) (pa_cons (pe_ix (ixT (K := K) rfl) (pv 0) pe_int (fun _ _ => rfl)) (pa_cons (pe_ix (ixT (K := K) rfl) (pv 1) pe_int (fun _ _ => rfl)) pa_nil))) (nomark _)))))), ?_⟩
  obtain ⟨p, rfl, hp⟩ := dt_Q hu
  obtain ⟨o, rfl, ho⟩ := dt_Q hv
  refine ⟨.ref p, rfl, p, _, 3, .int a.2.2.2, rfl, rfl, SqT.of hp, at_3, .ref o, rfl, o, _, 1, .int b.2.1, rfl, rfl, SqT.of ho, at_1, rfl, ?_⟩
  unfold touB at q
  by_cases c : a.2.2.2 = b.2.1
  · refine ⟨true, bt (by rw [c]), iteT ?_⟩
    rw [decide_eq_true c, Bool.true_and] at q
    exact ⟨.ref p, rfl, p, _, 0, .int a.1, rfl, rfl, SqT.of hp, at_0, .ref o, rfl, o, _, 0, .int b.1, rfl, rfl, SqT.of ho, at_0, _, _, rfl,
      .ref p, rfl, p, _, 2, .int a.2.2.1, rfl, rfl, SqT.of hp, at_2, .ref o, rfl, o, _, 2, .int b.2.2.1, rfl, rfl, SqT.of ho, at_2, _, _, rfl, _, _, rfl, rfl, q⟩
  · refine ⟨false, bf (fun h => c (V.int.inj h)), iteF ?_⟩
    rw [decide_eq_false c, Bool.false_and] at q
    exact q
end
end Mw

-- W5
namespace Mw
open PySem PySem.Spec PyProof.Rows L2 MkR Mk
/-! ### few unlike numbers -/
theorem few {α : Type} [DecidableEq α] : ∀ {l D : List α}, l.Nodup → (∀ a ∈ l, a ∈ D) → l.length ≤ D.length
  | [], _, _, _ => Nat.zero_le _
  | a :: l, D, nd, h => by
    obtain ⟨n1, n2⟩ := List.nodup_cons.mp nd
    have ha := h a List.mem_cons_self
    have := few (l := l) (D := D.erase a) n2 fun b hb => (List.mem_erase_of_ne (fun e => n1 (by rw [← e]; exact hb))).mpr (h b (List.mem_cons_of_mem _ hb))
    rw [List.length_erase_of_mem ha] at this
    have : 0 < D.length := List.length_pos_of_mem ha
    rw [List.length_cons]
    omega
theorem few_lt {l D : List Int} (h : l.Pairwise (· < ·)) (m : ∀ a ∈ l, a ∈ D) : l.length ≤ D.length := few (h.imp fun k e => by omega) m
/-- the numbers of a region are few -/
def SzR (n : Nat) (r : Rg) : Prop := ∃ Xs Ys : List Int, Xs.length ≤ n ∧ Ys.length ≤ n ∧ Crs r (· ∈ Xs) (· ∈ Ys)
def SzQ (n : Nat) (qs : List Rc) : Prop := ∃ Xs Ys : List Int, Xs.length ≤ n ∧ Ys.length ≤ n ∧ ∀ q ∈ qs, q.1 ∈ Xs ∧ q.2.2.1 ∈ Xs ∧ q.2.1 ∈ Ys ∧ q.2.2.2 ∈ Ys
theorem LOK.few {l : Ln} (h : LOK l) {Xs : List Int} (m : ∀ s ∈ l, s.1 ∈ Xs) : l.length ≤ Xs.length := by
  have k : (l.map fun s : Int × Int => s.1).Pairwise (· < ·) := by
    rw [List.pairwise_map]
    refine List.Pairwise.imp_of_mem (fun {a b} ha hb k => ?_) h.gap
    have := h.pos a ha
    omega
  have := few_lt (D := Xs) k fun a ha => by
    obtain ⟨s, hs, rfl⟩ := List.mem_map.mp ha
    exact m s hs
  rwa [List.length_map] at this
theorem ROK.few {r : Rg} (h : ROK r) {Ys : List Int} (m : ∀ b ∈ r, b.1 ∈ Ys) : r.length ≤ Ys.length := by
  have k : (r.map fun s : Bd => s.1).Pairwise (· < ·) := by
    rw [List.pairwise_map]
    refine List.Pairwise.imp_of_mem (fun {a b} ha hb k => ?_) h.gap
    have := h.pos a ha
    omega
  have := few_lt (D := Ys) k fun a ha => by
    obtain ⟨s, hs, rfl⟩ := List.mem_map.mp ha
    exact m s hs
  rwa [List.length_map] at this
theorem flat_le {α β : Type} {f : α → List β} {n : Nat} : ∀ {l : List α}, (∀ a ∈ l, (f a).length ≤ n) → (l.flatMap f).length ≤ l.length * n
  | [], _ => Nat.zero_le _
  | a :: l, h => by
    have := flat_le (l := l) fun b hb => h b (List.mem_cons_of_mem _ hb)
    have h1 := h a List.mem_cons_self
    rw [List.flatMap_cons, List.length_append, List.length_cons, Nat.succ_mul]
    omega
theorem SzR.len {n : Nat} {r : Rg} (h : SzR n r) (ok : ROK r) : r.length ≤ n ∧ (∀ b ∈ r, b.2.2.length ≤ n) ∧ (rectsM r).length ≤ n * n := by
  obtain ⟨Xs, Ys, hx, hy, c⟩ := h
  have a1 := ROK.few ok fun b hb => (c b hb).1
  have a2 : ∀ b ∈ r, b.2.2.length ≤ n := fun b hb => Nat.le_trans (LOK.few (ok.lines b hb) fun s hs => ((c b hb).2.2 s hs).1) hx
  refine ⟨Nat.le_trans a1 hy, a2, Nat.le_trans (flat_le (n := n) fun b hb => ?_) (Nat.mul_le_mul_right _ (Nat.le_trans a1 hy))⟩
  rw [rectsB_len]
  exact a2 b hb
theorem SzR.rects {n : Nat} {r : Rg} (h : SzR n r) : SzQ n (rectsM r) := by
  obtain ⟨Xs, Ys, hx, hy, c⟩ := h
  exact ⟨Xs, Ys, hx, hy, rectsM_crs c⟩
theorem SzR.mono {n m : Nat} {r : Rg} (h : SzR n r) (le : n ≤ m) : SzR m r := by
  obtain ⟨Xs, Ys, hx, hy, c⟩ := h
  exact ⟨Xs, Ys, Nat.le_trans hx le, Nat.le_trans hy le, c⟩

/-! ### a region from rectangles -/
def lineAt (rects : List Rc) (a : Int) : Ln := ((((rects.filter fun q => decide (q.2.1 ≤ a ∧ a < q.2.2.2)).map fun q : Rc => (q.1, q.2.2.1))).mergeSort (PySem.W.dataLe false dP)).foldl jstep []
structure IsReg (rects : List Rc) (r : Rg) : Prop where
  ok : ROK r
  mem : ∀ x y, inR r x y ↔ inCs rects x y
  crs : ∀ PX PY : Int → Prop, (∀ q ∈ rects, PX q.1 ∧ PX q.2.2.1 ∧ PY q.2.1 ∧ PY q.2.2.2) → Crs r PX PY
theorem IsReg.sz {rects : List Rc} {r : Rg} (h : IsReg rects r) {n : Nat} (k : SzQ n rects) : SzR n r := by
  obtain ⟨Xs, Ys, hx, hy, c⟩ := k
  exact ⟨Xs, Ys, hx, hy, h.crs _ _ c⟩
theorem lineAt_ok {rects : List Rc} (v : ∀ q ∈ rects, RcOk q) (a : Int) : LOK (lineAt rects a) ∧ (∀ x, inL (lineAt rects a) x ↔ ∃ q ∈ rects, q.2.1 ≤ a ∧ a < q.2.2.2 ∧ q.1 ≤ x ∧ x < q.2.2.1) ∧
    ∀ PX : Int → Prop, (∀ q ∈ rects, PX q.1 ∧ PX q.2.2.1) → ∀ s ∈ lineAt rects a, PX s.1 ∧ PX s.2 := by
  unfold lineAt
  generalize hl : ((rects.filter fun q => decide (q.2.1 ≤ a ∧ a < q.2.2.2)).map fun q : Rc => (q.1, q.2.2.1)) = l
  have ml : ∀ s, s ∈ l ↔ ∃ q ∈ rects, (q.2.1 ≤ a ∧ a < q.2.2.2) ∧ s = (q.1, q.2.2.1) := fun s => by
    rw [← hl, List.mem_map]
    constructor
    · rintro ⟨q, hq, rfl⟩
      obtain ⟨h1, h2⟩ := List.mem_filter.mp hq
      exact ⟨q, h1, of_decide_eq_true h2, rfl⟩
    · rintro ⟨q, h1, h2, rfl⟩
      exact ⟨q, List.mem_filter.mpr ⟨h1, decide_eq_true h2⟩, rfl⟩
  obtain ⟨pm, so⟩ := sorted_P l
  obtain ⟨j1, j2, j3⟩ := joined_ok (xs := l.mergeSort (PySem.W.dataLe false dP)) (fun s hs => by
    obtain ⟨q, hq, _, rfl⟩ := (ml s).mp (pm.mem_iff.mp hs)
    exact (v q hq).1) so
  refine ⟨j1, fun x => ?_, fun PX h => j3 PX fun f hf => ?_⟩
  · rw [j2]
    constructor
    · rintro ⟨s, hs, k1, k2⟩
      obtain ⟨q, hq, k, rfl⟩ := (ml s).mp (pm.mem_iff.mp hs)
      exact ⟨q, hq, k.1, k.2, k1, k2⟩
    · rintro ⟨q, hq, k1, k2, k3, k4⟩
      exact ⟨(q.1, q.2.2.1), pm.mem_iff.mpr ((ml _).mpr ⟨q, hq, ⟨k1, k2⟩, rfl⟩), k3, k4⟩
  · obtain ⟨q, hq, _, rfl⟩ := (ml f).mp (pm.mem_iff.mp hf)
    exact h q hq
def rot (q : Rc) : Rc := (q.2.1, q.2.2.2, q.1, q.2.2.1)
theorem line_is {rects rest A : List Rc} {low : Int} {m : Ln} (v : ∀ q ∈ rects, RcOk q) (hr : ∀ e, e ∈ rest ↔ ∃ q ∈ rects, e = rot q) (hA : ∀ e, e ∈ A ↔ e ∈ rest ∧ e.1 ≤ low ∧ low < e.2.1) (h : IsJ (A.map fun e : Rc => (e.2.2.1, e.2.2.2)) m) : m = lineAt rects low := by
  obtain ⟨l1, l2, _⟩ := lineAt_ok v low
  refine h.ok.ext l1 fun x => ?_
  rw [h.mem, l2]
  constructor
  · rintro ⟨s, hs, k1, k2⟩
    obtain ⟨e, he, rfl⟩ := List.mem_map.mp hs
    obtain ⟨h1, h2, h3⟩ := (hA e).mp he
    obtain ⟨q, hq, rfl⟩ := (hr e).mp h1
    exact ⟨q, hq, h2, h3, k1, k2⟩
  · rintro ⟨q, hq, k1, k2, k3, k4⟩
    exact ⟨(q.1, q.2.2.1), List.mem_map.mpr ⟨rot q, (hA _).mpr ⟨(hr _).mpr ⟨q, hq, rfl⟩, k1, k2⟩, rfl⟩, k3, k4⟩
theorem cut_first {cuts : List Int} (h : cuts.Pairwise (· < ·)) {a c : Int} (h0 : cuts[0]? = some a) (hc : c ∈ cuts) : a ≤ c := by
  cases cuts with
  | nil => cases h0
  | cons b t =>
    cases h0
    rcases List.mem_cons.mp hc with rfl | hc
    · exact Int.le_refl _
    · exact Int.le_of_lt ((List.pairwise_cons.mp h).1 c hc)
theorem cut_next {cuts : List Int} (h : cuts.Pairwise (· < ·)) {i : Nat} {a b c : Int} (h0 : cuts[i]? = some a) (h1 : cuts[i + 1]? = some b) (hc : c ∈ cuts) (lt : a < c) : b ≤ c := by
  obtain ⟨j, hj, ej⟩ := List.getElem_of_mem hc
  obtain ⟨l0, e0⟩ := List.getElem?_eq_some_iff.mp h0
  obtain ⟨l1, e1⟩ := List.getElem?_eq_some_iff.mp h1
  have pw := List.pairwise_iff_getElem.mp h
  rcases Nat.lt_trichotomy j (i + 1) with k | k | k
  · have : j ≤ i := by omega
    rcases Nat.lt_or_ge j i with k2 | k2
    · have := pw j i hj l0 k2
      omega
    · have : j = i := by omega
      subst this
      omega
  · subst k
    omega
  · have := pw (i + 1) j l1 hj k
    omega
theorem dropLast_get {α : Type} {l : List α} {i : Nat} {a : α} (h : l.dropLast[i]? = some a) : l[i]? = some a := by
  rw [List.dropLast_eq_take, List.getElem?_take] at h
  split at h
  · exact h
  · cases h
theorem Fr.free {o D : Addr} {H H' : Hp} (f : Fr o H H') (h : H' D = none) (n : D ≠ o) : H D = none := by
  cases e : H D with
  | none => rfl
  | some x =>
    rw [f D x n e] at h
    cases h
theorem Fr.mut {o D : Addr} {H H' : Hp} {x : HO} (f : Fr o H H') (h : H D = none) : Fr o H (upd H' D x) := fun b y n e => by
  rw [upd_ne (ne_of_none e h)]
  exact f b y n e
end Mw

-- W5b
namespace Mw
open PySem PySem.Spec PyProof.Rows L2 MkR Mk
section
variable {P : Program} {w : World} {K : PySem.W.Frag} {mg : Str → Option Value} {base : Heap}
abbrev s_region : Stmt := topS 4
abbrev N_region : List Str := ["rects", "cuts", "rest", "lines", "alive", "at", "low", "rect", "one"]
theorem sc_region : FnScope N_region ["rects"] (C8.fnScope s_region) := C8.fnScope_by (by decide +kernel)
def sp_region : Sp := fun vs H Q _ => ∃ (a : Addr) (xs : List V) (rects : List Rc), vs = [.ref a] ∧ H a = some (.lst xs) ∧ DtAll H xs (rects.map dQ) ∧ (∀ q ∈ rects, RcOk q) ∧ rects.length ≤ 400000 ∧ SzQ 4000 rects ∧
  ∀ (v : V) (H' : Hp) (r : Rg), L2.Same H H' → IsReg rects r → Dt H' v (dR r) → Q v H'
theorem cal_region (T : Txt mg) (c_joined : C8.Cal P w K mg base 1 "joined" (sp_joined K) []) (c_banded : C8.Cal P w K mg base 1 "banded" (sp_banded K) []) (c_cuts_of : C8.Cal P w K mg base 1 "cuts_of" (sp_cuts_of K) []) (D : Here K mg "region" s_region ["rects"]) : C8.Cal P w K mg base 2 "region" sp_region [] := by
  refine D.cal sc_region (fun vs H Q E h => ?_) fun f cdv A outer s H vs Q E hr h => ?_
  · obtain ⟨v, xs, r, rfl, _⟩ := h
    rfl
  obtain ⟨a, xs, rects, rfl, ha, dx, hv, hn, hsz, q⟩ := h
  have sc := sc_region
  refine ⟨_, (pss_cons (ps_set (i := 1) sc.nd rfl (Or.inl rfl) (C8.pe_c c_cuts_of hr (by decide) (by rfl) (pa_cons (pv 0) pa_nil)))
      (pss_cons (ps_set (i := 2) sc.nd rfl (Or.inl rfl) (pe_callB (cr_sortedT hr.units) (by rfl) T.sorted (by decide +kernel) (pa_cons (pe_lc rfl sc.nd (pi_list (pv 0)) (blkOk_by (own := [("rect", 7)]) (N := N_region) (sc := C8.fnScope s_region) (by decide +kernel)) (fun _ _ _ _ _ => (pg_name (i := 7) sc.nd rfl (Or.inl rfl))) (fun _ _ _ _ _ => pts_nil) (fun _ _ _ _ _ => (pe_tup (pa_cons (pe_ix (ixT (K := K) rfl) (pv 7) pe_int (fun _ _ => rfl)) (pa_cons (pe_ix (ixT (K := K) rfl) (pv 7) pe_int (fun _ _ => rfl)) (pa_cons (pe_ix (ixT (K := K) rfl) (pv 7) pe_int (fun _ _ => rfl)) (pa_cons (pe_ix (ixT (K := K) rfl) (pv 7) pe_int (fun _ _ => rfl)) pa_nil))))))) pa_nil)))
      (pss_cons (ps_set (i := 3) sc.nd rfl (Or.inl rfl) (pe_lst pa_nil))
      (pss_cons (ps_set (i := 4) sc.nd rfl (Or.inl rfl) (pe_lst pa_nil))
      (pss_cons (ps_set (i := 5) sc.nd rfl (Or.inl rfl) pe_int)
      (pss_cons (ps_for PassesOwn.never rfl (pi_list (pe_slice sl_list (pv 1) po_none (po_some (pe_un un_neg pe_int)))) (pg_name (i := 6) sc.nd rfl (Or.inr rfl)) (pss_cons (ps_setLc (i := 4) rfl sc.nd rfl rfl (sw_true rfl rfl rfl (by decide +kernel)) (pi_list (pv 4)) (blkOk_by (own := [("one", 8)]) (N := N_region) (sc := C8.fnScope s_region) (by decide +kernel)) (fun _ _ _ _ _ => (pg_name (i := 8) sc.nd rfl (Or.inl rfl))) (fun _ _ _ _ _ => (pts_one (pt_cmpR op_gt (pe_ix (ixT (K := K) rfl) (pv 8) pe_int (fun _ _ => rfl)) (pv 6) (nomark _)))) (fun _ _ _ _ _ => (pv 8)))
      (C8.pss_cut (ps_while PassesOwn.never (PW.pt (pw_and (pt_cmpR op_lt (pv 5) (pe_callB call_len_seq (by rfl) T.len (by decide +kernel) (pa_cons (pv 2) pa_nil)) (nomark _)) (pw_and1 (pt_cmpR op_eq (pe_ix (ixT (K := K) rfl) (pe_ix (ixL (K := K) rfl) (pv 2) (pv 5) (fun _ _ => rfl)) pe_int (fun _ _ => rfl)) (pv 6) (nomark _))))) (pss_cons (ps_expr (pe_bm PySem.F.plainAttrs_list PySem.F.slot_list_append PySem.F.type_list_append mt_append (pv 4) (pa_cons (pe_ix (ixL (K := K) rfl) (pv 2) (pv 5) (fun _ _ => rfl)) pa_nil)))
      (pss_one (ps_aug (i := 5) sc.nd rfl (Or.inl rfl) pe_int ip_add))))
      (pss_one (ps_expr (pe_bm PySem.F.plainAttrs_list PySem.F.slot_list_append PySem.F.type_list_append mt_append (pv 3) (pa_cons (C8.pe_c c_joined hr (by decide) (by rfl) (pa_cons (pe_lc rfl sc.nd (pi_list (pv 4)) (blkOk_by (own := [("one", 8)]) (N := N_region) (sc := C8.fnScope s_region) (by decide +kernel)) (fun _ _ _ _ _ => (pg_name (i := 8) sc.nd rfl (Or.inl rfl))) (fun _ _ _ _ _ => pts_nil) (fun _ _ _ _ _ => (pe_tup (pa_cons (pe_ix (ixT (K := K) rfl) (pv 8) pe_int (fun _ _ => rfl)) (pa_cons (pe_ix (ixT (K := K) rfl) (pv 8) pe_int (fun _ _ => rfl)) pa_nil))))) pa_nil)) pa_nil)))))))
      (pss_one (ps_ret (C8.pe_c c_banded hr (by decide) (by rfl) (pa_cons (pv 1) (pa_cons (pv 3) pa_nil))))))))))), ?_⟩
  obtain ⟨XD, YD, hXD, hYD, hin⟩ := hsz
  refine ⟨.ref a, rfl, a, xs, rects, YD, rfl, ha, dx, hn, hYD, fun q0 h0 => ⟨(hin q0 h0).2.2.1, (hin q0 h0).2.2.2⟩, fun c H1 cuts sm1 nc hc hpw hmem => ?_⟩
  have hcl : cuts.length ≤ 4000 := Nat.le_trans (few_lt hpw fun k hk => by
    obtain ⟨q0, h0, rfl | rfl⟩ := (hmem k).mp hk
    · exact (hin q0 h0).2.2.1
    · exact (hin q0 h0).2.2.2) hYD
  have ha1 := sm1 _ _ ha
  have dx1 := dx.keep (keepS sm1)
  refine ⟨.ref a, rfl, a, rfl, ⟨xs, SqL.of ha1⟩, lcD_list (p := allT) (f := rot) (encB := dQ) ha1 dx1 (by omega) (fun i x s H' R N hi hd sm ky kn => ?_) fun p1 H2 ys1 sm2 np1 hp1 d1 => ?_⟩
  · obtain ⟨p, rfl, hp⟩ := dt_Q hd
    refine ⟨rfl, yes ⟨.ref p, rfl, p, _, 1, .int s.2.1, rfl, rfl, SqT.of hp, at_1, .ref p, rfl, p, _, 3, .int s.2.2.2, rfl, rfl, SqT.of hp, at_3, .ref p, rfl, p, _, 0, .int s.1, rfl, rfl, SqT.of hp, at_0, .ref p, rfl, p, _, 2, .int s.2.2.1, rfl, rfl, SqT.of hp, at_2, by show 4 ≤ sizeLine; decide, fun t nt => ?_⟩⟩
    exact ky rfl _ _ (same_new nt) (Q_dt (a := s.2.1) (b := s.2.2.2) (c := s.1) (d := s.2.2.1) upd_same)
  rw [filter_all] at d1
  obtain ⟨b1, b2, b3⟩ := able_Q (rects.map rot)
  refine ⟨Rc, dQ, p1, ys1, _, rfl, SqL.of hp1, d1, b1, b2, b3, fun rs pr hrs npr => ?_⟩
  obtain ⟨pm, so⟩ := sorted_Q (rects.map rot)
  generalize (rects.map rot).mergeSort (PySem.W.dataLe false dQ) = rest at *
  have hrest : ∀ e, e ∈ rest ↔ ∃ q ∈ rects, e = rot q := fun e => by
    rw [pm.mem_iff, List.mem_map]
    exact ⟨fun ⟨q, h, e⟩ => ⟨q, h, e.symm⟩, fun ⟨q, h, e⟩ => ⟨q, h, e.symm⟩⟩
  have lrest : rest.length = rects.length := by rw [pm.length_eq, List.length_map]
  have lrs : rs.length = rest.length := by rw [DtAll.len hrs, List.length_map]
  have sm3 := (sm1.trans sm2).trans (same_new (o := .lst rs) npr)
  have hc3 := (sm2.trans (same_new (o := .lst rs) npr)) _ _ hc
  have hr3 : (upd H2 pr (.lst rs)) pr = some (.lst rs) := upd_same
  have drs := hrs.keep (keep_new (o := .lst rs) npr)
  generalize upd H2 pr (.lst rs) = H3 at *
  refine ⟨Nat.zero_le _, fun o no => ⟨Nat.zero_le _, fun al nal => ?_⟩⟩
  have sm4 := (same_new (o := .lst []) no).trans (same_new (o := .lst []) nal)
  have noH : H o = none := sm3.free no
  have hc4 := sm4 _ _ hc3
  have hr4 := sm4 _ _ hr3
  have drs4 := drs.keep (keepS sm4)
  have nalo : al ≠ o := (fresh_ne nal).1
  have ho4 : (upd (upd H3 o (.lst [])) al (.lst [])) o = some (.lst []) := same_new nal _ _ upd_same
  have hal4 : (upd (upd H3 o (.lst [])) al (.lst [])) al = some (.lst []) := upd_same
  have smH := sm3.trans sm4
  generalize upd (upd H3 o (.lst [])) al (.lst []) = H4 at *
  have nco : c ≠ o := ne_of_none hc3 no
  have npo : pr ≠ o := ne_of_none hr3 no
  refine ⟨.ref c, rfl, 1, rfl, _, rfl, c, _, rfl, SqL.of hc4, fun cd ncd => ?_⟩
  rw [cut_m1, ← List.map_dropLast]
  have sm5 := same_new (o := .lst (cuts.dropLast.map V.int)) ncd
  have hc5 := sm5 _ _ hc4
  have hr5 := sm5 _ _ hr4
  have drs5 := drs4.keep (keepS sm5)
  have ho5 := sm5 _ _ ho4
  have hal5 := sm5 _ _ hal4
  have hcd5 : (upd H4 cd (.lst (cuts.dropLast.map V.int))) cd = some (.lst (cuts.dropLast.map V.int)) := upd_same
  have ncdo : cd ≠ o := (ne_of_none ho4 ncd).symm
  have smH5 := smH.trans sm5
  generalize upd H4 cd (.lst (cuts.dropLast.map V.int)) = H5 at *
  refine ⟨cd, rfl, ⟨_, SqL.of hcd5⟩, for_list (K := K) (a := cd) (xs := cuts.dropLast.map V.int) (fun i σ' H' => ∃ (al : Addr) (as zs : List V) (y6 : Option V) (A : List Rc) (t : Nat), σ' = [some (.ref a), some (.ref c), some (.ref pr), some (.ref o), some (.ref al), some (.int ((t : Nat) : Int)), y6, none, none] ∧ Fr o H5 H' ∧
    H' o = some (.lst zs) ∧ DtAll H' zs (((cuts.dropLast.take i).map (lineAt rects)).map dL) ∧ H' al = some (.lst as) ∧ DtAll H' as (A.map dQ) ∧ A.length ≤ t ∧ t ≤ rest.length ∧ ∀ low, cuts[i]? = some low → AInv rest low (A.filter fun e => decide (e.2.1 > low)) t) ?_ ?_ ?_ ?_⟩
  · refine ⟨al, [], [], none, [], 0, rfl, Fr.refl, ho5, .nil, hal5, .nil, Nat.le_refl _, Nat.zero_le _, fun low hlow => AInv.first fun e he => ?_⟩
    obtain ⟨q0, h0, rfl⟩ := (hrest e).mp he
    exact cut_first hpw hlow ((hmem _).mpr ⟨q0, h0, .inl rfl⟩)
  · rintro i σ' H' _ ⟨al, as, zs, y6, A, t, rfl, fr, _⟩
    exact SqL.of (fr.l ncdo hcd5)
  · rintro i x σ' H' hi ⟨al, as, zs, y6, A, t, rfl, fr, ho', dz, hal', das, lA, lt, inv⟩
    obtain ⟨low, hlow, rfl⟩ := ints_get hi
    have hlow' := dropLast_get hlow
    have inv1 := inv low hlow'
    have lti := (List.getElem?_eq_some_iff.mp hlow').1
    have lz : zs.length = i := by
      rw [DtAll.len dz, List.length_map, List.length_map, List.length_take]
      have := (List.getElem?_eq_some_iff.mp hlow).1
      omega
    -- alive = [one for one in alive if one[1] > low]
    refine ⟨.ref al, rfl, al, rfl, ⟨as, SqL.of hal'⟩, lcD_list (p := fun e : Rc => decide (e.2.1 > low)) (f := id) (encB := dQ) hal' das (by omega) (fun i x s H'' R N hi hd sm ky kn => ?_) fun D H6 as1 sm6 nD hD das1 => ?_⟩
    · obtain ⟨p, rfl, hp⟩ := dt_Q hd
      refine ⟨rfl, .ref p, rfl, p, _, 1, .int s.2.1, rfl, rfl, SqT.of hp, at_1, .int low, rfl, _, _, rfl, rfl, _, rfl, ?_⟩
      by_cases cc : s.2.1 > low
      · rw [decide_eq_true cc]
        exact iteT ⟨.ref p, rfl, ky (decide_eq_true cc) _ _ (.refl _) hd⟩
      · rw [decide_eq_false cc]
        exact iteF (kn (decide_eq_false cc) _ (.refl _))
    rw [List.map_id] at das1
    have fr6 := fr.trans (.of sm6)
    have ho6 := sm6 _ _ ho'
    have dz6 := dz.keep (keepS sm6)
    have nDo : D ≠ o := (ne_of_none ho' nD).symm
    have nD5 : H5 D = none := fr.free nD nDo
    have lA1 : (A.filter fun e => decide (e.2.1 > low)).length ≤ t := Nat.le_trans (List.length_filter_le _ _) lA
    generalize A.filter (fun e => decide (e.2.1 > low)) = A1 at *
    have nprD : pr ≠ D := fun e => by rw [e, nD5] at hr5; cases hr5
    -- while
    refine ⟨fun σ'' H'' => ∃ (as : List V) (A : List Rc) (t : Nat), σ'' = [some (.ref a), some (.ref c), some (.ref pr), some (.ref o), some (.ref D), some (.int ((t : Nat) : Int)), some (.int low), none, none] ∧ Fr o H5 H'' ∧
      H'' o = some (.lst zs) ∧ DtAll H'' zs (((cuts.dropLast.take i).map (lineAt rects)).map dL) ∧ H'' D = some (.lst as) ∧ DtAll H'' as (A.map dQ) ∧ A.length ≤ t ∧ t ≤ rest.length ∧ AInv rest low A t ∧ ∀ e, rest[t]? = some e → e.1 ≠ low, ⟨fun m σ'' H'' => ∃ (as : List V) (A : List Rc) (t : Nat), m = rest.length - t ∧ σ'' = [some (.ref a), some (.ref c), some (.ref pr), some (.ref o), some (.ref D), some (.int ((t : Nat) : Int)), some (.int low), none, none] ∧ Fr o H5 H'' ∧
      H'' o = some (.lst zs) ∧ DtAll H'' zs (((cuts.dropLast.take i).map (lineAt rects)).map dL) ∧ H'' D = some (.lst as) ∧ DtAll H'' as (A.map dQ) ∧ A.length ≤ t ∧ t ≤ rest.length ∧ AInv rest low A t,
      ⟨_, as1, A1, t, rfl, rfl, fr6, ho6, dz6, hD, das1, lA1, lt, inv1⟩, ?_⟩, ?_⟩
    · clear das1 hD inv1 lA1 inv das hal' lA lt
      rintro m σ'' H'' ⟨as2, A2, t2, rfl, rfl, fr7, ho7, dz7, hD7, das7, lA7, lt7, inv7⟩
      have hr7 := fr7.l npo hr5
      have drs7 := drs5.keep (fr7.keep ho5)
      refine ⟨.int t2, rfl, .ref pr, rfl, pr, rs, rfl, .inl (SqL.of hr7), _, _, rfl, rfl, ?_⟩
      by_cases c1 : t2 < rest.length
      · refine ⟨true, bt (by rw [lrs]; exact Int.ofNat_lt.mpr c1), iteT ?_⟩
        have he : rest[t2]? = some rest[t2] := List.getElem?_eq_getElem c1
        generalize rest[t2] = e at he
        obtain ⟨ve, hve, de⟩ := DtAll.of drs7 he
        obtain ⟨pe, rfl, hpe⟩ := dt_Q de
        refine ⟨.ref pr, rfl, .int t2, rfl, pr, rs, (t2 : Int), .ref pe, rfl, rfl, SqL.of hr7, atI_nat hve, pe, _, 0, .int e.1, rfl, rfl, SqT.of hpe, at_0, .int low, rfl, rfl, ?_⟩
        by_cases c2 : e.1 = low
        · refine ⟨true, bt (by rw [c2]), iteT ?_⟩
          obtain ⟨q0, h0, e0⟩ := (hrest e).mp (List.mem_of_getElem? he)
          have lt2 : low < e.2.1 := by
            rw [← c2, e0]
            exact (hv q0 h0).2
          have inv8 := inv7.step he c2 lt2
          refine ⟨fun σ3 H3' => ∃ (as : List V) (A : List Rc), σ3 = [some (.ref a), some (.ref c), some (.ref pr), some (.ref o), some (.ref D), some (.int (((t2 + 1 : Nat)) : Int)), some (.int low), none, none] ∧ Fr o H5 H3' ∧
            H3' o = some (.lst zs) ∧ DtAll H3' zs (((cuts.dropLast.take i).map (lineAt rects)).map dL) ∧ H3' D = some (.lst as) ∧ DtAll H3' as (A.map dQ) ∧ A.length ≤ t2 + 1 ∧ AInv rest low A (t2 + 1), ?_, ?_⟩
          · rintro σ3 H3' ⟨as3, A3, rfl, g1, g2, g3, g4, g5, g6, g7⟩
            exact ⟨rest.length - (t2 + 1), by omega, as3, A3, t2 + 1, rfl, rfl, g1, g2, g3, g4, g5, g6, c1, g7⟩
          · have las : as2.length = A2.length := by rw [DtAll.len das7, List.length_map]
            refine ⟨.ref D, rfl, .inl ⟨rfl, _, SqL.of hD7⟩, .ref pr, rfl, .int t2, rfl, pr, rs, (t2 : Int), .ref pe, rfl, rfl, SqL.of hr7, atI_nat hve, D, as2, .ref pe, rfl, rfl, hD7, sz' (by omega), ?_⟩
            refine ⟨.int t2, rfl, _, _, rfl, rfl, ?_⟩
            refine ⟨as2 ++ [.ref pe], A2 ++ [e], rfl, fr7.mut nD5, by rw [upd_ne nDo.symm]; exact ho7, dz7.keep (keep_lst hD7), upd_same, ?_, by rw [List.length_append, List.length_singleton]; omega, inv8⟩
            rw [List.map_append]
            exact DtAll.app (das7.keep (keep_lst hD7)) (DtAll.one (de.keep (keep_lst hD7)))
        · refine ⟨false, bf (fun h => c2 (V.int.inj h)), iteF ?_⟩
          exact ⟨as2, A2, t2, rfl, fr7, ho7, dz7, hD7, das7, lA7, lt7, inv7, fun e' he' => by
            rw [he] at he'
            cases he'
            exact c2⟩
      · refine ⟨false, bf (by rw [lrs]; omega), iteF (iteF ?_)⟩
        exact ⟨as2, A2, t2, rfl, fr7, ho7, dz7, hD7, das7, lA7, lt7, inv7, fun e' he' => by
          have := (List.getElem?_eq_some_iff.mp he').1
          exact absurd this c1⟩
    · clear das1 hD inv1 lA1 inv das hal' lA lt
      rintro σ'' H'' ⟨as2, A2, t2, rfl, fr7, ho7, dz7, hD7, das7, lA7, lt7, inv7, nx⟩
      obtain ⟨up, hA⟩ := inv7.done so nx
      refine ⟨.ref o, rfl, .inl ⟨rfl, _, SqL.of ho7⟩, .ref D, rfl, D, rfl, ⟨as2, SqL.of hD7⟩, lcD_list (p := allT) (f := fun e : Rc => (e.2.2.1, e.2.2.2)) (encB := dP) hD7 das7 (by omega) (fun i x s H'' R N hi hd sm ky kn => ?_) fun p8 H8 ys8 sm8 np8 hp8 d8 => ?_⟩
      · obtain ⟨p, rfl, hp⟩ := dt_Q hd
        refine ⟨rfl, yes ⟨.ref p, rfl, p, _, 2, .int s.2.2.1, rfl, rfl, SqT.of hp, at_2, .ref p, rfl, p, _, 3, .int s.2.2.2, rfl, rfl, SqT.of hp, at_3, by show 2 ≤ sizeLine; decide, fun t nt => ?_⟩⟩
        exact ky rfl _ _ (same_new nt) (P_dt (a := s.2.2.1) (b := s.2.2.2) upd_same)
      rw [filter_all] at d8
      refine ⟨p8, ys8, _, rfl, hp8, d8, fun s hs => ?_, by rw [List.length_map]; omega, fun vj H9 mj sm9 ij dj => ?_⟩
      · obtain ⟨e, he, rfl⟩ := List.mem_map.mp hs
        obtain ⟨h1, _, _⟩ := (hA e).mp he
        obtain ⟨q0, h0, rfl⟩ := (hrest e).mp h1
        exact (hv q0 h0).1
      have em := line_is hv hrest hA ij
      subst em
      have sm89 := sm8.trans sm9
      have ho9 := sm89 _ _ ho7
      refine ⟨o, zs, vj, rfl, rfl, ho9, sz' (by omega), ?_⟩
      refine ⟨D, as2, zs ++ [vj], _, A2, t2, rfl, (fr7.trans (.of sm89)).trans .put, upd_same, ?_, by rw [upd_ne nDo]; exact sm89 _ _ hD7, das7.keep (keep_trans (keepS sm89) (keep_lst ho9)), lA7, lt7, fun low2 h2 => ?_⟩
      · rw [take_succ_map hlow, List.map_append]
        exact DtAll.app (dz7.keep (keep_trans (keepS sm89) (keep_lst ho9))) (DtAll.one (dj.keep (keep_lst ho9)))
      · refine inv7.next (List.pairwise_iff_getElem.mp hpw i (i + 1) lti (List.getElem?_eq_some_iff.mp h2).1 (by omega) |> fun k => ?_) fun j e hj le => ?_
        · rw [(List.getElem?_eq_some_iff.mp hlow').2, (List.getElem?_eq_some_iff.mp h2).2] at k
          exact k
        · obtain ⟨q0, h0, rfl⟩ := (hrest e).mp (List.mem_of_getElem? hj)
          exact cut_next hpw hlow' h2 ((hmem _).mpr ⟨q0, h0, .inl rfl⟩) (up j _ hj le)
  · rintro σ' H' ⟨al, as, zs, y6, A, t, rfl, fr, ho', dz, _⟩
    rw [List.length_map, List.take_length] at dz
    have hc6 := fr.l nco hc5
    refine ⟨.ref c, rfl, .ref o, rfl, c, o, cuts, zs, cuts.dropLast.map (lineAt rects), rfl, hc6, ho', dz, by omega, fun v H9 sm9 dv => ?_⟩
    obtain ⟨r1, r2, r3⟩ := region_ok (rects := rects) (cuts := cuts) (f := lineAt rects) hv hpw hmem fun k _ => lineAt_ok hv k
    exact q v H9 _ ((fr.same smH5 noH).trans sm9) ⟨r1, r2, r3⟩ dv
end
end Mw

-- W6
namespace Mw
open PySem PySem.Spec PyProof.Rows L2 MkR Mk
theorem ifS_of {c : TT} {t u : TS} {D : Ends} {σ : L2.St} {H : Hp} (b : Bool) (h : ∀ R : Bool → Hp → Prop, R b H → c σ H R) (k : if b = true then t D σ H else u D σ H) : tIfS c t u D σ H := h _ k
theorem ifS_T {c : TT} {t u : TS} {D : Ends} {σ : L2.St} {H : Hp} (h : ∀ R : Bool → Hp → Prop, R true H → c σ H R) (k : t D σ H) : tIfS c t u D σ H := h _ (iteT (B := u D σ H) k)
theorem ifS_F {c : TT} {t u : TS} {D : Ends} {σ : L2.St} {H : Hp} (h : ∀ R : Bool → Hp → Prop, R false H → c σ H R) (k : u D σ H) : tIfS c t u D σ H := h _ (iteF (A := t D σ H) k)
theorem sq_map {n m : Nat} {qs : List Rc} {g : Rc → Rc} (h : SzQ n qs) (k : ∀ Xs Ys : List Int, Xs.length ≤ n → Ys.length ≤ n → ∃ Xs' Ys' : List Int, Xs'.length ≤ m ∧ Ys'.length ≤ m ∧ ∀ q : Rc, q.1 ∈ Xs → q.2.2.1 ∈ Xs → q.2.1 ∈ Ys → q.2.2.2 ∈ Ys →
    (g q).1 ∈ Xs' ∧ (g q).2.2.1 ∈ Xs' ∧ (g q).2.1 ∈ Ys' ∧ (g q).2.2.2 ∈ Ys') : SzQ m (qs.map g) := by
  obtain ⟨Xs, Ys, hx, hy, c⟩ := h
  obtain ⟨Xs', Ys', hx', hy', c'⟩ := k Xs Ys hx hy
  refine ⟨Xs', Ys', hx', hy', fun q hq => ?_⟩
  obtain ⟨p, hp, rfl⟩ := List.mem_map.mp hq
  obtain ⟨a, b, d, e⟩ := c p hp
  exact c' p a b d e
theorem mm {α β : Type} {f : α → β} {l : List α} {a : α} (h : a ∈ l) : f a ∈ l.map f := List.mem_map.mpr ⟨a, h, rfl⟩
theorem SzQ.mirror {n : Nat} {qs : List Rc} (h : SzQ n qs) : SzQ n (qs.map mirrorR) := sq_map h fun Xs Ys hx hy => ⟨Xs.map fun x => -x, Ys, by rw [List.length_map]; exact hx, hy, fun q a b c d => ⟨mm (f := fun x : Int => -x) b, mm (f := fun x : Int => -x) a, c, d⟩⟩
theorem SzQ.quarter {n : Nat} {qs : List Rc} (h : SzQ n qs) : SzQ n (qs.map quarterR) := sq_map h fun Xs Ys hx hy => ⟨Ys.map fun x => -x, Xs, by rw [List.length_map]; exact hy, hx, fun q a b c d => ⟨mm (f := fun x : Int => -x) d, mm (f := fun x : Int => -x) c, a, b⟩⟩
theorem SzQ.move {n : Nat} {qs : List Rc} {dx dy : Int} (h : SzQ n qs) : SzQ n (qs.map (moveR dx dy)) := sq_map h fun Xs Ys hx hy => ⟨Xs.map fun x => x + dx, Ys.map fun x => x + dy, by rw [List.length_map]; exact hx, by rw [List.length_map]; exact hy,
  fun q a b c d => ⟨mm (f := fun x : Int => x + dx) a, mm (f := fun x : Int => x + dx) b, mm (f := fun x : Int => x + dy) c, mm (f := fun x : Int => x + dy) d⟩⟩
theorem SzQ.quarters {m : Nat} {qs : List Rc} (h : SzQ m qs) : ∀ n, SzQ m (qs.map (quarters n))
  | 0 => by
    have e : qs.map (Mk.quarters 0) = qs := (List.map_congr_left (g := id) fun _ _ => rfl).trans (List.map_id qs)
    rw [e]
    exact h
  | n + 1 => by
    have e : qs.map (Mk.quarters (n + 1)) = (qs.map (Mk.quarters n)).map quarterR := by
      rw [List.map_map]
      rfl
    rw [e]
    exact (h.quarters n).quarter
theorem SzQ.turn {m : Nat} {qs : List Rc} {t : Nat} {dx dy : Int} (h : SzQ m qs) : SzQ m (qs.map (turnR t dx dy)) := by
  have e : qs.map (turnR t dx dy) = (((qs.map fun q => if t > 3 then mirrorR q else q).map (Mk.quarters (t % 4))).map (moveR dx dy)) := by
    rw [List.map_map, List.map_map]
    rfl
  rw [e]
  refine SzQ.move (SzQ.quarters ?_ _)
  by_cases c : t > 3
  · simp only [if_pos c]
    exact h.mirror
  · simp only [if_neg c, List.map_id']
    exact h
theorem SzQ.grow {n : Nat} {qs : List Rc} {k : Int} (h : SzQ n qs) : SzQ (2 * n) (qs.map (growR k)) := sq_map h fun Xs Ys hx hy => ⟨(Xs.map fun x => x - k) ++ Xs.map fun x => x + k, (Ys.map fun x => x - k) ++ Ys.map fun x => x + k,
  by rw [List.length_append, List.length_map, List.length_map]; omega, by rw [List.length_append, List.length_map, List.length_map]; omega,
  fun q a b c d => ⟨List.mem_append_left _ (mm (f := fun x : Int => x - k) a), List.mem_append_right _ (mm (f := fun x : Int => x + k) b), List.mem_append_left _ (mm (f := fun x : Int => x - k) c), List.mem_append_right _ (mm (f := fun x : Int => x + k) d)⟩⟩
theorem SzQ.mono {n m : Nat} {r : List Rc} (h : SzQ n r) (le : n ≤ m) : SzQ m r := by
  obtain ⟨Xs, Ys, hx, hy, c⟩ := h
  exact ⟨Xs, Ys, Nat.le_trans hx le, Nat.le_trans hy le, c⟩
theorem SzR.sq {n : Nat} {r : Rg} (h : SzR n r) (ok : ROK r) (le : n ≤ 600) : r.length ≤ 600 ∧ (∀ b ∈ r, b.2.2.length ≤ 600) ∧ (rectsM r).length ≤ 360000 := by
  obtain ⟨a, b, c⟩ := SzR.len h ok
  exact ⟨by omega, fun x hx => Nat.le_trans (b x hx) le, Nat.le_trans c (Nat.mul_le_mul le le)⟩
section
variable {P : Program} {w : World} {K : PySem.W.Frag} {mg : Str → Option Value} {base : Heap}
def sp_keep (kb : Bool → Bool → Bool) : Sp := fun vs H Q _ => ∃ a b : Bool, vs = [.bl a, .bl b] ∧ Q (.bl (kb a b)) H
def kBoth (a b : Bool) : Bool := a && b
def kEither (a b : Bool) : Bool := a || b
def kFirst (a b : Bool) : Bool := a && !b
abbrev s_in_both : Stmt := topS 12
abbrev N_in_both : List Str := ["one", "other"]
theorem sc_in_both : FnScope N_in_both ["one", "other"] (C8.fnScope s_in_both) := C8.fnScope_by (by decide +kernel)
abbrev s_in_either : Stmt := topS 13
abbrev N_in_either : List Str := ["one", "other"]
theorem sc_in_either : FnScope N_in_either ["one", "other"] (C8.fnScope s_in_either) := C8.fnScope_by (by decide +kernel)
abbrev s_in_first : Stmt := topS 14
abbrev N_in_first : List Str := ["one", "other"]
theorem sc_in_first : FnScope N_in_first ["one", "other"] (C8.fnScope s_in_first) := C8.fnScope_by (by decide +kernel)
abbrev s_in_one : Stmt := topS 15
abbrev N_in_one : List Str := ["one", "other"]
theorem sc_in_one : FnScope N_in_one ["one", "other"] (C8.fnScope s_in_one) := C8.fnScope_by (by decide +kernel)
theorem cal_in_both (D : Here K mg "in_both" s_in_both ["one", "other"]) : C8.Cal P w K mg base 1 "in_both" (sp_keep kBoth) [] := by
  refine D.cal sc_in_both (fun vs H Q E h => ?_) fun f cdv A outer s H vs Q E hr h => ?_
  · obtain ⟨a, b, rfl, _⟩ := h
    rfl
  obtain ⟨a, b, rfl, q⟩ := h
  have sc := sc_in_both
  refine ⟨_, (pss_one (ps_ret (pe_and (pv 0) (pe_one (pv 1))))), ?_⟩
  refine ⟨.bl a, rfl, a, rfl, ?_⟩
  cases a with
  | true => exact iteT ⟨.bl b, rfl, q⟩
  | false => exact iteF q
theorem cal_in_either (D : Here K mg "in_either" s_in_either ["one", "other"]) : C8.Cal P w K mg base 1 "in_either" (sp_keep kEither) [] := by
  refine D.cal sc_in_either (fun vs H Q E h => ?_) fun f cdv A outer s H vs Q E hr h => ?_
  · obtain ⟨a, b, rfl, _⟩ := h
    rfl
  obtain ⟨a, b, rfl, q⟩ := h
  have sc := sc_in_either
  refine ⟨_, (pss_one (ps_ret (pe_or (pv 0) (pe_one (pv 1))))), ?_⟩
  refine ⟨.bl a, rfl, a, rfl, ?_⟩
  cases a with
  | true => exact iteT q
  | false => exact iteF ⟨.bl b, rfl, q⟩
theorem cal_in_first (D : Here K mg "in_first" s_in_first ["one", "other"]) : C8.Cal P w K mg base 1 "in_first" (sp_keep kFirst) [] := by
  refine D.cal sc_in_first (fun vs H Q E h => ?_) fun f cdv A outer s H vs Q E hr h => ?_
  · obtain ⟨a, b, rfl, _⟩ := h
    rfl
  obtain ⟨a, b, rfl, q⟩ := h
  have sc := sc_in_first
  refine ⟨_, (pss_one (ps_ret (pe_and (pv 0) (pe_one (pe_not (pv 1)))))), ?_⟩
  refine ⟨.bl a, rfl, a, rfl, ?_⟩
  cases a with
  | true => exact iteT ⟨.bl b, rfl, b, rfl, q⟩
  | false => exact iteF q
theorem cal_in_one (D : Here K mg "in_one" s_in_one ["one", "other"]) : C8.Cal P w K mg base 1 "in_one" (sp_keep neB) [] := by
  refine D.cal sc_in_one (fun vs H Q E h => ?_) fun f cdv A outer s H vs Q E hr h => ?_
  · obtain ⟨a, b, rfl, _⟩ := h
    rfl
  obtain ⟨a, b, rfl, q⟩ := h
  have sc := sc_in_one
  refine ⟨_, (pss_one (ps_ret (pe_cmpR op_ne (pv 0) (pv 1) (nomark _)))), ?_⟩
  refine ⟨.bl a, rfl, .bl b, rfl, by cases a <;> cases b <;> rfl, ?_⟩
  have e : (!decide (V.bl a = V.bl b)) = neB a b := by cases a <;> cases b <;> rfl
  rw [e]
  exact q
abbrev s_turned : Stmt := topS 10
abbrev N_turned : List Str := ["some", "turn", "dx", "dy", "rect"]
theorem sc_turned : FnScope N_turned ["some", "turn", "dx", "dy"] (C8.fnScope s_turned) := C8.fnScope_by (by decide +kernel)
def sp_turned : Sp := fun vs H Q _ => ∃ (v : V) (r : Rg) (t : Nat) (dx dy : Int), vs = [v, .int (t : Int), .int dx, .int dy] ∧ Dt H v (dR r) ∧ ROK r ∧ SzR 600 r ∧
  ∀ (u : V) (H' : Hp) (r' : Rg), L2.Same H H' → IsReg ((rectsM r).map (turnR t dx dy)) r' → Dt H' u (dR r') → Q u H'
theorem cal_turned (T : Txt mg) (c_rects_of : C8.Cal P w K mg base 1 "rects_of" sp_rects_of []) (c_turned_rect : C8.Cal P w K mg base 2 "turned_rect" sp_turned_rect []) (c_region : C8.Cal P w K mg base 2 "region" sp_region []) (D : Here K mg "turned" s_turned ["some", "turn", "dx", "dy"]) : C8.Cal P w K mg base 3 "turned" sp_turned [] := by
  refine D.cal sc_turned (fun vs H Q E h => ?_) fun f cdv A outer s H vs Q E hr h => ?_
  · obtain ⟨v, r, t, dx, dy, rfl, _⟩ := h
    rfl
  obtain ⟨v, r, t, dx, dy, rfl, hv, ok, hz, q⟩ := h
  have sc := sc_turned
  refine ⟨_, (pss_one (ps_ret (C8.pe_c c_region hr (by decide) (by rfl) (pa_cons (pe_lc rfl sc.nd (pi_list (C8.pe_c c_rects_of hr (by decide) (by rfl) (pa_cons (pv 0) pa_nil))) (blkOk_by (own := [("rect", 4)]) (N := N_turned) (sc := C8.fnScope s_turned) (by decide +kernel)) (fun _ _ _ _ _ => (pg_name (i := 4) sc.nd rfl (Or.inl rfl))) (fun _ _ _ _ _ => pts_nil) (fun _ _ _ _ _ => (C8.pe_c c_turned_rect hr (by decide) (by rfl) (pa_cons (pv 4) (pa_cons (pv 1) (pa_cons (pv 2) (pa_cons (pv 3) pa_nil))))))) pa_nil)))), ?_⟩
  obtain ⟨l1, l2, l3⟩ := SzR.sq hz ok (Nat.le_refl _)
  refine ⟨v, rfl, v, r, rfl, hv, by omega, by omega, fun b hb => by have := l2 b hb; omega, fun p H1 xs sm1 np hp dx1 => ?_⟩
  refine ⟨p, rfl, ⟨xs, SqL.of hp⟩, lcD_list (p := allT) (f := turnR t dx dy) (encB := dQ) hp dx1 (by omega) (fun i x s H' R N hi hd sm ky kn => ?_) fun p2 H2 ys2 sm2 np2 hp2 d2 => ?_⟩
  · exact ⟨rfl, yes ⟨x, rfl, .int t, rfl, .int dx, rfl, .int dy, rfl, x, s, t, dx, dy, rfl, hd, fun u H'' sm' du => ky rfl _ _ sm' du⟩⟩
  rw [filter_all] at d2
  refine ⟨p2, ys2, _, rfl, hp2, d2, fun q0 h0 => ?_, by rw [List.length_map]; omega, (SzR.rects hz).turn.mono (by decide), fun u H3 r' sm3 ir du => q u H3 r' ((sm1.trans sm2).trans sm3) ir du⟩
  obtain ⟨q1, h1, rfl⟩ := List.mem_map.mp h0
  exact turn_ok (rectsM_ok ok q1 h1)
abbrev s_grown : Stmt := topS 28
abbrev N_grown : List Str := ["some", "k", "x0", "y0", "x1", "y1"]
theorem sc_grown : FnScope N_grown ["some", "k"] (C8.fnScope s_grown) := C8.fnScope_by (by decide +kernel)
def sp_grown : Sp := fun vs H Q _ => ∃ (v : V) (r : Rg) (k : Int), vs = [v, .int k] ∧ Dt H v (dR r) ∧ ROK r ∧ SzR 600 r ∧ 0 ≤ k ∧
  ∀ (u : V) (H' : Hp) (r' : Rg), L2.Same H H' → IsReg ((rectsM r).map (growR k)) r' → Dt H' u (dR r') → Q u H'
theorem cal_grown (T : Txt mg) (c_rects_of : C8.Cal P w K mg base 1 "rects_of" sp_rects_of []) (c_region : C8.Cal P w K mg base 2 "region" sp_region []) (D : Here K mg "grown" s_grown ["some", "k"]) : C8.Cal P w K mg base 3 "grown" sp_grown [] := by
  refine D.cal sc_grown (fun vs H Q E h => ?_) fun f cdv A outer s H vs Q E hr h => ?_
  · obtain ⟨v, r, t, rfl, _⟩ := h
    rfl
  obtain ⟨v, r, k, rfl, hv, ok, hz, hk, q⟩ := h
  have sc := sc_grown
  refine ⟨_, (pss_one (ps_ret (C8.pe_c c_region hr (by decide) (by rfl) (pa_cons (pe_lc rfl sc.nd (pi_list (C8.pe_c c_rects_of hr (by decide) (by rfl) (pa_cons (pv 0) pa_nil))) (blkOk_by (own := [("x0", 2), ("y0", 3), ("x1", 4), ("y1", 5)]) (N := N_grown) (sc := C8.fnScope s_grown) (by decide +kernel)) (fun _ _ _ _ _ => (pgT (K := K) (n := 4) rfl rfl (pgs_cons (pg_name (i := 2) sc.nd rfl (Or.inl rfl)) (pgs_cons (pg_name (i := 3) sc.nd rfl (Or.inl rfl)) (pgs_cons (pg_name (i := 4) sc.nd rfl (Or.inl rfl)) (pgs_cons (pg_name (i := 5) sc.nd rfl (Or.inl rfl)) pgs_nil)))))) (fun _ _ _ _ _ => pts_nil) (fun _ _ _ _ _ => (pe_tup (pa_cons (pe_op op_sub (pv 2) (pv 1)) (pa_cons (pe_op op_sub (pv 3) (pv 1)) (pa_cons (pe_op op_add (pv 4) (pv 1)) (pa_cons (pe_op op_add (pv 5) (pv 1)) pa_nil))))))) pa_nil)))), ?_⟩
  obtain ⟨l1, l2, l3⟩ := SzR.sq hz ok (Nat.le_refl _)
  refine ⟨v, rfl, v, r, rfl, hv, by omega, by omega, fun b hb => by have := l2 b hb; omega, fun p H1 xs sm1 np hp dx1 => ?_⟩
  refine ⟨p, rfl, ⟨xs, SqL.of hp⟩, lcD_list (p := allT) (f := growR k) (encB := dQ) hp dx1 (by omega) (fun i x s H' R N hi hd sm ky kn => ?_) fun p2 H2 ys2 sm2 np2 hp2 d2 => ?_⟩
  · obtain ⟨pq, rfl, hpq⟩ := dt_Q hd
    refine ⟨pq, _, rfl, SqT.of hpq, rfl, _, _, rfl, _, _, rfl, _, _, rfl, _, _, rfl, rfl, rfl, yes ?_⟩
    refine ⟨.int s.1, rfl, .int k, rfl, _, _, rfl, rfl, .int s.2.1, rfl, .int k, rfl, _, _, rfl, rfl, .int s.2.2.1, rfl, .int k, rfl, _, _, rfl, rfl, .int s.2.2.2, rfl, .int k, rfl, _, _, rfl, rfl, by show 4 ≤ sizeLine; decide, fun t nt => ?_⟩
    exact ky rfl _ _ (same_new nt) (Q_dt (a := s.1 - k) (b := s.2.1 - k) (c := s.2.2.1 + k) (d := s.2.2.2 + k) upd_same)
  rw [filter_all] at d2
  refine ⟨p2, ys2, _, rfl, hp2, d2, fun q0 h0 => ?_, by rw [List.length_map]; omega, (SzR.rects hz).grow.mono (by decide), fun u H3 r' sm3 ir du => q u H3 r' ((sm1.trans sm2).trans sm3) ir du⟩
  obtain ⟨q1, h1, rfl⟩ := List.mem_map.mp h0
  exact grow_ok (rectsM_ok ok q1 h1) hk
end
end Mw

-- W7
namespace Mw
open PySem PySem.Spec PyProof.Rows L2 MkR Mk
theorem mrun_nil {keep : Bool → Bool → Bool} {i0 i1 : Bool} {found : Ln} {begun : Option Int} : mrun keep [] i0 i1 found begun = found := rfl
theorem flip_side {i0 i1 : Bool} {s : Int} (h : s = 0 ∨ s = 1) : ∃ (c : Bool) (j : Nat), atI [V.bl i0, V.bl i1] s = some (.bl c) ∧ ixN 2 s = some j ∧ [V.bl i0, V.bl i1].set j (.bl (!c)) = [.bl (if s = 0 then !i0 else i0), .bl (if s = 1 then !i1 else i1)] := by
  rcases h with rfl | rfl
  · exact ⟨i0, 0, rfl, rfl, rfl⟩
  · exact ⟨i1, 1, rfl, rfl, rfl⟩
theorem brk_nil {e : Int × Int} : brk e [] = true := rfl
theorem brk_cons {e d : Int × Int} {l : List (Int × Int)} : brk e (d :: l) = decide (d.1 > e.1) := rfl
theorem drop_at {α : Type} {l : List α} {i : Nat} {a : α} (h : l[i]? = some a) : l.drop i = a :: l.drop (i + 1) := by
  obtain ⟨h1, h2⟩ := List.getElem?_eq_some_iff.mp h
  rw [List.drop_eq_getElem_cons h1, h2]
theorem edges_len {s : Int} : ∀ {l : Ln}, (Mk.edges l s).length = 2 * l.length
  | [] => rfl
  | a :: l => by
    rw [edges_cons, List.length_cons, List.length_cons, edges_len, List.length_cons]
    omega
def bgV : Option Int → V
  | none => .non
  | some b => .int b
theorem snoc_dt {H H' : Hp} {zs : List V} {l : Ln} {a b : Int} {t : Addr} (d : DtAll H zs (l.map dP)) (k : Keep H H') (ht : H' t = some (.tup [.int a, .int b])) : DtAll H' (zs ++ [.ref t]) ((l ++ [(a, b)]).map dP) := by
  rw [List.map_append]
  exact DtAll.app (d.keep k) (DtAll.one (P_dt ht))
section
variable {P : Program} {w : World} {K : PySem.W.Frag} {mg : Str → Option Value} {base : Heap}
abbrev s_mixed_line : Stmt := topS 17
abbrev N_mixed_line : List Str := ["one", "other", "keep", "turns", "inside", "found", "begun", "at", "x", "side", "kept"]
theorem sc_mixed_line : FnScope N_mixed_line ["one", "other", "keep"] (C8.fnScope s_mixed_line) := C8.fnScope_by (by decide +kernel)
def sp_mixed_line (P : Program) (w : World) (K : PySem.W.Frag) (mg : Str → Option Value) (base : Heap) : Sp := fun vs H Q _ => ∃ (u v : V) (f : Addr) (one other : Ln) (kb : Bool → Bool → Bool), vs = [u, v, .ref f] ∧ C8.CalAt P w K mg base 1 f (sp_keep kb) ∧ kb false false = false ∧
  Dt H u (dL one) ∧ Dt H v (dL other) ∧ LOK one ∧ LOK other ∧ one.length ≤ 100000 ∧ other.length ≤ 100000 ∧ ∀ (x : V) (H' : Hp), L2.Same H H' → Dt H' x (dL (mixL kb one other)) → Q x H'
theorem cal_mixed_line (T : Txt mg) (c_edges : C8.Cal P w K mg base 1 "edges" sp_edges []) (D : Here K mg "mixed_line" s_mixed_line ["one", "other", "keep"]) : C8.Cal P w K mg base 2 "mixed_line" (sp_mixed_line P w K mg base) [] := by
  refine D.cal sc_mixed_line (fun vs H Q E h => ?_) fun f cdv A outer s H vs Q E hr h => ?_
  · obtain ⟨u, v, f, one, other, kb, rfl, _⟩ := h
    rfl
  obtain ⟨u, v, f, one, other, kb, rfl, ca, k0, hu, hv, ok1, ok2, n1, n2, q⟩ := h
  obtain ⟨fd, ps, G, kp, b⟩ := ca.ex
  have pass0 := @C8.pass0
  have sc := sc_mixed_line
  refine ⟨_, (pss_cons (ps_set (i := 3) sc.nd rfl (Or.inl rfl) (pe_callB (cr_sortedT hr.units) (by rfl) T.sorted (by decide +kernel) (pa_cons (pe_op op_cat (C8.pe_c c_edges hr (by decide) (by rfl) (pa_cons (pv 0) (pa_cons pe_int pa_nil))) (C8.pe_c c_edges hr (by decide) (by rfl) (pa_cons (pv 1) (pa_cons pe_int pa_nil)))) pa_nil)))
      (pss_cons (ps_set (i := 4) sc.nd rfl (Or.inl rfl) (pe_lst (pa_cons pe_bl (pa_cons pe_bl pa_nil))))
      (pss_cons (ps_set (i := 5) sc.nd rfl (Or.inl rfl) (pe_lst pa_nil))
      (pss_cons (ps_set (i := 6) sc.nd rfl (Or.inl rfl) pe_non)
      (pss_cons (ps_for PassesOwn.never rfl (pi_enum (by rfl) T.enumerate (pa_cons (pv 3) pa_nil)) (pgT (K := K) (n := 2) rfl rfl (pgs_cons (pg_name (i := 7) sc.nd rfl (Or.inl rfl)) (pgs_cons (pgT (K := K) (n := 2) rfl rfl (pgs_cons (pg_name (i := 8) sc.nd rfl (Or.inl rfl)) (pgs_cons (pg_name (i := 9) sc.nd rfl (Or.inl rfl)) pgs_nil))) pgs_nil))) (pss_cons (ps_asg (pe_not (pe_ix (ixL (K := K) rfl) (pv 4) (pv 9) (fun _ _ => rfl))) (pg_sub (pv 4) (pv 9) set_list))
      (pss_one (ps_if (PW.pt (pw_or (pt_cmpR op_eq (pe_op op_add (pv 7) pe_int) (pe_callB call_len_seq (by rfl) T.len (by decide +kernel) (pa_cons (pv 3) pa_nil)) (nomark _)) (pw_or1 (pt_cmpR op_gt (pe_ix (ixT (K := K) rfl) (pe_ix (ixL (K := K) rfl) (pv 3) (pe_op op_add (pv 7) pe_int) (fun _ _ => rfl)) pe_int (fun _ _ => rfl)) (pv 8) (nomark _))))) (pss_cons (ps_set (i := 10) sc.nd rfl (Or.inl rfl) (pe_callL (i := 2) (E := C8.E0) G hr rfl (Or.inl rfl) kp b .nil pass0 (pa_cons (pe_ix (ixL (K := K) rfl) (pv 4) pe_int (fun _ _ => rfl)) (pa_cons (pe_ix (ixL (K := K) rfl) (pv 4) pe_int (fun _ _ => rfl)) pa_nil))))
      (pss_cons (ps_if (PW.pt (pw_and (pt_val (pv 10)) (pw_and1 (pt_cmpR op_isN (pv 6) pe_non (nomark _))))) (pss_one (ps_set (i := 6) sc.nd rfl (Or.inl rfl) (pv 8))) pss_nil)
      (pss_one (ps_if (PW.pt (pw_and (pt_not (pt_val (pv 10))) (pw_and1 (pt_cmpR op_notN (pv 6) pe_non (nomark _))))) (pss_cons (ps_expr (pe_bm PySem.F.plainAttrs_list PySem.F.slot_list_append PySem.F.type_list_append mt_append (pv 5) (pa_cons (pe_tup (pa_cons (pv 6) (pa_cons (pv 8) pa_nil))) pa_nil)))
      (pss_one (ps_set (i := 6) sc.nd rfl (Or.inl rfl) pe_non))) pss_nil)))) pss_nil))))
      (pss_one (ps_ret (pe_callTy call_tuple_of (by rfl) T.tuple (by decide +kernel) (pa_cons (pv 5) pa_nil))))))))), ?_⟩
  refine ⟨u, rfl, u, 0, one, rfl, hu, by omega, fun p1 H1 xs1 sm1 np1 hp1 d1 => ?_⟩
  refine ⟨v, rfl, v, 1, other, rfl, hv.keep (keepS sm1), by omega, fun p2 H2 xs2 sm2 np2 hp2 d2 => ?_⟩
  have l1 : xs1.length = 2 * one.length := by
    rw [DtAll.len d1, List.length_map]
    exact edges_len
  have l2 : xs2.length = 2 * other.length := by
    rw [DtAll.len d2, List.length_map]
    exact edges_len
  refine ⟨p1, p2, xs1, xs2, rfl, rfl, sm2 _ _ hp1, hp2, sz (by omega), fun p3 np3 => ?_⟩
  obtain ⟨b1, b2, b3⟩ := able_P (Mk.edges one 0 ++ Mk.edges other 1)
  have d3 : DtAll (upd H2 p3 (.lst (xs1 ++ xs2))) (xs1 ++ xs2) ((Mk.edges one 0 ++ Mk.edges other 1).map dP) := by
    rw [List.map_append]
    exact DtAll.app (d1.keep (keep_trans (keepS sm2) (keep_new np3))) (d2.keep (keep_new np3))
  refine ⟨Int × Int, dP, p3, xs1 ++ xs2, _, rfl, SqL.of upd_same, d3, b1, b2, b3, fun ts pt hts npt => ?_⟩
  obtain ⟨pm, so⟩ := sorted_P (Mk.edges one 0 ++ Mk.edges other 1)
  generalize (Mk.edges one 0 ++ Mk.edges other 1).mergeSort (PySem.W.dataLe false dP) = es at *
  have smE := ((sm1.trans sm2).trans (same_new (o := .lst (xs1 ++ xs2)) np3)).trans (same_new (o := .lst ts) npt)
  have hpt : (upd (upd H2 p3 (.lst (xs1 ++ xs2))) pt (.lst ts)) pt = some (.lst ts) := upd_same
  have dts := hts.keep (keep_new (o := .lst ts) npt)
  have lts : ts.length = es.length := by rw [DtAll.len hts, List.length_map]
  have les : es.length = xs1.length + xs2.length := by
    rw [pm.length_eq, List.length_append, DtAll.len d1, DtAll.len d2, List.length_map, List.length_map]
  have side : ∀ e ∈ es, e.2 = 0 ∨ e.2 = 1 := fun e he => by
    rcases List.mem_append.mp (pm.mem_iff.mp he) with h | h
    · exact .inl (mem_edges.mp h).1
    · exact .inr (mem_edges.mp h).1
  have fin := mixL_eq (keep := kb) k0 ok1 ok2 pm so
  generalize upd (upd H2 p3 (.lst (xs1 ++ xs2))) pt (.lst ts) = HB at *
  refine ⟨by show 2 ≤ sizeLine; decide, fun ins nins => ⟨Nat.zero_le _, fun o no => ?_⟩⟩
  obtain ⟨noi, noB⟩ := fresh_ne no
  have smI := (same_new (o := .lst [.bl false, .bl false]) nins).trans (same_new (o := .lst []) no)
  have hins : (upd (upd HB ins (.lst [.bl false, .bl false])) o (.lst [])) ins = some (.lst [.bl false, .bl false]) := same_new no _ _ upd_same
  have ho : (upd (upd HB ins (.lst [.bl false, .bl false])) o (.lst [])) o = some (.lst []) := upd_same
  generalize upd (upd HB ins (.lst [.bl false, .bl false])) o (.lst []) = HC at *
  refine ⟨.ref pt, rfl, pt, _, rfl, SqL.of (smI _ _ hpt), for_enum (K := K) (a := pt) (xs := ts) (fun i σ' H' => ∃ (zs : List V) (i0 i1 : Bool) (found : Ln) (bg : Option Int) (y7 y8 y9 y10 : Option V),
    σ' = [some u, some v, some (.ref f), some (.ref pt), some (.ref ins), some (.ref o), some (bgV bg), y7, y8, y9, y10] ∧ L2.Same HB H' ∧ H' ins = some (.lst [.bl i0, .bl i1]) ∧ H' o = some (.lst zs) ∧ DtAll H' zs (found.map dP) ∧ zs.length ≤ i ∧
    mrun kb (es.drop i) i0 i1 found bg = mixL kb one other) ?_ ?_ ?_ ?_⟩
  · exact ⟨[], false, false, [], none, none, none, none, none, rfl, smI, hins, ho, .nil, Nat.le_refl _, fin⟩
  · rintro i σ' H' ⟨zs, i0, i1, found, bg, y7, y8, y9, y10, rfl, sm, _⟩
    exact SqL.of (sm _ _ hpt)
  · rintro i x t σ' H' hi ⟨zs, i0, i1, found, bg, y7, y8, y9, y10, rfl, sm, hins', ho', dz, lz, inv⟩ nt
    have smt := same_new (o := .tup [.int ((i : Nat) : Int), x]) nt
    have sm' := sm.trans smt
    have hins2 := smt _ _ hins'
    have ho2 := smt _ _ ho'
    have dz2 := dz.keep (keepS smt)
    have htt : (upd H' t (.tup [.int ((i : Nat) : Int), x])) t = some (.tup [.int ((i : Nat) : Int), x]) := upd_same
    generalize upd H' t (.tup [.int ((i : Nat) : Int), x]) = H5 at *
    obtain ⟨e, he, de⟩ := DtAll.at (dts.keep (keepS sm')) hi
    obtain ⟨pe, rfl, hpe⟩ := dt_P de
    have li := (List.getElem?_eq_some_iff.mp he).1
    obtain ⟨c, j, f1, f2, f3⟩ := flip_side (i0 := i0) (i1 := i1) (side e (List.mem_of_getElem? he))
    rw [drop_at he, mrun_cons] at inv
    refine ⟨t, _, rfl, SqT.of htt, rfl, _, _, rfl, _, _, rfl, ⟨pe, _, rfl, SqT.of hpe, rfl, _, _, rfl, _, _, rfl, rfl, rfl, ?_⟩⟩
    refine ⟨.ref ins, rfl, .int e.2, rfl, ins, _, e.2, .bl c, rfl, rfl, SqL.of hins2, f1, c, rfl, .ref ins, rfl, .int e.2, rfl, ins, _, e.2, j, rfl, rfl, hins2, f2, ?_⟩
    rw [f3]
    have nB : HB ins = none := nins
    have sm6 := same_mut (o := .lst [.bl (if e.2 = 0 then !i0 else i0), .bl (if e.2 = 1 then !i1 else i1)]) sm' nB
    have hins6 : (upd H5 ins (.lst [.bl (if e.2 = 0 then !i0 else i0), .bl (if e.2 = 1 then !i1 else i1)])) ins = some (.lst [.bl (if e.2 = 0 then !i0 else i0), .bl (if e.2 = 1 then !i1 else i1)]) := upd_same
    have ho6 : (upd H5 ins (.lst [.bl (if e.2 = 0 then !i0 else i0), .bl (if e.2 = 1 then !i1 else i1)])) o = some (.lst zs) := by rw [upd_ne noi]; exact ho2
    have dz6 := dz2.keep (keep_lst (o := .lst [.bl (if e.2 = 0 then !i0 else i0), .bl (if e.2 = 1 then !i1 else i1)]) hins2)
    generalize upd H5 ins (.lst [.bl (if e.2 = 0 then !i0 else i0), .bl (if e.2 = 1 then !i1 else i1)]) = H6 at *
    generalize (if e.2 = 0 then !i0 else i0) = j0 at *
    generalize (if e.2 = 1 then !i1 else i1) = j1 at *
    have hpt6 := sm6 _ _ hpt
    have dts6 := dts.keep (keepS sm6)
    dsimp only [tNext]
    refine ifS_of (brk e (es.drop (i + 1))) (fun R hR => ?_) ?_
    · refine ⟨.int (i : Nat), rfl, _, _, rfl, rfl, .ref pt, rfl, pt, ts, rfl, .inl (SqL.of hpt6), rfl, ?_⟩
      by_cases c1 : i + 1 = ts.length
      · refine ⟨true, bt (congrArg V.int (by omega)), iteT ?_⟩
        rw [List.drop_eq_nil_of_le (by omega), brk_nil] at hR
        exact hR
      · refine ⟨false, bf (fun h => c1 (by have := V.int.inj h; omega)), iteF ?_⟩
        have hd : es[i + 1]? = some (es[i + 1]'(by omega)) := List.getElem?_eq_getElem (by omega)
        generalize es[i + 1]'(by omega) = d at hd
        rw [drop_at hd, brk_cons] at hR
        obtain ⟨vd, hvd, dd⟩ := DtAll.of dts6 hd
        obtain ⟨pd, rfl, hpd⟩ := dt_P dd
        exact ⟨.ref pt, rfl, .int (i : Nat), rfl, _, _, rfl, rfl, pt, ts, ((i : Nat) : Int) + 1, .ref pd, rfl, rfl, SqL.of hpt6, atI_nat (j := i + 1) hvd, pd, _, 0, .int d.1, rfl, rfl, SqT.of hpd, at_0, .int e.1, rfl, _, _, rfl, rfl, _, rfl, hR⟩
    · cases hb : brk e (es.drop (i + 1)) with
      | false =>
        rw [hb, if_neg (by decide)] at inv
        exact iteF ⟨zs, j0, j1, found, bg, _, _, _, _, rfl, sm6, hins6, ho6, dz6, by omega, inv⟩
      | true =>
        rw [hb, if_pos rfl] at inv
        refine iteT ?_
        refine ⟨rfl, .ref ins, rfl, ins, _, 0, .bl j0, rfl, rfl, SqL.of hins6, at_0, .ref ins, rfl, ins, _, 1, .bl j1, rfl, rfl, SqL.of hins6, at_1, j0, j1, rfl, ?_⟩
        cases hk : kb j0 j1 with
        | true =>
          rw [hk, if_pos rfl] at inv
          cases bg with
          | none =>
            dsimp only [tNext]
            refine ifS_T (fun R hR => ⟨.bl true, rfl, true, rfl, iteT ⟨.non, rfl, rfl, true, rfl, hR⟩⟩) ⟨.int e.1, rfl, ?_⟩
            dsimp only [tNext]
            refine ifS_F (fun R hR => ⟨.bl true, rfl, true, rfl, iteF hR⟩) ?_
            exact ⟨zs, j0, j1, found, some e.1, _, _, _, _, rfl, sm6, hins6, ho6, dz6, by omega, inv⟩
          | some b0 =>
            dsimp only [tNext]
            refine ifS_F (fun R hR => ⟨.bl true, rfl, true, rfl, iteT ⟨.int b0, rfl, rfl, false, rfl, hR⟩⟩) ?_
            dsimp only [tNext]
            refine ifS_F (fun R hR => ⟨.bl true, rfl, true, rfl, iteF hR⟩) ?_
            exact ⟨zs, j0, j1, found, some b0, _, _, _, _, rfl, sm6, hins6, ho6, dz6, by omega, inv⟩
        | false =>
          rw [hk, if_neg (by decide)] at inv
          dsimp only [tNext]
          refine ifS_F (fun R hR => ⟨.bl false, rfl, false, rfl, iteF hR⟩) ?_
          cases bg with
          | none =>
            dsimp only [tNext]
            refine ifS_F (fun R hR => ⟨.bl false, rfl, false, rfl, iteT ⟨.non, rfl, rfl, false, rfl, hR⟩⟩) ?_
            exact ⟨zs, j0, j1, found, none, _, _, _, _, rfl, sm6, hins6, ho6, dz6, by omega, inv⟩
          | some b0 =>
            dsimp only [tNext]
            refine ifS_T (fun R hR => ⟨.bl false, rfl, false, rfl, iteT ⟨.int b0, rfl, rfl, true, rfl, hR⟩⟩) ?_
            refine ⟨.ref o, rfl, .inl ⟨rfl, _, SqL.of ho6⟩, .int b0, rfl, .int e.1, rfl, by show 2 ≤ sizeLine; decide, fun t2 nt2 => ?_⟩
            obtain ⟨g0, g1, g2, g3, g4⟩ := app_new (w := [.int b0, .int e.1]) (ws := zs ++ [V.ref t2]) ho6 nt2
            refine ⟨o, zs, .ref t2, rfl, rfl, g0, sz' (by omega), ?_⟩
            refine ⟨zs ++ [.ref t2], j0, j1, found ++ [(b0, e.1)], none, _, _, _, _, rfl, g1.same sm6 noB, g1 _ _ noi.symm hins6, g2, snoc_dt dz6 g4 g3, by rw [List.length_append, List.length_singleton]; omega, inv⟩
  · rintro σ' H' ⟨zs, i0, i1, found, bg, y7, y8, y9, y10, rfl, sm, hins', ho', dz, lz, inv⟩
    rw [List.drop_eq_nil_of_le (by omega), mrun_nil] at inv
    subst inv
    refine ⟨.ref o, rfl, o, zs, rfl, .inl ⟨SqL.of ho', fun t2 nt2 => ?_⟩⟩
    exact q _ _ ((smE.trans sm).trans (same_new nt2)) (.tup upd_same (dz.keep (keep_new nt2)))
end
end Mw

-- W8
namespace Mw
open PySem PySem.Spec PyProof.Rows L2 MkR Mk
structure IsMix (kb : Bool → Bool → Bool) (one other r : Rg) : Prop where
  ok : ROK r
  mem : ∀ x y, inRb r x y = kb (inRb one x y) (inRb other x y)
  crs : ∀ PX PY : Int → Prop, Crs one PX PY → Crs other PX PY → Crs r PX PY
theorem Crs.mono {r : Rg} {PX PY PX' PY' : Int → Prop} (h : Crs r PX PY) (hx : ∀ x, PX x → PX' x) (hy : ∀ y, PY y → PY' y) : Crs r PX' PY' := fun b hb => by
  obtain ⟨h1, h2, h3⟩ := h b hb
  exact ⟨hy _ h1, hy _ h2, fun s hs => ⟨hx _ (h3 s hs).1, hx _ (h3 s hs).2⟩⟩
theorem IsMix.sz {kb : Bool → Bool → Bool} {one other r : Rg} (h : IsMix kb one other r) {n m : Nat} (h1 : SzR n one) (h2 : SzR m other) : SzR (n + m) r := by
  obtain ⟨X1, Y1, a1, b1, c1⟩ := h1
  obtain ⟨X2, Y2, a2, b2, c2⟩ := h2
  refine ⟨X1 ++ X2, Y1 ++ Y2, by rw [List.length_append]; omega, by rw [List.length_append]; omega, h.crs _ _ (Crs.mono c1 (fun x h => List.mem_append_left _ h) fun x h => List.mem_append_left _ h) (Crs.mono c2 (fun x h => List.mem_append_right _ h) fun x h => List.mem_append_right _ h)⟩
theorem band_next {r : Rg} (h : ROK r) {i j : Nat} {a b : Bd} (ha : r[i]? = some a) (hb : r[j]? = some b) (lt : i < j) : a.2.1 ≤ b.1 := by
  obtain ⟨l1, e1⟩ := List.getElem?_eq_some_iff.mp ha
  obtain ⟨l2, e2⟩ := List.getElem?_eq_some_iff.mp hb
  have := (List.pairwise_iff_getElem.mp h.gap i j l1 l2 lt).1
  rw [e1, e2] at this
  exact this
theorem ends_mem {r : Rg} (k : Int) : k ∈ ((r.map fun b : Bd => b.1) ++ (r.map fun b : Bd => b.2.1)) ↔ ∃ b ∈ r, k = b.1 ∨ k = b.2.1 := by
  rw [List.mem_append, List.mem_map, List.mem_map]
  constructor
  · rintro (⟨b, hb, rfl⟩ | ⟨b, hb, rfl⟩)
    · exact ⟨b, hb, .inl rfl⟩
    · exact ⟨b, hb, .inr rfl⟩
  · rintro ⟨b, hb, rfl | rfl⟩
    · exact .inl ⟨b, hb, rfl⟩
    · exact .inr ⟨b, hb, rfl⟩
section
variable {P : Program} {w : World} {K : PySem.W.Frag} {mg : Str → Option Value} {base : Heap}
abbrev s_lines_at : Stmt := topS 18
abbrev N_lines_at : List Str := ["some", "cuts", "found", "at", "low"]
theorem sc_lines_at : FnScope N_lines_at ["some", "cuts"] (C8.fnScope s_lines_at) := C8.fnScope_by (by decide +kernel)
def sp_lines_at : Sp := fun vs H Q _ => ∃ (v : V) (c : Addr) (r : Rg) (cuts : List Int), vs = [v, .ref c] ∧ Dt H v (dR r) ∧ ROK r ∧ H c = some (.lst (cuts.map V.int)) ∧ cuts.Pairwise (· < ·) ∧ cuts.length ≤ 400000 ∧ r.length ≤ 400000 ∧
  ∀ (p : Addr) (H' : Hp) (xs : List V), L2.Same H H' → H p = none → H' p = some (.lst xs) → DtAll H' xs ((cuts.dropLast.map (row r)).map dL) → Q (.ref p) H'
theorem cal_lines_at (T : Txt mg) (D : Here K mg "lines_at" s_lines_at ["some", "cuts"]) : C8.Cal P w K mg base 1 "lines_at" sp_lines_at [] := by
  refine D.cal sc_lines_at (fun vs H Q E h => ?_) fun f cdv A outer s H vs Q E hr h => ?_
  · obtain ⟨v, c, r, t, rfl, _⟩ := h
    rfl
  obtain ⟨v, c, r, cuts, rfl, hv, ok, hc, hpw, lc, lr, q⟩ := h
  have sc := sc_lines_at
  refine ⟨_, (pss_cons (ps_set (i := 2) sc.nd rfl (Or.inl rfl) (pe_lst pa_nil))
      (pss_cons (ps_set (i := 3) sc.nd rfl (Or.inl rfl) pe_int)
      (pss_cons (ps_for PassesOwn.never rfl (pi_list (pe_slice sl_list (pv 1) po_none (po_some (pe_un un_neg pe_int)))) (pg_name (i := 4) sc.nd rfl (Or.inl rfl)) (C8.pss_cut (ps_while PassesOwn.never (PW.pt (pw_and (pt_cmpR op_lt (pv 3) (pe_callB call_len_seq (by rfl) T.len (by decide +kernel) (pa_cons (pv 0) pa_nil)) (nomark _)) (pw_and1 (pt_cmpR op_le (pe_ix (ixT (K := K) rfl) (pe_ix (ixT (K := K) rfl) (pv 0) (pv 3) (fun _ _ => rfl)) pe_int (fun _ _ => rfl)) (pv 4) (nomark _))))) (pss_one (ps_aug (i := 3) sc.nd rfl (Or.inl rfl) pe_int ip_add)))
      (pss_one (ps_expr (pe_bm PySem.F.plainAttrs_list PySem.F.slot_list_append PySem.F.type_list_append mt_append (pv 2) (pa_cons (pe_ifExp (PW.pt (pw_and (pt_cmpR op_lt (pv 3) (pe_callB call_len_seq (by rfl) T.len (by decide +kernel) (pa_cons (pv 0) pa_nil)) (nomark _)) (pw_and1 (pt_cmpR op_le (pe_ix (ixT (K := K) rfl) (pe_ix (ixT (K := K) rfl) (pv 0) (pv 3) (fun _ _ => rfl)) pe_int (fun _ _ => rfl)) (pv 4) (nomark _))))) (pe_ix (ixT (K := K) rfl) (pe_ix (ixT (K := K) rfl) (pv 0) (pv 3) (fun _ _ => rfl)) pe_int (fun _ _ => rfl)) (pe_tup pa_nil)) pa_nil))))))
      (pss_one (ps_ret (pv 2)))))), ?_⟩
  obtain ⟨pr, ys, rfl, hpr, dy⟩ := dt_R hv
  have ly : ys.length = r.length := by rw [DtAll.len dy, List.length_map]
  refine ⟨Nat.zero_le _, fun o no => ?_⟩
  have sm1 := same_new (o := .lst []) no
  refine ⟨.ref c, rfl, 1, rfl, _, rfl, c, _, rfl, SqL.of (sm1 _ _ hc), fun cd ncd => ?_⟩
  rw [cut_m1, ← List.map_dropLast]
  have sm2 := sm1.trans (same_new (o := .lst (cuts.dropLast.map V.int)) ncd)
  have hcd : (upd (upd H o (.lst [])) cd (.lst (cuts.dropLast.map V.int))) cd = some (.lst (cuts.dropLast.map V.int)) := upd_same
  have ho : (upd (upd H o (.lst [])) cd (.lst (cuts.dropLast.map V.int))) o = some (.lst []) := same_new ncd _ _ upd_same
  have ncdo : cd ≠ o := (fresh_ne ncd).1
  generalize upd (upd H o (.lst [])) cd (.lst (cuts.dropLast.map V.int)) = H1 at *
  have hpr1 := sm2 _ _ hpr
  have dy1 := dy.keep (keepS sm2)
  have npo : pr ≠ o := ne_of_none hpr no
  refine ⟨cd, rfl, ⟨_, SqL.of hcd⟩, for_list (K := K) (a := cd) (xs := cuts.dropLast.map V.int) (fun i σ' H' => ∃ (zs : List V) (t : Nat) (y4 : Option V), σ' = [some (.ref pr), some (.ref c), some (.ref o), some (.int ((t : Nat) : Int)), y4] ∧ Fr o H1 H' ∧
    H' o = some (.lst zs) ∧ DtAll H' zs (((cuts.dropLast.take i).map (row r)).map dL) ∧ t ≤ r.length ∧ ∀ low, cuts[i]? = some low → ∀ (j : Nat) (b : Bd), r[j]? = some b → j < t → b.2.1 ≤ low) ?_ ?_ ?_ ?_⟩
  · exact ⟨[], 0, none, rfl, Fr.refl, ho, .nil, Nat.zero_le _, fun low _ j b _ h => absurd h (Nat.not_lt_zero _)⟩
  · rintro i σ' H' _ ⟨zs, t, y4, rfl, fr, _⟩
    exact SqL.of (fr.l ncdo hcd)
  · rintro i x σ' H' hi ⟨zs, t, y4, rfl, fr, ho', dz, lt, inv⟩
    obtain ⟨low, hlow, rfl⟩ := ints_get hi
    have hlow' := dropLast_get hlow
    have inv1 := inv low hlow'
    have lti := (List.getElem?_eq_some_iff.mp hlow').1
    have hpr' := fr pr _ npo hpr1
    have dy' := dy1.keep (fr.keep ho)
    have lz : zs.length = i := by
      rw [DtAll.len dz, List.length_map, List.length_map, List.length_take]
      have := (List.getElem?_eq_some_iff.mp hlow).1
      omega
    refine ⟨fun σ'' H'' => ∃ t : Nat, σ'' = [some (.ref pr), some (.ref c), some (.ref o), some (.int ((t : Nat) : Int)), some (.int low)] ∧ H'' = H' ∧ t ≤ r.length ∧ (∀ (j : Nat) (b : Bd), r[j]? = some b → j < t → b.2.1 ≤ low) ∧ ∀ b, r[t]? = some b → low < b.2.1,
      ⟨fun m σ'' H'' => ∃ t : Nat, m = r.length - t ∧ σ'' = [some (.ref pr), some (.ref c), some (.ref o), some (.int ((t : Nat) : Int)), some (.int low)] ∧ H'' = H' ∧ t ≤ r.length ∧ ∀ (j : Nat) (b : Bd), r[j]? = some b → j < t → b.2.1 ≤ low, ⟨_, t, rfl, rfl, rfl, lt, inv1⟩, ?_⟩, ?_⟩
    · clear inv1 inv lt
      rintro m σ'' H'' ⟨t, rfl, rfl, rfl, lt, inv1⟩
      refine ⟨.int t, rfl, .ref pr, rfl, pr, ys, rfl, .inr (SqT.of hpr'), _, _, rfl, rfl, ?_⟩
      by_cases c1 : t < r.length
      · refine ⟨true, bt (by rw [ly]; exact Int.ofNat_lt.mpr c1), iteT ?_⟩
        have hb : r[t]? = some (r[t]'c1) := List.getElem?_eq_getElem c1
        generalize r[t]'c1 = b at hb
        obtain ⟨vb, hvb, db⟩ := DtAll.of dy' hb
        obtain ⟨pb, wb, rfl, hpb, dwb⟩ := dt_B db
        refine ⟨.ref pr, rfl, .int t, rfl, pr, ys, (t : Int), .ref pb, rfl, rfl, SqT.of hpr', atI_nat hvb, pb, _, 1, .int b.2.1, rfl, rfl, SqT.of hpb, at_1, .int low, rfl, _, _, rfl, rfl, ?_⟩
        by_cases c2 : b.2.1 ≤ low
        · refine ⟨true, bt c2, iteT ?_⟩
          refine ⟨fun σ3 H3 => ∃ t' : Nat, t' = t + 1 ∧ σ3 = [some (.ref pr), some (.ref c), some (.ref o), some (.int ((t' : Nat) : Int)), some (.int low)] ∧ H3 = H'', ?_, ?_⟩
          · rintro σ3 H3 ⟨t', rfl, rfl, rfl⟩
            refine ⟨r.length - (t + 1), by omega, t + 1, rfl, rfl, rfl, c1, fun j b' hj lj => ?_⟩
            rcases Nat.lt_or_ge j t with k | k
            · exact inv1 j b' hj k
            · have : j = t := by omega
              subst this
              rw [hb] at hj
              cases hj
              exact c2
          · exact ⟨.int t, rfl, _, _, rfl, rfl, t + 1, rfl, rfl, rfl⟩
        · refine ⟨false, bf c2, iteF ?_⟩
          exact ⟨t, rfl, rfl, lt, inv1, fun b' hb' => by
            rw [hb] at hb'
            cases hb'
            omega⟩
      · refine ⟨false, bf (by rw [ly]; omega), iteF (iteF ?_)⟩
        exact ⟨t, rfl, rfl, lt, inv1, fun b' hb' => absurd (List.getElem?_eq_some_iff.mp hb').1 c1⟩
    · clear inv1 inv lt
      rintro σ'' H'' ⟨t, rfl, rfl, lt, dn, up⟩
      have hrow := row_at ok lt dn up
      have fin : ∀ (v : V) (H3 : Hp), L2.Same H'' H3 → Dt H3 v (dL (row r low)) → ∃ xs : List V, H3 o = some (.lst xs) ∧ xs.length < sizeLine ∧ ∃ (zs : List V) (t' : Nat) (y4 : Option V), [some (V.ref pr), some (.ref c), some (.ref o), some (.int ((t : Nat) : Int)), some (.int low)] = [some (.ref pr), some (.ref c), some (.ref o), some (.int ((t' : Nat) : Int)), y4] ∧ Fr o H1 (upd H3 o (.lst (xs ++ [v]))) ∧
          (upd H3 o (.lst (xs ++ [v]))) o = some (.lst zs) ∧ DtAll (upd H3 o (.lst (xs ++ [v]))) zs (((cuts.dropLast.take (i + 1)).map (row r)).map dL) ∧ t' ≤ r.length ∧ ∀ low, cuts[i + 1]? = some low → ∀ (j : Nat) (b : Bd), r[j]? = some b → j < t' → b.2.1 ≤ low := fun v H3 sm3 dv => by
        have ho3 := sm3 _ _ ho'
        refine ⟨zs, ho3, sz' (by omega), zs ++ [v], t, _, rfl, (fr.trans (.of sm3)).trans .put, upd_same, ?_, lt, fun low2 h2 j b hj lj => ?_⟩
        · rw [take_succ_map hlow, List.map_append]
          exact DtAll.app (dz.keep (keep_trans (keepS sm3) (keep_lst ho3))) (DtAll.one (dv.keep (keep_lst ho3)))
        · have := dn j b hj lj
          have k := List.pairwise_iff_getElem.mp hpw i (i + 1) lti (List.getElem?_eq_some_iff.mp h2).1 (by omega)
          rw [(List.getElem?_eq_some_iff.mp hlow').2, (List.getElem?_eq_some_iff.mp h2).2] at k
          omega
      refine ⟨.ref o, rfl, .inl ⟨rfl, _, SqL.of ho'⟩, ?_⟩
      refine ⟨.int t, rfl, .ref pr, rfl, pr, ys, rfl, .inr (SqT.of hpr'), _, _, rfl, rfl, ?_⟩
      by_cases c1 : t < r.length
      · refine ⟨true, bt (by rw [ly]; exact Int.ofNat_lt.mpr c1), iteT ?_⟩
        have hb : r[t]? = some (r[t]'c1) := List.getElem?_eq_getElem c1
        generalize r[t]'c1 = b at hb
        obtain ⟨vb, hvb, db⟩ := DtAll.of dy' hb
        obtain ⟨pb, wb, rfl, hpb, dwb⟩ := dt_B db
        rw [hb] at hrow
        refine ⟨.ref pr, rfl, .int t, rfl, pr, ys, (t : Int), .ref pb, rfl, rfl, SqT.of hpr', atI_nat hvb, pb, _, 0, .int b.1, rfl, rfl, SqT.of hpb, at_0, .int low, rfl, _, _, rfl, rfl, ?_⟩
        by_cases c2 : b.1 ≤ low
        · refine ⟨true, bt c2, iteT ?_⟩
          have e : row r low = b.2.2 := by rw [hrow]; exact if_pos c2
          obtain ⟨xs, k1, k2, k3⟩ := fin wb H'' (.refl _) (by rw [e]; exact dwb)
          exact ⟨.ref pr, rfl, .int t, rfl, pr, ys, (t : Int), .ref pb, rfl, rfl, SqT.of hpr', atI_nat hvb, pb, _, 2, wb, rfl, rfl, SqT.of hpb, at_2, o, xs, wb, rfl, rfl, k1, k2, k3⟩
        · refine ⟨false, bf c2, iteF ?_⟩
          have e : row r low = [] := by rw [hrow]; exact if_neg c2
          refine ⟨Nat.zero_le _, fun t2 nt2 => ?_⟩
          obtain ⟨xs, k1, k2, k3⟩ := fin (.ref t2) _ (same_new nt2) (by rw [e]; exact .tup upd_same .nil)
          exact ⟨o, xs, .ref t2, rfl, rfl, k1, k2, k3⟩
      · refine ⟨false, bf (by rw [ly]; omega), iteF (iteF ?_)⟩
        rw [List.getElem?_eq_none (by omega)] at hrow
        have e : row r low = [] := hrow
        refine ⟨Nat.zero_le _, fun t2 nt2 => ?_⟩
        obtain ⟨xs, k1, k2, k3⟩ := fin (.ref t2) _ (same_new nt2) (by rw [e]; exact .tup upd_same .nil)
        exact ⟨o, xs, .ref t2, rfl, rfl, k1, k2, k3⟩
  · rintro σ' H' ⟨zs, t, y4, rfl, fr, ho', dz, _⟩
    rw [List.length_map, List.take_length] at dz
    exact ⟨.ref o, rfl, q o H' zs (fr.same sm2 no) no ho' dz⟩
abbrev s_mixed : Stmt := topS 20
abbrev N_mixed : List Str := ["one", "other", "keep", "cuts", "lines", "left", "right"]
theorem sc_mixed : FnScope N_mixed ["one", "other", "keep"] (C8.fnScope s_mixed) := C8.fnScope_by (by decide +kernel)
def sp_mixed (P : Program) (w : World) (K : PySem.W.Frag) (mg : Str → Option Value) (base : Heap) : Sp := fun vs H Q _ => ∃ (u v : V) (f : Addr) (one other : Rg) (kb : Bool → Bool → Bool), vs = [u, v, .ref f] ∧ C8.CalAt P w K mg base 1 f (sp_keep kb) ∧ kb false false = false ∧
  Dt H u (dR one) ∧ Dt H v (dR other) ∧ ROK one ∧ ROK other ∧ SzR 600 one ∧ SzR 600 other ∧ ∀ (x : V) (H' : Hp) (r : Rg), L2.Same H H' → IsMix kb one other r → Dt H' x (dR r) → Q x H'
theorem cal_mixed (T : Txt mg) (c_ends_of : C8.Cal P w K mg base 1 "ends_of" sp_ends_of []) (c_lines_at : C8.Cal P w K mg base 1 "lines_at" sp_lines_at []) (c_mixed_line : C8.Cal P w K mg base 2 "mixed_line" (sp_mixed_line P w K mg base) []) (c_banded : C8.Cal P w K mg base 1 "banded" (sp_banded K) [])
    (D : Here K mg "mixed" s_mixed ["one", "other", "keep"]) : C8.Cal P w K mg base 3 "mixed" (sp_mixed P w K mg base) [] := by
  refine D.cal sc_mixed (fun vs H Q E h => ?_) fun f cdv A outer s H vs Q E hr h => ?_
  · obtain ⟨u, v, f, one, other, kb, rfl, _⟩ := h
    rfl
  obtain ⟨u, v, f, one, other, kb, rfl, ca, k0, hu, hv, ok1, ok2, z1, z2, q⟩ := h
  have sc := sc_mixed
  refine ⟨_, (pss_cons (ps_set (i := 3) sc.nd rfl (Or.inl rfl) (pe_callB (sortedSetDK (w := w) rfl rfl) (by rfl) T.sorted (by decide +kernel) (pa_cons (pe_callTy (setDK (K := K) (w := w) rfl rfl rfl) (by rfl) T.set (by decide +kernel) (pa_cons (pe_op op_cat (C8.pe_c c_ends_of hr (by decide) (by rfl) (pa_cons (pv 0) pa_nil)) (C8.pe_c c_ends_of hr (by decide) (by rfl) (pa_cons (pv 1) pa_nil))) pa_nil)) pa_nil)))
      (pss_cons (ps_set (i := 4) sc.nd rfl (Or.inl rfl) (pe_lst pa_nil))
      (pss_cons (ps_for PassesOwn.never rfl (pi_zip (by rfl) T.zip (pa_cons (C8.pe_c c_lines_at hr (by decide) (by rfl) (pa_cons (pv 0) (pa_cons (pv 3) pa_nil))) (pa_cons (C8.pe_c c_lines_at hr (by decide) (by rfl) (pa_cons (pv 1) (pa_cons (pv 3) pa_nil))) pa_nil))) (pgT (K := K) (n := 2) rfl rfl (pgs_cons (pg_name (i := 5) sc.nd rfl (Or.inl rfl)) (pgs_cons (pg_name (i := 6) sc.nd rfl (Or.inl rfl)) pgs_nil))) (pss_one (ps_expr (pe_bm PySem.F.plainAttrs_list PySem.F.slot_list_append PySem.F.type_list_append mt_append (pv 4) (pa_cons (C8.pe_c c_mixed_line hr (by decide) (by rfl) (pa_cons (pv 5) (pa_cons (pv 6) (pa_cons (pv 2) pa_nil)))) pa_nil)))))
      (pss_one (ps_ret (C8.pe_c c_banded hr (by decide) (by rfl) (pa_cons (pv 3) (pa_cons (pv 4) pa_nil)))))))), ?_⟩
  obtain ⟨a1, a2, a3⟩ := SzR.sq z1 ok1 (Nat.le_refl _)
  obtain ⟨e1, e2, e3⟩ := SzR.sq z2 ok2 (Nat.le_refl _)
  refine ⟨u, rfl, u, one, rfl, hu, by omega, fun p1 H1 sm1 np1 hp1 => ?_⟩
  refine ⟨v, rfl, v, other, rfl, hv.keep (keepS sm1), by omega, fun p2 H2 sm2 np2 hp2 => ?_⟩
  have m1 : ∀ k, k ∈ ((one.map fun b : Bd => b.1) ++ (one.map fun b : Bd => b.2.1)) ↔ ∃ b ∈ one, k = b.1 ∨ k = b.2.1 := ends_mem
  have m2 : ∀ k, k ∈ ((other.map fun b : Bd => b.1) ++ (other.map fun b : Bd => b.2.1)) ↔ ∃ b ∈ other, k = b.1 ∨ k = b.2.1 := ends_mem
  have q1 : ((one.map fun b : Bd => b.1) ++ (one.map fun b : Bd => b.2.1)).length ≤ 1200 := by rw [List.length_append, List.length_map, List.length_map]; omega
  have q2 : ((other.map fun b : Bd => b.1) ++ (other.map fun b : Bd => b.2.1)).length ≤ 1200 := by rw [List.length_append, List.length_map, List.length_map]; omega
  generalize ((one.map fun b : Bd => b.1) ++ (one.map fun b : Bd => b.2.1)) = ns1 at *
  generalize ((other.map fun b : Bd => b.1) ++ (other.map fun b : Bd => b.2.1)) = ns2 at *
  refine ⟨p1, p2, _, _, rfl, rfl, sm2 _ _ hp1, hp2, by simp only [List.length_map]; exact sz (by omega), fun p3 np3 => ?_⟩
  rw [← List.map_append]
  have sm3 := (sm1.trans sm2).trans (same_new (o := .lst ((ns1 ++ ns2).map V.int)) np3)
  have hp3 : (upd H2 p3 (.lst ((ns1 ++ ns2).map V.int))) p3 = some (.lst ((ns1 ++ ns2).map V.int)) := upd_same
  generalize upd H2 p3 (.lst ((ns1 ++ ns2).map V.int)) = H3 at *
  obtain ⟨X1, Y1, x1, y1, c1⟩ := z1
  obtain ⟨X2, Y2, x2, y2, c2⟩ := z2
  refine ⟨p3, ns1 ++ ns2, Y1 ++ Y2, rfl, SqL.of hp3, fun k hk => ?_, by rw [List.length_append]; omega, fun p4 cc np4 => ?_⟩
  · rcases List.mem_append.mp hk with hk | hk
    · obtain ⟨b, hb, rfl | rfl⟩ := (m1 k).mp hk
      · exact List.mem_append_left _ (c1 b hb).1
      · exact List.mem_append_left _ (c1 b hb).2.1
    · obtain ⟨b, hb, rfl | rfl⟩ := (m2 k).mp hk
      · exact List.mem_append_right _ (c2 b hb).1
      · exact List.mem_append_right _ (c2 b hb).2.1
  have sm4 := sm3.trans (same_new (o := SetO w p4 (fun j => decide (j ∈ ns1 ++ ns2)) cc) np4)
  have hp4 : (upd H3 p4 (SetO w p4 (fun j => decide (j ∈ ns1 ++ ns2)) cc)) p4 = some (SetO w p4 (fun j => decide (j ∈ ns1 ++ ns2)) cc) := upd_same
  generalize upd H3 p4 (SetO w p4 (fun j => decide (j ∈ ns1 ++ ns2)) cc) = H4 at *
  refine ⟨p4, _, cc, rfl, hp4, fun cuts p5 hpw hmem np5 => ?_⟩
  have sm5 := sm4.trans (same_new (o := .lst (cuts.map V.int)) np5)
  have hc : (upd H4 p5 (.lst (cuts.map V.int))) p5 = some (.lst (cuts.map V.int)) := upd_same
  generalize upd H4 p5 (.lst (cuts.map V.int)) = H5 at *
  have mem : ∀ c, c ∈ cuts ↔ ∃ b, (b ∈ one ∨ b ∈ other) ∧ (c = b.1 ∨ c = b.2.1) := fun c => by
    rw [hmem, decide_eq_true_iff, List.mem_append, m1, m2]
    constructor
    · rintro (⟨b, hb, k⟩ | ⟨b, hb, k⟩)
      · exact ⟨b, .inl hb, k⟩
      · exact ⟨b, .inr hb, k⟩
    · rintro ⟨b, hb | hb, k⟩
      · exact .inl ⟨b, hb, k⟩
      · exact .inr ⟨b, hb, k⟩
  have lcut : cuts.length ≤ 1200 := Nat.le_trans (few_lt (D := Y1 ++ Y2) hpw fun k hk => by
    obtain ⟨b, hb | hb, rfl | rfl⟩ := (mem k).mp hk
    · exact List.mem_append_left _ (c1 b hb).1
    · exact List.mem_append_left _ (c1 b hb).2.1
    · exact List.mem_append_right _ (c2 b hb).1
    · exact List.mem_append_right _ (c2 b hb).2.1) (by rw [List.length_append]; omega)
  refine ⟨Nat.zero_le _, fun o no => ?_⟩
  have noH := sm5.free no
  have sm6 := sm5.trans (same_new (o := .lst []) no)
  have hc6 := same_new (o := .lst []) no _ _ hc
  have ho6 : (upd H5 o (.lst [])) o = some (.lst []) := upd_same
  generalize upd H5 o (.lst []) = H6 at *
  have nco : p5 ≠ o := ne_of_none hc no
  refine ⟨u, rfl, .ref p5, rfl, u, p5, one, cuts, rfl, hu.keep (keepS sm6), ok1, hc6, hpw, by omega, by omega, fun pa H7 xa sm7 npa hpa da => ?_⟩
  refine ⟨v, rfl, .ref p5, rfl, v, p5, other, cuts, rfl, hv.keep (keepS (sm6.trans sm7)), ok2, sm7 _ _ hc6, hpw, by omega, by omega, fun pb H8 xb sm8 npb hpb db => ?_⟩
  have hpa8 := sm8 _ _ hpa
  have da8 := da.keep (keepS sm8)
  have ho8 := sm8 _ _ (sm7 _ _ ho6)
  have hc8 := sm8 _ _ (sm7 _ _ hc6)
  have nao : pa ≠ o := (ne_of_none ho6 npa).symm
  have nbo : pb ≠ o := (ne_of_none (sm7 _ _ ho6) npb).symm
  have smH8 := (sm6.trans sm7).trans sm8
  have la : xa.length = cuts.dropLast.length := by rw [DtAll.len da, List.length_map, List.length_map]
  have lb : xb.length = cuts.dropLast.length := by rw [DtAll.len db, List.length_map, List.length_map]
  have ldl : cuts.dropLast.length ≤ 1200 := by rw [List.length_dropLast]; omega
  refine ⟨pa, pb, xa, xb, rfl, SqL.of hpa8, SqL.of hpb, for_z2 (K := K) (a := pa) (b := pb) (xs := xa) (ys := xb) xa.length (Nat.le_refl _) (by omega) (.inl rfl) (fun i σ' H' => ∃ (zs : List V) (y5 y6 : Option V), σ' = [some u, some v, some (.ref f), some (.ref p5), some (.ref o), y5, y6] ∧ Fr o H8 H' ∧
    H' o = some (.lst zs) ∧ DtAll H' zs (((cuts.dropLast.take i).map (fun c => mixL kb (row one c) (row other c))).map dL) ∧ zs.length ≤ i) ?_ ?_ ?_ ?_⟩
  · exact ⟨[], none, none, rfl, Fr.refl, ho8, .nil, Nat.le_refl _⟩
  · rintro i σ' H' ⟨zs, y5, y6, rfl, fr, _⟩
    exact ⟨SqL.of (fr.l nao hpa8), SqL.of (fr.l nbo hpb)⟩
  · rintro i x y t σ' H' hx hy ⟨zs, y5, y6, rfl, fr, ho', dz, lz⟩ nt
    have smt := same_new (o := .tup [x, y]) nt
    have frt := fr.trans (.of smt)
    have hot := smt _ _ ho'
    have dzt := dz.keep (keepS smt)
    have htt : (upd H' t (.tup [x, y])) t = some (.tup [x, y]) := upd_same
    generalize upd H' t (.tup [x, y]) = H9 at *
    have li := (List.getElem?_eq_some_iff.mp hx).1
    have hi : cuts.dropLast[i]? = some (cuts.dropLast[i]'(by omega)) := List.getElem?_eq_getElem (by omega)
    generalize cuts.dropLast[i]'(by omega) = c at hi
    obtain ⟨l1, hl1, dl1⟩ := DtAll.at (da8.keep (frt.keep ho8)) hx
    obtain ⟨l2, hl2, dl2⟩ := DtAll.at (db.keep (frt.keep ho8)) hy
    rw [List.getElem?_map, hi] at hl1 hl2
    cases hl1
    cases hl2
    refine ⟨t, _, rfl, SqT.of htt, rfl, _, _, rfl, _, _, rfl, rfl, ?_⟩
    refine ⟨.ref o, rfl, .inl ⟨rfl, _, SqL.of hot⟩, x, rfl, y, rfl, .ref f, rfl, x, y, f, row one c, row other c, kb, rfl, ca, k0, dl1, dl2, ok1.row_ok c, ok2.row_ok c, ?_, ?_, fun z H10 sm10 dz10 => ?_⟩
    · exact Nat.le_trans (LOK.few (ok1.row_ok c) (Xs := X1) fun s hs => (row_crs c1 c s hs).1) (by omega)
    · exact Nat.le_trans (LOK.few (ok2.row_ok c) (Xs := X2) fun s hs => (row_crs c2 c s hs).1) (by omega)
    have ho10 := sm10 _ _ hot
    refine ⟨o, zs, z, rfl, rfl, ho10, sz' (by omega), ?_⟩
    refine ⟨zs ++ [z], _, _, rfl, (frt.trans (.of sm10)).trans .put, upd_same, ?_, by rw [List.length_append, List.length_singleton]; omega⟩
    rw [take_succ_map hi, List.map_append]
    exact DtAll.app (dzt.keep (keep_trans (keepS sm10) (keep_lst ho10))) (DtAll.one (dz10.keep (keep_lst ho10)))
  · rintro σ' H' ⟨zs, y5, y6, rfl, fr, ho', dz, lz⟩
    rw [la, List.take_length] at dz
    refine ⟨.ref p5, rfl, .ref o, rfl, p5, o, cuts, zs, cuts.dropLast.map (fun c => mixL kb (row one c) (row other c)), rfl, fr.l nco hc8, ho', dz, by omega, fun z H9 sm9 dv => ?_⟩
    obtain ⟨r1, r2, r3⟩ := mixed_ok (cuts := cuts) (f := fun c => mixL kb (row one c) (row other c)) k0 ok1 ok2 hpw mem fun c _ => mixL_ok k0 (ok1.row_ok c) (ok2.row_ok c)
    exact q z H9 _ ((fr.same smH8 noH).trans sm9) ⟨r1, r2, r3⟩ dv
end
end Mw

-- W9
namespace Mw
open PySem PySem.Spec PyProof.Rows L2 MkR Mk
theorem cal_at {P : Program} {w : World} {K : PySem.W.Frag} {mg : Str → Option Value} {base : Heap} {k : Nat} {x : Str} {sp : Sp} (c : C8.Cal P w K mg base k x sp []) : ∃ f, mg x = some (.ref f) ∧ C8.CalAt P w K mg base k f sp := by
  obtain ⟨f, fd, ps, ds, F, hm, kp, b, d⟩ := c.ex
  cases d
  exact ⟨f, hm, fd, ps, F, kp, b⟩
section
variable {P : Program} {w : World} {K : PySem.W.Frag} {mg : Str → Option Value} {base : Heap}
def sp_two (kb : Bool → Bool → Bool) : Sp := fun vs H Q _ => ∃ (u v : V) (one other : Rg), vs = [u, v] ∧ Dt H u (dR one) ∧ Dt H v (dR other) ∧ ROK one ∧ ROK other ∧ SzR 600 one ∧ SzR 600 other ∧
  ∀ (x : V) (H' : Hp) (r : Rg), L2.Same H H' → IsMix kb one other r → Dt H' x (dR r) → Q x H'
abbrev s_both : Stmt := topS 21
abbrev N_both : List Str := ["one", "other"]
theorem sc_both : FnScope N_both ["one", "other"] (C8.fnScope s_both) := C8.fnScope_by (by decide +kernel)
abbrev s_either : Stmt := topS 22
abbrev N_either : List Str := ["one", "other"]
theorem sc_either : FnScope N_either ["one", "other"] (C8.fnScope s_either) := C8.fnScope_by (by decide +kernel)
abbrev s_less : Stmt := topS 23
abbrev N_less : List Str := ["one", "other"]
theorem sc_less : FnScope N_less ["one", "other"] (C8.fnScope s_less) := C8.fnScope_by (by decide +kernel)
theorem cal_both (c_in_both : C8.Cal P w K mg base 1 "in_both" (sp_keep kBoth) []) (c_mixed : C8.Cal P w K mg base 3 "mixed" (sp_mixed P w K mg base) []) (D : Here K mg "both" s_both ["one", "other"]) : C8.Cal P w K mg base 4 "both" (sp_two kBoth) [] := by
  refine D.cal sc_both (fun vs H Q E h => ?_) fun f cdv A outer s H vs Q E hr h => ?_
  · obtain ⟨u, v, a, b, rfl, _⟩ := h
    rfl
  obtain ⟨u, v, a, b, rfl, hu, hv, o1, o2, z1, z2, q⟩ := h
  have sc := sc_both
  obtain ⟨fk, m_in_both, ck⟩ := cal_at c_in_both
  refine ⟨_, (pss_one (ps_ret (C8.pe_c c_mixed hr (by decide) (by rfl) (pa_cons (pv 0) (pa_cons (pv 1) (pa_cons (pe_glob (v := .ref fk) rfl m_in_both rfl) pa_nil)))))), ?_⟩
  exact ⟨u, rfl, v, rfl, u, v, fk, a, b, kBoth, rfl, ck, rfl, hu, hv, o1, o2, z1, z2, q⟩
theorem cal_either (c_in_either : C8.Cal P w K mg base 1 "in_either" (sp_keep kEither) []) (c_mixed : C8.Cal P w K mg base 3 "mixed" (sp_mixed P w K mg base) []) (D : Here K mg "either" s_either ["one", "other"]) : C8.Cal P w K mg base 4 "either" (sp_two kEither) [] := by
  refine D.cal sc_either (fun vs H Q E h => ?_) fun f cdv A outer s H vs Q E hr h => ?_
  · obtain ⟨u, v, a, b, rfl, _⟩ := h
    rfl
  obtain ⟨u, v, a, b, rfl, hu, hv, o1, o2, z1, z2, q⟩ := h
  have sc := sc_either
  obtain ⟨fk, m_in_either, ck⟩ := cal_at c_in_either
  refine ⟨_, (pss_one (ps_ret (C8.pe_c c_mixed hr (by decide) (by rfl) (pa_cons (pv 0) (pa_cons (pv 1) (pa_cons (pe_glob (v := .ref fk) rfl m_in_either rfl) pa_nil)))))), ?_⟩
  exact ⟨u, rfl, v, rfl, u, v, fk, a, b, kEither, rfl, ck, rfl, hu, hv, o1, o2, z1, z2, q⟩
theorem cal_less (c_in_first : C8.Cal P w K mg base 1 "in_first" (sp_keep kFirst) []) (c_mixed : C8.Cal P w K mg base 3 "mixed" (sp_mixed P w K mg base) []) (D : Here K mg "less" s_less ["one", "other"]) : C8.Cal P w K mg base 4 "less" (sp_two kFirst) [] := by
  refine D.cal sc_less (fun vs H Q E h => ?_) fun f cdv A outer s H vs Q E hr h => ?_
  · obtain ⟨u, v, a, b, rfl, _⟩ := h
    rfl
  obtain ⟨u, v, a, b, rfl, hu, hv, o1, o2, z1, z2, q⟩ := h
  have sc := sc_less
  obtain ⟨fk, m_in_first, ck⟩ := cal_at c_in_first
  refine ⟨_, (pss_one (ps_ret (C8.pe_c c_mixed hr (by decide) (by rfl) (pa_cons (pv 0) (pa_cons (pv 1) (pa_cons (pe_glob (v := .ref fk) rfl m_in_first rfl) pa_nil)))))), ?_⟩
  exact ⟨u, rfl, v, rfl, u, v, fk, a, b, kFirst, rfl, ck, rfl, hu, hv, o1, o2, z1, z2, q⟩
abbrev s_area : Stmt := topS 25
abbrev N_area : List Str := ["some", "low", "high", "line"]
theorem sc_area : FnScope N_area ["some"] (C8.fnScope s_area) := C8.fnScope_by (by decide +kernel)
def YB (r : Rg) : Prop := ∀ b ∈ r, -1000000000000 ≤ b.1 ∧ b.2.1 ≤ 1000000000000
def sp_area : Sp := fun vs H Q _ => ∃ (v : V) (r : Rg), vs = [v] ∧ Dt H v (dR r) ∧ ROK r ∧ SzR 600 r ∧ YB r ∧ ∀ (H' : Hp), L2.Same H H' → Q (.int (areaM r)) H'
theorem cal_area (T : Txt mg) (c_long : C8.Cal P w K mg base 1 "long" sp_long []) (D : Here K mg "area" s_area ["some"]) : C8.Cal P w K mg base 2 "area" sp_area [] := by
  refine D.cal sc_area (fun vs H Q E h => ?_) fun f cdv A outer s H vs Q E hr h => ?_
  · obtain ⟨v, r, rfl, _⟩ := h
    rfl
  obtain ⟨v, r, rfl, hv, ok, hz, yb, q⟩ := h
  have sc := sc_area
  refine ⟨_, (pss_one (ps_ret (pe_callB (cr_sum rfl) (by rfl) T.sum (by decide +kernel) (pa_cons (pe_lc rfl sc.nd (pi_tup (pv 0)) (blkOk_by (own := [("low", 1), ("high", 2), ("line", 3)]) (N := N_area) (sc := C8.fnScope s_area) (by decide +kernel)) (fun _ _ _ _ _ => (pgT (K := K) (n := 3) rfl rfl (pgs_cons (pg_name (i := 1) sc.nd rfl (Or.inl rfl)) (pgs_cons (pg_name (i := 2) sc.nd rfl (Or.inl rfl)) (pgs_cons (pg_name (i := 3) sc.nd rfl (Or.inl rfl)) pgs_nil))))) (fun _ _ _ _ _ => pts_nil) (fun _ _ _ _ _ => (pe_op op_mul (pe_op op_sub (pv 2) (pv 1)) (C8.pe_c c_long hr (by decide) (by rfl) (pa_cons (pv 3) pa_nil))))) pa_nil)))), ?_⟩
  obtain ⟨pr, ys, rfl, hpr, dy⟩ := dt_R hv
  obtain ⟨a1, a2, a3⟩ := SzR.sq hz ok (Nat.le_refl _)
  refine ⟨.ref pr, rfl, pr, rfl, ⟨ys, SqT.of hpr⟩, lcD_tup (p := allT) (f := fun b : Bd => (b.2.1 - b.1) * Mk.long b.2.2) (encB := PyData.int) hpr dy (by omega) (fun i x b H' R N hi hd sm ky kn => ?_) fun p1 H1 ys1 sm1 np1 hp1 d1 => ?_⟩
  · obtain ⟨p, wl, rfl, hp, dl⟩ := dt_B hd
    have hb := List.mem_of_getElem? hi
    obtain ⟨y1, y2⟩ := yb b hb
    have y3 := ok.pos b hb
    refine ⟨p, _, rfl, SqT.of hp, rfl, _, _, rfl, _, _, rfl, _, _, rfl, rfl, rfl, yes ?_⟩
    refine ⟨.int b.2.1, rfl, .int b.1, rfl, _, _, rfl, rfl, wl, rfl, wl, b.2.2, rfl, dl, Nat.le_trans (a2 b hb) (by decide), fun H'' sm' => ⟨_, _, rfl, rfl, .inl ⟨by omega, by omega⟩, ky rfl _ _ sm' (.int _)⟩⟩
  rw [filter_all] at d1
  have e1 := ints_of_dt d1
  subst e1
  exact ⟨p1, _, rfl, SqL.of hp1, q _ sm1⟩
abbrev s_outside : Stmt := topS 29
abbrev N_outside : List Str := ["some", "k", "rects", "left", "right", "box", "rect"]
theorem sc_outside : FnScope N_outside ["some", "k"] (C8.fnScope s_outside) := C8.fnScope_by (by decide +kernel)
structure IsOut (k : Int) (r r' : Rg) : Prop where
  ok : ROK r'
  ex : ∃ B : Pl, (∀ x y, inR r' x y ↔ B x y ∧ ¬ inR r x y) ∧ ∀ x y u v, inR r x y → near k x y u v → B u v
  sz : ∀ n, SzR n r → SzR (2 + n) r'
theorem mix_first {one other r : Rg} (h : IsMix kFirst one other r) (o1 : ROK one) (o2 : ROK other) (x y : Int) : inR r x y ↔ inR one x y ∧ ¬ inR other x y := by
  rw [← h.ok.inRb_iff, h.mem, ← o1.inRb_iff, ← o2.inRb_iff]
  unfold kFirst
  cases inRb one x y <;> cases inRb other x y <;> simp
theorem sz_one (q : Rc) : SzQ 2 [q] := ⟨[q.1, q.2.2.1], [q.2.1, q.2.2.2], Nat.le_refl _, Nat.le_refl _, fun p hp => by
  rw [List.mem_singleton.mp hp]
  simp⟩
theorem min_of {l : List Int} (h : l ≠ []) : ∃ m ∈ l, ∀ y ∈ l, m ≤ y := by
  induction l with
  | nil => exact (h rfl).elim
  | cons a l ih =>
    by_cases e : l = []
    · subst e
      exact ⟨a, List.mem_cons_self, fun y hy => by rw [List.mem_singleton.mp hy]; exact Int.le_refl _⟩
    · obtain ⟨m, hm, k⟩ := ih e
      by_cases c : a ≤ m
      · refine ⟨a, List.mem_cons_self, fun y hy => ?_⟩
        rcases List.mem_cons.mp hy with rfl | hy
        · exact Int.le_refl _
        · exact Int.le_trans c (k y hy)
      · refine ⟨m, List.mem_cons_of_mem _ hm, fun y hy => ?_⟩
        rcases List.mem_cons.mp hy with rfl | hy
        · omega
        · exact k y hy
def sp_outside : Sp := fun vs H Q _ => ∃ (v : V) (r : Rg) (k : Int), vs = [v, .int k] ∧ Dt H v (dR r) ∧ ROK r ∧ SzR 600 r ∧ 0 ≤ k ∧ r ≠ [] ∧ ∀ (x : V) (H' : Hp) (r' : Rg), L2.Same H H' → IsOut k r r' → Dt H' x (dR r') → Q x H'
theorem cal_outside (T : Txt mg) (c_rects_of : C8.Cal P w K mg base 1 "rects_of" sp_rects_of []) (c_region : C8.Cal P w K mg base 2 "region" sp_region []) (c_less : C8.Cal P w K mg base 4 "less" (sp_two kFirst) []) (D : Here K mg "outside" s_outside ["some", "k"]) : C8.Cal P w K mg base 5 "outside" sp_outside [] := by
  refine D.cal sc_outside (fun vs H Q E h => ?_) fun f cdv A outer s H vs Q E hr h => ?_
  · obtain ⟨v, r, k, rfl, _⟩ := h
    rfl
  obtain ⟨v, r, k, rfl, hv, ok, hz, hk, ne, q⟩ := h
  have sc := sc_outside
  refine ⟨_, (pss_cons (ps_set (i := 2) sc.nd rfl (Or.inl rfl) (C8.pe_c c_rects_of hr (by decide) (by rfl) (pa_cons (pv 0) pa_nil)))
      (pss_cons (ps_set (i := 3) sc.nd rfl (Or.inl rfl) (pe_op op_sub (pe_op op_sub (pe_callB (cr_min rfl) (by rfl) T.min (by decide +kernel) (pa_cons (pe_lc rfl sc.nd (pi_list (pv 2)) (blkOk_by (own := [("rect", 6)]) (N := N_outside) (sc := C8.fnScope s_outside) (by decide +kernel)) (fun _ _ _ _ _ => (pg_name (i := 6) sc.nd rfl (Or.inl rfl))) (fun _ _ _ _ _ => pts_nil) (fun _ _ _ _ _ => (pe_ix (ixT (K := K) rfl) (pv 6) pe_int (fun _ _ => rfl)))) pa_nil)) (pv 1)) pe_int))
      (pss_cons (ps_set (i := 4) sc.nd rfl (Or.inl rfl) (pe_op op_add (pe_op op_add (pe_callB (cr_max rfl) (by rfl) T.max (by decide +kernel) (pa_cons (pe_lc rfl sc.nd (pi_list (pv 2)) (blkOk_by (own := [("rect", 6)]) (N := N_outside) (sc := C8.fnScope s_outside) (by decide +kernel)) (fun _ _ _ _ _ => (pg_name (i := 6) sc.nd rfl (Or.inl rfl))) (fun _ _ _ _ _ => pts_nil) (fun _ _ _ _ _ => (pe_ix (ixT (K := K) rfl) (pv 6) pe_int (fun _ _ => rfl)))) pa_nil)) (pv 1)) pe_int))
      (pss_cons (ps_set (i := 5) sc.nd rfl (Or.inl rfl) (C8.pe_c c_region hr (by decide) (by rfl) (pa_cons (pe_lst (pa_cons (pe_tup (pa_cons (pv 3) (pa_cons (pe_op op_sub (pe_op op_sub (pe_ix (ixT (K := K) rfl) (pe_ix (ixT (K := K) rfl) (pv 0) pe_int (fun _ _ => rfl)) pe_int (fun _ _ => rfl)) (pv 1)) pe_int) (pa_cons (pv 4) (pa_cons (pe_op op_add (pe_op op_add (pe_ix (ixT (K := K) rfl) (pe_ix (ixT (K := K) rfl) (pv 0) (pe_un un_neg pe_int) (fun _ _ => rfl)) pe_int (fun _ _ => rfl)) (pv 1)) pe_int) pa_nil))))) pa_nil)) pa_nil)))
      (pss_one (ps_ret (C8.pe_c c_less hr (by decide) (by rfl) (pa_cons (pv 5) (pa_cons (pv 0) pa_nil))))))))), ?_⟩
  obtain ⟨l1, l2, l3⟩ := SzR.sq hz ok (Nat.le_refl _)
  have nr : rectsM r ≠ [] := fun e => by
    cases r with
    | nil => exact ne rfl
    | cons b t =>
      have h1 := ok.full b List.mem_cons_self
      rw [rectsM_cons] at e
      have h2 := (List.append_eq_nil_iff.mp e).1
      unfold rectsB at h2
      exact h1 (List.map_eq_nil_iff.mp h2)
  refine ⟨v, rfl, v, r, rfl, hv, by omega, by omega, fun b hb => by have := l2 b hb; omega, fun p H1 xs sm1 np hp dx1 => ?_⟩
  refine ⟨.ref p, rfl, p, rfl, ⟨xs, SqL.of hp⟩, lcD_list (p := allT) (f := fun q : Rc => q.1) (encB := PyData.int) hp dx1 (by omega) (fun i x s H' R N hi hd sm ky kn => ?_) fun p2 H2 ys2 sm2 np2 hp2 d2 => ?_⟩
  · obtain ⟨po, rfl, hpo⟩ := dt_Q hd
    exact ⟨rfl, yes ⟨.ref po, rfl, po, _, 0, .int s.1, rfl, rfl, SqT.of hpo, at_0, ky rfl _ _ (.refl _) (.int _)⟩⟩
  rw [filter_all] at d2
  have e2 := ints_of_dt d2
  subst e2
  refine ⟨p2, _, rfl, SqL.of hp2, by rw [List.length_map]; exact List.length_pos_iff.mpr nr, fun lm hlm lmin => ?_⟩
  refine ⟨.int k, rfl, _, _, rfl, rfl, _, _, rfl, rfl, ?_⟩
  have hp2' := sm2 _ _ hp
  have dx2 := dx1.keep (keepS sm2)
  refine ⟨.ref p, rfl, p, rfl, ⟨xs, SqL.of hp2'⟩, lcD_list (p := allT) (f := fun q : Rc => q.2.2.1) (encB := PyData.int) hp2' dx2 (by omega) (fun i x s H' R N hi hd sm ky kn => ?_) fun p3 H3 ys3 sm3 np3 hp3 d3 => ?_⟩
  · obtain ⟨po, rfl, hpo⟩ := dt_Q hd
    exact ⟨rfl, yes ⟨.ref po, rfl, po, _, 2, .int s.2.2.1, rfl, rfl, SqT.of hpo, at_2, ky rfl _ _ (.refl _) (.int _)⟩⟩
  rw [filter_all] at d3
  have e3 := ints_of_dt d3
  subst e3
  refine ⟨p3, _, rfl, SqL.of hp3, by rw [List.length_map]; exact List.length_pos_iff.mpr nr, fun rm hrm rmax => ?_⟩
  refine ⟨.int k, rfl, _, _, rfl, rfl, _, _, rfl, rfl, ?_⟩
  have smH := (sm1.trans sm2).trans sm3
  obtain ⟨pr, ys, rfl, hpr, dy⟩ := dt_R (hv.keep (keepS smH))
  have ly : ys.length = r.length := by rw [DtAll.len dy, List.length_map]
  obtain ⟨b0, hb0⟩ : ∃ b0, r[0]? = some b0 := ⟨r[0]'(List.length_pos_iff.mpr ne), List.getElem?_eq_getElem _⟩
  obtain ⟨bl, hbl⟩ : ∃ bl, r[r.length - 1]? = some bl := ⟨r[r.length - 1]'(by have := List.length_pos_iff.mpr ne; omega), List.getElem?_eq_getElem _⟩
  obtain ⟨v0, hv0, db0⟩ := DtAll.of dy hb0
  obtain ⟨vl, hvl, dbl⟩ := DtAll.of dy hbl
  obtain ⟨pb0, wb0, rfl, hpb0, _⟩ := dt_B db0
  obtain ⟨pbl, wbl, rfl, hpbl, _⟩ := dt_B dbl
  have atl : atI ys (-1) = some (.ref pbl) := by
    rcases snoc_cases ys with rfl | ⟨zs, z, rfl⟩
    · have := List.length_pos_iff.mpr ne
      simp at ly
      omega
    · rw [← ly, List.length_append, List.length_singleton, Nat.add_sub_cancel, List.getElem?_append_right (Nat.le_refl _), Nat.sub_self] at hvl
      cases hvl
      exact at_last
  refine ⟨.int (lm - k - 1), rfl, .ref pr, rfl, pr, ys, 0, .ref pb0, rfl, rfl, SqT.of hpr, atI_nat (j := 0) hv0, pb0, _, 0, .int b0.1, rfl, rfl, SqT.of hpb0, at_0, .int k, rfl, _, _, rfl, rfl, _, _, rfl, rfl,
    .int (rm + k + 1), rfl, .ref pr, rfl, 1, rfl, pr, ys, -1, .ref pbl, rfl, rfl, SqT.of hpr, atl, pbl, _, 1, .int bl.2.1, rfl, rfl, SqT.of hpbl, at_1, .int k, rfl, _, _, rfl, rfl, _, _, rfl, rfl, by show 4 ≤ sizeLine; decide, fun t nt => ?_⟩
  have smt := same_new (o := .tup [.int (lm - k - 1), .int (b0.1 - k - 1), .int (rm + k + 1), .int (bl.2.1 + k + 1)]) nt
  have dqt := Q_dt (H := upd H3 t (.tup [.int (lm - k - 1), .int (b0.1 - k - 1), .int (rm + k + 1), .int (bl.2.1 + k + 1)])) (p := t) upd_same
  generalize upd H3 t (.tup [.int (lm - k - 1), .int (b0.1 - k - 1), .int (rm + k + 1), .int (bl.2.1 + k + 1)]) = H4 at *
  refine ⟨by show 1 ≤ sizeLine; decide, fun p5 np5 => ?_⟩
  have sm5 := smt.trans (same_new (o := .lst [.ref t]) np5)
  -- where everything lies
  have all : ∀ x y, inR r x y → (lm ≤ x ∧ x < rm) ∧ b0.1 ≤ y ∧ y < bl.2.1 := fun x y h => by
    obtain ⟨q0, h0, k1, k2, k3, k4⟩ := rectsM_in.mpr h
    have g1 := lmin q0.1 (List.mem_map.mpr ⟨q0, h0, rfl⟩)
    have g2 := rmax q0.2.2.1 (List.mem_map.mpr ⟨q0, h0, rfl⟩)
    obtain ⟨b, hb, y1, y2, _⟩ := h
    obtain ⟨j, hj, ej⟩ := List.getElem_of_mem hb
    have hj' : r[j]? = some b := by rw [List.getElem?_eq_getElem hj, ej]
    have p0 := ok.pos b hb
    refine ⟨⟨by omega, by omega⟩, ?_, ?_⟩
    · rcases Nat.eq_zero_or_pos j with e | e
      · subst e
        rw [hb0] at hj'
        cases hj'
        exact y1
      · have := band_next ok hb0 hj' e
        have := ok.pos b0 (List.mem_of_getElem? hb0)
        omega
    · by_cases e : j = r.length - 1
      · subst e
        rw [hbl] at hj'
        cases hj'
        exact y2
      · have := band_next ok hj' hbl (by omega)
        have := ok.pos bl (List.mem_of_getElem? hbl)
        omega
  have some0 : ∃ x y, inR r x y := by
    obtain ⟨q0, h0⟩ := List.exists_mem_of_ne_nil _ nr
    have := rc_some (rectsM_ok ok q0 h0)
    exact ⟨_, _, rectsM_in.mp ⟨q0, h0, this⟩⟩
  refine ⟨p5, [.ref t], [(lm - k - 1, b0.1 - k - 1, rm + k + 1, bl.2.1 + k + 1)], rfl, upd_same, DtAll.one (dqt.keep (keep_new np5)), fun q1 h1 => ?_, by show 1 ≤ 400000; decide, (sz_one _).mono (by decide), fun vb H6 box sm6 ib db => ?_⟩
  · rw [List.mem_singleton.mp h1]
    obtain ⟨x, y, h⟩ := some0
    have := all x y h
    exact ⟨by simp only; omega, by simp only; omega⟩
  have smA := (smH.trans sm5).trans sm6
  have szb : SzR 2 box := ib.sz (sz_one _)
  refine ⟨vb, rfl, .ref pr, rfl, vb, .ref pr, box, r, rfl, db, hv.keep (keepS smA), ib.ok, ok, szb.mono (by decide), hz, fun z H7 r' sm7 im dz => ?_⟩
  refine q z H7 r' (smA.trans sm7) ⟨im.ok, ⟨inR box, fun x y => mix_first im ib.ok ok x y, fun x y u v' h n => ?_⟩, fun n hn => im.sz szb hn⟩ dz
  have := all x y h
  unfold near at n
  rw [ib.mem]
  exact ⟨_, List.mem_singleton.mpr rfl, by unfold inC; simp only; omega⟩
abbrev s_shrunk : Stmt := topS 30
abbrev N_shrunk : List Str := ["some", "k"]
theorem sc_shrunk : FnScope N_shrunk ["some", "k"] (C8.fnScope s_shrunk) := C8.fnScope_by (by decide +kernel)
structure IsShr (k : Int) (r r' : Rg) : Prop where
  ok : ROK r'
  mem : inR r' = shrinkS k (inR r)
  sz : ∀ n, SzR n r → SzR (3 * n + 4) r'
theorem IsReg.grow {r r' : Rg} {k : Int} (h : IsReg ((rectsM r).map (growR k)) r') (ok : ROK r) (hk : 0 ≤ k) : inR r' = growS k (inR r) := pl_ext fun x y => by
  rw [h.mem, inCs_grow (rectsM_ok ok) hk]
  have : inCs (rectsM r) = inR r := pl_ext fun _ _ => rectsM_in
  rw [this]
def sp_shrunk : Sp := fun vs H Q _ => ∃ (v : V) (r : Rg) (k : Int), vs = [v, .int k] ∧ Dt H v (dR r) ∧ ROK r ∧ SzR 290 r ∧ 0 ≤ k ∧ ∀ (x : V) (H' : Hp) (r' : Rg), L2.Same H H' → IsShr k r r' → Dt H' x (dR r') → Q x H'
theorem cal_shrunk (T : Txt mg) (c_outside : C8.Cal P w K mg base 5 "outside" sp_outside []) (c_grown : C8.Cal P w K mg base 3 "grown" sp_grown []) (c_less : C8.Cal P w K mg base 4 "less" (sp_two kFirst) []) (D : Here K mg "shrunk" s_shrunk ["some", "k"]) : C8.Cal P w K mg base 6 "shrunk" sp_shrunk [] := by
  refine D.cal sc_shrunk (fun vs H Q E h => ?_) fun f cdv A outer s H vs Q E hr h => ?_
  · obtain ⟨v, r, k, rfl, _⟩ := h
    rfl
  obtain ⟨v, r, k, rfl, hv, ok, hz, hk, q⟩ := h
  have sc := sc_shrunk
  refine ⟨_, (pss_cons (ps_if (pt_cmpR op_eq (pe_callB call_len_seq (by rfl) T.len (by decide +kernel) (pa_cons (pv 0) pa_nil)) pe_int (nomark _)) (pss_one (ps_ret (pe_tup pa_nil))) pss_nil)
      (pss_one (ps_ret (C8.pe_c c_less hr (by decide) (by rfl) (pa_cons (pv 0) (pa_cons (C8.pe_c c_grown hr (by decide) (by rfl) (pa_cons (C8.pe_c c_outside hr (by decide) (by rfl) (pa_cons (pv 0) (pa_cons (pv 1) pa_nil))) (pa_cons (pv 1) pa_nil))) pa_nil)))))), ?_⟩
  obtain ⟨pr, ys, rfl, hpr, dy⟩ := dt_R hv
  have ly : ys.length = r.length := by rw [DtAll.len dy, List.length_map]
  refine ⟨.ref pr, rfl, pr, ys, rfl, .inr (SqT.of hpr), rfl, ?_⟩
  by_cases c : r = []
  · refine ⟨true, bt (by rw [ly, c]; rfl), iteT ?_⟩
    refine ⟨Nat.zero_le _, fun t nt => q _ _ [] (same_new nt) ⟨ROK.nil, pl_ext fun x y => ⟨fun h => (inR_nil h).elim, fun h => ?_⟩, fun n _ => ⟨[], [], Nat.zero_le _, Nat.zero_le _, fun b hb => no hb⟩⟩ (.tup upd_same .nil)⟩
    have := h x y (by unfold near; omega)
    rw [c] at this
    exact (inR_nil this).elim
  · refine ⟨false, bf (fun h => c (List.eq_nil_of_length_eq_zero (by have := V.int.inj h; omega))), iteF ?_⟩
    refine ⟨.ref pr, rfl, .ref pr, rfl, .int k, rfl, .ref pr, r, k, rfl, hv, ok, hz.mono (by decide), hk, c, fun vo H1 ro sm1 io do_ => ?_⟩
    have szo := io.sz _ hz
    refine ⟨.int k, rfl, vo, ro, k, rfl, do_, io.ok, szo.mono (by decide), hk, fun vg H2 rg sm2 ig dg => ?_⟩
    have szg := ig.sz (SzR.rects szo).grow
    refine ⟨.ref pr, vg, r, rg, rfl, hv.keep (keepS (sm1.trans sm2)), dg, ok, ig.ok, hz.mono (by decide), szg.mono (by decide), fun z H3 r' sm3 im dz => ?_⟩
    refine q z H3 r' ((sm1.trans sm2).trans sm3) ⟨im.ok, ?_, fun n hn => (im.sz hn (ig.sz (SzR.rects (io.sz n hn)).grow)).mono (by omega)⟩ dz
    obtain ⟨B, b1, b2⟩ := io.ex
    rw [← shrink_is hk b2]
    refine pl_ext fun x y => ?_
    rw [mix_first im ok ig.ok, ig.grow io.ok hk]
    have : inR ro = fun x y => B x y ∧ ¬ inR r x y := pl_ext b1
    rw [this]
end
end Mw

-- W10
namespace Mw
open PySem PySem.Spec PyProof.Rows L2 MkR Mk
theorem zsum_step {A B : List Ln} {f : Ln → Ln → Int} {i : Nat} {a b : Ln} (ha : A[i]? = some a) (hb : B[i]? = some b) : (((A.zip B).take (i + 1)).map fun p => f p.1 p.2).sum = (((A.zip B).take i).map fun p => f p.1 p.2).sum + f a b := by
  have h : (A.zip B)[i]? = some (a, b) := by
    rw [List.getElem?_zip_eq_some]
    exact ⟨ha, hb⟩
  rw [take_succ_map h, List.sum_append, List.sum_singleton]
theorem mix_nil {kb : Bool → Bool → Bool} : mixL kb [] [] = [] := by
  unfold mixL
  rw [show Mk.edges [] 0 ++ Mk.edges [] 1 = ([] : List (Int × Int)) from rfl, List.mergeSort_nil]
  rfl
section
variable {P : Program} {w : World} {K : PySem.W.Frag} {mg : Str → Option Value} {base : Heap}
abbrev s_rim : Stmt := topS 26
abbrev N_rim : List Str := ["some", "cuts", "lines", "found", "low", "high", "line", "ahead"]
theorem sc_rim : FnScope N_rim ["some"] (C8.fnScope s_rim) := C8.fnScope_by (by decide +kernel)
def sp_rim : Sp := fun vs H Q _ => ∃ (v : V) (r : Rg), vs = [v] ∧ Dt H v (dR r) ∧ ROK r ∧ SzR 600 r ∧ ∀ (H' : Hp) (a b : Int), L2.Same H H' → RimOk (inR r) a b → Q (.int (a + b)) H'
theorem cal_rim (T : Txt mg) (c_in_one : C8.Cal P w K mg base 1 "in_one" (sp_keep neB) []) (c_ends_of : C8.Cal P w K mg base 1 "ends_of" sp_ends_of []) (c_lines_at : C8.Cal P w K mg base 1 "lines_at" sp_lines_at []) (c_mixed_line : C8.Cal P w K mg base 2 "mixed_line" (sp_mixed_line P w K mg base) []) (c_long : C8.Cal P w K mg base 1 "long" sp_long [])
    (D : Here K mg "rim" s_rim ["some"]) : C8.Cal P w K mg base 3 "rim" sp_rim [] := by
  refine D.cal sc_rim (fun vs H Q E h => ?_) fun f cdv A outer s H vs Q E hr h => ?_
  · obtain ⟨v, r, rfl, _⟩ := h
    rfl
  obtain ⟨v, r, rfl, hv, ok, hz, q⟩ := h
  have sc := sc_rim
  obtain ⟨fk, m_in_one, ck⟩ := cal_at c_in_one
  refine ⟨_, (pss_cons (ps_set (i := 1) sc.nd rfl (Or.inl rfl) (pe_callB (sortedSetDK (w := w) rfl rfl) (by rfl) T.sorted (by decide +kernel) (pa_cons (pe_callTy (setDK (K := K) (w := w) rfl rfl rfl) (by rfl) T.set (by decide +kernel) (pa_cons (C8.pe_c c_ends_of hr (by decide) (by rfl) (pa_cons (pv 0) pa_nil)) pa_nil)) pa_nil)))
      (pss_cons (ps_set (i := 2) sc.nd rfl (Or.inl rfl) (C8.pe_c c_lines_at hr (by decide) (by rfl) (pa_cons (pv 0) (pa_cons (pv 1) pa_nil))))
      (pss_cons (ps_set (i := 3) sc.nd rfl (Or.inl rfl) pe_int)
      (pss_cons (ps_for PassesOwn.never rfl (pi_tup (pv 0)) (pgT (K := K) (n := 3) rfl rfl (pgs_cons (pg_name (i := 4) sc.nd rfl (Or.inl rfl)) (pgs_cons (pg_name (i := 5) sc.nd rfl (Or.inl rfl)) (pgs_cons (pg_name (i := 6) sc.nd rfl (Or.inl rfl)) pgs_nil)))) (pss_one (ps_aug (i := 3) sc.nd rfl (Or.inl rfl) (pe_op op_mul (pe_op op_mul pe_int (pe_op op_sub (pv 5) (pv 4))) (pe_callB call_len_seq (by rfl) T.len (by decide +kernel) (pa_cons (pv 6) pa_nil))) ip_add)))
      (pss_cons (ps_for PassesOwn.never rfl (pi_zip (by rfl) T.zip (pa_cons (pe_op op_cat (pe_lst (pa_cons (pe_tup pa_nil) pa_nil)) (pv 2)) (pa_cons (pe_op op_cat (pv 2) (pe_lst (pa_cons (pe_tup pa_nil) pa_nil))) pa_nil))) (pgT (K := K) (n := 2) rfl rfl (pgs_cons (pg_name (i := 7) sc.nd rfl (Or.inl rfl)) (pgs_cons (pg_name (i := 6) sc.nd rfl (Or.inl rfl)) pgs_nil))) (pss_one (ps_aug (i := 3) sc.nd rfl (Or.inl rfl) (C8.pe_c c_long hr (by decide) (by rfl) (pa_cons (C8.pe_c c_mixed_line hr (by decide) (by rfl) (pa_cons (pv 7) (pa_cons (pv 6) (pa_cons (pe_glob (v := .ref fk) rfl m_in_one rfl) pa_nil)))) pa_nil)) ip_add)))
      (pss_one (ps_ret (pv 3)))))))), ?_⟩
  obtain ⟨l1, l2, l3⟩ := SzR.sq hz ok (Nat.le_refl _)
  obtain ⟨X1, Y1, x1, y1, c1⟩ := hz
  refine ⟨v, rfl, v, r, rfl, hv, by omega, fun p1 H1 sm1 np1 hp1 => ?_⟩
  have m1 : ∀ k, k ∈ ((r.map fun b : Bd => b.1) ++ (r.map fun b : Bd => b.2.1)) ↔ ∃ b ∈ r, k = b.1 ∨ k = b.2.1 := ends_mem
  generalize ((r.map fun b : Bd => b.1) ++ (r.map fun b : Bd => b.2.1)) = ns1 at *
  refine ⟨p1, ns1, Y1, rfl, SqL.of hp1, fun k hk => ?_, by omega, fun p4 cc np4 => ?_⟩
  · obtain ⟨b, hb, rfl | rfl⟩ := (m1 k).mp hk
    · exact (c1 b hb).1
    · exact (c1 b hb).2.1
  have sm4 := sm1.trans (same_new (o := SetO w p4 (fun j => decide (j ∈ ns1)) cc) np4)
  have hp4 : (upd H1 p4 (SetO w p4 (fun j => decide (j ∈ ns1)) cc)) p4 = some (SetO w p4 (fun j => decide (j ∈ ns1)) cc) := upd_same
  generalize upd H1 p4 (SetO w p4 (fun j => decide (j ∈ ns1)) cc) = H4 at *
  refine ⟨p4, _, cc, rfl, hp4, fun cuts p5 hpw hmem np5 => ?_⟩
  have sm5 := sm4.trans (same_new (o := .lst (cuts.map V.int)) np5)
  have hc : (upd H4 p5 (.lst (cuts.map V.int))) p5 = some (.lst (cuts.map V.int)) := upd_same
  generalize upd H4 p5 (.lst (cuts.map V.int)) = H5 at *
  have mem : ∀ c, c ∈ cuts ↔ ∃ b ∈ r, c = b.1 ∨ c = b.2.1 := fun c => by
    rw [hmem, decide_eq_true_iff, m1]
  have lcut : cuts.length ≤ 600 := Nat.le_trans (few_lt (D := Y1) hpw fun k hk => by
    obtain ⟨b, hb, rfl | rfl⟩ := (mem k).mp hk
    · exact (c1 b hb).1
    · exact (c1 b hb).2.1) y1
  have mem2 : ∀ b ∈ r, b.1 ∈ cuts ∧ b.2.1 ∈ cuts := fun b hb => ⟨(mem _).mpr ⟨b, hb, .inl rfl⟩, (mem _).mpr ⟨b, hb, .inr rfl⟩⟩
  refine ⟨v, rfl, .ref p5, rfl, v, p5, r, cuts, rfl, hv.keep (keepS sm5), ok, hc, hpw, by omega, by omega, fun pl H6 xl sm6 npl hpl dl => ?_⟩
  have smH6 := sm5.trans sm6
  obtain ⟨pr, ys, rfl, hpr, dy⟩ := dt_R (hv.keep (keepS smH6))
  have ly : ys.length = r.length := by rw [DtAll.len dy, List.length_map]
  refine ⟨.ref pr, rfl, pr, rfl, ⟨ys, SqT.of hpr⟩, for_tup (K := K) (a := pr) (xs := ys) (fun i σ' H' => ∃ (fn : Int) (y4 y5 y6 : Option V), σ' = [some (.ref pr), some (.ref p5), some (.ref pl), some (.int fn), y4, y5, y6, none] ∧ fn = ((r.take i).map fun b : Bd => 2 * (b.2.1 - b.1) * (b.2.2.length : Int)).sum ∧ H' = H6) ?_ ?_ ?_ ?_⟩
  · exact ⟨0, none, none, none, rfl, rfl, rfl⟩
  · rintro i σ' H' _ ⟨fn, y4, y5, y6, rfl, rfl, rfl⟩
    exact SqT.of hpr
  · rintro i x σ' H' hi ⟨fn, y4, y5, y6, rfl, hfn, rfl⟩
    obtain ⟨b, hb, db⟩ := DtAll.at dy hi
    obtain ⟨pb, wl, rfl, hpb, dwl⟩ := dt_B db
    obtain ⟨pw, ws, rfl, hpw', dws⟩ := dt_L dwl
    have lws : ws.length = b.2.2.length := by rw [DtAll.len dws, List.length_map]
    have lb := l2 b (List.mem_of_getElem? hb)
    refine ⟨pb, _, rfl, SqT.of hpb, rfl, _, _, rfl, _, _, rfl, _, _, rfl, rfl, ?_⟩
    refine ⟨_, rfl, .int b.2.1, rfl, .int b.1, rfl, _, _, rfl, rfl, _, _, rfl, rfl, .inl ⟨by decide, by decide⟩, .ref pw, rfl, pw, ws, rfl, .inr (SqT.of hpw'), _, _, rfl, rfl, .inr ⟨by omega, by omega⟩, _, _, rfl, rfl, ?_⟩
    refine ⟨_, _, _, _, rfl, ?_, rfl⟩
    rw [take_succ_map hb, List.sum_append, List.sum_singleton, ← lws, ← hfn]
  rintro σ' H' ⟨fn, y4, y5, y6, rfl, hfn, rfl⟩
  rw [ly, List.take_length] at hfn
  subst hfn
  have hV := rimV_ok ok
  have hH := rimH_ok ok hpw mem2
  generalize (r.map fun b : Bd => 2 * (b.2.1 - b.1) * (b.2.2.length : Int)).sum = F at *
  -- the two lists
  refine ⟨Nat.zero_le _, fun t1 nt1 => ⟨by show 1 ≤ sizeLine; decide, fun pa npa => ⟨.ref pl, rfl, ?_⟩⟩⟩
  have s1 := (same_new (o := .tup []) nt1).trans (same_new (o := .lst [.ref t1]) npa)
  have hpa : (upd (upd H' t1 (.tup [])) pa (.lst [.ref t1])) pa = some (.lst [.ref t1]) := upd_same
  have ht1 : (upd (upd H' t1 (.tup [])) pa (.lst [.ref t1])) t1 = some (.tup []) := same_new npa _ _ upd_same
  generalize upd (upd H' t1 (.tup [])) pa (.lst [.ref t1]) = H7 at *
  have lxl : xl.length = cuts.dropLast.length := by rw [DtAll.len dl, List.length_map, List.length_map]
  have ldl : cuts.dropLast.length ≤ 600 := by rw [List.length_dropLast]; omega
  refine ⟨pa, pl, _, xl, rfl, rfl, hpa, s1 _ _ hpl, sz (by rw [List.length_singleton]; omega), fun p8 np8 => ?_⟩
  have s8 := s1.trans (same_new (o := .lst ([.ref t1] ++ xl)) np8)
  have hp8 : (upd H7 p8 (.lst ([.ref t1] ++ xl))) p8 = some (.lst ([.ref t1] ++ xl)) := upd_same
  have ht1' : Dt (upd H7 p8 (.lst ([.ref t1] ++ xl))) (.ref t1) (dL []) := .tup (same_new np8 _ _ ht1) .nil
  generalize upd H7 p8 (.lst ([.ref t1] ++ xl)) = H8 at *
  refine ⟨.ref pl, rfl, Nat.zero_le _, fun t2 nt2 => ⟨by show 1 ≤ sizeLine; decide, fun pb npb => ?_⟩⟩
  have s9 := (same_new (o := .tup []) nt2).trans (same_new (o := .lst [.ref t2]) npb)
  have hpb : (upd (upd H8 t2 (.tup [])) pb (.lst [.ref t2])) pb = some (.lst [.ref t2]) := upd_same
  have ht2 : (upd (upd H8 t2 (.tup [])) pb (.lst [.ref t2])) t2 = some (.tup []) := same_new npb _ _ upd_same
  generalize upd (upd H8 t2 (.tup [])) pb (.lst [.ref t2]) = H9 at *
  refine ⟨pl, pb, xl, _, rfl, rfl, s9 _ _ (s8 _ _ hpl), hpb, sz (by rw [List.length_singleton]; omega), fun p10 np10 => ?_⟩
  have s10 := s9.trans (same_new (o := .lst (xl ++ [.ref t2])) np10)
  have hp10 : (upd H9 p10 (.lst (xl ++ [.ref t2]))) p10 = some (.lst (xl ++ [.ref t2])) := upd_same
  have ht2' : Dt (upd H9 p10 (.lst (xl ++ [.ref t2]))) (.ref t2) (dL []) := .tup (same_new np10 _ _ ht2) .nil
  generalize upd H9 p10 (.lst (xl ++ [.ref t2])) = H10 at *
  have dA : DtAll H10 ([.ref t1] ++ xl) (([] :: cuts.dropLast.map (row r)).map dL) := .cons (ht1'.keep (keepS s10)) (dl.keep (keepS (s8.trans s10)))
  have dB : DtAll H10 (xl ++ [.ref t2]) ((cuts.dropLast.map (row r) ++ [[]]).map dL) := by
    rw [List.map_append]
    exact DtAll.app (dl.keep (keepS (s8.trans s10))) (DtAll.one ht2')
  have hp8' := s10 _ _ hp8
  have smA := (smH6.trans s8).trans s10
  have rowOk : ∀ (l : Ln), (l ∈ ([] :: cuts.dropLast.map (row r)) ∨ l ∈ (cuts.dropLast.map (row r) ++ [[]])) → LOK l ∧ ∀ s ∈ l, s.1 ∈ X1 ∧ s.2 ∈ X1 := fun l hl => by
    have : l = [] ∨ ∃ c, l = row r c := by
      rcases hl with hl | hl
      · rcases List.mem_cons.mp hl with rfl | hl
        · exact .inl rfl
        · obtain ⟨c, _, rfl⟩ := List.mem_map.mp hl
          exact .inr ⟨c, rfl⟩
      · rcases List.mem_append.mp hl with hl | hl
        · obtain ⟨c, _, rfl⟩ := List.mem_map.mp hl
          exact .inr ⟨c, rfl⟩
        · exact .inl (List.mem_singleton.mp hl)
    rcases this with rfl | ⟨c, rfl⟩
    · exact ⟨LOK.nil, fun s hs => no hs⟩
    · exact ⟨ok.row_ok c, row_crs c1 c⟩
  have total : ((([] :: cuts.dropLast.map (row r)).zip (cuts.dropLast.map (row r) ++ [[]])).map fun p : Ln × Ln => Mk.long (mixL neB p.1 p.2)).sum = (cuts.map fun c => Mk.long (mixL neB (row r (c - 1)) (row r c))).sum := by
    by_cases e : cuts = []
    · subst e
      show (Mk.long (mixL neB [] []) + 0 : Int) = 0
      rw [mix_nil]
      rfl
    · rw [cuts_up hpw mem2 e, cuts_dn hpw mem2 e, List.zip_map', List.map_map]
      rfl
  have lenA : ([V.ref t1] ++ xl).length = cuts.dropLast.length + 1 := by rw [List.length_append, List.length_singleton, lxl]; omega
  have lenB : (xl ++ [V.ref t2]).length = cuts.dropLast.length + 1 := by rw [List.length_append, List.length_singleton, lxl]
  generalize hLA : ([] :: cuts.dropLast.map (row r)) = LA at *
  generalize hLB : (cuts.dropLast.map (row r) ++ [[]]) = LB at *
  have lenLA : LA.length = cuts.dropLast.length + 1 := by rw [← hLA, List.length_cons, List.length_map]
  have lenLB : LB.length = cuts.dropLast.length + 1 := by rw [← hLB, List.length_append, List.length_singleton, List.length_map]
  generalize [V.ref t1] ++ xl = xA at *
  generalize xl ++ [V.ref t2] = xB at *
  refine ⟨p8, p10, xA, xB, rfl, SqL.of hp8', SqL.of hp10, for_z2 (K := K) (a := p8) (b := p10) (xs := xA) (ys := xB) xA.length (Nat.le_refl _) (by omega) (.inl rfl) (fun i σ' H' => ∃ (fn : Int) (y4 y5 y6 y7 : Option V), σ' = [some (.ref pr), some (.ref p5), some (.ref pl), some (.int fn), y4, y5, y6, y7] ∧ fn = F + (((LA.zip LB).take i).map fun p : Ln × Ln => Mk.long (mixL neB p.1 p.2)).sum ∧ L2.Same H10 H') ?_ ?_ ?_ ?_⟩
  · exact ⟨F, _, _, _, _, rfl, by rw [List.take_zero, List.map_nil, List.sum_nil, Int.add_zero], .refl _⟩
  · rintro i σ' H'' ⟨fn, y4, y5, y6, y7, rfl, hfn, sm⟩
    exact ⟨SqL.of (sm _ _ hp8'), SqL.of (sm _ _ hp10)⟩
  · rintro i x y t σ' H'' hx hy ⟨fn, y4, y5, y6, y7, rfl, hfn, sm⟩ nt
    have smt := sm.trans (same_new (o := .tup [x, y]) nt)
    have htt : (upd H'' t (.tup [x, y])) t = some (.tup [x, y]) := upd_same
    generalize upd H'' t (.tup [x, y]) = H11 at *
    obtain ⟨a, ha, da⟩ := DtAll.at (dA.keep (keepS smt)) hx
    obtain ⟨b, hb, db⟩ := DtAll.at (dB.keep (keepS smt)) hy
    obtain ⟨oa, xa⟩ := rowOk a (.inl (List.mem_of_getElem? ha))
    obtain ⟨ob, xb⟩ := rowOk b (.inr (List.mem_of_getElem? hb))
    have la := LOK.few oa (Xs := X1) fun s hs => (xa s hs).1
    have lb := LOK.few ob (Xs := X1) fun s hs => (xb s hs).1
    obtain ⟨om, _, cm⟩ := mixL_ok (keep := neB) rfl oa ob
    have lm := LOK.few om (Xs := X1) fun s hs => (cm (· ∈ X1) xa xb s hs).1
    refine ⟨t, _, rfl, SqT.of htt, rfl, _, _, rfl, _, _, rfl, rfl, ?_⟩
    refine ⟨_, rfl, x, rfl, y, rfl, x, y, fk, a, b, neB, rfl, ck, rfl, da, db, oa, ob, by omega, by omega, fun z H12 sm12 dz => ?_⟩
    refine ⟨z, _, rfl, dz, by omega, fun H13 sm13 => ⟨_, _, rfl, rfl, ?_⟩⟩
    refine ⟨_, _, _, _, _, rfl, ?_, (smt.trans sm12).trans sm13⟩
    rw [zsum_step (f := fun a b => Mk.long (mixL neB a b)) ha hb, ← Int.add_assoc, ← hfn]
  · rintro σ' H'' ⟨fn, y4, y5, y6, y7, rfl, hfn, sm⟩
    have e : (LA.zip LB).take xA.length = LA.zip LB := List.take_of_length_le (by rw [List.length_zip]; omega)
    rw [e, total] at hfn
    subst hfn
    exact ⟨_, rfl, q H'' F _ (smA.trans sm) ⟨hV, hH⟩⟩
end
end Mw

-- W11
namespace Mw
open PySem PySem.Spec PyProof.Rows L2 MkR Mk
/-! ### numbered rectangles in lists -/
def dE (e : Nat × Rc) : PyData := .tuple [.int (e.1 : Int), dQ e.2]
def dN (p : Nat × Nat) : PyData := .tuple [.int (p.1 : Int), .int (p.2 : Int)]
theorem dt_E {H : Hp} {v : V} {e : Nat × Rc} (h : Dt H v (dE e)) : ∃ p w, v = .ref p ∧ H p = some (.tup [.int (e.1 : Int), w]) ∧ Dt H w (dQ e.2) := by
  obtain ⟨p, xs, rfl, hp, h⟩ := dt_tup h
  cases h with
  | cons h1 h2 => cases h2 with
    | cons h2 h3 =>
      cases h3
      rw [dt_int h1] at hp
      exact ⟨p, _, rfl, hp, h2⟩
theorem E_dt {H : Hp} {p : Addr} {n : Nat} {w : V} {q : Rc} (h : H p = some (.tup [.int (n : Int), w])) (hw : Dt H w (dQ q)) : Dt H (.ref p) (dE (n, q)) := .tup h (.cons (.int _) (.cons hw .nil))
theorem dt_N {H : Hp} {v : V} {e : Nat × Nat} (h : Dt H v (dN e)) : ∃ p, v = .ref p ∧ H p = some (.tup [.int (e.1 : Int), .int (e.2 : Int)]) := dt_P (s := ((e.1 : Int), (e.2 : Int))) h
theorem N_dt {H : Hp} {p : Addr} {a b : Nat} (h : H p = some (.tup [.int (a : Int), .int (b : Int)])) : Dt H (.ref p) (dN (a, b)) := P_dt h
def Bk (N : Addr → Prop) (H : Hp) (v : V) (A : List (Nat × Rc)) : Prop := ∃ a es, v = .ref a ∧ N a ∧ H a = some (.lst es) ∧ DtAll H es (A.map dE)
def Bks (N : Addr → Prop) (H : Hp) (vs : List V) (rows : List (List (Nat × Rc))) : Prop := vs.length = rows.length ∧ ∀ (i : Nat) (v : V) (A : List (Nat × Rc)), vs[i]? = some v → rows[i]? = some A → Bk N H v A
theorem Bks.mono {N M : Addr → Prop} {H H' : Hp} {vs : List V} {rows : List (List (Nat × Rc))} (h : Bks N H vs rows) (hN : ∀ a, N a → M a) (hk : ∀ a es, N a → H a = some (.lst es) → H' a = some (.lst es)) (k : Keep H H') : Bks M H' vs rows := by
  refine ⟨h.1, fun i v A hv hA => ?_⟩
  obtain ⟨a, es, rfl, n, ha, d⟩ := h.2 i v A hv hA
  exact ⟨a, es, rfl, hN a n, hk a es n ha, d.keep k⟩
theorem Bks.snoc {N : Addr → Prop} {H : Hp} {vs : List V} {rows : List (List (Nat × Rc))} {v : V} {A : List (Nat × Rc)} (h : Bks N H vs rows) (b : Bk N H v A) : Bks N H (vs ++ [v]) (rows ++ [A]) := by
  refine ⟨by rw [List.length_append, List.length_append, h.1]; rfl, fun i w B hw hB => ?_⟩
  rcases Nat.lt_trichotomy i vs.length with k | k | k
  · rw [List.getElem?_append_left k] at hw
    rw [List.getElem?_append_left (by rw [← h.1]; exact k)] at hB
    exact h.2 i w B hw hB
  · subst k
    rw [List.getElem?_append_right (Nat.le_refl _), Nat.sub_self] at hw
    rw [h.1, List.getElem?_append_right (Nat.le_refl _), Nat.sub_self] at hB
    cases hw
    cases hB
    exact b
  · have := (List.getElem?_eq_some_iff.mp hw).1
    rw [List.length_append, List.length_singleton] at this
    omega
theorem Bks.nil {N : Addr → Prop} {H : Hp} : Bks N H [] [] := ⟨rfl, fun i v A hv _ => by simp at hv⟩
theorem Bks.same {N : Addr → Prop} {H H' : Hp} {vs : List V} {rows : List (List (Nat × Rc))} (h : Bks N H vs rows) (k : L2.Same H H') : Bks N H' vs rows := h.mono (fun _ n => n) (fun a es _ e => k a _ e) (keepS k)
theorem banks_cons {n : Nat} {b : Bd} {r : Rg} : banksM n (b :: r) = bankM b.1 b.2.1 n b.2.2 :: banksM (n + b.2.2.length) r := rfl
theorem bank_cons {lo hi : Int} {n : Nat} {s : Int × Int} {l : Ln} : bankM lo hi n (s :: l) = (n, (s.1, lo, s.2, hi)) :: bankM lo hi (n + 1) l := rfl
section
variable {P : Program} {w : World} {K : PySem.W.Frag} {mg : Str → Option Value} {base : Heap}
abbrev s_banks : Stmt := topS 33
abbrev N_banks : List Str := ["some", "found", "number", "low", "high", "line", "bank", "start", "end"]
theorem sc_banks : FnScope N_banks ["some"] (C8.fnScope s_banks) := C8.fnScope_by (by decide +kernel)
def sp_banks : Sp := fun vs H Q _ => ∃ (v : V) (r : Rg), vs = [v] ∧ Dt H v (dR r) ∧ r.length ≤ 400000 ∧ (∀ b ∈ r, b.2.2.length ≤ 400000) ∧
  ∀ (p : Addr) (H' : Hp) (xs : List V), L2.Same H H' → H p = none → H' p = some (.lst xs) → Bks (fun _ => True) H' xs (banksM 0 r) → Q (.ref p) H'
theorem cal_banks (T : Txt mg) (D : Here K mg "banks" s_banks ["some"]) : C8.Cal P w K mg base 1 "banks" sp_banks [] := by
  refine D.cal sc_banks (fun vs H Q E h => ?_) fun f cdv A outer s H vs Q E hr h => ?_
  · obtain ⟨v, r, rfl, _⟩ := h
    rfl
  obtain ⟨v, r, rfl, hv, hn, hl, q⟩ := h
  have sc := sc_banks
  refine ⟨_, (pss_cons (ps_set (i := 1) sc.nd rfl (Or.inl rfl) (pe_lst pa_nil))
      (pss_cons (ps_set (i := 2) sc.nd rfl (Or.inl rfl) pe_int)
      (pss_cons (ps_for PassesOwn.never rfl (pi_tup (pv 0)) (pgT (K := K) (n := 3) rfl rfl (pgs_cons (pg_name (i := 3) sc.nd rfl (Or.inl rfl)) (pgs_cons (pg_name (i := 4) sc.nd rfl (Or.inl rfl)) (pgs_cons (pg_name (i := 5) sc.nd rfl (Or.inl rfl)) pgs_nil)))) (pss_cons (ps_set (i := 6) sc.nd rfl (Or.inl rfl) (pe_lst pa_nil))
      (pss_cons (ps_for PassesOwn.never rfl (pi_tup (pv 5)) (pgT (K := K) (n := 2) rfl rfl (pgs_cons (pg_name (i := 7) sc.nd rfl (Or.inl rfl)) (pgs_cons (pg_name (i := 8) sc.nd rfl (Or.inl rfl)) pgs_nil))) (pss_cons (ps_expr (pe_bm PySem.F.plainAttrs_list PySem.F.slot_list_append PySem.F.type_list_append mt_append (pv 6) (pa_cons (pe_tup (pa_cons (pv 2) (pa_cons (pe_tup (pa_cons (pv 7) (pa_cons (pv 3) (pa_cons (pv 8) (pa_cons (pv 4) pa_nil))))) pa_nil))) pa_nil)))
      (pss_one (ps_aug (i := 2) sc.nd rfl (Or.inl rfl) pe_int ip_add))))
      (pss_one (ps_expr (pe_bm PySem.F.plainAttrs_list PySem.F.slot_list_append PySem.F.type_list_append mt_append (pv 1) (pa_cons (pv 6) pa_nil)))))))
      (pss_one (ps_ret (pv 1)))))), ?_⟩
  obtain ⟨pr, ys, rfl, hpr, dy⟩ := dt_R hv
  have ly : ys.length = r.length := by rw [DtAll.len dy, List.length_map]
  refine ⟨Nat.zero_le _, fun o no => ?_⟩
  have sm1 := same_new (o := .lst []) no
  have ho1 : (upd H o (.lst [])) o = some (.lst []) := upd_same
  have hpr1 := sm1 _ _ hpr
  have dy1 := dy.keep (keepS sm1)
  have npr : pr ≠ o := ne_of_none hpr no
  generalize upd H o (.lst []) = H1 at *
  refine ⟨.ref pr, rfl, pr, rfl, ⟨ys, SqT.of hpr1⟩, for_tup (K := K) (a := pr) (xs := ys) (fun i σ' H' => ∃ (zs : List V) (n : Nat) (y3 y4 y5 y6 y7 y8 : Option V) (done : List (List (Nat × Rc))), σ' = [some (.ref pr), some (.ref o), some (.int ((n : Nat) : Int)), y3, y4, y5, y6, y7, y8] ∧ Fr o H1 H' ∧
    H' o = some (.lst zs) ∧ Bks (fun a => a ≠ o) H' zs done ∧ zs.length = i ∧ banksM 0 r = done ++ banksM n (r.drop i)) ?_ ?_ ?_ ?_⟩
  · exact ⟨[], 0, none, none, none, none, none, none, [], rfl, Fr.refl, ho1, Bks.nil, rfl, rfl⟩
  · rintro i σ' H' _ ⟨zs, n, y3, y4, y5, y6, y7, y8, done, rfl, fr, _⟩
    exact SqT.of (fr pr _ npr hpr1)
  · rintro i x σ' H' hi ⟨zs, n, y3, y4, y5, y6, y7, y8, done, rfl, fr, ho', bz, lz, inv⟩
    obtain ⟨b, hb, db⟩ := DtAll.at (dy1.keep (fr.keep ho1)) hi
    obtain ⟨pb, wl, rfl, hpb, dwl⟩ := dt_B db
    obtain ⟨pl, ws, rfl, hpl, dws⟩ := dt_L dwl
    have lws : ws.length = b.2.2.length := by rw [DtAll.len dws, List.length_map]
    have li := (List.getElem?_eq_some_iff.mp hb).1
    have lb := hl b (List.mem_of_getElem? hb)
    refine ⟨pb, _, rfl, SqT.of hpb, rfl, _, _, rfl, _, _, rfl, _, _, rfl, rfl, ?_⟩
    refine ⟨Nat.zero_le _, fun bk nbk => ?_⟩
    have nbo : bk ≠ o := (ne_of_none ho' nbk).symm
    have nb1 : H1 bk = none := fr.free nbk nbo
    have sm2 := same_new (o := .lst []) nbk
    have fr2 := fr.trans (.of sm2)
    have ho2 := sm2 _ _ ho'
    have bz2 := bz.same sm2
    have hbk2 : (upd H' bk (.lst [])) bk = some (.lst []) := upd_same
    have hpl2 := sm2 _ _ hpl
    have dws2 := dws.keep (keepS sm2)
    have nplb : pl ≠ bk := ne_of_none hpl nbk
    have bzN : ∀ (a : Addr) (es : List V), H' a = some (.lst es) → a ≠ bk := fun a es e => ne_of_none e nbk
    have smH : L2.Same H' (upd H' bk (.lst [])) := sm2
    generalize hH2 : upd H' bk (.lst []) = H2 at *
    refine ⟨.ref pl, rfl, pl, rfl, ⟨ws, SqT.of hpl2⟩, for_tup (K := K) (a := pl) (xs := ws) (fun j σ'' H'' => ∃ (es : List V) (n' : Nat) (y7 y8 : Option V) (d' : List (Nat × Rc)), σ'' = [some (.ref pr), some (.ref o), some (.int ((n' : Nat) : Int)), some (.int b.1), some (.int b.2.1), some (.ref pl), some (.ref bk), y7, y8] ∧ L2.Same H' H'' ∧
      H'' bk = some (.lst es) ∧ DtAll H'' es (d'.map dE) ∧ es.length = j ∧ n' = n + j ∧ bankM b.1 b.2.1 n b.2.2 = d' ++ bankM b.1 b.2.1 n' (b.2.2.drop j)) ?_ ?_ ?_ ?_⟩
    · exact ⟨[], n, _, _, [], rfl, smH, hbk2, .nil, rfl, rfl, rfl⟩
    · rintro j σ'' H'' _ ⟨es, n', y7, y8, d', rfl, sm, _⟩
      exact SqT.of (sm _ _ hpl)
    · rintro j x σ'' H'' hj ⟨es, n', y7, y8, d', rfl, sm, hbk, de, le, hn', inv'⟩
      obtain ⟨sg, hs, dsg⟩ := DtAll.at (dws.keep (keepS sm)) hj
      obtain ⟨ps, rfl, hps⟩ := dt_P dsg
      have lj := (List.getElem?_eq_some_iff.mp hs).1
      refine ⟨ps, _, rfl, SqT.of hps, rfl, _, _, rfl, _, _, rfl, rfl, ?_⟩
      refine ⟨.ref bk, rfl, .inl ⟨rfl, _, SqL.of hbk⟩, .int n', rfl, .int sg.1, rfl, .int b.1, rfl, .int sg.2, rfl, .int b.2.1, rfl, by show 4 ≤ sizeLine; decide, fun t1 nt1 => ⟨by show 2 ≤ sizeLine; decide, fun t2 nt2 => ?_⟩⟩
      have smt := same_new (o := .tup [.int sg.1, .int b.1, .int sg.2, .int b.2.1]) nt1
      have dq := Q_dt (H := upd H'' t1 (.tup [.int sg.1, .int b.1, .int sg.2, .int b.2.1])) (p := t1) upd_same
      have hbk3 := smt _ _ hbk
      have sm3 := sm.trans smt
      generalize upd H'' t1 (.tup [.int sg.1, .int b.1, .int sg.2, .int b.2.1]) = H3 at *
      obtain ⟨g0, g1, g2, g3, g4⟩ := app_new (w := [.int (n' : Int), .ref t1]) (ws := es ++ [V.ref t2]) hbk3 nt2
      refine ⟨bk, es, .ref t2, rfl, rfl, g0, sz' (by omega), ?_⟩
      refine ⟨_, rfl, _, _, rfl, rfl, ?_⟩
      refine ⟨es ++ [.ref t2], n' + 1, _, _, d' ++ [(n', (sg.1, b.1, sg.2, b.2.1))], rfl, g1.same sm3 nbk, g2, ?_, by rw [List.length_append, List.length_singleton]; omega, by omega, ?_⟩
      · rw [List.map_append]
        exact DtAll.app (de.keep (keep_trans (keepS smt) g4)) (DtAll.one (E_dt g3 (dq.keep g4)))
      · rw [inv', drop_at hs, bank_cons, List.append_assoc]
        rfl
    · rintro σ'' H'' ⟨es, n', y7, y8, d', rfl, sm, hbk, de, le, hn', inv'⟩
      have e0 : bankM b.1 b.2.1 n' [] = [] := rfl
      rw [List.drop_eq_nil_of_le (by omega), e0, List.append_nil] at inv'
      have ho3 := sm _ _ ho'
      refine ⟨.ref o, rfl, .inl ⟨rfl, _, SqL.of ho3⟩, .ref bk, rfl, o, zs, .ref bk, rfl, rfl, ho3, sz' (by omega), ?_⟩
      refine ⟨zs ++ [.ref bk], n', _, _, _, _, _, _, done ++ [d'], rfl, (fr.trans (.of sm)).trans .put, upd_same, ?_, by rw [List.length_append, List.length_singleton, lz], ?_⟩
      · refine Bks.snoc (bz.mono (fun _ h => h) (fun a es na ea => by rw [upd_ne na]; exact sm _ _ ea) (keep_trans (keepS sm) (keep_lst ho3))) ⟨bk, es, rfl, nbo, by rw [upd_ne nbo]; exact hbk, de.keep (keep_lst ho3)⟩
      · rw [inv, drop_at hb, banks_cons, inv', hn', lws, List.append_assoc]
        rfl
  · rintro σ' H' ⟨zs, n, y3, y4, y5, y6, y7, y8, done, rfl, fr, ho', bz, lz, inv⟩
    rw [List.drop_eq_nil_of_le (by omega)] at inv
    have e0 : banksM n [] = [] := rfl
    rw [e0, List.append_nil] at inv
    rw [← inv] at bz
    exact ⟨.ref o, rfl, q o H' zs (fr.same sm1 no) no ho' (bz.mono (fun _ _ => trivial) (fun _ _ _ h => h) (keep_refl _))⟩
abbrev s_root : Stmt := topS 34
abbrev N_root : List Str := ["heads", "number"]
theorem sc_root : FnScope N_root ["heads", "number"] (C8.fnScope s_root) := C8.fnScope_by (by decide +kernel)
def nV (n : Nat) : V := .int (n : Int)
def sp_root : Sp := fun vs H Q _ => ∃ (a : Addr) (h : List Nat) (n : Nat), vs = [.ref a, nV n] ∧ H a = some (.lst (h.map nV)) ∧ HdOk h ∧ n < h.length ∧ Q (nV (rootF h n)) H
theorem cal_root (T : Txt mg) (D : Here K mg "root" s_root ["heads", "number"]) : C8.Cal P w K mg base 1 "root" sp_root [] := by
  refine D.cal sc_root (fun vs H Q E h => ?_) fun f cdv A outer s H vs Q E hr h => ?_
  · obtain ⟨a, h, n, rfl, _⟩ := h
    rfl
  obtain ⟨a, h, n, rfl, ha, ok, hn, q⟩ := h
  have sc := sc_root
  refine ⟨_, (C8.pss_cut (ps_while PassesOwn.never (pt_cmpR op_ne (pe_ix (ixL (K := K) rfl) (pv 0) (pv 1) (fun _ _ => rfl)) (pv 1) (nomark _)) (pss_one (ps_set (i := 1) sc.nd rfl (Or.inl rfl) (pe_ix (ixL (K := K) rfl) (pv 0) (pv 1) (fun _ _ => rfl)))))
      (pss_one (ps_ret (pv 1)))), ?_⟩
  refine ⟨fun σ' H' => σ' = [some (.ref a), some (nV (rootF h n))] ∧ H' = H, ⟨fun m σ' H' => ∃ k, m = k ∧ σ' = [some (.ref a), some (nV k)] ∧ H' = H ∧ k < h.length ∧ rootF h k = rootF h n, ⟨n, n, rfl, rfl, rfl, hn, rfl⟩, ?_⟩, ?_⟩
  · rintro m σ' H' ⟨k, rfl, rfl, rfl, lk, e⟩
    have hk : h[m]? = some (h[m]'lk) := List.getElem?_eq_getElem lk
    generalize h[m]'lk = j at hk
    have hv : (h.map nV)[m]? = some (nV j) := by rw [List.getElem?_map, hk]; rfl
    have le := ok m j hk
    refine ⟨.ref a, rfl, nV m, rfl, a, _, (m : Int), nV j, rfl, rfl, SqL.of ha, atI_nat hv, nV m, rfl, rfl, ?_⟩
    by_cases c : j = m
    · refine ⟨false, ?_, iteF ?_⟩
      · rw [c, decide_eq_true rfl]
        rfl
      · rw [c] at hk
        rw [rootF_fix hk] at e
        rw [e]
        exact ⟨rfl, rfl⟩
    · refine ⟨true, ?_, iteT ?_⟩
      · rw [decide_eq_false (fun h => c (by have := V.int.inj h; omega))]
        rfl
      · refine ⟨fun σ2 H2 => σ2 = [some (.ref a), some (nV j)] ∧ H2 = H', ?_, ?_⟩
        · rintro σ2 H2 ⟨rfl, rfl⟩
          exact ⟨j, by omega, j, rfl, rfl, rfl, by omega, by rw [← e, rootF_step hk (by omega)]⟩
        · exact ⟨.ref a, rfl, nV m, rfl, a, _, (m : Int), nV j, rfl, rfl, SqL.of ha, atI_nat hv, rfl, rfl⟩
  · rintro σ' H' ⟨rfl, rfl⟩
    exact ⟨_, rfl, q⟩
abbrev s_touching : Stmt := topS 35
abbrev N_touching : List Str := ["above", "below", "found", "one", "left", "other", "right"]
theorem sc_touching : FnScope N_touching ["above", "below"] (C8.fnScope s_touching) := C8.fnScope_by (by decide +kernel)
def sp_touching : Sp := fun vs H Q _ => ∃ (a b : Addr) (xs ys : List V) (A B : List (Nat × Rc)), vs = [.ref a, .ref b] ∧ H a = some (.lst xs) ∧ DtAll H xs (A.map dE) ∧ H b = some (.lst ys) ∧ DtAll H ys (B.map dE) ∧ A.length ≤ 600 ∧ B.length ≤ 600 ∧
  ∀ (p : Addr) (H' : Hp) (zs : List V), L2.Same H H' → H p = none → H' p = some (.lst zs) → DtAll H' zs ((touchM A B).map dN) → Q (.ref p) H'
theorem cal_touching (T : Txt mg) (c_touches : C8.Cal P w K mg base 1 "touches" sp_touches []) (D : Here K mg "touching" s_touching ["above", "below"]) : C8.Cal P w K mg base 2 "touching" sp_touching [] := by
  refine D.cal sc_touching (fun vs H Q E h => ?_) fun f cdv A outer s H vs Q E hr h => ?_
  · obtain ⟨a, b, xs, ys, A, B, rfl, _⟩ := h
    rfl
  obtain ⟨a, b, xs, ys, LA, LB, rfl, ha, dx, hb, dy, nA, nB, q⟩ := h
  have sc := sc_touching
  refine ⟨_, (pss_cons (ps_set (i := 2) sc.nd rfl (Or.inl rfl) (pe_lst pa_nil))
      (pss_cons (ps_for PassesOwn.never rfl (pi_list (pv 0)) (pgT (K := K) (n := 2) rfl rfl (pgs_cons (pg_name (i := 3) sc.nd rfl (Or.inr rfl)) (pgs_cons (pg_name (i := 4) sc.nd rfl (Or.inr rfl)) pgs_nil))) (pss_one (ps_expr (pe_bm PySem.F.plainAttrs_list PySem.F.slot_list_extend PySem.F.type_list_extend mt_extend (pv 2) (pa_cons (pe_lc rfl sc.nd (pi_list (pv 1)) (blkOk_by (own := [("other", 5), ("right", 6)]) (N := N_touching) (sc := C8.fnScope s_touching) (by decide +kernel)) (fun _ _ _ _ _ => (pgT (K := K) (n := 2) rfl rfl (pgs_cons (pg_name (i := 5) sc.nd rfl (Or.inl rfl)) (pgs_cons (pg_name (i := 6) sc.nd rfl (Or.inl rfl)) pgs_nil)))) (fun _ _ _ _ _ => (pts_one (pt_val (C8.pe_c c_touches hr (by decide) (by rfl) (pa_cons (pv 4) (pa_cons (pv 6) pa_nil)))))) (fun _ _ _ _ _ => (pe_tup (pa_cons (pv 3) (pa_cons (pv 5) pa_nil))))) pa_nil)))))
      (pss_one (ps_ret (pv 2))))), ?_⟩
  refine ⟨Nat.zero_le _, fun o no => ?_⟩
  have sm1 := same_new (o := .lst []) no
  have ho1 : (upd H o (.lst [])) o = some (.lst []) := upd_same
  have ha1 := sm1 _ _ ha
  have hb1 := sm1 _ _ hb
  have dx1 := dx.keep (keepS sm1)
  have dy1 := dy.keep (keepS sm1)
  have nao : a ≠ o := ne_of_none ha no
  have nbo : b ≠ o := ne_of_none hb no
  generalize upd H o (.lst []) = H1 at *
  have lx : xs.length = LA.length := by rw [DtAll.len dx, List.length_map]
  refine ⟨.ref a, rfl, a, rfl, ⟨xs, SqL.of ha1⟩, for_list (K := K) (a := a) (xs := xs) (fun i σ' H' => ∃ (zs : List V) (y3 y4 : Option V), σ' = [some (.ref a), some (.ref b), some (.ref o), y3, y4, none, none] ∧ Fr o H1 H' ∧ H' o = some (.lst zs) ∧ DtAll H' zs ((touchM (LA.take i) LB).map dN) ∧ zs.length ≤ i * 600) ?_ ?_ ?_ ?_⟩
  · exact ⟨[], none, none, rfl, Fr.refl, ho1, .nil, Nat.zero_le _⟩
  · rintro i σ' H' _ ⟨zs, y3, y4, rfl, fr, _⟩
    exact SqL.of (fr.l nao ha1)
  · rintro i x σ' H' hi ⟨zs, y3, y4, rfl, fr, ho', dz, lz⟩
    obtain ⟨e, he, de⟩ := DtAll.at (dx1.keep (fr.keep ho1)) hi
    obtain ⟨pe, we, rfl, hpe, dwe⟩ := dt_E de
    have li := (List.getElem?_eq_some_iff.mp he).1
    have hb' := fr.l nbo hb1
    have dy' := dy1.keep (fr.keep ho1)
    refine ⟨pe, _, rfl, SqT.of hpe, rfl, _, _, rfl, _, _, rfl, rfl, ?_⟩
    refine ⟨.ref o, rfl, .inl ⟨rfl, _, SqL.of ho'⟩, .ref b, rfl, b, rfl, ⟨ys, SqL.of hb'⟩, lcD_list (p := fun d : Nat × Rc => touB e.2 d.2) (f := fun d : Nat × Rc => (e.1, d.1)) (encB := dN) hb' dy' (by omega) (fun j x d H'' R N hj hd sm ky kn => ?_) fun p2 H2 ws sm2 np2 hp2 dw => ?_⟩
    · obtain ⟨pd, wd, rfl, hpd, dwd⟩ := dt_E hd
      refine ⟨pd, _, rfl, SqT.of hpd, rfl, _, _, rfl, _, _, rfl, rfl, rfl, we, rfl, wd, rfl, we, wd, e.2, d.2, rfl, dwe.keep (keepS sm), dwd, touB e.2 d.2, rfl, ?_⟩
      cases ht : touB e.2 d.2 with
      | true => exact iteT ⟨_, rfl, _, rfl, by show 2 ≤ sizeLine; decide, fun t nt => ky ht _ _ (same_new nt) (N_dt (a := e.1) (b := d.1) upd_same)⟩
      | false => exact iteF (kn ht _ (.refl _))
    have lw : ws.length ≤ 600 := by
      rw [DtAll.len dw, List.length_map, List.length_map]
      exact Nat.le_trans (List.length_filter_le _ _) nB
    have ho2 := sm2 _ _ ho'
    have k1 : (i + 1) * 600 = i * 600 + 600 := by omega
    refine ⟨o, p2, zs, ws, rfl, rfl, ho2, hp2, sz (by omega), ?_⟩
    refine ⟨zs ++ ws, _, _, rfl, (fr.trans (.of sm2)).trans .put, upd_same, ?_, by rw [List.length_append]; omega⟩
    have e1 : touchM (LA.take (i + 1)) LB = touchM (LA.take i) LB ++ (LB.filter fun d => touB e.2 d.2).map fun d => (e.1, d.1) := by
      unfold touchM
      rw [take_succ_flat he]
    rw [e1, List.map_append]
    exact DtAll.app (dz.keep (keep_trans (keepS sm2) (keep_lst ho2))) (dw.keep (keep_lst ho2))
  · rintro σ' H' ⟨zs, y3, y4, rfl, fr, ho', dz, lz⟩
    rw [lx, List.take_length] at dz
    exact ⟨.ref o, rfl, q o H' zs (fr.same sm1 no) no ho' dz⟩
end
end Mw

-- W12
namespace Mw
open PySem PySem.Spec PyProof.Rows L2 MkR Mk
theorem lcG_list {K : PySem.W.Frag} {α β : Type} {E : Hp → V → α → Prop} {encB : β → PyData} {l : List α} {f : α → β} {a : Addr} {xs : List V} {g : TG} {te : TE} {vs : List Nat} {σ : L2.St} {H1 : Hp} {Q : Addr → Hp → Prop}
    (hx : H1 a = some (.lst xs)) (lx : xs.length = l.length) (hn : l.length ≤ 1000000)
    (hs : ∀ (i : Nat) (x : V) (s : α) (H' : Hp) (R : VK), xs[i]? = some x → l[i]? = some s → L2.Same H1 H' → (∀ y H4, L2.Same H' H4 → Dt H4 y (encB (f s)) → R y H4) → g x (wipe σ vs) H' fun σ2 H2 => wipe σ2 vs = wipe σ vs ∧ te σ2 H2 R)
    (hq : LcPost H1 ((l.map f).map encB) Q) :
    ∀ D, H1 D = none → ∃ W : Nat → Nat → Hp → Prop, (∃ m, W 0 m (upd H1 D (.lst []))) ∧ ∀ i m H, W i m H →
      ((Itl K a).stop i H ∧ Q D H) ∨ ((Itl K a).go i H ∧ ∃ Nx : Hp → Prop, (∀ H', Nx H' → ∃ m', m' < m ∧ W (i + 1) m' H') ∧ ∀ x H', (Itl K a).yld i H x H' → g x (wipe σ vs) H' fun σ2 H2 => wipe σ2 vs = wipe σ vs ∧ tYes σ2 H2 fun b H3 =>
        if b = true then te σ2 H3 fun y H4 => ∃ acc, H4 D = some (.lst acc) ∧ acc.length < sizeLine ∧ Nx (upd H4 D (.lst (acc ++ [y]))) else Nx H3) := fun D nD => by
  refine lc_list (xs := xs) (fun (i : Nat) H => L2.Same H1 H ∧ ∃ zs, H D = some (.lst zs) ∧ DtAll H zs (((l.take i).map f).map encB) ∧ zs.length ≤ i) ⟨same_new nD, [], upd_same, .nil, Nat.le_refl _⟩
    (fun i H' _ h => SqL.of (h.1 _ _ hx)) (fun i x H' hi h => ?_) fun H' h => ?_
  · obtain ⟨sm, ys, hD, hy, ly⟩ := h
    have li := (List.getElem?_eq_some_iff.mp hi).1
    have hs0 : l[i]? = some (l[i]'(by omega)) := List.getElem?_eq_getElem (by omega)
    generalize l[i]'(by omega) = s at hs0
    have key := hs i x s H' (fun y H4 => ∃ acc, H4 D = some (.lst acc) ∧ acc.length < sizeLine ∧ (fun (j : Nat) H => L2.Same H1 H ∧ ∃ zs, H D = some (.lst zs) ∧ DtAll H zs (((l.take j).map f).map encB) ∧ zs.length ≤ j) (i + 1) (upd H4 D (.lst (acc ++ [y])))) hi hs0 sm fun y H4 e4 d4 => ?_
    · exact key
    · refine ⟨ys, e4 D _ hD, sz' (by omega), same_mut (sm.trans e4) nD, _, upd_same, ?_, by rw [List.length_append, List.length_singleton]; omega⟩
      rw [take_succ_map hs0, List.map_append]
      exact DtAll.app (hy.keep (keep_trans (keepS e4) (keep_lst (e4 D _ hD)))) (DtAll.one (d4.keep (keep_lst (e4 D _ hD))))
  · obtain ⟨sm, ys, hD, hy, _⟩ := h
    rw [lx, List.take_length] at hy
    exact hq D H' ys sm nD hD hy
theorem bankM_len {lo hi : Int} : ∀ {l : Ln} {n : Nat}, (bankM lo hi n l).length = l.length
  | [], _ => rfl
  | s :: l, n => by rw [bank_cons, List.length_cons, bankM_len, List.length_cons]
theorem banksM_get : ∀ {r : Rg} {n i : Nat} {A : List (Nat × Rc)}, (banksM n r)[i]? = some A → ∃ b ∈ r, A.length = b.2.2.length
  | [], _, _, _, h => by simp [banksM] at h
  | b :: r, n, i, A, h => by
    rw [banks_cons] at h
    cases i with
    | zero =>
      cases h
      exact ⟨b, List.mem_cons_self, bankM_len⟩
    | succ i =>
      obtain ⟨c, hc, e⟩ := banksM_get (r := r) h
      exact ⟨c, List.mem_cons_of_mem _ hc, e⟩
theorem banksM_len : ∀ {r : Rg} {n : Nat}, (banksM n r).length = r.length
  | [], _ => rfl
  | b :: r, n => by rw [banks_cons, List.length_cons, banksM_len, List.length_cons]
theorem banksM_sum : ∀ {r : Rg} {n : Nat}, ((banksM n r).map fun A => (A.length : Int)).sum = ((rectsM r).length : Int)
  | [], _ => rfl
  | b :: r, n => by
    rw [banks_cons, List.map_cons, List.sum_cons, banksM_sum, bankM_len, rectsM_cons, List.length_append, rectsB_len]
    omega
theorem banksM_flat_len : ∀ {r : Rg} {n : Nat}, (banksM n r).flatten.length = (rectsM r).length
  | [], _ => rfl
  | b :: r, n => by
    rw [banks_cons, List.flatten_cons, List.length_append, banksM_flat_len, bankM_len, rectsM_cons, List.length_append, rectsB_len]
theorem rg_nV (n : Nat) : rgV 0 (n : Int) = (List.range n).map nV := by
  unfold rgV
  rw [show ((n : Int) - 0).toNat = n by omega]
  refine List.map_congr_left fun i _ => ?_
  rw [Int.zero_add]
  rfl
theorem hd_prefix {n : Nat} {ps : List (Nat × Nat)} (h : ∀ p ∈ ps, p.1 < n ∧ p.2 < n) : (ps.foldl ustep (List.range n)).length = n ∧ HdOk (ps.foldl ustep (List.range n)) := by
  obtain ⟨a, b⟩ := uf_fold (n := n) (ps := ps) List.length_range (uf_zero n) (fun _ _ e => e.elim) h
  exact ⟨a, b.ok⟩
theorem nV_min {a b : Nat} : V.int (if (b : Int) < (a : Int) then (b : Int) else (a : Int)) = nV (if b < a then b else a) := by
  by_cases c : b < a
  · rw [if_pos c, if_pos (by omega)]
    rfl
  · rw [if_neg c, if_neg (by omega)]
    rfl
theorem ixN_max {a b n : Nat} (h1 : a < n) (h2 : b < n) : ixN n (if (b : Int) > (a : Int) then (b : Int) else (a : Int)) = some (if b > a then b else a) := by
  by_cases c : b > a
  · rw [if_pos c, if_pos (by omega)]
    exact ix_nat h2
  · rw [if_neg c, if_neg (by omega)]
    exact ix_nat h1
theorem pair_set {h : List Nat} {p : Nat × Nat} : (h.map nV).set (if rootF h p.2 > rootF h p.1 then rootF h p.2 else rootF h p.1) (nV (if rootF h p.2 < rootF h p.1 then rootF h p.2 else rootF h p.1)) = (ustep h p).map nV := by
  unfold ustep
  rw [List.map_set]

/-! ### groups in the heap -/
theorem valV_at {kvs : List (Key × V)} {k : Key} {v : V} (h : valV kvs k = some v) : ∃ i : Nat, kvs[i]? = some (k, v) := by
  unfold valV at h
  cases e : kvs.find? fun kv => decide (kv.1 = k) with
  | none => rw [e] at h; cases h
  | some p =>
    rw [e] at h
    cases h
    obtain ⟨i, hi, ei⟩ := List.getElem_of_mem (List.mem_of_find?_eq_some e)
    have k1 : p.1 = k := of_decide_eq_true (List.find?_some (p := fun kv : Key × V => decide (kv.1 = k)) e)
    exact ⟨i, by rw [List.getElem?_eq_getElem hi, ei, ← k1]⟩
structure GIn (HB : Hp) (fd : Addr) (H : Hp) (g : Gr) : Prop where
  sm : L2.Same HB H
  nf : HB fd = none
  ex : ∃ kvs : List (Key × V), H fd = some (.dK kvs) ∧ kvs.map (·.1) = g.map (fun p => (Sum.inl (p.1 : Int) : Key)) ∧
    (∀ (i : Nat) (kv : Key × V) (e : Nat × List Rc), kvs[i]? = some kv → g[i]? = some e → ∃ a es, kv.2 = .ref a ∧ H a = some (.lst es) ∧ DtAll H es (e.2.map dQ) ∧ HB a = none) ∧
    ∀ (i j : Nat) (kv kv' : Key × V), kvs[i]? = some kv → kvs[j]? = some kv' → kv.2 = kv'.2 → i = j
theorem gkey {kvs : List (Key × V)} {g : Gr} (h : kvs.map (·.1) = g.map (fun p => (Sum.inl (p.1 : Int) : Key))) {i : Nat} {kv : Key × V} (hi : kvs[i]? = some kv) : ∃ e, g[i]? = some e ∧ kv.1 = .inl (e.1 : Int) := by
  have : (kvs.map (·.1))[i]? = some kv.1 := by rw [List.getElem?_map, hi]; rfl
  rw [h, List.getElem?_map] at this
  cases e : g[i]? with
  | none => rw [e] at this; cases this
  | some e' =>
    rw [e] at this
    exact ⟨e', rfl, (Option.some.inj this).symm⟩
theorem gstep_len (f : Nat → Nat) (g : Gr) (e : Nat × Rc) : (gstep f g e).length ≤ g.length + 1 := by
  unfold gstep
  split
  · rw [List.length_map]
    omega
  · rw [List.length_append, List.length_singleton]
    omega
theorem gfold_len (f : Nat → Nat) : ∀ (ns : List (Nat × Rc)) (g : Gr), (ns.foldl (gstep f) g).length ≤ g.length + ns.length
  | [], g => Nat.le_refl _
  | e :: ns, g => by
    have := gfold_len f ns (gstep f g e)
    have := gstep_len f g e
    rw [List.foldl_cons, List.length_cons]
    omega
theorem nd_at {α : Type} {l : List α} {i j : Nat} {a : α} (h : l.Nodup) (hi : l[i]? = some a) (hj : l[j]? = some a) : i = j := nodup_at h hi hj
/-- the group is there: a list grows -/
theorem GIn.old {HB H : Hp} {fd : Addr} {f : Nat → Nat} {g : Gr} {ns : List (Nat × Rc)} (G : GIn HB fd H g) (ok : GOk f ns g) {kvs : List (Key × V)} (hk : H fd = some (.dK kvs)) {e : Nat × Rc} {v w : V} (hv : valV kvs (.inl (f e.1 : Int)) = some v) (dw : Dt H w (dQ e.2)) :
    ∃ a es, v = .ref a ∧ H a = some (.lst es) ∧ HB a = none ∧ es.length ≤ ns.length ∧ GIn HB fd (upd H a (.lst (es ++ [w]))) (gstep f g e) := by
  obtain ⟨kvs', hk', keys, lists, inj⟩ := G.ex
  rw [hk] at hk'
  cases hk'
  obtain ⟨i0, hi0⟩ := valV_at hv
  obtain ⟨e0, he0, k0⟩ := gkey keys hi0
  obtain ⟨a, es, rfl, ha, da, na⟩ := lists i0 _ e0 hi0 he0
  have key0 : e0.1 = f e.1 := by
    have := Sum.inl.inj k0
    omega
  have lt0 : es.length ≤ ns.length := by
    rw [DtAll.len da, List.length_map, (ok.all e0 (List.mem_of_getElem? he0)).1, List.length_map]
    exact List.length_filter_le _ _
  refine ⟨a, es, rfl, ha, na, lt0, same_mut G.sm na, G.nf, kvs, by rw [upd_ne (ne_of hk ha (by intro q; cases q))]; exact hk, ?_, fun i kv e' hi he' => ?_, inj⟩
  · rw [keys]
    unfold gstep
    rw [if_pos (List.any_eq_true.mpr ⟨e0, List.mem_of_getElem? he0, decide_eq_true key0⟩), List.map_map]
    refine List.map_congr_left fun p _ => ?_
    show _ = (Sum.inl (((if p.1 = f e.1 then (p.1, p.2 ++ [e.2]) else p).1 : Nat) : Int) : Key)
    by_cases c : p.1 = f e.1
    · rw [if_pos c]
    · rw [if_neg c]
  · unfold gstep at he'
    rw [if_pos (List.any_eq_true.mpr ⟨e0, List.mem_of_getElem? he0, decide_eq_true key0⟩), List.getElem?_map] at he'
    cases e1 : g[i]? with
    | none => rw [e1] at he'; cases he'
    | some p =>
      rw [e1] at he'
      cases he'
      obtain ⟨b, fs, hb, hb', db, nb⟩ := lists i kv p hi e1
      by_cases c : p.1 = f e.1
      · have : i = i0 := by
          refine nd_at ok.nd (a := p.1) (by rw [List.getElem?_map, e1]; rfl) (by rw [List.getElem?_map, he0, Option.map_some, key0, c])
        subst this
        rw [hi0] at hi
        cases hi
        cases hb
        rw [he0] at e1
        cases e1
        rw [ha] at hb'
        cases hb'
        refine ⟨a, es ++ [w], rfl, upd_same, ?_, na⟩
        simp only [if_pos c]
        show DtAll _ _ ((e0.2 ++ [e.2]).map dQ)
        rw [List.map_append]
        exact DtAll.app (da.keep (keep_lst ha)) (DtAll.one (dw.keep (keep_lst ha)))
      · refine ⟨b, fs, hb, ?_, ?_, nb⟩
        · rw [upd_ne fun q => ?_]
          · exact hb'
          · have : i = i0 := inj i i0 kv _ hi hi0 (by rw [hb, q])
            subst this
            rw [he0] at e1
            cases e1
            exact c key0
        · simp only [if_neg c]
          exact db.keep (keep_lst ha)
/-- the group is new -/
theorem GIn.new {HB H : Hp} {fd z : Addr} {f : Nat → Nat} {g : Gr} (G : GIn HB fd H g) {kvs : List (Key × V)} (hk : H fd = some (.dK kvs)) {e : Nat × Rc} {w : V} (hv : valV kvs (.inl (f e.1 : Int)) = none) (dw : Dt H w (dQ e.2)) (nz : H z = none) :
    GIn HB fd (upd (upd (upd H z (.lst [])) fd (.dK (putK kvs (.inl (f e.1 : Int)) (.ref z)))) z (.lst ([] ++ [w]))) (gstep f g e) := by
  obtain ⟨kvs', hk', keys, lists, inj⟩ := G.ex
  rw [hk] at hk'
  cases hk'
  have nzf : z ≠ fd := fun q => by rw [q, hk] at nz; cases nz
  have nB : HB z = none := G.sm.free nz
  have hz1 : (upd (upd H z (.lst [])) fd (.dK (putK kvs (.inl (f e.1 : Int)) (.ref z)))) z = some (.lst []) := by
    rw [upd_ne nzf]
    exact upd_same
  have hfd1 : (upd H z (.lst [])) fd = some (.dK kvs) := same_new nz _ _ hk
  have kp : Keep H (upd (upd (upd H z (.lst [])) fd (.dK (putK kvs (.inl (f e.1 : Int)) (.ref z)))) z (.lst ([] ++ [w]))) := keep_trans (keep_trans (keep_new nz) (keep_dK hfd1)) (keep_lst hz1)
  have any0 : ¬ (g.any (fun p => decide (p.1 = f e.1)) = true) := fun q => by
    obtain ⟨p, hp, cp⟩ := List.any_eq_true.mp q
    obtain ⟨i, hi, ei⟩ := List.getElem_of_mem hp
    have hg : (g.map (fun p => (Sum.inl (p.1 : Int) : Key)))[i]? = some (.inl (f e.1 : Int)) := by
      rw [List.getElem?_map, List.getElem?_eq_getElem hi, ei, ← of_decide_eq_true cp]
      rfl
    rw [← keys, List.getElem?_map] at hg
    cases e1 : kvs[i]? with
    | none => rw [e1] at hg; cases hg
    | some kv =>
      rw [e1] at hg
      have : (kvs.any fun kv => decide (kv.1 = (.inl (f e.1 : Int) : Key))) = true := List.any_eq_true.mpr ⟨kv, List.mem_of_getElem? e1, decide_eq_true (Option.some.inj hg)⟩
      rw [valV_any, hv] at this
      cases this
  have lk : kvs.length = g.length := by
    have := congrArg List.length keys
    rwa [List.length_map, List.length_map] at this
  refine ⟨same_mut (same_mut (G.sm.trans (same_new nz)) G.nf) nB, G.nf, kvs ++ [(.inl (f e.1 : Int), .ref z)], ?_, ?_, fun i kv e' hi he' => ?_, fun i j kv kv' hi hj q => ?_⟩
  · rw [upd_ne nzf.symm, upd_same, putK_new _ hv]
  · unfold gstep
    rw [if_neg any0, List.map_append, List.map_append, keys]
    rfl
  · unfold gstep at he'
    rw [if_neg any0] at he'
    rcases Nat.lt_trichotomy i kvs.length with c | c | c
    · rw [List.getElem?_append_left c] at hi
      rw [List.getElem?_append_left (by rw [← lk]; exact c)] at he'
      obtain ⟨b, fs, hb, hb', db, nb⟩ := lists i kv e' hi he'
      refine ⟨b, fs, hb, ?_, db.keep kp, nb⟩
      have nbz : b ≠ z := fun q => by rw [q, nz] at hb'; cases hb'
      rw [upd_ne nbz, upd_ne (ne_of hb' hk (by intro q; cases q)), upd_ne nbz]
      exact hb'
    · subst c
      rw [List.getElem?_append_right (Nat.le_refl _), Nat.sub_self] at hi
      rw [lk, List.getElem?_append_right (Nat.le_refl _), Nat.sub_self] at he'
      cases hi
      cases he'
      exact ⟨z, [] ++ [w], rfl, upd_same, DtAll.one (dw.keep kp), nB⟩
    · have := (List.getElem?_eq_some_iff.mp hi).1
      rw [List.length_append, List.length_singleton] at this
      omega
  · have old : ∀ (i : Nat) (kv : Key × V), kvs[i]? = some kv → kv.2 ≠ .ref z := fun i kv hi q => by
      obtain ⟨e', he', _⟩ := gkey keys hi
      obtain ⟨b, fs, hb, hb', _⟩ := lists i kv e' hi he'
      rw [q] at hb
      cases hb
      rw [nz] at hb'
      cases hb'
    have at' : ∀ (i : Nat) (kv : Key × V), (kvs ++ [((.inl (f e.1 : Int) : Key), V.ref z)])[i]? = some kv → (kvs[i]? = some kv ∧ i < kvs.length) ∨ (i = kvs.length ∧ kv.2 = .ref z) := fun i kv hi => by
      rcases Nat.lt_trichotomy i kvs.length with c | c | c
      · rw [List.getElem?_append_left c] at hi
        exact .inl ⟨hi, c⟩
      · subst c
        rw [List.getElem?_append_right (Nat.le_refl _), Nat.sub_self] at hi
        cases hi
        exact .inr ⟨rfl, rfl⟩
      · have := (List.getElem?_eq_some_iff.mp hi).1
        rw [List.length_append, List.length_singleton] at this
        omega
    rcases at' i kv hi with ⟨h1, l1⟩ | ⟨h1, l1⟩
    · rcases at' j kv' hj with ⟨h2, l2⟩ | ⟨h2, l2⟩
      · exact inj i j kv kv' h1 h2 q
      · exact (old i kv h1 (q.trans l2)).elim
    · rcases at' j kv' hj with ⟨h2, l2⟩ | ⟨h2, l2⟩
      · exact (old j kv' h2 (q.symm.trans l1)).elim
      · rw [h1, h2]
end Mw

-- W13
namespace Mw
open PySem PySem.Spec PyProof.Rows L2 MkR Mk
theorem IsReg.eq {q : List Rc} {r r' : Rg} (h : IsReg q r) (k : IsReg q r') : r = r' := h.ok.ext k.ok fun x y => by rw [h.mem, k.mem]
noncomputable def regE (q : List Rc) : Rg := Classical.epsilon (IsReg q)
theorem IsReg.regE {q : List Rc} {r : Rg} (h : IsReg q r) : regE q = r := IsReg.eq (Classical.epsilon_spec ⟨r, h⟩) h
theorem IsReg.at {q : List Rc} {r : Rg} (h : IsReg q r) : IsReg q (Mw.regE q) := Classical.epsilon_spec ⟨r, h⟩
theorem sorted_ins : ∀ {cuts : List Int} (a : Int), cuts.Pairwise (· < ·) → ∃ c' : List Int, c'.Pairwise (· < ·) ∧ ∀ c, c ∈ c' ↔ c = a ∨ c ∈ cuts
  | [], a, _ => ⟨[a], List.pairwise_singleton _ _, fun c => by simp⟩
  | b :: t, a, h => by
    obtain ⟨h1, h2⟩ := List.pairwise_cons.mp h
    rcases Int.lt_trichotomy a b with k | k | k
    · refine ⟨a :: b :: t, List.pairwise_cons.mpr ⟨fun c hc => ?_, h⟩, fun c => List.mem_cons⟩
      rcases List.mem_cons.mp hc with rfl | hc
      · exact k
      · have := h1 c hc
        omega
    · subst k
      exact ⟨a :: t, h, fun c => by simp⟩
    · obtain ⟨c', p, m⟩ := sorted_ins a h2
      refine ⟨b :: c', List.pairwise_cons.mpr ⟨fun c hc => ?_, p⟩, fun c => ?_⟩
      · rcases (m c).mp hc with rfl | hc
        · exact k
        · exact h1 c hc
      · rw [List.mem_cons, m, List.mem_cons]
        constructor
        · rintro (h | h | h)
          · exact .inr (.inl h)
          · exact .inl h
          · exact .inr (.inr h)
        · rintro (h | h | h)
          · exact .inr (.inl h)
          · exact .inl h
          · exact .inr (.inr h)
theorem sorted_ex : ∀ ns : List Int, ∃ cuts : List Int, cuts.Pairwise (· < ·) ∧ ∀ c, c ∈ cuts ↔ c ∈ ns
  | [] => ⟨[], List.Pairwise.nil, fun c => Iff.rfl⟩
  | a :: ns => by
    obtain ⟨c, p, m⟩ := sorted_ex ns
    obtain ⟨c', p', m'⟩ := sorted_ins a p
    exact ⟨c', p', fun x => by rw [m', m, List.mem_cons]⟩
theorem reg_ex {rects : List Rc} (v : ∀ q ∈ rects, RcOk q) : ∃ r, IsReg rects r := by
  obtain ⟨cuts, hpw, hm⟩ := sorted_ex ((rects.map fun q : Rc => q.2.1) ++ (rects.map fun q : Rc => q.2.2.2))
  have hmem : ∀ c, c ∈ cuts ↔ ∃ q ∈ rects, c = q.2.1 ∨ c = q.2.2.2 := fun c => by
    rw [hm, List.mem_append, List.mem_map, List.mem_map]
    constructor
    · rintro (⟨q0, h0, rfl⟩ | ⟨q0, h0, rfl⟩)
      · exact ⟨q0, h0, .inl rfl⟩
      · exact ⟨q0, h0, .inr rfl⟩
    · rintro ⟨q0, h0, rfl | rfl⟩
      · exact .inl ⟨q0, h0, rfl⟩
      · exact .inr ⟨q0, h0, rfl⟩
  obtain ⟨r1, r2, r3⟩ := region_ok (rects := rects) (cuts := cuts) (f := lineAt rects) v hpw hmem fun k _ => lineAt_ok v k
  exact ⟨_, r1, r2, r3⟩
def grp (g : Gr) (k : Int) : List Rc := ((g.find? fun p => decide ((p.1 : Int) = k)).map (·.2)).getD []
theorem grp_at {g : Gr} (nd : (g.map (·.1)).Nodup) {e : Nat × List Rc} (he : e ∈ g) : grp g (e.1 : Int) = e.2 := by
  unfold grp
  cases h : g.find? fun p => decide ((p.1 : Int) = (e.1 : Int)) with
  | none =>
    have := List.find?_eq_none.mp h e he
    simp at this
  | some p =>
    have hp := List.mem_of_find?_eq_some h
    have k1 : (p.1 : Int) = (e.1 : Int) := of_decide_eq_true (List.find?_some (p := fun p : Nat × List Rc => decide ((p.1 : Int) = (e.1 : Int))) h)
    have k2 : p.1 = e.1 := by omega
    obtain ⟨i, hi, ei⟩ := List.getElem_of_mem hp
    obtain ⟨j, hj, ej⟩ := List.getElem_of_mem he
    have : i = j := nd_at nd (a := p.1) (by rw [List.getElem?_map, List.getElem?_eq_getElem hi, ei]; rfl) (by rw [List.getElem?_map, List.getElem?_eq_getElem hj, ej, k2]; rfl)
    subst this
    rw [ei] at ej
    rw [ej]
    rfl
def gAll (r : Rg) : Gr := ((banksM 0 r).flatten).foldl (gstep (rootF (headsM r))) []
theorem gAll_ok (r : Rg) : GOk (rootF (headsM r)) ((banksM 0 r).flatten) (gAll r) := by
  have := gfold_ok (ns := (banksM 0 r).flatten) (gok_nil (f := rootF (headsM r)))
  rw [List.nil_append] at this
  exact this
theorem gAll_sub {r : Rg} {e : Nat × List Rc} (he : e ∈ gAll r) : (∀ q ∈ e.2, q ∈ rectsM r) ∧ e.2.length ≤ (rectsM r).length := by
  have h := ((gAll_ok r).all e he).1
  refine ⟨fun q hq => ?_, ?_⟩
  · rw [h] at hq
    obtain ⟨n, hn, rfl⟩ := List.mem_map.mp hq
    obtain ⟨A, hA, hnA⟩ := List.mem_flatten.mp (List.mem_filter.mp hn).1
    obtain ⟨i, _, e2⟩ := banksM_mem hA hnA
    exact List.mem_of_getElem? e2
  · rw [h, List.length_map]
    refine Nat.le_trans (List.length_filter_le _ _) ?_
    rw [banksM_flat_len]
    exact Nat.le_refl _
theorem take_flat_snoc {α : Type} {rows : List (List α)} {i : Nat} {A : List α} (h : rows[i]? = some A) : (rows.take (i + 1)).flatten = (rows.take i).flatten ++ A := by
  rw [List.take_add_one, h, Option.toList_some, List.flatten_append]
  show _ ++ (A ++ []) = _
  rw [List.append_nil]
theorem foldl_snoc {α β : Type} {f : β → α → β} {b : β} {l m : List α} {j : Nat} {a : α} (h : m[j]? = some a) : (l ++ m.take (j + 1)).foldl f b = f ((l ++ m.take j).foldl f b) a := by
  rw [List.take_add_one, h, Option.toList_some, ← List.append_assoc, List.foldl_append (l := l ++ m.take j)]
  rfl
theorem flat_pre_len {α : Type} {rows : List (List α)} {i : Nat} {A : List α} (h : rows[i]? = some A) {j : Nat} : ((rows.take i).flatten ++ A.take j).length ≤ rows.flatten.length := by
  have e : rows.flatten = (rows.take i).flatten ++ (A ++ (rows.drop (i + 1)).flatten) := by
    rw [← List.flatten_cons, ← drop_at h, ← List.flatten_append, List.take_append_drop]
  rw [e]
  simp only [List.length_append, List.length_take]
  omega
section
variable {P : Program} {w : World} {K : PySem.W.Frag} {mg : Str → Option Value} {base : Heap}
abbrev s_pieces : Stmt := topS 36
abbrev N_pieces : List Str := ["some", "rows", "heads", "above", "below", "one", "other", "left", "right", "found", "bank", "number", "rect", "head"]
theorem sc_pieces : FnScope N_pieces ["some"] (C8.fnScope s_pieces) := C8.fnScope_by (by decide +kernel)
def sp_pieces : Sp := fun vs H Q _ => ∃ (v : V) (r : Rg), vs = [v] ∧ Dt H v (dR r) ∧ ROK r ∧ SzR 600 r ∧
  ∀ (p : Addr) (H' : Hp) (xs : List V) (L : List Rg), L2.Same H H' → H p = none → H' p = some (.lst xs) → DtAll H' xs (L.map dR) → Pcs (inR r) L → L.length ≤ 360000 → (∀ R ∈ L, ∀ PX PY : Int → Prop, Crs r PX PY → Crs R PX PY) → Q (.ref p) H'
theorem cal_pieces (T : Txt mg) (c_banks : C8.Cal P w K mg base 1 "banks" sp_banks []) (c_touching : C8.Cal P w K mg base 2 "touching" sp_touching []) (c_root : C8.Cal P w K mg base 1 "root" sp_root []) (c_region : C8.Cal P w K mg base 2 "region" sp_region [])
    (D : Here K mg "pieces" s_pieces ["some"]) : C8.Cal P w K mg base 3 "pieces" sp_pieces [] := by
  refine D.cal sc_pieces (fun vs H Q E h => ?_) fun f cdv A outer s H vs Q E hr h => ?_
  · obtain ⟨v, r, rfl, _⟩ := h
    rfl
  obtain ⟨v, r, rfl, hv, ok, hz, q⟩ := h
  have sc := sc_pieces
  refine ⟨_, (pss_cons (ps_set (i := 1) sc.nd rfl (Or.inl rfl) (C8.pe_c c_banks hr (by decide) (by rfl) (pa_cons (pv 0) pa_nil)))
      (pss_cons (ps_set (i := 2) sc.nd rfl (Or.inl rfl) (pe_listRg rfl (by rfl) T.list (prg_1 (by rfl) T.range (pe_callB (cr_sum rfl) (by rfl) T.sum (by decide +kernel) (pa_cons (pe_lc rfl sc.nd (pi_list (pv 1)) (blkOk_by (own := [("bank", 10)]) (N := N_pieces) (sc := C8.fnScope s_pieces) (by decide +kernel)) (fun _ _ _ _ _ => (pg_name (i := 10) sc.nd rfl (Or.inl rfl))) (fun _ _ _ _ _ => pts_nil) (fun _ _ _ _ _ => (pe_callB (lenK (K := K) rfl) (by rfl) T.len (by decide +kernel) (pa_cons (pv 10) pa_nil)))) pa_nil)))))
      (pss_cons (ps_for PassesOwn.never rfl (pi_zip (by rfl) T.zip (pa_cons (pv 1) (pa_cons (pe_slice sl_list (pv 1) (po_some pe_int) po_none) pa_nil))) (pgT (K := K) (n := 2) rfl rfl (pgs_cons (pg_name (i := 3) sc.nd rfl (Or.inl rfl)) (pgs_cons (pg_name (i := 4) sc.nd rfl (Or.inl rfl)) pgs_nil))) (pss_one (ps_for PassesOwn.never rfl (pi_list (C8.pe_c c_touching hr (by decide) (by rfl) (pa_cons (pv 3) (pa_cons (pv 4) pa_nil)))) (pgT (K := K) (n := 2) rfl rfl (pgs_cons (pg_name (i := 5) sc.nd rfl (Or.inl rfl)) (pgs_cons (pg_name (i := 6) sc.nd rfl (Or.inl rfl)) pgs_nil))) (pss_cons (ps_par (i := 7) (j := 8) rfl sc.nd rfl rfl (by decide) rfl rfl (pa_cons (C8.pe_c c_root hr (by decide) (by rfl) (pa_cons (pv 2) (pa_cons (pv 5) pa_nil))) (pa_cons (C8.pe_c c_root hr (by decide) (by rfl) (pa_cons (pv 2) (pa_cons (pv 6) pa_nil))) pa_nil)) (by rfl))
      (pss_one (ps_asg (pe_callB (call_min2 rfl) (by rfl) T.min (by decide +kernel) (pa_cons (pv 7) (pa_cons (pv 8) pa_nil))) (pg_sub (pv 2) (pe_callB (call_max2 rfl) (by rfl) T.max (by decide +kernel) (pa_cons (pv 7) (pa_cons (pv 8) pa_nil))) set_list)))))))
      (pss_cons (ps_set (i := 9) sc.nd rfl (Or.inr rfl) pe_dnewK)
      (pss_cons (ps_for PassesOwn.never rfl (pi_list (pv 1)) (pg_name (i := 10) sc.nd rfl (Or.inl rfl)) (pss_one (ps_for PassesOwn.never rfl (pi_list (pv 10)) (pgT (K := K) (n := 2) rfl rfl (pgs_cons (pg_name (i := 11) sc.nd rfl (Or.inl rfl)) (pgs_cons (pg_name (i := 12) sc.nd rfl (Or.inl rfl)) pgs_nil))) (pss_one (ps_expr (pe_bm PySem.F.plainAttrs_list PySem.F.slot_list_append PySem.F.type_list_append mt_append (pe_dsetd (pv 9) (C8.pe_c c_root hr (by decide) (by rfl) (pa_cons (pv 2) (pa_cons (pv 11) pa_nil))) (pe_lst pa_nil) ⟨rfl, rfl, rfl, rfl⟩) (pa_cons (pv 12) pa_nil)))))))
      (pss_one (ps_ret (pe_lc rfl sc.nd (pi_list (pe_callB (cr_sortedDI rfl) (by rfl) T.sorted (by decide +kernel) (pa_cons (pv 9) pa_nil))) (blkOk_by (own := [("head", 13)]) (N := N_pieces) (sc := C8.fnScope s_pieces) (by decide +kernel)) (fun _ _ _ _ _ => (pg_name (i := 13) sc.nd rfl (Or.inl rfl))) (fun _ _ _ _ _ => pts_nil) (fun _ _ _ _ _ => (C8.pe_c c_region hr (by decide) (by rfl) (pa_cons (pe_dget (hu_of hr) (pv 9) (pv 13) (fun _ _ => rfl)) pa_nil))))))))))), ?_⟩
  obtain ⟨l1, l2, l3⟩ := SzR.sq hz ok (Nat.le_refl _)
  have rowl : ∀ (i : Nat) (A : List (Nat × Rc)), (banksM 0 r)[i]? = some A → A.length ≤ 600 := fun i A h => by
    obtain ⟨b, hb, e⟩ := banksM_get h
    rw [e]
    exact l2 b hb
  have rowsl : (banksM 0 r).length ≤ 600 := by rw [banksM_len]; exact l1
  refine ⟨v, rfl, v, r, rfl, hv, by omega, fun b hb => Nat.le_trans (l2 b hb) (by decide), fun p H1 xs sm1 np hp bks => ?_⟩
  have lxs := bks.1
  -- heads
  refine ⟨.ref p, rfl, p, rfl, ⟨xs, SqL.of hp⟩, lcG_list (E := fun _ _ (_ : List (Nat × Rc)) => True) (l := banksM 0 r) (f := fun A : List (Nat × Rc) => (A.length : Int)) (encB := PyData.int) hp lxs (by omega) (fun i x A H' R hx hA sm k => ?_) fun p2 H2 ys2 sm2 np2 hp2 d2 => ?_⟩
  · obtain ⟨a, es, rfl, _, ha, de⟩ := (bks.same sm).2 i x A hx hA
    refine ⟨rfl, .ref a, rfl, a, es, rfl, .inl (SqL.of ha), ?_⟩
    have le : es.length = A.length := by rw [DtAll.len de, List.length_map]
    rw [le]
    exact k _ _ (.refl _) (.int _)
  have e2 := ints_of_dt d2
  subst e2
  refine ⟨p2, _, rfl, SqL.of hp2, _, rfl, ⟨by omega, by omega, ?_, ?_, ?_⟩, fun hd nhd => ?_⟩
  · rw [banksM_sum]; omega
  · rw [banksM_sum]; omega
  · rw [banksM_sum]; omega
  rw [banksM_sum, rg_nV]
  have hhd0 : (upd H2 hd (.lst ((List.range (rectsM r).length).map nV))) hd = some (.lst ((List.range (rectsM r).length).map nV)) := upd_same
  have nhd1 : H1 hd = none := sm2.free nhd
  have sm3 := sm2.trans (same_new (o := .lst ((List.range (rectsM r).length).map nV)) nhd)
  generalize upd H2 hd (.lst ((List.range (rectsM r).length).map nV)) = H3 at *
  have hp3 := sm3 _ _ hp
  -- the touching pairs
  refine ⟨.ref p, rfl, .ref p, rfl, 1, rfl, p, _, rfl, SqL.of hp3, fun p4 np4 => ?_⟩
  rw [cut_1]
  have nh4 : p4 ≠ hd := fun e => by rw [e, hhd0] at np4; cases np4
  have nph : p ≠ hd := fun e => by rw [e, nhd1] at hp; cases hp
  have sm4 := sm3.trans (same_new (o := .lst xs.tail) np4)
  have hp4 : (upd H3 p4 (.lst xs.tail)) p4 = some (.lst xs.tail) := upd_same
  have hhd4 := same_new (o := .lst xs.tail) np4 _ _ hhd0
  have hpp4 := sm4 _ _ hp
  generalize upd H3 p4 (.lst xs.tail) = H4 at *
  have bks4 : Bks (fun a => a ≠ hd) H4 xs (banksM 0 r) := by
    refine ⟨bks.1, fun i w B hw hB => ?_⟩
    obtain ⟨a, es, rfl, _, ha, de⟩ := bks.2 i w B hw hB
    exact ⟨a, es, rfl, ne_of_none ha nhd1, sm4 _ _ ha, de.keep (keepS sm4)⟩
  have lz : ((banksM 0 r).zip (banksM 0 r).tail).length = xs.tail.length := by rw [List.length_zip, List.length_tail, List.length_tail]; omega
  have pin : ∀ i j (A B : List (Nat × Rc)), ((banksM 0 r).zip (banksM 0 r).tail)[i]? = some (A, B) → ∀ w ∈ ((((banksM 0 r).zip (banksM 0 r).tail).take i).flatMap fun w => touchM w.1 w.2) ++ (touchM A B).take j, w.1 < (rectsM r).length ∧ w.2 < (rectsM r).length := fun i j A B hAB w hw => by
    refine pairs_in (r := r) ?_
    show w ∈ ((banksM 0 r).zip (banksM 0 r).tail).flatMap fun w => touchM w.1 w.2
    rw [List.mem_flatMap]
    rcases List.mem_append.mp hw with hw | hw
    · obtain ⟨z, hz', hw⟩ := List.mem_flatMap.mp hw
      exact ⟨z, List.mem_of_mem_take hz', hw⟩
    · exact ⟨(A, B), List.mem_of_getElem? hAB, List.mem_of_mem_take hw⟩
  refine ⟨p, p4, xs, xs.tail, rfl, SqL.of hpp4, SqL.of hp4, for_z2 (K := K) (a := p) (b := p4) (xs := xs) (ys := xs.tail) xs.tail.length (by rw [List.length_tail]; omega) (Nat.le_refl _) (.inr rfl)
    (fun i σ' H' => ∃ (y3 y4 y5 y6 y7 y8 : Option V), σ' = [some v, some (.ref p), some (.ref hd), y3, y4, y5, y6, y7, y8, none, none, none, none, none] ∧ Fr hd H4 H' ∧
      H' hd = some (.lst ((((((banksM 0 r).zip (banksM 0 r).tail).take i).flatMap fun w => touchM w.1 w.2).foldl ustep (List.range (rectsM r).length)).map nV))) ?_ ?_ ?_ ?_⟩
  · exact ⟨none, none, none, none, none, none, rfl, Fr.refl, hhd4⟩
  · rintro i σ' H' ⟨y3, y4, y5, y6, y7, y8, rfl, fr, _⟩
    exact ⟨SqL.of (fr.l nph hpp4), SqL.of (fr.l nh4 hp4)⟩
  · rintro i x y t σ' H' hx hy ⟨y3, y4, y5, y6, y7, y8, rfl, fr, hh⟩ nt
    have smt := same_new (o := .tup [x, y]) nt
    have frt := fr.trans (.of smt)
    have hht := smt _ _ hh
    have htt : (upd H' t (.tup [x, y])) t = some (.tup [x, y]) := upd_same
    generalize upd H' t (.tup [x, y]) = H5 at *
    have li := (List.getElem?_eq_some_iff.mp hx).1
    have ly := (List.getElem?_eq_some_iff.mp hy).1
    rw [List.length_tail] at ly
    have hA : (banksM 0 r)[i]? = some ((banksM 0 r)[i]'(by omega)) := List.getElem?_eq_getElem (by omega)
    have hB : (banksM 0 r).tail[i]? = some ((banksM 0 r).tail[i]'(by rw [List.length_tail]; omega)) := List.getElem?_eq_getElem (by rw [List.length_tail]; omega)
    generalize (banksM 0 r)[i]'(by omega) = LA at hA
    generalize (banksM 0 r).tail[i]'(by rw [List.length_tail]; omega) = LB at hB
    have hB' : (banksM 0 r)[i + 1]? = some LB := by rw [← List.getElem?_tail]; exact hB
    have hy' : xs[i + 1]? = some y := by rw [← List.getElem?_tail]; exact hy
    have hAB : ((banksM 0 r).zip (banksM 0 r).tail)[i]? = some (LA, LB) := by
      rw [List.getElem?_zip_eq_some]
      exact ⟨hA, hB⟩
    obtain ⟨a, es, rfl, na, ha, de⟩ := bks4.2 i x LA hx hA
    obtain ⟨b, fs, rfl, nb, hb, df⟩ := bks4.2 (i + 1) y LB hy' hB'
    have kk := frt.keep hhd4
    refine ⟨t, _, rfl, SqT.of htt, rfl, _, _, rfl, _, _, rfl, rfl, ?_⟩
    refine ⟨.ref a, rfl, .ref b, rfl, a, b, es, fs, LA, LB, rfl, frt.l na ha, de.keep kk, frt.l nb hb, df.keep kk, rowl i LA hA, rowl (i + 1) LB hB', fun pz H6 zs sm6 npz hpz dz => ?_⟩
    have fr6 := frt.trans (.of sm6)
    have hh6 := sm6 _ _ hht
    have npzh : pz ≠ hd := fun e => by rw [e, hht] at npz; cases npz
    have lzs : zs.length = (touchM LA LB).length := by rw [DtAll.len dz, List.length_map]
    refine ⟨pz, rfl, ⟨zs, SqL.of hpz⟩, for_list (K := K) (a := pz) (xs := zs) (fun j σ'' H'' => ∃ (y5 y6 y7 y8 : Option V), σ'' = [some v, some (.ref p), some (.ref hd), some (.ref a), some (.ref b), y5, y6, y7, y8, none, none, none, none, none] ∧ Fr hd H6 H'' ∧
      H'' hd = some (.lst ((((((((banksM 0 r).zip (banksM 0 r).tail).take i).flatMap fun w => touchM w.1 w.2) ++ (touchM LA LB).take j).foldl ustep (List.range (rectsM r).length)).map nV)))) ?_ ?_ ?_ ?_⟩
    · exact ⟨_, _, _, _, rfl, Fr.refl, by rw [List.take_zero, List.append_nil]; exact hh6⟩
    · rintro j σ'' H'' _ ⟨y5, y6, y7, y8, rfl, fr, _⟩
      exact SqL.of (fr.l npzh hpz)
    · rintro j x σ'' H'' hj ⟨y5, y6, y7, y8, rfl, frj, hhj⟩
      obtain ⟨w0, hw0, dw0⟩ := DtAll.at (dz.keep (frj.keep hh6)) hj
      obtain ⟨pw, rfl, hpw⟩ := dt_N dw0
      obtain ⟨hlen, hok⟩ := hd_prefix (pin i j LA LB hAB)
      have hin := pin i (j + 1) LA LB hAB w0 (List.mem_append_right _ (List.mem_of_getElem? (i := j) (by rw [List.getElem?_take, if_pos (by omega)]; exact hw0)))
      rw [foldl_snoc hw0]
      generalize ((((((banksM 0 r).zip (banksM 0 r).tail).take i).flatMap fun w => touchM w.1 w.2) ++ (touchM LA LB).take j).foldl ustep (List.range (rectsM r).length)) = hs at *
      have r1 := root_ok hok w0.1 w0.1 (Nat.le_refl _) (by rw [hlen]; exact hin.1)
      have r2 := root_ok hok w0.2 w0.2 (Nat.le_refl _) (by rw [hlen]; exact hin.2)
      refine ⟨pw, _, rfl, SqT.of hpw, rfl, _, _, rfl, _, _, rfl, rfl, ?_⟩
      refine ⟨.ref hd, rfl, nV w0.1, rfl, hd, hs, w0.1, rfl, hhj, hok, by rw [hlen]; exact hin.1, .ref hd, rfl, nV w0.2, rfl, hd, hs, w0.2, rfl, hhj, hok, by rw [hlen]; exact hin.2, _, _, rfl, ?_⟩
      refine ⟨nV (rootF hs w0.1), rfl, nV (rootF hs w0.2), rfl, _, _, rfl, .ref hd, rfl, nV (rootF hs w0.1), rfl, nV (rootF hs w0.2), rfl, _, _, rfl, hd, _, _, _, rfl, rfl, hhj, ixN_max (by rw [List.length_map, hlen]; omega) (by rw [List.length_map, hlen]; omega), ?_⟩
      rw [nV_min, pair_set]
      exact ⟨_, _, _, _, rfl, frj.trans .put, upd_same⟩
    · rintro σ'' H'' ⟨y5, y6, y7, y8, rfl, frj, hhj⟩
      rw [lzs, List.take_length, ← take_succ_flat (f := fun w : List (Nat × Rc) × List (Nat × Rc) => touchM w.1 w.2) hAB] at hhj
      exact ⟨_, _, _, _, _, _, rfl, fr6.trans frj, hhj⟩
  · rintro σ' H' ⟨y3, y4, y5, y6, y7, y8, rfl, fr, hh⟩
    rw [← lz, List.take_length] at hh
    have hh2 : H' hd = some (.lst ((headsM r).map nV)) := hh
    clear hh
    obtain ⟨hlen, huf⟩ := heads_uf r
    have bks5 : Bks (fun _ => True) H' xs (banksM 0 r) := bks4.mono (fun _ _ => trivial) (fun a es na ha => fr.l na ha) (fr.keep hhd4)
    have hp5 := fr.l nph hpp4
    have smH' : L2.Same H H' := sm1.trans (fr.same (o := hd) sm4 nhd1)
    refine fun fd nfd => ?_
    have nfd' := same_new (o := .dK []) nfd
    have g0 : GIn H' fd (upd H' fd (.dK [])) [] := ⟨nfd', nfd, [], upd_same, rfl, fun i kv e h => by simp at h, fun i j kv kv' h => by simp at h⟩
    refine ⟨.ref p, rfl, p, rfl, ⟨xs, SqL.of (nfd' _ _ hp5)⟩, for_list (K := K) (a := p) (xs := xs) (fun i σ' H'' => ∃ (y10 y11 y12 : Option V), σ' = [some v, some (.ref p), some (.ref hd), y3, y4, y5, y6, y7, y8, some (.ref fd), y10, y11, y12, none] ∧
      GIn H' fd H'' ((((banksM 0 r).take i).flatten).foldl (gstep (rootF (headsM r))) [])) ?_ ?_ ?_ ?_⟩
    · exact ⟨none, none, none, rfl, g0⟩
    · rintro i σ' H'' _ ⟨y10, y11, y12, rfl, G⟩
      exact SqL.of (G.sm _ _ hp5)
    · rintro i x σ' H'' hi ⟨y10, y11, y12, rfl, G⟩
      have li := (List.getElem?_eq_some_iff.mp hi).1
      have hA : (banksM 0 r)[i]? = some ((banksM 0 r)[i]'(by omega)) := List.getElem?_eq_getElem (by omega)
      generalize (banksM 0 r)[i]'(by omega) = LA at hA
      obtain ⟨a, es, rfl, _, ha, de⟩ := bks5.2 i x LA hi hA
      have les : es.length = LA.length := by rw [DtAll.len de, List.length_map]
      refine ⟨.ref a, rfl, a, rfl, ⟨es, SqL.of (G.sm _ _ ha)⟩, for_list (K := K) (a := a) (xs := es) (fun j σ' H'' => ∃ (y11 y12 : Option V), σ' = [some v, some (.ref p), some (.ref hd), y3, y4, y5, y6, y7, y8, some (.ref fd), some (.ref a), y11, y12, none] ∧
        GIn H' fd H'' ((((banksM 0 r).take i).flatten ++ LA.take j).foldl (gstep (rootF (headsM r))) [])) ?_ ?_ ?_ ?_⟩
      · exact ⟨_, _, rfl, by rw [List.take_zero, List.append_nil]; exact G⟩
      · rintro j σ'' H3' _ ⟨y11, y12, rfl, G⟩
        exact SqL.of (G.sm _ _ ha)
      · rintro j x σ'' H3' hj ⟨y11, y12, rfl, G⟩
        obtain ⟨e, he, dee⟩ := DtAll.at (de.keep (keepS G.sm)) hj
        obtain ⟨pe, we, rfl, hpe, dwe⟩ := dt_E dee
        rw [foldl_snoc he]
        have gok : GOk (rootF (headsM r)) (((banksM 0 r).take i).flatten ++ LA.take j) ((((banksM 0 r).take i).flatten ++ LA.take j).foldl (gstep (rootF (headsM r))) []) := by
          have := gfold_ok (ns := ((banksM 0 r).take i).flatten ++ LA.take j) (gok_nil (f := rootF (headsM r)))
          rw [List.nil_append] at this
          exact this
        have gl := gfold_len (rootF (headsM r)) (((banksM 0 r).take i).flatten ++ LA.take j) []
        have pl := flat_pre_len hA (j := j)
        rw [banksM_flat_len] at pl
        rw [List.length_nil] at gl
        generalize (((banksM 0 r).take i).flatten ++ LA.take j).foldl (gstep (rootF (headsM r))) [] = g at *
        generalize ((banksM 0 r).take i).flatten ++ LA.take j = nodes at *
        have hle : e.1 < (headsM r).length := by
          obtain ⟨k, e1, e2⟩ := banksM_mem (List.mem_of_getElem? hA) (List.mem_of_getElem? he)
          have := (List.getElem?_eq_some_iff.mp e2).1
          rw [hlen, e1]
          omega
        have hh3 := G.sm _ _ hh2
        obtain ⟨kvs, hk, keys, _, _⟩ := G.ex
        have lk : kvs.length = g.length := by
          have := congrArg List.length keys
          rwa [List.length_map, List.length_map] at this
        refine ⟨pe, _, rfl, SqT.of hpe, rfl, _, _, rfl, _, _, rfl, rfl, ?_⟩
        refine ⟨.ref fd, rfl, fd, rfl, .inl ⟨kvs, .inl hk⟩, .ref hd, rfl, nV e.1, rfl, hd, headsM r, e.1, rfl, hh3, huf.ok, hle, Nat.zero_le _, fun z nz => ⟨kvs, .inl (rootF (headsM r) e.1 : Int), same_new nz _ _ hk, rfl, sz' (by omega), fun v' hv' => ?_, fun hv' => ?_⟩⟩
        · obtain ⟨a0, es0, rfl, ha0, na0, le0, G'⟩ := G.old gok hk hv' dwe
          have smz := same_new (o := .lst []) nz
          have ha0' := smz _ _ ha0
          refine ⟨.inl ⟨rfl, _, SqL.of ha0'⟩, we, rfl, a0, es0, we, rfl, rfl, ha0', sz' (by omega), ?_⟩
          have Gz : GIn H' fd (upd H3' z (.lst [])) g := by
            obtain ⟨kvs', hk', keys', lists', inj'⟩ := G.ex
            exact ⟨G.sm.trans smz, G.nf, kvs', smz _ _ hk', keys', fun i kv e h1 h2 => by
              obtain ⟨b, fs, q1, q2, q3, q4⟩ := lists' i kv e h1 h2
              exact ⟨b, fs, q1, smz _ _ q2, q3.keep (keepS smz), q4⟩, inj'⟩
          obtain ⟨a1, es1, q1, ha1, na1, le1, G''⟩ := Gz.old gok (smz _ _ hk) hv' (dwe.keep (keepS smz))
          cases q1
          rw [ha0'] at ha1
          cases ha1
          exact ⟨_, _, rfl, G''⟩
        · have Gn := G.new hk hv' dwe nz
          have nzf : z ≠ fd := fun q => by rw [q, hk] at nz; cases nz
          have hz1 : (upd (upd H3' z (.lst [])) fd (.dK (putK kvs (.inl (rootF (headsM r) e.1 : Int)) (.ref z)))) z = some (.lst []) := by
            rw [upd_ne nzf]
            exact upd_same
          exact ⟨.inl ⟨rfl, _, SqL.of hz1⟩, we, rfl, z, [], we, rfl, rfl, hz1, by decide, _, _, rfl, Gn⟩
      · rintro σ'' H3' ⟨y11, y12, rfl, G⟩
        rw [les, List.take_length, ← take_flat_snoc hA] at G
        exact ⟨_, _, _, rfl, G⟩
    · rintro σ' H'' ⟨y10, y11, y12, rfl, G⟩
      rw [lxs, List.take_length] at G
      have gok := gAll_ok r
      have G' : GIn H' fd H'' (gAll r) := G
      clear G
      have gl : (gAll r).length ≤ (rectsM r).length := by
        have := gfold_len (rootF (headsM r)) ((banksM 0 r).flatten) []
        rw [banksM_flat_len] at this
        simpa [gAll] using this
      have sub := fun e he => gAll_sub (r := r) (e := e) he
      have pok := fun {ks : List Nat} (hk : ks.Perm ((gAll r).map (·.1))) {L : List Rg} (len : L.length = ks.length) hL => pieces_ok ok (g := gAll r) rfl hk len hL
      generalize gAll r = g at *
      obtain ⟨kvs, hk, keys, lists, inj⟩ := G'.ex
      refine ⟨.ref fd, rfl, fd, kvs, g.map (fun p => (p.1 : Int)), rfl, .inl hk, by rw [keys, List.map_map]; rfl, fun ys pk pm so npk => ?_⟩
      have smk := same_new (o := .lst (ys.map V.int)) npk
      have hpk : (upd H'' pk (.lst (ys.map V.int))) pk = some (.lst (ys.map V.int)) := upd_same
      have hkk := smk _ _ hk
      have smA : L2.Same H (upd H'' pk (.lst (ys.map V.int))) := (smH'.trans G'.sm).trans smk
      have lists2 : ∀ (i : Nat) (kv : Key × V) (e : Nat × List Rc), kvs[i]? = some kv → g[i]? = some e → ∃ a es, kv.2 = .ref a ∧ (upd H'' pk (.lst (ys.map V.int))) a = some (.lst es) ∧ DtAll (upd H'' pk (.lst (ys.map V.int))) es (e.2.map dQ) := fun i kv e h1 h2 => by
        obtain ⟨b, fs, q1, q2, q3, q4⟩ := lists i kv e h1 h2
        exact ⟨b, fs, q1, smk _ _ q2, q3.keep (keepS smk)⟩
      generalize upd H'' pk (.lst (ys.map V.int)) = H7 at *
      have lys : ys.length = g.length := by rw [pm.length_eq, List.length_map]
      -- every group gives a region: one that is there
      have ex : ∀ k ∈ ys, ∃ e ∈ g, (e.1 : Int) = k ∧ ∃ (i : Nat) (w : Key × V), kvs[i]? = some w ∧ g[i]? = some e ∧ valV kvs (.inl k) = some w.2 := fun k hk' => by
        have hk2 := pm.mem_iff.mp hk'
        obtain ⟨e0, he0, ek⟩ := List.mem_map.mp hk2
        have an : (kvs.any fun kv => decide (kv.1 = (.inl k : Key))) = true := by
          obtain ⟨i, hi, ei⟩ := List.getElem_of_mem he0
          have hg : (g.map (fun p => (Sum.inl (p.1 : Int) : Key)))[i]? = some (.inl k) := by
            rw [List.getElem?_map, List.getElem?_eq_getElem hi, ei, ← ek]
            rfl
          rw [← keys, List.getElem?_map] at hg
          cases e1 : kvs[i]? with
          | none => rw [e1] at hg; cases hg
          | some kv =>
            rw [e1] at hg
            exact List.any_eq_true.mpr ⟨kv, List.mem_of_getElem? e1, decide_eq_true (Option.some.inj hg)⟩
        rw [valV_any] at an
        obtain ⟨w, hw⟩ := Option.isSome_iff_exists.mp an
        obtain ⟨i, hi⟩ := valV_at hw
        obtain ⟨e, he, k0⟩ := gkey keys hi
        exact ⟨e, List.mem_of_getElem? he, (Sum.inl.inj k0).symm, i, _, hi, he, hw⟩
      have rok : ∀ e ∈ g, (∀ q ∈ e.2, RcOk q) ∧ e.2.length ≤ 400000 ∧ SzQ 4000 e.2 := fun e he => by
        obtain ⟨s1, s2⟩ := sub e he
        obtain ⟨Xs, Ys, hx, hy, c⟩ := SzR.rects hz
        exact ⟨fun q0 h0 => rectsM_ok ok q0 (s1 q0 h0), by omega, Xs, Ys, by omega, by omega, fun q0 h0 => c q0 (s1 q0 h0)⟩
      refine ⟨pk, rfl, ⟨_, SqL.of hpk⟩, lcD_list (p := allT) (enc := PyData.int) (l := ys) (f := fun k : Int => regE (grp g k)) (encB := dR) hpk dt_of_ints (by omega) (fun i x k H8 R N hi hd' sm8 ky kn => ?_) fun p9 H9 zs sm9 np9 hp9 d9 => ?_⟩
      · obtain rfl := dt_int hd'
        obtain ⟨e, he, ek, i', ⟨wk, wv⟩, hw, hge, hval⟩ := ex k (List.mem_of_getElem? hi)
        obtain ⟨a, es, q1, ha, da⟩ := lists2 i' _ e hw hge
        simp only at q1
        subst q1
        obtain ⟨k1, k2, k3⟩ := rok e he
        refine ⟨rfl, yes ⟨.ref fd, rfl, .int k, rfl, fd, .ref a, rfl, .inl ⟨kvs, .inl k, .inl (sm8 _ _ hkk), rfl, hval.symm⟩, a, es, e.2, rfl, sm8 _ _ ha, da.keep (keepS sm8), k1, k2, k3, fun v' H9 r' sm9 ir dv => ?_⟩⟩
        refine ky rfl _ _ sm9 ?_
        rw [← ek, grp_at gok.nd he, ir.regE]
        exact dv
      rw [filter_all] at d9
      have reg : ∀ k ∈ ys, ∃ e ∈ g, (e.1 : Int) = k ∧ IsReg e.2 (regE (grp g k)) := fun k hk' => by
        obtain ⟨e, he, ek, _⟩ := ex k hk'
        obtain ⟨r0, h0⟩ := reg_ex (rok e he).1
        refine ⟨e, he, ek, ?_⟩
        rw [← ek, grp_at gok.nd he]
        exact h0.at
      refine q p9 H9 zs _ (smA.trans sm9) (smA.free np9) hp9 d9 ?_ (by rw [List.length_map]; omega) fun R hR PX PY c => ?_
      · refine pok (ks := ys.map Int.toNat) ?_ (by rw [List.length_map, List.length_map]) fun i k R hk' hR => ?_
        · have := pm.map Int.toNat
          rw [List.map_map] at this
          refine this.trans (List.Perm.of_eq (List.map_congr_left fun p _ => ?_))
          show ((p.1 : Nat) : Int).toNat = p.1
          omega
        · rw [List.getElem?_map] at hk' hR
          cases ei : ys[i]? with
          | none => rw [ei] at hk'; cases hk'
          | some k0 =>
            rw [ei] at hk' hR
            cases hk'
            cases hR
            obtain ⟨e, he, ek, ir⟩ := reg k0 (List.mem_of_getElem? ei)
            refine ⟨ir.ok, e.2, ?_, ir.mem⟩
            have : k0.toNat = e.1 := by omega
            rw [this]
            exact he
      · obtain ⟨k0, hk0, rfl⟩ := List.mem_map.mp hR
        obtain ⟨e, he, ek, ir⟩ := reg k0 hk0
        exact ir.crs PX PY fun q0 h0 => rectsM_crs c q0 ((sub e he).1 q0 h0)
end
end Mw

-- W14
namespace Mw
open PySem PySem.Spec PyProof.Rows L2 MkR Mk
/-! ### the bag of the law -/
def BagAt (H : Hp) (a : Addr) : Prop := ∃ c m : Int, H a = some (.lst [.int c, .int m]) ∧ 0 ≤ c ∧ 0 ≤ m ∧ m < 2147483629
structure Bag (a : Addr) (H H' : Hp) : Prop where
  fr : Fr a H H'
  at' : BagAt H' a
theorem Bag.trans {a : Addr} {H H1 H2 : Hp} (b : Bag a H H1) (c : Bag a H1 H2) : Bag a H H2 := ⟨b.fr.trans c.fr, c.at'⟩
theorem Bag.same {a : Addr} {H H1 H2 : Hp} (b : Bag a H H1) (s : L2.Same H1 H2) : Bag a H H2 := ⟨b.fr.trans (.of s), by
  obtain ⟨c, m, h, r⟩ := b.at'
  exact ⟨c, m, s _ _ h, r⟩⟩
theorem Bag.refl {a : Addr} {H : Hp} (b : BagAt H a) : Bag a H H := ⟨.refl, b⟩
theorem Bag.keep {a : Addr} {H H' : Hp} (b : Bag a H H') (h : BagAt H a) : Keep H H' := by
  obtain ⟨c, m, h, _⟩ := h
  exact b.fr.keep h
theorem Bag.out {a : Addr} {H0 H H' : Hp} (b : Bag a H H') (s : L2.Same H0 H) (n : H0 a = none) : L2.Same H0 H' := b.fr.same s n
section
variable {P : Program} {w : World} {K : PySem.W.Frag} {mg : Str → Option Value} {base : Heap}
abbrev s__law_take : Stmt := topS 39
abbrev N__law_take : List Str := ["_law_bag_here", "_law_many", "_law_digit", "_law_number_here", "_law_room"]
theorem sc__law_take : FnScope N__law_take ["_law_bag_here", "_law_many"] (C8.fnScope s__law_take) := C8.fnScope_by (by decide +kernel)
def sp_take : Sp := fun vs H Q _ => ∃ (a : Addr) (many : Int), vs = [.ref a, .int many] ∧ BagAt H a ∧ 1 ≤ many ∧ many < 1073741789 ∧ ∀ (v : Int) (H' : Hp), Bag a H H' → 0 ≤ v → v < many → Q (.int v) H'
theorem cal_take (T : Txt mg) (D : Here K mg "_law_take" s__law_take ["_law_bag_here", "_law_many"]) : C8.Cal P w K mg base 1 "_law_take" sp_take [] := by
  refine D.cal sc__law_take (fun vs H Q E h => ?_) fun f cdv A outer s H vs Q E hr h => ?_
  · obtain ⟨a, many, rfl, _⟩ := h
    rfl
  obtain ⟨a, many, rfl, ⟨c, m, ha, hc, hm, hm2⟩, h1, h2, q⟩ := h
  have sc := sc__law_take
  refine ⟨_, (pss_cons (ps_if (pt_cmpR op_gt (pe_ix (ixL (K := K) rfl) (pv 0) pe_int (fun _ _ => rfl)) pe_int (nomark _)) (pss_cons (ps_set (i := 2) sc.nd rfl (Or.inl rfl) (pe_op op_mod (pe_ix (ixL (K := K) rfl) (pv 0) pe_int (fun _ _ => rfl)) (pv 1)))
      (pss_cons (ps_asg (pe_op op_fdiv (pe_ix (ixL (K := K) rfl) (pv 0) pe_int (fun _ _ => rfl)) (pv 1)) (pg_sub (pv 0) pe_int set_list))
      (pss_one (ps_ret (pv 2))))) pss_nil)
      (pss_cons (ps_set (i := 3) sc.nd rfl (Or.inl rfl) pe_int)
      (pss_cons (ps_set (i := 4) sc.nd rfl (Or.inl rfl) pe_int)
      (C8.pss_cut (ps_while PassesOwn.never (pt_cmpR op_lt (pv 4) (pv 1) (nomark _)) (pss_cons (ps_asg (pe_op op_mod (pe_op op_pow (pe_op op_add (pe_op op_mul (pe_ix (ixL (K := K) rfl) (pv 0) pe_int (fun _ _ => rfl)) pe_int) pe_int) pe_int) pe_int) (pg_sub (pv 0) pe_int set_list))
      (pss_cons (ps_set (i := 3) sc.nd rfl (Or.inl rfl) (pe_op op_add (pe_op op_mul (pv 3) pe_int) (pe_op op_mod (pe_op op_mul (pe_op op_fdiv (pe_ix (ixL (K := K) rfl) (pv 0) pe_int (fun _ _ => rfl)) pe_int) pe_int) pe_int)))
      (pss_one (ps_set (i := 4) sc.nd rfl (Or.inl rfl) (pe_op op_mul (pv 4) pe_int))))))
      (pss_one (ps_ret (pe_op op_mod (pv 3) (pv 1)))))))), ?_⟩
  refine ⟨.ref a, rfl, a, _, 0, .int c, rfl, rfl, SqL.of ha, at_0, _, _, rfl, rfl, ?_⟩
  by_cases cc : c > 0
  · refine ⟨true, bt cc, iteT ?_⟩
    refine ⟨.ref a, rfl, a, _, 0, .int c, rfl, rfl, SqL.of ha, at_0, .int many, rfl, c, many, rfl, rfl, show (0 : Int) < many by omega, ?_⟩
    refine ⟨.ref a, rfl, a, _, 0, .int c, rfl, rfl, SqL.of ha, at_0, .int many, rfl, c, many, rfl, rfl, ⟨by omega, by omega⟩, .ref a, rfl, a, _, 0, 0, rfl, rfl, ha, rfl, ?_⟩
    refine ⟨_, rfl, q _ _ ⟨.put, c / many, m, upd_same, ?_, hm, hm2⟩ (Int.emod_nonneg _ (by omega)) (Int.emod_lt_of_pos _ (by omega))⟩
    exact Int.ediv_nonneg hc (by omega)
  · refine ⟨false, bf cc, iteF ?_⟩
    refine ⟨fun σ' H' => ∃ (n rm : Int), σ' = [some (.ref a), some (.int many), none, some (.int n), some (.int rm)] ∧ Bag a H H', ⟨fun k σ' H' => ∃ (n rm : Int), k = (many - rm).toNat ∧ 1 ≤ rm ∧ σ' = [some (.ref a), some (.int many), none, some (.int n), some (.int rm)] ∧ Bag a H H',
      ⟨_, 0, 1, rfl, Int.le_refl _, rfl, .refl ⟨c, m, ha, hc, hm, hm2⟩⟩, ?_⟩, ?_⟩
    · rintro k σ' H' ⟨n, rm, rfl, r1, rfl, bg⟩
      obtain ⟨c', m', ha', hc', hm', hm2'⟩ := bg.at'
      refine ⟨.int rm, rfl, .int many, rfl, _, _, rfl, rfl, ?_⟩
      by_cases c3 : rm < many
      · refine ⟨true, bt c3, iteT ?_⟩
        refine ⟨fun σ2 H2 => ∃ n2 : Int, σ2 = [some (.ref a), some (.int many), none, some (.int n2), some (.int (rm * 1073741789))] ∧ Bag a H H2, ?_, ?_⟩
        · rintro σ2 H2 ⟨n2, rfl, bg2⟩
          exact ⟨(many - rm * 1073741789).toNat, by omega, n2, rm * 1073741789, rfl, by omega, rfl, bg2⟩
        · refine ⟨.ref a, rfl, a, _, 1, .int m', rfl, rfl, SqL.of ha', at_1, m', 48271, rfl, rfl, .inr ⟨by decide, by decide⟩, _, _, rfl, rfl, _, _, rfl, rfl, ⟨by decide, by decide, by omega⟩, _, _, rfl, rfl, show (0 : Int) < 2147483629 by decide, .ref a, rfl, a, _, 1, 1, rfl, rfl, ha', rfl, ?_⟩
          have e0 := Int.emod_nonneg ((m' * 48271 + 7919) ^ (3 : Int).toNat) (show (2147483629 : Int) ≠ 0 by decide)
          have e1 := Int.emod_lt_of_pos ((m' * 48271 + 7919) ^ (3 : Int).toNat) (show (0 : Int) < 2147483629 by decide)
          have bg3 : Bag a H (upd H' a (.lst [.int c', (.int ((m' * 48271 + 7919) ^ (3 : Int).toNat % 2147483629) : V)])) := ⟨bg.fr.trans .put, c', _, upd_same, hc', e0, e1⟩
          have h3 : (upd H' a (.lst [.int c', (.int ((m' * 48271 + 7919) ^ (3 : Int).toNat % 2147483629) : V)])) a = some (.lst [.int c', (.int ((m' * 48271 + 7919) ^ (3 : Int).toNat % 2147483629) : V)]) := upd_same
          refine ⟨.int n, rfl, n, 1073741789, rfl, rfl, .inr ⟨by decide, by decide⟩, .ref a, rfl, a, _, 1, (.int ((m' * 48271 + 7919) ^ (3 : Int).toNat % 2147483629) : V), rfl, rfl, SqL.of h3, at_1, _, 8, rfl, rfl, ⟨by decide, by decide⟩, _, _, rfl, rfl, .inr ⟨by decide, by decide⟩, _, _, rfl, rfl, show (0 : Int) < 1073741789 by decide, _, _, rfl, rfl, ?_⟩
          exact ⟨.int rm, rfl, rm, 1073741789, rfl, rfl, .inr ⟨by decide, by decide⟩, _, rfl, bg3⟩
      · refine ⟨false, bf c3, iteF ?_⟩
        exact ⟨n, rm, rfl, bg⟩
    · rintro σ' H' ⟨n, rm, rfl, bg⟩
      exact ⟨.int n, rfl, .int many, rfl, n, many, rfl, rfl, show (0 : Int) < many by omega, q _ _ bg (Int.emod_nonneg _ (by omega)) (Int.emod_lt_of_pos _ (by omega))⟩
abbrev s__law_number : Stmt := topS 40
abbrev N__law_number : List Str := ["_law_bag_here", "_law_sort", "_law_some"]
theorem sc__law_number : FnScope N__law_number ["_law_bag_here", "_law_sort", "_law_some"] (C8.fnScope s__law_number) := C8.fnScope_by (by decide +kernel)
def InR (v : Int) : Prop := -1048576 ≤ v ∧ v ≤ 1048576
def sp_number : Sp := fun vs H Q _ => ∃ (a b : Addr) (st : Int) (ns : List Int), vs = [.ref a, .int st, .ref b] ∧ BagAt H a ∧ a ≠ b ∧ H b = some (.lst (ns.map V.int)) ∧ ns.length = 8 ∧ (∀ n ∈ ns, InR n) ∧ ∀ (v : Int) (H' : Hp), Bag a H H' → InR v → Q (.int v) H'
theorem cal_number (T : Txt mg) (c__law_take : C8.Cal P w K mg base 1 "_law_take" sp_take []) (D : Here K mg "_law_number" s__law_number ["_law_bag_here", "_law_sort", "_law_some"]) : C8.Cal P w K mg base 2 "_law_number" sp_number [] := by
  refine D.cal sc__law_number (fun vs H Q E h => ?_) fun f cdv A outer s H vs Q E hr h => ?_
  · obtain ⟨a, b, st, ns, rfl, _⟩ := h
    rfl
  obtain ⟨a, b, st, ns, rfl, ba, nab, hb, l8, hin, q⟩ := h
  have sc := sc__law_number
  refine ⟨_, (pss_cons (ps_if (pt_cmpR op_eq (pv 1) pe_int (nomark _)) (pss_one (ps_ret (pe_op op_sub (C8.pe_c c__law_take hr (by decide) (by rfl) (pa_cons (pv 0) (pa_cons pe_int pa_nil))) pe_int))) pss_nil)
      (pss_cons (ps_if (pt_cmpR op_eq (pv 1) pe_int (nomark _)) (pss_one (ps_ret (pe_op op_sub (C8.pe_c c__law_take hr (by decide) (by rfl) (pa_cons (pv 0) (pa_cons pe_int pa_nil))) pe_int))) pss_nil)
      (pss_cons (ps_if (pt_cmpR op_eq (pv 1) pe_int (nomark _)) (pss_one (ps_ret (pe_op op_sub (C8.pe_c c__law_take hr (by decide) (by rfl) (pa_cons (pv 0) (pa_cons (pe_op op_add (pe_op op_mul pe_int pe_int) pe_int) pa_nil))) pe_int))) pss_nil)
      (pss_one (ps_ret (pe_ix (ixL (K := K) rfl) (pv 2) (C8.pe_c c__law_take hr (by decide) (by rfl) (pa_cons (pv 0) (pa_cons (pe_callB call_len_seq (by rfl) T.len (by decide +kernel) (pa_cons (pv 2) pa_nil)) pa_nil))) (fun _ _ => rfl))))))), ?_⟩
  refine ⟨.int st, rfl, rfl, ?_⟩
  by_cases c0 : st = 0
  · refine ⟨true, bt (by rw [c0]), iteT ?_⟩
    exact ⟨.ref a, rfl, a, 13, rfl, ba, by decide, by decide, fun v H' bg v0 v1 => ⟨_, _, rfl, rfl, q _ _ bg ⟨by omega, by omega⟩⟩⟩
  refine ⟨false, bf (fun h => c0 (V.int.inj h)), iteF ?_⟩
  refine ⟨.int st, rfl, rfl, ?_⟩
  by_cases c1 : st = 1
  · refine ⟨true, bt (by rw [c1]), iteT ?_⟩
    exact ⟨.ref a, rfl, a, 401, rfl, ba, by decide, by decide, fun v H' bg v0 v1 => ⟨_, _, rfl, rfl, q _ _ bg ⟨by omega, by omega⟩⟩⟩
  refine ⟨false, bf (fun h => c1 (V.int.inj h)), iteF ?_⟩
  refine ⟨.int st, rfl, rfl, ?_⟩
  by_cases c2 : st = 2
  · refine ⟨true, bt (by rw [c2]), iteT ?_⟩
    exact ⟨.ref a, rfl, 2, 1048576, rfl, rfl, .inr ⟨by decide, by decide⟩, _, _, rfl, rfl, a, 2097153, rfl, ba, by decide, by decide, fun v H' bg v0 v1 => ⟨_, _, rfl, rfl, q _ _ bg ⟨by omega, by omega⟩⟩⟩
  refine ⟨false, bf (fun h => c2 (V.int.inj h)), iteF ?_⟩
  refine ⟨.ref b, rfl, .ref a, rfl, .ref b, rfl, b, _, rfl, .inl (SqL.of hb), a, 8, by rw [List.length_map, l8]; rfl, ba, by decide, by decide, fun v H' bg v0 v1 => ?_⟩
  have hlt : v.toNat < ns.length := by omega
  have hg : ns[v.toNat]? = some (ns[v.toNat]'hlt) := List.getElem?_eq_getElem hlt
  generalize ns[v.toNat]'hlt = u at hg
  have hat : atI (ns.map V.int) v = some (.int u) := by
    have : atI (ns.map V.int) ((v.toNat : Nat) : Int) = some (.int u) := atI_nat (j := v.toNat) (by rw [List.getElem?_map, hg]; rfl)
    rwa [show ((v.toNat : Nat) : Int) = v by omega] at this
  exact ⟨b, _, v, .int u, rfl, rfl, SqL.of (bg.fr.l nab.symm hb), hat, q _ _ bg (hin u (List.mem_of_getElem? hg))⟩
abbrev s__law_side : Stmt := topS 41
abbrev N__law_side : List Str := ["_law_bag_here", "_law_sort", "_law_some", "_law_one", "_law_other"]
theorem sc__law_side : FnScope N__law_side ["_law_bag_here", "_law_sort", "_law_some"] (C8.fnScope s__law_side) := C8.fnScope_by (by decide +kernel)
def sp_side : Sp := fun vs H Q _ => ∃ (a b : Addr) (st : Int) (ns : List Int), vs = [.ref a, .int st, .ref b] ∧ BagAt H a ∧ a ≠ b ∧ H b = some (.lst (ns.map V.int)) ∧ ns.length = 8 ∧ (∀ n ∈ ns, InR n) ∧ ∀ (t : Addr) (lo hi : Int) (H' : Hp), Bag a H H' → H' t = some (.tup [.int lo, .int hi]) → lo < hi → InR lo → InR hi → Q (.ref t) H'
theorem cal_side (T : Txt mg) (c__law_number : C8.Cal P w K mg base 2 "_law_number" sp_number []) (D : Here K mg "_law_side" s__law_side ["_law_bag_here", "_law_sort", "_law_some"]) : C8.Cal P w K mg base 3 "_law_side" sp_side [] := by
  refine D.cal sc__law_side (fun vs H Q E h => ?_) fun f cdv A outer s H vs Q E hr h => ?_
  · obtain ⟨a, b, st, ns, rfl, _⟩ := h
    rfl
  obtain ⟨a, b, st, ns, rfl, ba, nab, hb, l8, hin, q⟩ := h
  have sc := sc__law_side
  refine ⟨_, (pss_cons (ps_set (i := 3) sc.nd rfl (Or.inl rfl) (C8.pe_c c__law_number hr (by decide) (by rfl) (pa_cons (pv 0) (pa_cons (pv 1) (pa_cons (pv 2) pa_nil)))))
      (pss_cons (ps_set (i := 4) sc.nd rfl (Or.inl rfl) (C8.pe_c c__law_number hr (by decide) (by rfl) (pa_cons (pv 0) (pa_cons (pv 1) (pa_cons (pv 2) pa_nil)))))
      (pss_cons (ps_if (pt_cmpR op_eq (pv 3) (pv 4) (nomark _)) (pss_one (ps_ret (pe_ifExp (pt_cmpR op_eq (pv 3) pe_int (nomark _)) (pe_tup (pa_cons (pe_op op_sub (pv 3) pe_int) (pa_cons (pv 3) pa_nil))) (pe_tup (pa_cons (pv 3) (pa_cons (pe_op op_add (pv 3) pe_int) pa_nil)))))) pss_nil)
      (pss_one (ps_ret (pe_tup (pa_cons (pe_callB (call_min2 rfl) (by rfl) T.min (by decide +kernel) (pa_cons (pv 3) (pa_cons (pv 4) pa_nil))) (pa_cons (pe_callB (call_max2 rfl) (by rfl) T.max (by decide +kernel) (pa_cons (pv 3) (pa_cons (pv 4) pa_nil))) pa_nil)))))))), ?_⟩
  refine ⟨.ref a, rfl, .int st, rfl, .ref b, rfl, a, b, st, ns, rfl, ba, nab, hb, l8, hin, fun v1 H1 bg1 i1 => ?_⟩
  refine ⟨.ref a, rfl, .int st, rfl, .ref b, rfl, a, b, st, ns, rfl, bg1.at', nab, bg1.fr.l nab.symm hb, l8, hin, fun v2 H2 bg2 i2 => ?_⟩
  have bg := bg1.trans bg2
  unfold InR at *
  refine ⟨.int v1, rfl, .int v2, rfl, rfl, ?_⟩
  by_cases c : v1 = v2
  · refine ⟨true, bt (by rw [c]), iteT ?_⟩
    refine ⟨.int v1, rfl, rfl, ?_⟩
    by_cases c3 : v1 = 1048576
    · refine ⟨true, bt (by rw [c3]), iteT ?_⟩
      exact ⟨.int v1, rfl, _, _, rfl, rfl, .int v1, rfl, by show 2 ≤ sizeLine; decide, fun t nt => q t (v1 - 1) v1 _ (bg.same (same_new nt)) upd_same (by omega) (by omega) (by omega)⟩
    · refine ⟨false, bf (fun h => c3 (V.int.inj h)), iteF ?_⟩
      exact ⟨.int v1, rfl, .int v1, rfl, _, _, rfl, rfl, by show 2 ≤ sizeLine; decide, fun t nt => q t v1 (v1 + 1) _ (bg.same (same_new nt)) upd_same (by omega) (by omega) (by omega)⟩
  · refine ⟨false, bf (fun h => c (V.int.inj h)), iteF ?_⟩
    refine ⟨.int v1, rfl, .int v2, rfl, _, _, rfl, .int v1, rfl, .int v2, rfl, _, _, rfl, by show 2 ≤ sizeLine; decide, fun t nt => q t _ _ _ (bg.same (same_new nt)) upd_same ?_ ?_ ?_⟩
    · split <;> split <;> omega
    · split <;> omega
    · split <;> omega
abbrev s__law_rects : Stmt := topS 42
abbrev N__law_rects : List Str := ["_law_bag_here", "_law_most", "_law_sort", "_law_many", "_law_some", "_law_found", "_law_k", "_law_left", "_law_right", "_law_low", "_law_high"]
theorem sc__law_rects : FnScope N__law_rects ["_law_bag_here", "_law_most"] (C8.fnScope s__law_rects) := C8.fnScope_by (by decide +kernel)
def RcIn (q : Rc) : Prop := InR q.1 ∧ InR q.2.1 ∧ InR q.2.2.1 ∧ InR q.2.2.2
def sp_rects : Sp := fun vs H Q _ => ∃ (a : Addr), vs = [.ref a, .int 20] ∧ BagAt H a ∧ ∀ (p : Addr) (H' : Hp) (xs : List V) (rects : List Rc), Bag a H H' → H p = none → p ≠ a → H' p = some (.lst xs) → DtAll H' xs (rects.map dQ) → rects.length ≤ 20 → (∀ q ∈ rects, RcOk q ∧ RcIn q) → Q (.ref p) H'
theorem cal_rects (T : Txt mg) (c__law_take : C8.Cal P w K mg base 1 "_law_take" sp_take []) (c__law_side : C8.Cal P w K mg base 3 "_law_side" sp_side []) (D : Here K mg "_law_rects" s__law_rects ["_law_bag_here", "_law_most"]) : C8.Cal P w K mg base 4 "_law_rects" sp_rects [] := by
  refine D.cal sc__law_rects (fun vs H Q E h => ?_) fun f cdv A outer s H vs Q E hr h => ?_
  · obtain ⟨a, rfl, _⟩ := h
    rfl
  obtain ⟨a, rfl, ba, q⟩ := h
  have sc := sc__law_rects
  refine ⟨_, (pss_cons (ps_set (i := 2) sc.nd rfl (Or.inl rfl) (C8.pe_c c__law_take hr (by decide) (by rfl) (pa_cons (pv 0) (pa_cons pe_int pa_nil))))
      (pss_cons (ps_set (i := 3) sc.nd rfl (Or.inl rfl) (C8.pe_c c__law_take hr (by decide) (by rfl) (pa_cons (pv 0) (pa_cons (pe_ix (ixL (K := K) rfl) (pe_lst (pa_cons (pe_op op_add (pv 1) pe_int) (pa_cons pe_int (pa_cons pe_int (pa_cons pe_int pa_nil))))) (C8.pe_c c__law_take hr (by decide) (by rfl) (pa_cons (pv 0) (pa_cons pe_int pa_nil))) (fun _ _ => rfl)) pa_nil))))
      (pss_cons (ps_set (i := 4) sc.nd rfl (Or.inl rfl) (pe_op op_cat (pe_lc rfl sc.nd (pi_range1 (by rfl) T.range (pa_cons pe_int pa_nil)) (blkOk_by (own := [("_law_k", 6)]) (N := N__law_rects) (sc := C8.fnScope s__law_rects) (by decide +kernel)) (fun _ _ _ _ _ => (pg_name (i := 6) sc.nd rfl (Or.inl rfl))) (fun _ _ _ _ _ => pts_nil) (fun _ _ _ _ _ => (pe_op op_sub (C8.pe_c c__law_take hr (by decide) (by rfl) (pa_cons (pv 0) (pa_cons pe_int pa_nil))) pe_int))) (pe_lst (pa_cons (pe_un un_neg pe_int) (pa_cons pe_int (pa_cons pe_int (pa_cons pe_int pa_nil)))))))
      (pss_cons (ps_set (i := 5) sc.nd rfl (Or.inl rfl) (pe_lst pa_nil))
      (pss_cons (ps_for PassesOwn.never rfl (pi_range1 (by rfl) T.range (pa_cons (pv 3) pa_nil)) (pg_name (i := 6) sc.nd rfl (Or.inl rfl)) (pss_cons (ps_asg (C8.pe_c c__law_side hr (by decide) (by rfl) (pa_cons (pv 0) (pa_cons (pv 2) (pa_cons (pv 4) pa_nil)))) (pgT (K := K) (n := 2) rfl rfl (pgs_cons (pg_name (i := 7) sc.nd rfl (Or.inl rfl)) (pgs_cons (pg_name (i := 8) sc.nd rfl (Or.inl rfl)) pgs_nil))))
      (pss_cons (ps_asg (C8.pe_c c__law_side hr (by decide) (by rfl) (pa_cons (pv 0) (pa_cons (pv 2) (pa_cons (pv 4) pa_nil)))) (pgT (K := K) (n := 2) rfl rfl (pgs_cons (pg_name (i := 9) sc.nd rfl (Or.inl rfl)) (pgs_cons (pg_name (i := 10) sc.nd rfl (Or.inl rfl)) pgs_nil))))
      (pss_one (ps_expr (pe_bm PySem.F.plainAttrs_list PySem.F.slot_list_append PySem.F.type_list_append mt_append (pv 5) (pa_cons (pe_tup (pa_cons (pv 7) (pa_cons (pv 9) (pa_cons (pv 8) (pa_cons (pv 10) pa_nil))))) pa_nil)))))))
      (pss_one (ps_ret (pv 5)))))))), ?_⟩
  refine ⟨.ref a, rfl, a, 4, rfl, ba, by decide, by decide, fun st H1 bg1 st0 st1 => ?_⟩
  refine ⟨.ref a, rfl, .int 20, rfl, _, _, rfl, rfl, by show 4 ≤ sizeLine; decide, fun p1 np1 => ?_⟩
  have bg2 := bg1.same (same_new (o := .lst [.int (20 + 1), .int 13, .int 13, .int 7]) np1)
  have hp1 : (upd H1 p1 (.lst [.int (20 + 1), .int 13, .int 13, .int 7])) p1 = some (.lst [.int (20 + 1), .int 13, .int 13, .int 7]) := upd_same
  have np1a : p1 ≠ a := fun e => by
    obtain ⟨c, m, h, _⟩ := bg1.at'
    rw [e, h] at np1
    cases np1
  generalize upd H1 p1 (.lst [.int (20 + 1), .int 13, .int 13, .int 7]) = H2 at *
  refine ⟨.ref a, rfl, a, 4, rfl, bg2.at', by decide, by decide, fun ix H3 bg3 ix0 ix1 => ?_⟩
  obtain ⟨u, hu, u1, u2⟩ : ∃ u : Int, atI [V.int (20 + 1), .int 13, .int 13, .int 7] ix = some (.int u) ∧ 1 ≤ u ∧ u ≤ 21 := by
    have : ix = 0 ∨ ix = 1 ∨ ix = 2 ∨ ix = 3 := by omega
    rcases this with rfl | rfl | rfl | rfl
    · exact ⟨21, at_0, by decide, by decide⟩
    · exact ⟨13, at_1, by decide, by decide⟩
    · exact ⟨13, at_2, by decide, by decide⟩
    · exact ⟨7, at_3, by decide, by decide⟩
  have bgA := bg2.trans bg3
  refine ⟨p1, _, ix, .int u, rfl, rfl, SqL.of (bg3.fr.l np1a hp1), hu, a, u, rfl, bg3.at', u1, by omega, fun many H4 bg4 m0 m1 => ?_⟩
  have bgB := bgA.trans bg4
  -- the eight numbers
  refine ⟨4, rfl, by decide, by decide, fun Dl nD => lc_range (lo := 0) (n := 4) (fun i H' => Bag a H H' ∧ H Dl = none ∧ Dl ≠ a ∧ ∃ ns : List Int, H' Dl = some (.lst (ns.map V.int)) ∧ ns.length = i ∧ ∀ n ∈ ns, InR n) ?_ ?_ ?_⟩
  · have nDa : Dl ≠ a := fun e => by
      obtain ⟨c, m, h, _⟩ := bgB.at'
      rw [e, h] at nD
      cases nD
    exact ⟨bgB.same (same_new nD), bgB.fr.free nD nDa, nDa, [], upd_same, rfl, fun n hn => no hn⟩
  · rintro i H' hi ⟨bg, nDH, nDa, ns, hD, ln, hin⟩
    refine ⟨rfl, yes ?_⟩
    refine ⟨.ref a, rfl, a, 2097153, rfl, bg.at', by decide, by decide, fun v H'' bg' v0 v1 => ⟨_, _, rfl, rfl, _, bg'.fr.l nDa hD, ?_, ?_⟩⟩
    · rw [List.length_map]
      exact sz' (by omega)
    · refine ⟨⟨(bg.trans bg').fr.mut nDH, ?_⟩, nDH, nDa, ns ++ [v - 1048576], by rw [List.map_append]; exact upd_same, by rw [List.length_append, List.length_singleton, ln], fun n hn => ?_⟩
      · obtain ⟨c, m, h, r⟩ := bg'.at'
        exact ⟨c, m, by rw [upd_ne nDa.symm]; exact h, r⟩
      · rcases List.mem_append.mp hn with hn | hn
        · exact hin n hn
        · rw [List.mem_singleton.mp hn]
          exact ⟨by omega, by omega⟩
  rintro H5 ⟨bg5, nDH, nDa, ns, hD, ln, hin⟩
  refine ⟨_, rfl, by show 4 ≤ sizeLine; decide, fun p2 np2 => ?_⟩
  have bg6 := bg5.same (same_new (o := .lst [.int (-1048576), .int 1048576, .int 0, .int 1]) np2)
  have hD6 := same_new (o := .lst [.int (-1048576), .int 1048576, .int 0, .int 1]) np2 _ _ hD
  have hp2 : (upd H5 p2 (.lst [.int (-1048576), .int 1048576, .int 0, .int 1])) p2 = some (.lst [.int (-1048576), .int 1048576, .int 0, .int 1]) := upd_same
  refine ⟨Dl, p2, _, _, rfl, rfl, hD6, hp2, by rw [List.length_map, ln]; decide, fun p3 np3 => ?_⟩
  have e3 : ns.map V.int ++ [.int (-1048576), .int 1048576, .int 0, .int 1] = (ns ++ [-1048576, 1048576, 0, 1]).map V.int := by rw [List.map_append]; rfl
  rw [e3]
  have bg7 := bg6.same (same_new (o := .lst ((ns ++ [-1048576, 1048576, 0, 1]).map V.int)) np3)
  have hp3 : (upd (upd H5 p2 (.lst [.int (-1048576), .int 1048576, .int 0, .int 1])) p3 (.lst ((ns ++ [-1048576, 1048576, 0, 1]).map V.int))) p3 = some (.lst ((ns ++ [-1048576, 1048576, 0, 1]).map V.int)) := upd_same
  have np3a : p3 ≠ a := fun e => by
    obtain ⟨c, m, h, _⟩ := bg6.at'
    rw [e, h] at np3
    cases np3
  generalize upd (upd H5 p2 (.lst [.int (-1048576), .int 1048576, .int 0, .int 1])) p3 (.lst ((ns ++ [-1048576, 1048576, 0, 1]).map V.int)) = H7 at *
  have in8 : ∀ n ∈ ns ++ [-1048576, 1048576, 0, 1], InR n := fun n hn => by
    rcases List.mem_append.mp hn with hn | hn
    · exact hin n hn
    · simp only [List.mem_cons, List.not_mem_nil, or_false] at hn
      unfold InR
      omega
  have l8 : (ns ++ [-1048576, 1048576, 0, 1]).length = 8 := by rw [List.length_append, ln]; rfl
  generalize ns ++ [-1048576, 1048576, 0, 1] = ms at *
  refine ⟨Nat.zero_le _, fun o no => ?_⟩
  have bg8 := bg7.same (same_new (o := .lst []) no)
  have hp8 := same_new (o := .lst []) no _ _ hp3
  have ho8 : (upd H7 o (.lst [])) o = some (.lst []) := upd_same
  have noa : o ≠ a := fun e => by
    obtain ⟨c, m, h, _⟩ := bg7.at'
    rw [e, h] at no
    cases no
  have noH : H o = none := bg7.fr.free no noa
  have np3o : p3 ≠ o := ne_of_none hp3 no
  generalize upd H7 o (.lst []) = H8 at *
  refine ⟨.int many, rfl, many, rfl, by omega, by omega, for_range (lo := 0) (fun i σ' H' => ∃ (xs : List V) (rects : List Rc) (y6 y7 y8 y9 y10 : Option V), σ' = [some (.ref a), some (.int 20), some (.int st), some (.int many), some (.ref p3), some (.ref o), y6, y7, y8, y9, y10] ∧ Bag a H H' ∧ H' p3 = some (.lst (ms.map V.int)) ∧
    H' o = some (.lst xs) ∧ DtAll H' xs (rects.map dQ) ∧ rects.length = i ∧ ∀ q ∈ rects, RcOk q ∧ RcIn q) ?_ ?_ ?_⟩
  · exact ⟨[], [], none, none, none, none, none, rfl, bg8, hp8, ho8, .nil, rfl, fun q hq => Mk.no hq⟩
  · rintro i σ' H' hi ⟨xs, rects, y6, y7, y8, y9, y10, rfl, bg, hp, ho, dx, lr, hv⟩
    have lx : xs.length = rects.length := by rw [DtAll.len dx, List.length_map]
    refine ⟨.ref a, rfl, .int st, rfl, .ref p3, rfl, a, p3, st, ms, rfl, bg.at', np3a.symm, hp, l8, in8, fun t1 lo hi H9 bg9 ht1 w1 w2 w3 => ?_⟩
    refine ⟨t1, _, rfl, SqT.of ht1, rfl, _, _, rfl, _, _, rfl, rfl, ?_⟩
    have hp9 := bg9.fr.l np3a hp
    have ho9 := bg9.fr.l noa ho
    have dx9 := dx.keep (bg9.keep bg.at')
    refine ⟨.ref a, rfl, .int st, rfl, .ref p3, rfl, a, p3, st, ms, rfl, bg9.at', np3a.symm, hp9, l8, in8, fun t2 lo2 hi2 H10 bg10 ht2 z1 z2 z3 => ?_⟩
    refine ⟨t2, _, rfl, SqT.of ht2, rfl, _, _, rfl, _, _, rfl, rfl, ?_⟩
    have hp10 := bg10.fr.l np3a hp9
    have ho10 := bg10.fr.l noa ho9
    have dx10 := dx9.keep (bg10.keep bg9.at')
    have bgT := (bg.trans bg9).trans bg10
    refine ⟨.ref o, rfl, .inl ⟨rfl, _, SqL.of ho10⟩, .int lo, rfl, .int lo2, rfl, .int hi, rfl, .int hi2, rfl, by show 4 ≤ sizeLine; decide, fun t nt => ?_⟩
    obtain ⟨g0, g1, g2, g3, g4⟩ := app_new (w := [.int lo, .int lo2, .int hi, .int hi2]) (ws := xs ++ [V.ref t]) ho10 nt
    refine ⟨o, xs, .ref t, rfl, rfl, g0, sz' (by omega), ?_⟩
    refine ⟨xs ++ [.ref t], rects ++ [(lo, lo2, hi, hi2)], _, _, _, _, _, rfl, ⟨?_, ?_⟩, g1 _ _ np3o hp10, g2, ?_, by rw [List.length_append, List.length_singleton, lr], fun q0 h0 => ?_⟩
    · exact (bgT.fr.trans (.of (same_new nt))).mut noH
    · obtain ⟨c, m, h, r⟩ := bgT.at'
      exact ⟨c, m, g1 _ _ noa.symm h, r⟩
    · rw [List.map_append]
      exact DtAll.app (dx10.keep g4) (DtAll.one (Q_dt g3))
    · rcases List.mem_append.mp h0 with h0 | h0
      · exact hv q0 h0
      · rw [List.mem_singleton.mp h0]
        exact ⟨⟨w1, z1⟩, w2, z2, w3, z3⟩
  · rintro σ' H' ⟨xs, rects, y6, y7, y8, y9, y10, rfl, bg, hp, ho, dx, lr, hv⟩
    exact ⟨_, rfl, q o H' xs rects bg noH noa ho dx (by omega) hv⟩
end
end Mw

-- W15
namespace Mw
open PySem PySem.Spec PyProof.Rows L2 MkR Mk
section
variable {P : Program} {w : World} {K : PySem.W.Frag} {mg : Str → Option Value} {base : Heap}
abbrev s__law_bag : Stmt := topS 38
abbrev N__law_bag : List Str := ["_law_script", "_law_at", "_law_cell", "_law_mix", "_law_k"]
theorem sc__law_bag : FnScope N__law_bag ["_law_script", "_law_at"] (C8.fnScope s__law_bag) := C8.fnScope_by (by decide +kernel)
def sp_bag (K : PySem.W.Frag) : Sp := fun vs H Q _ => ∃ (a : Addr) (ns : List Int) (t : Nat), vs = [.ref a, .int (t : Int)] ∧ SqL K H a (ns.map V.int) ∧ ns.length ≤ 63 ∧ t ≤ 1 ∧ ∀ (p : Addr) (H' : Hp), L2.Same H H' → H p = none → BagAt H' p → Q (.ref p) H'
theorem cal_bag (T : Txt mg) (D : Here K mg "_law_bag" s__law_bag ["_law_script", "_law_at"]) : C8.Cal P w K mg base 1 "_law_bag" (sp_bag K) [] := by
  refine D.cal sc__law_bag (fun vs H Q E h => ?_) fun f cdv A outer s H vs Q E hr h => ?_
  · obtain ⟨a, ns, t, rfl, _⟩ := h
    rfl
  obtain ⟨a, ns, t, rfl, ha, hn, ht, q⟩ := h
  have sc := sc__law_bag
  refine ⟨_, (pss_cons (ps_set (i := 2) sc.nd rfl (Or.inl rfl) pe_int)
      (C8.pss_cut (ps_if (pt_cmpR op_lt (pv 1) (pe_callB call_len_seq (by rfl) T.len (by decide +kernel) (pa_cons (pv 0) pa_nil)) (nomark _)) (pss_one (ps_set (i := 2) sc.nd rfl (Or.inl rfl) (pe_callB call_abs (by rfl) T.abs (by decide +kernel) (pa_cons (pe_ix (ixL (K := K) rfl) (pv 0) (pv 1) (fun _ _ => rfl)) pa_nil)))) pss_nil)
      (pss_cons (ps_set (i := 3) sc.nd rfl (Or.inl rfl) (pe_op op_add (pe_op op_add (pe_op op_mul (pe_op op_mul pe_int (pv 1)) (pv 1)) (pe_op op_mul pe_int (pv 1))) pe_int))
      (pss_cons (ps_for PassesOwn.never rfl (pi_range1 (by rfl) T.range (pa_cons (pe_callB (call_min2 rfl) (by rfl) T.min (by decide +kernel) (pa_cons (pe_callB call_len_seq (by rfl) T.len (by decide +kernel) (pa_cons (pv 0) pa_nil)) (pa_cons pe_int pa_nil))) pa_nil)) (pg_name (i := 4) sc.nd rfl (Or.inl rfl)) (pss_one (ps_set (i := 3) sc.nd rfl (Or.inl rfl) (pe_op op_mod (pe_op op_pow (pe_op op_add (pe_op op_add (pe_op op_mul (pv 3) pe_int) (pe_op op_mod (pe_ix (ixL (K := K) rfl) (pv 0) (pv 4) (fun _ _ => rfl)) pe_int)) (pe_op op_mul (pv 4) (pv 4))) pe_int) pe_int))))
      (C8.pss_cut (ps_if (pt_cmpR op_lt (pv 2) (pe_op op_pow pe_int pe_int) (nomark _)) (pss_one (ps_set (i := 2) sc.nd rfl (Or.inl rfl) pe_int)) pss_nil)
      (pss_one (ps_ret (pe_lst (pa_cons (pv 2) (pa_cons (pv 3) pa_nil)))))))))), ?_⟩
  refine ⟨fun σ' H' => ∃ c : Int, 0 ≤ c ∧ σ' = [some (.ref a), some (.int (t : Int)), some (.int c), none, none] ∧ H' = H, ?_, ?_⟩
  · refine ⟨.int t, rfl, .ref a, rfl, a, _, rfl, .inl ha, _, _, rfl, rfl, ?_⟩
    by_cases c : t < ns.length
    · refine ⟨true, bt (by rw [List.length_map]; exact Int.ofNat_lt.mpr c), iteT ?_⟩
      have hg : ns[t]? = some (ns[t]'c) := List.getElem?_eq_getElem c
      generalize ns[t]'c = u at hg
      refine ⟨.ref a, rfl, .int t, rfl, a, _, (t : Int), .int u, rfl, rfl, ha, atI_nat (by rw [List.getElem?_map, hg]; rfl), u, rfl, _, ?_, rfl, rfl⟩
      split <;> omega
    · refine ⟨false, bf (by rw [List.length_map]; omega), iteF ?_⟩
      exact ⟨0, Int.le_refl _, rfl, rfl⟩
  rintro σ' H' ⟨c, hc, rfl, rfl⟩
  have t2 : (t : Int) = 0 ∨ (t : Int) = 1 := by omega
  refine ⟨.int t, rfl, 7919, (t : Int), rfl, rfl, .inl ⟨by decide, by decide⟩, .int t, rfl, _, _, rfl, rfl, .inr ⟨by omega, by omega⟩, .int t, rfl, _, _, rfl, rfl, .inl ⟨by decide, by decide⟩, _, _, rfl, rfl, _, _, rfl, rfl, ?_⟩
  have b0 : 0 ≤ 7919 * (t : Int) * (t : Int) + 104729 * (t : Int) + 17 ∧ 7919 * (t : Int) * (t : Int) + 104729 * (t : Int) + 17 < 2147483629 := by
    rcases t2 with e | e <;> rw [e] <;> decide
  refine ⟨.ref a, rfl, a, _, rfl, .inl ha, _, _, rfl, _, rfl, ?_, ?_, for_range (lo := 0) (fun i σ' H'' => ∃ (m : Int) (y4 : Option V), σ' = [some (.ref a), some (.int (t : Int)), some (.int c), some (.int m), y4] ∧ H'' = H' ∧ 0 ≤ m ∧ m < 2147483629) ?_ ?_ ?_⟩
  · rw [List.length_map]
    split <;> omega
  · rw [List.length_map]
    split <;> omega
  · exact ⟨_, none, rfl, rfl, b0.1, b0.2⟩
  · rintro i σ' H'' hi ⟨m, y4, rfl, rfl, m0, m1⟩
    rw [List.length_map] at hi
    have li : i < ns.length ∧ i < 60 := by
      split at hi <;> omega
    have hg : ns[i]? = some (ns[i]'li.1) := List.getElem?_eq_getElem li.1
    generalize ns[i]'li.1 = u at hg
    have w0 := Int.emod_nonneg u (show (2147483647 : Int) ≠ 0 by decide)
    have w1 := Int.emod_lt_of_pos u (show (0 : Int) < 2147483647 by decide)
    have hi0 : (0 : Int) + (i : Int) = (i : Int) := Int.zero_add _
    have e0 := Int.emod_nonneg ((m * 48271 + u % 2147483647 + (0 + (i : Int)) * (0 + (i : Int))) ^ (5 : Int).toNat) (show (2147483629 : Int) ≠ 0 by decide)
    have e1 := Int.emod_lt_of_pos ((m * 48271 + u % 2147483647 + (0 + (i : Int)) * (0 + (i : Int))) ^ (5 : Int).toNat) (show (0 : Int) < 2147483629 by decide)
    have sq : 0 ≤ (0 + (i : Int)) * (0 + (i : Int)) ∧ (0 + (i : Int)) * (0 + (i : Int)) ≤ 3600 := by
      rw [hi0]
      constructor
      · exact Int.mul_nonneg (by omega) (by omega)
      · have h1 : i * i ≤ 60 * 60 := Nat.mul_le_mul (by omega) (by omega)
        have h2 : ((i * i : Nat) : Int) ≤ ((60 * 60 : Nat) : Int) := Int.ofNat_le.mpr h1
        rw [Int.natCast_mul] at h2
        exact h2
    have hat : atI (ns.map V.int) (0 + (i : Int)) = some (.int u) := by
      rw [hi0]
      exact atI_nat (by rw [List.getElem?_map, hg]; rfl)
    refine ⟨.int m, rfl, m, 48271, rfl, rfl, .inr ⟨by decide, by decide⟩, .ref a, rfl, .int (0 + (i : Int)), rfl, a, _, 0 + (i : Int), .int u, rfl, rfl, ha, hat, _, _, rfl, rfl, show (0 : Int) < 2147483647 by decide, _, _, rfl, rfl,
      .int (0 + (i : Int)), rfl, .int (0 + (i : Int)), rfl, _, _, rfl, rfl, .inl ⟨by omega, by omega⟩, _, _, rfl, rfl, _, _, rfl, rfl, ⟨by decide, by decide, ?_⟩, _, _, rfl, rfl, show (0 : Int) < 2147483629 by decide, ?_⟩
    · generalize (0 + (i : Int)) * (0 + (i : Int)) = s2 at *
      generalize u % 2147483647 = s3 at *
      omega
    · exact ⟨_, _, rfl, rfl, e0, e1⟩
  · rintro σ' H'' ⟨m, y4, rfl, rfl, m0, m1⟩
    refine ⟨fun σ2 H2 => ∃ c2 : Int, 0 ≤ c2 ∧ σ2 = [some (.ref a), some (.int (t : Int)), some (.int c2), some (.int m), y4] ∧ H2 = H'', ?_, ?_⟩
    · refine ⟨.int c, rfl, _, _, rfl, rfl, ⟨by decide, by decide, by decide⟩, _, _, rfl, rfl, ?_⟩
      by_cases cc : c < 10 ^ (18 : Int).toNat
      · exact ⟨true, bt cc, iteT ⟨0, Int.le_refl _, rfl, rfl⟩⟩
      · exact ⟨false, bf cc, iteF ⟨c, hc, rfl, rfl⟩⟩
    · rintro σ2 H2 ⟨c2, hc2, rfl, rfl⟩
      exact ⟨_, rfl, _, rfl, by show 2 ≤ sizeLine; decide, fun p np => q p _ (same_new np) np ⟨c2, m, upd_same, hc2, m0, m1⟩⟩
end
end Mw

-- W16
namespace Mw
open PySem PySem.Spec PyProof.Rows L2 MkR Mk
/-! ### the order of regions: who is not below and not above is the same -/
theorem tri_map {α : Type} {enc : α → PyData} (h : ∀ a b, PySem.W.dataLt (enc a) (enc b) = false → PySem.W.dataLt (enc b) (enc a) = false → a = b) (al : ∀ a b, PySem.W.alike (enc a) (enc b) = true) (ev : ∀ a b, PyData.eqv (enc a) (enc b) = true ↔ a = b) :
    ∀ l m : List α, PyProof.Rows.lexLt PyProof.Rows.itemOrd (PySem.W.keyToksAll (l.map enc)) (PySem.W.keyToksAll (m.map enc)) = false → PyProof.Rows.lexLt PyProof.Rows.itemOrd (PySem.W.keyToksAll (m.map enc)) (PySem.W.keyToksAll (l.map enc)) = false → l = m
  | [], [], _, _ => rfl
  | [], b :: m, e, _ => by
    rw [List.map_cons, PySem.W.toks_all_cons] at e
    simp only [List.map_nil, PySem.W.keyToksAll] at e
    rw [PyProof.Rows.lex_diff (O := PyProof.Rows.itemOrd) (by simp)] at e
    cases e
  | a :: l, [], _, e => by
    rw [List.map_cons, PySem.W.toks_all_cons] at e
    simp only [List.map_nil, PySem.W.keyToksAll] at e
    rw [PyProof.Rows.lex_diff (O := PyProof.Rows.itemOrd) (by simp)] at e
    cases e
  | a :: l, b :: m, e1, e2 => by
    rw [List.map_cons, List.map_cons, PySem.W.dataLt_cons (al a b)] at e1
    rw [List.map_cons, List.map_cons, PySem.W.dataLt_cons (al b a)] at e2
    by_cases c : a = b
    · subst c
      rw [if_pos ((ev a a).mpr rfl)] at e1 e2
      rw [tri_map h al ev l m e1 e2]
    · rw [if_neg fun q => c ((ev a b).mp q)] at e1
      rw [if_neg fun q => c ((ev b a).mp q).symm] at e2
      exact (c (h a b e1 e2)).elim
theorem tri_P (a b : Int × Int) (e1 : PySem.W.dataLt (dP a) (dP b) = false) (e2 : PySem.W.dataLt (dP b) (dP a) = false) : a = b := by
  unfold dP at e1 e2
  rw [PySem.W.dataLt_ii] at e1 e2
  have h1 := of_decide_eq_false e1
  have h2 := of_decide_eq_false e2
  obtain ⟨a1, a2⟩ := a
  obtain ⟨b1, b2⟩ := b
  simp only at h1 h2
  rw [Prod.mk.injEq]
  omega
theorem tri_L (l m : Ln) (e1 : PySem.W.dataLt (dL l) (dL m) = false) (e2 : PySem.W.dataLt (dL m) (dL l) = false) : l = m := by
  unfold dL at e1 e2
  rw [PySem.W.dataLt_tuple] at e1 e2
  exact tri_map tri_P alike_P eqv_P l m e1 e2
theorem tri_B (a b : Bd) (e1 : PySem.W.dataLt (dB a) (dB b) = false) (e2 : PySem.W.dataLt (dB b) (dB a) = false) : a = b := by
  obtain ⟨a1, a2, a3⟩ := a
  obtain ⟨b1, b2, b3⟩ := b
  unfold dB at e1 e2
  simp only at e1 e2
  have ai : ∀ x y : Int, PySem.W.alike (.int x) (.int y) = true := fun x y => by simp [PySem.W.alike]
  have ei : ∀ x y : Int, PyData.eqv (.int x) (.int y) = true ↔ x = y := fun x y => by simp [PyData.eqv]
  rw [PySem.W.dataLt_tuple, PySem.W.dataLt_cons (ai _ _), PySem.W.dataLt_cons (ai _ _), PySem.W.dataLt_cons (alike_L _ _), PySem.W.dataLt_int, PySem.W.dataLt_int] at e1 e2
  by_cases c1 : a1 = b1
  · subst c1
    rw [if_pos ((ei _ _).mpr rfl)] at e1 e2
    by_cases c2 : a2 = b2
    · subst c2
      rw [if_pos ((ei _ _).mpr rfl)] at e1 e2
      by_cases c3 : a3 = b3
      · rw [c3]
      · rw [if_neg fun q => c3 ((eqv_L _ _).mp q)] at e1
        rw [if_neg fun q => c3 ((eqv_L _ _).mp q).symm] at e2
        exact (c3 (tri_L _ _ e1 e2)).elim
    · rw [if_neg fun q => c2 ((ei _ _).mp q)] at e1
      rw [if_neg fun q => c2 ((ei _ _).mp q).symm] at e2
      have := of_decide_eq_false e1
      have := of_decide_eq_false e2
      exact (c2 (by omega)).elim
  · rw [if_neg fun q => c1 ((ei _ _).mp q)] at e1
    rw [if_neg fun q => c1 ((ei _ _).mp q).symm] at e2
    have := of_decide_eq_false e1
    have := of_decide_eq_false e2
    exact (c1 (by omega)).elim
theorem tri_R (l m : Rg) (e1 : PySem.W.dataLt (dR l) (dR m) = false) (e2 : PySem.W.dataLt (dR m) (dR l) = false) : l = m := by
  unfold dR at e1 e2
  rw [PySem.W.dataLt_tuple] at e1 e2
  exact tri_map tri_B alike_B eqv_B l m e1 e2
theorem anti_R (a b : Rg) (h1 : PySem.W.dataLe false dR a b = true) (h2 : PySem.W.dataLe false dR b a = true) : a = b := by
  rw [PySem.W.dataLe_eq] at h1 h2
  simp only [cond_false, Bool.not_eq_true'] at h1 h2
  exact tri_R a b h2 h1
theorem sort_same {l m : List Rg} (h : l.Perm m) : l.mergeSort (PySem.W.dataLe false dR) = m.mergeSort (PySem.W.dataLe false dR) := by
  refine List.Perm.eq_of_pairwise (le := fun a b => PySem.W.dataLe false dR a b = true) (fun a b _ _ h1 h2 => anti_R a b h1 h2) (PySem.W.sort_pairwise (le_total dR) l) (PySem.W.sort_pairwise (le_total dR) m) ?_
  exact ((List.mergeSort_perm _ _).trans h).trans (List.mergeSort_perm _ _).symm
theorem able_R {L : List Rg} (h : ∀ R ∈ L, R ≠ []) : PySem.W.AllAlike (L.map dR) ∧ PySem.W.Sortable (L.map dR) ∧ ∀ b ∈ L, (dR b).depth ≤ 8 :=
  ⟨.of alike_R, .inl fun d hd => by
    obtain ⟨R, hR, rfl⟩ := List.mem_map.mp hd
    cases R with
    | nil => exact (h _ hR rfl).elim
    | cons b r => exact ⟨dB b, r.map dB, rfl⟩, fun b _ => Nat.le_trans (depth_R b) (by decide)⟩
theorem shaped_LR (L : List Rg) : SeqAt.shaped (.list (L.map dR)) = true := by
  have h1 : (PyData.list (L.map dR)).canLay0 = true := by
    rw [PyData.canLay0]
    exact lay_map lay_R L
  have h2 : (PyData.list (L.map dR)).depth ≤ 64 := by
    rw [PyData.depth]
    exact Nat.le_trans (Nat.succ_le_succ (depth_map depth_R L)) (by decide)
  unfold SeqAt.shaped
  rw [h1, decide_eq_true h2]
  rfl
theorem eqv_LR (L : List Rg) : PyData.eqv (.list (L.map dR)) (.list (L.map dR)) = true := by
  rw [PyData.eqv]
  exact (eqv_map eqv_R L L).mpr rfl

/-! ### what the law says, of regions -/
theorem rg_eq {a b : Rg} (h1 : ROK a) (h2 : ROK b) (e : inR a = inR b) : a = b := h1.ext h2 fun x y => by rw [e]
theorem turn_mem {r r' : Rg} {t : Nat} {dx dy : Int} (h : IsReg ((rectsM r).map (turnR t dx dy)) r') : inR r' = turnS t dx dy (inR r) := by
  have e : inCs (rectsM r) = inR r := pl_ext fun _ _ => rectsM_in
  refine Eq.trans (pl_ext h.mem) ?_
  rw [inCs_turn, e]
theorem mix_both {one other r : Rg} (h : IsMix kBoth one other r) (o1 : ROK one) (o2 : ROK other) : inR r = fun x y => inR one x y ∧ inR other x y := pl_ext fun x y => by
  rw [← h.ok.inRb_iff, h.mem, ← o1.inRb_iff, ← o2.inRb_iff]
  unfold kBoth
  cases inRb one x y <;> cases inRb other x y <;> simp
theorem mix_either {one other r : Rg} (h : IsMix kEither one other r) (o1 : ROK one) (o2 : ROK other) : inR r = fun x y => inR one x y ∨ inR other x y := pl_ext fun x y => by
  rw [← h.ok.inRb_iff, h.mem, ← o1.inRb_iff, ← o2.inRb_iff]
  unfold kEither
  cases inRb one x y <;> cases inRb other x y <;> simp
theorem mix_less {one other r : Rg} (h : IsMix kFirst one other r) (o1 : ROK one) (o2 : ROK other) : inR r = fun x y => inR one x y ∧ ¬ inR other x y := pl_ext fun x y => mix_first h o1 o2 x y
theorem law_both {one other L R b tb lb : Rg} {t : Nat} {dx dy : Int} (o1 : ROK one) (o2 : ROK other) (hL : IsReg ((rectsM one).map (turnR t dx dy)) L) (hR : IsReg ((rectsM other).map (turnR t dx dy)) R) (hb : IsMix kBoth one other b) (htb : IsReg ((rectsM b).map (turnR t dx dy)) tb) (hlb : IsMix kBoth L R lb) : lb = tb := by
  refine rg_eq hlb.ok htb.ok ?_
  rw [mix_both hlb hL.ok hR.ok, turn_mem htb, mix_both hb o1 o2, turn_mem hL, turn_mem hR]
  exact turnS_two (k := And)
theorem law_either {one other L R b tb lb : Rg} {t : Nat} {dx dy : Int} (o1 : ROK one) (o2 : ROK other) (hL : IsReg ((rectsM one).map (turnR t dx dy)) L) (hR : IsReg ((rectsM other).map (turnR t dx dy)) R) (hb : IsMix kEither one other b) (htb : IsReg ((rectsM b).map (turnR t dx dy)) tb) (hlb : IsMix kEither L R lb) : lb = tb := by
  refine rg_eq hlb.ok htb.ok ?_
  rw [mix_either hlb hL.ok hR.ok, turn_mem htb, mix_either hb o1 o2, turn_mem hL, turn_mem hR]
  exact turnS_two (k := Or)
theorem law_less {one other L R b tb lb : Rg} {t : Nat} {dx dy : Int} (o1 : ROK one) (o2 : ROK other) (hL : IsReg ((rectsM one).map (turnR t dx dy)) L) (hR : IsReg ((rectsM other).map (turnR t dx dy)) R) (hb : IsMix kFirst one other b) (htb : IsReg ((rectsM b).map (turnR t dx dy)) tb) (hlb : IsMix kFirst L R lb) : lb = tb := by
  refine rg_eq hlb.ok htb.ok ?_
  rw [mix_less hlb hL.ok hR.ok, turn_mem htb, mix_less hb o1 o2, turn_mem hL, turn_mem hR]
  exact turnS_two (k := fun a b => a ∧ ¬ b)
theorem law_grown {one L g tg lg : Rg} {t : Nat} {dx dy k : Int} (hk : 0 ≤ k) (o1 : ROK one) (hL : IsReg ((rectsM one).map (turnR t dx dy)) L) (hg : IsReg ((rectsM one).map (growR k)) g) (htg : IsReg ((rectsM g).map (turnR t dx dy)) tg) (hlg : IsReg ((rectsM L).map (growR k)) lg) : lg = tg := by
  refine rg_eq hlg.ok htg.ok ?_
  rw [hlg.grow hL.ok hk, turn_mem htg, hg.grow o1 hk, turn_mem hL, (grow_goes k).turn]
theorem law_shrunk {one L g tg lg : Rg} {t : Nat} {dx dy k : Int} (hL : IsReg ((rectsM one).map (turnR t dx dy)) L) (hg : IsShr k one g) (htg : IsReg ((rectsM g).map (turnR t dx dy)) tg) (hlg : IsShr k L lg) : lg = tg := by
  refine rg_eq hlg.ok htg.ok ?_
  rw [hlg.mem, turn_mem htg, hg.mem, turn_mem hL, (shrink_goes k).turn]
theorem law_area {one L : Rg} {t : Nat} {dx dy : Int} (o1 : ROK one) (hL : IsReg ((rectsM one).map (turnR t dx dy)) L) : areaM L = areaM one := by
  have h1 := area_ok hL.ok
  have h2 := hc_turn (t := t) (dx := dx) (dy := dy) (area_ok o1)
  rw [turn_mem hL] at h1
  exact h1.uniq h2
theorem law_rim {one L : Rg} {t : Nat} {dx dy a b c d : Int} (hL : IsReg ((rectsM one).map (turnR t dx dy)) L) (h1 : RimOk (inR L) a b) (h2 : RimOk (inR one) c d) : a + b = c + d := by
  obtain ⟨v, h, k, e⟩ := h2.turn (t := t) (dx := dx) (dy := dy)
  rw [turn_mem hL] at h1
  rw [← e]
  exact h1.uniq k
theorem turnS_surj {t : Nat} {dx dy : Int} (T : Pl) : ∃ S, turnS t dx dy S = T := by
  have v : ∀ T, ∃ S, vS dx dy S = T := fun T => ⟨vS (-dx) (-dy) T, pl_ext fun x y => by
    unfold vS
    rw [show x - dx - -dx = x by omega, show y - dy - -dy = y by omega]⟩
  have m : ∀ T, ∃ S, mS S = T := fun T => ⟨mS T, pl_ext fun x y => by
    unfold mS
    rw [show -(-x - 1) - 1 = x by omega]⟩
  have q : ∀ T, ∃ S, qS S = T := fun T => ⟨fun X Y => T (-Y - 1) X, pl_ext fun x y => by
    show T (-(-x - 1) - 1) y ↔ T x y
    rw [show -(-x - 1) - 1 = x by omega]⟩
  have qs : ∀ n T, ∃ S, qsS n S = T := fun n => by
    induction n with
    | zero => exact fun T => ⟨T, rfl⟩
    | succ n ih =>
      intro T
      obtain ⟨S, hS⟩ := q T
      obtain ⟨S', hS'⟩ := ih S
      exact ⟨S', by rw [qsS, hS', hS]⟩
  obtain ⟨S1, h1⟩ := v T
  obtain ⟨S2, h2⟩ := qs (t % 4) S1
  unfold turnS
  by_cases c : t > 3
  · obtain ⟨S3, h3⟩ := m S2
    refine ⟨S3, ?_⟩
    rw [if_pos c, h3, h2, h1]
  · refine ⟨S2, ?_⟩
    rw [if_neg c, h2, h1]
/-- the turned pieces are the pieces of the turned region -/
theorem law_pieces {one L : Rg} {t : Nat} {dx dy : Int} (hL : IsReg ((rectsM one).map (turnR t dx dy)) L) {ps qs : List Rg} (hp : Pcs (inR one) ps) (len : qs.length = ps.length) (hq : ∀ (i : Nat) (a b : Rg), ps[i]? = some a → qs[i]? = some b → IsReg ((rectsM a).map (turnR t dx dy)) b) : Pcs (inR L) qs := by
  have at' : ∀ b ∈ qs, ∃ i a, ps[i]? = some a ∧ qs[i]? = some b ∧ IsReg ((rectsM a).map (turnR t dx dy)) b := fun b hb => by
    obtain ⟨i, hi, ei⟩ := List.getElem_of_mem hb
    have h1 : qs[i]? = some b := by rw [List.getElem?_eq_getElem hi, ei]
    have h2 : ps[i]? = some (ps[i]'(by omega)) := List.getElem?_eq_getElem (by omega)
    exact ⟨i, _, h2, h1, hq i _ _ h2 h1⟩
  refine ⟨?_, fun b hb => ?_, fun T hT => ?_⟩
  · refine List.pairwise_iff_getElem.mpr fun i j hi hj lt e => ?_
    have a1 : ps[i]? = some (ps[i]'(by omega)) := List.getElem?_eq_getElem (by omega)
    have a2 : ps[j]? = some (ps[j]'(by omega)) := List.getElem?_eq_getElem (by omega)
    have t1 := hq i _ _ a1 (List.getElem?_eq_getElem hi)
    have t2 := hq j _ _ a2 (List.getElem?_eq_getElem hj)
    have s1 := turn_mem t1
    have s2 := turn_mem t2
    rw [e, s2] at s1
    have s3 := turnS_inj s1
    have e2 : ps[j]'(by omega) = ps[i]'(by omega) := rg_eq (hp.ok _ (List.getElem_mem _)).1 (hp.ok _ (List.getElem_mem _)).1 s3
    exact absurd (nd_at hp.nd a1 (by rw [a2, e2])) (by omega)
  · obtain ⟨i, a, h1, _, h3⟩ := at' b hb
    refine ⟨h3.ok, ?_⟩
    rw [turn_mem h3, turn_mem hL]
    exact (hp.ok a (List.mem_of_getElem? h1)).2.turn
  · obtain ⟨S, rfl⟩ := turnS_surj (t := t) (dx := dx) (dy := dy) T
    rw [turn_mem hL] at hT
    -- a place of it, turned back
    obtain ⟨x, y, hxy⟩ := turnS_some hT.some
    have sub : ∀ {x y}, S x y → inR one x y := fun {x y} h => by
      refine Classical.byContradiction fun n => ?_
      have e1 : turnS t dx dy (fun x y => S x y ∧ inR one x y) = turnS t dx dy S := by
        rw [← turnS_two (k := And)]
        exact pl_ext fun u v => ⟨fun w => w.1, fun w => ⟨w, hT.sub w⟩⟩
      have e2 := congrFun (congrFun (turnS_inj e1) x) y
      exact n (e2.mpr h).2
    have k0 : IsPc (inR one) (fun u v => Way (inR one) x y u v) := ⟨x, y, sub hxy, rfl⟩
    obtain ⟨a, ha, ea⟩ := hp.has _ k0
    have k1 := k0.turn (t := t) (dx := dx) (dy := dy)
    have e : turnS t dx dy (fun u v => Way (inR one) x y u v) = turnS t dx dy S := by
      have both : turnS t dx dy (fun u v => Way (inR one) x y u v ∧ S u v) = fun u v => turnS t dx dy (fun u v => Way (inR one) x y u v) u v ∧ turnS t dx dy S u v := (turnS_two (k := And)).symm
      have ne : ∃ u v, turnS t dx dy (fun u v => Way (inR one) x y u v ∧ S u v) u v := by
        refine Classical.byContradiction fun no => ?_
        have e3 : turnS t dx dy (fun u v => Way (inR one) x y u v ∧ S u v) = turnS t dx dy (fun u v => (Way (inR one) x y u v ∧ S u v) ∧ False) := by
          rw [← turnS_two (S := fun u v => Way (inR one) x y u v ∧ S u v) (T := fun _ _ => False) (k := And)]
          exact pl_ext fun u v => ⟨fun w => (no ⟨u, v, w⟩).elim, fun w => w.1⟩
        have e4 := congrFun (congrFun (turnS_inj e3) x) y
        exact (e4.mp ⟨.refl (sub hxy), hxy⟩).2
      obtain ⟨u, v, w⟩ := ne
      rw [both] at w
      exact k1.eq hT w.1 w.2
    obtain ⟨i, hi, ei⟩ := List.getElem_of_mem ha
    have h1 : ps[i]? = some a := by rw [List.getElem?_eq_getElem hi, ei]
    have h2 : qs[i]? = some (qs[i]'(by omega)) := List.getElem?_eq_getElem (by omega)
    refine ⟨_, List.mem_of_getElem? h2, ?_⟩
    rw [turn_mem (hq i _ _ h1 h2), ea, e]
end Mw

-- W17
namespace Mw
open PySem PySem.Spec PyProof.Rows L2 MkR Mk
theorem neR {a b : Rg} (h : a = b) : V.bl (!PyData.eqv (dR a) (dR b)) = V.bl false := by
  rw [(eqv_R a b).mpr h]
  rfl
theorem neLR {L M : List Rg} (h : L = M) : V.bl (!PyData.eqv (.list (L.map dR)) (.list (M.map dR))) = V.bl false := by
  rw [h, eqv_LR]
  rfl
theorem Pcs.ne {S : Pl} {L : List Rg} (h : Pcs S L) : ∀ R ∈ L, R ≠ [] := fun R hR e => by
  obtain ⟨_, b⟩ := h.ok R hR
  obtain ⟨x, y, k⟩ := b.some
  rw [e] at k
  exact inR_nil k
theorem in_quarter {B : Int} {q : Rc} (h : -B ≤ q.1 ∧ q.1 ≤ B ∧ -B ≤ q.2.1 ∧ q.2.1 ≤ B ∧ -B ≤ q.2.2.1 ∧ q.2.2.1 ≤ B ∧ -B ≤ q.2.2.2 ∧ q.2.2.2 ≤ B) : ∀ n, (-B ≤ (Mk.quarters n q).1 ∧ (Mk.quarters n q).1 ≤ B ∧ -B ≤ (Mk.quarters n q).2.1 ∧ (Mk.quarters n q).2.1 ≤ B ∧ -B ≤ (Mk.quarters n q).2.2.1 ∧ (Mk.quarters n q).2.2.1 ≤ B ∧ -B ≤ (Mk.quarters n q).2.2.2 ∧ (Mk.quarters n q).2.2.2 ≤ B)
  | 0 => h
  | n + 1 => by
    have := in_quarter h n
    rw [Mk.quarters]
    generalize Mk.quarters n q = p at *
    unfold quarterR
    simp only
    omega
theorem in_turn {q : Rc} {t : Nat} {dx dy : Int} (h : RcIn q) (hy : -524288 ≤ dy ∧ dy ≤ 524288) : -1000000000000 ≤ (turnR t dx dy q).2.1 ∧ (turnR t dx dy q).2.2.2 ≤ 1000000000000 := by
  unfold RcIn InR at h
  have h0 : -1048576 ≤ (if t > 3 then mirrorR q else q).1 ∧ (if t > 3 then mirrorR q else q).1 ≤ 1048576 ∧ -1048576 ≤ (if t > 3 then mirrorR q else q).2.1 ∧ (if t > 3 then mirrorR q else q).2.1 ≤ 1048576 ∧ -1048576 ≤ (if t > 3 then mirrorR q else q).2.2.1 ∧ (if t > 3 then mirrorR q else q).2.2.1 ≤ 1048576 ∧ -1048576 ≤ (if t > 3 then mirrorR q else q).2.2.2 ∧ (if t > 3 then mirrorR q else q).2.2.2 ≤ 1048576 := by
    by_cases c : t > 3
    · rw [if_pos c]
      unfold mirrorR
      simp only
      omega
    · rw [if_neg c]
      omega
  have h1 := in_quarter h0 (t % 4)
  unfold turnR moveR
  simp only
  omega
theorem yb_of {r : Rg} (h : Crs r InR InR) : YB r := fun b hb => by
  obtain ⟨a1, a2, _⟩ := h b hb
  unfold InR at a1 a2
  omega
theorem yb_turn {r r' : Rg} {t : Nat} {dx dy : Int} (h : Crs r InR InR) (hy : -524288 ≤ dy ∧ dy ≤ 524288) (k : IsReg ((rectsM r).map (turnR t dx dy)) r') (ok : ROK r) : YB r' := by
  have c := k.crs (fun _ => True) (fun y => -1000000000000 ≤ y ∧ y ≤ 1000000000000) fun q hq => by
    obtain ⟨p, hp, rfl⟩ := List.mem_map.mp hq
    obtain ⟨a1, a2, a3, a4⟩ := rectsM_crs h p hp
    have h1 := in_turn (t := t) (dx := dx) (dy := dy) (q := p) ⟨a1, a3, a2, a4⟩ hy
    have h2 := (turn_ok (t := t) (dx := dx) (dy := dy) (rectsM_ok ok p hp)).2
    exact ⟨trivial, trivial, ⟨h1.1, by omega⟩, by omega, h1.2⟩
  exact fun b hb => ⟨(c b hb).1.1, (c b hb).2.1.2⟩
section
variable {P : Program} {w : World} {K : PySem.W.Frag} {mg : Str → Option Value} {base : Heap}
abbrev s__law_turned_right : Stmt := topS 43
abbrev N__law_turned_right : List Str := ["_law_one", "_law_other", "_law_turn", "_law_by", "_law_k", "_law_dx", "_law_dy", "_law_left", "_law_right", "_law_piece"]
theorem sc__law_turned_right : FnScope N__law_turned_right ["_law_one", "_law_other", "_law_turn", "_law_by", "_law_k"] (C8.fnScope s__law_turned_right) := C8.fnScope_by (by decide +kernel)
def sp_right : Sp := fun vs H Q _ => ∃ (u v : V) (one other : Rg) (t : Nat) (pb : Addr) (dx dy k : Int), vs = [u, v, .int (t : Int), .ref pb, .int k] ∧ Dt H u (dR one) ∧ Dt H v (dR other) ∧ H pb = some (.tup [.int dx, .int dy]) ∧ ROK one ∧ ROK other ∧ SzR 40 one ∧ SzR 40 other ∧ Crs one InR InR ∧ 0 ≤ k ∧ (-524288 ≤ dy ∧ dy ≤ 524288) ∧
  ∀ H', L2.Same H H' → Q (.bl true) H'
theorem cal_right (T : Txt mg) (c_turned : C8.Cal P w K mg base 3 "turned" sp_turned []) (c_both : C8.Cal P w K mg base 4 "both" (sp_two kBoth) []) (c_either : C8.Cal P w K mg base 4 "either" (sp_two kEither) []) (c_less : C8.Cal P w K mg base 4 "less" (sp_two kFirst) []) (c_grown : C8.Cal P w K mg base 3 "grown" sp_grown []) (c_shrunk : C8.Cal P w K mg base 6 "shrunk" sp_shrunk [])
    (c_pieces : C8.Cal P w K mg base 3 "pieces" sp_pieces []) (c_area : C8.Cal P w K mg base 2 "area" sp_area []) (c_rim : C8.Cal P w K mg base 3 "rim" sp_rim []) (D : Here K mg "_law_turned_right" s__law_turned_right ["_law_one", "_law_other", "_law_turn", "_law_by", "_law_k"]) : C8.Cal P w K mg base 7 "_law_turned_right" sp_right [] := by
  refine D.cal sc__law_turned_right (fun vs H Q E h => ?_) fun f cdv A outer s H vs Q E hr h => ?_
  · obtain ⟨u, v, one, other, t, pb, dx, dy, k, rfl, _⟩ := h
    rfl
  obtain ⟨u, v, one, other, t, pb, dx, dy, k, rfl, hu, hv, hb, o1, o2, z1, z2, cr, hk, hdy, q⟩ := h
  have sc := sc__law_turned_right
  refine ⟨_, (pss_cons (ps_asg (pv 3) (pgT (K := K) (n := 2) rfl rfl (pgs_cons (pg_name (i := 5) sc.nd rfl (Or.inr rfl)) (pgs_cons (pg_name (i := 6) sc.nd rfl (Or.inr rfl)) pgs_nil))))
      (pss_cons (ps_set (i := 7) sc.nd rfl (Or.inl rfl) (C8.pe_c c_turned hr (by decide) (by rfl) (pa_cons (pv 0) (pa_cons (pv 2) (pa_cons (pv 5) (pa_cons (pv 6) pa_nil))))))
      (pss_cons (ps_set (i := 8) sc.nd rfl (Or.inl rfl) (C8.pe_c c_turned hr (by decide) (by rfl) (pa_cons (pv 1) (pa_cons (pv 2) (pa_cons (pv 5) (pa_cons (pv 6) pa_nil))))))
      (pss_cons (ps_if (pt_cmpR (op_neD hr.units) (C8.pe_c c_both hr (by decide) (by rfl) (pa_cons (pv 7) (pa_cons (pv 8) pa_nil))) (C8.pe_c c_turned hr (by decide) (by rfl) (pa_cons (C8.pe_c c_both hr (by decide) (by rfl) (pa_cons (pv 0) (pa_cons (pv 1) pa_nil))) (pa_cons (pv 2) (pa_cons (pv 5) (pa_cons (pv 6) pa_nil))))) (nomark _)) (pss_one (ps_ret pe_bl)) pss_nil)
      (pss_cons (ps_if (pt_cmpR (op_neD hr.units) (C8.pe_c c_either hr (by decide) (by rfl) (pa_cons (pv 7) (pa_cons (pv 8) pa_nil))) (C8.pe_c c_turned hr (by decide) (by rfl) (pa_cons (C8.pe_c c_either hr (by decide) (by rfl) (pa_cons (pv 0) (pa_cons (pv 1) pa_nil))) (pa_cons (pv 2) (pa_cons (pv 5) (pa_cons (pv 6) pa_nil))))) (nomark _)) (pss_one (ps_ret pe_bl)) pss_nil)
      (pss_cons (ps_if (pt_cmpR (op_neD hr.units) (C8.pe_c c_less hr (by decide) (by rfl) (pa_cons (pv 7) (pa_cons (pv 8) pa_nil))) (C8.pe_c c_turned hr (by decide) (by rfl) (pa_cons (C8.pe_c c_less hr (by decide) (by rfl) (pa_cons (pv 0) (pa_cons (pv 1) pa_nil))) (pa_cons (pv 2) (pa_cons (pv 5) (pa_cons (pv 6) pa_nil))))) (nomark _)) (pss_one (ps_ret pe_bl)) pss_nil)
      (pss_cons (ps_if (PW.pt (pw_or (pt_cmpR (op_neD hr.units) (C8.pe_c c_grown hr (by decide) (by rfl) (pa_cons (pv 7) (pa_cons (pv 4) pa_nil))) (C8.pe_c c_turned hr (by decide) (by rfl) (pa_cons (C8.pe_c c_grown hr (by decide) (by rfl) (pa_cons (pv 0) (pa_cons (pv 4) pa_nil))) (pa_cons (pv 2) (pa_cons (pv 5) (pa_cons (pv 6) pa_nil))))) (nomark _)) (pw_or1 (pt_cmpR (op_neD hr.units) (C8.pe_c c_shrunk hr (by decide) (by rfl) (pa_cons (pv 7) (pa_cons (pv 4) pa_nil))) (C8.pe_c c_turned hr (by decide) (by rfl) (pa_cons (C8.pe_c c_shrunk hr (by decide) (by rfl) (pa_cons (pv 0) (pa_cons (pv 4) pa_nil))) (pa_cons (pv 2) (pa_cons (pv 5) (pa_cons (pv 6) pa_nil))))) (nomark _))))) (pss_one (ps_ret pe_bl)) pss_nil)
      (pss_cons (ps_if (pt_cmpR (op_neD hr.units) (pe_callB (cr_sortedT hr.units) (by rfl) T.sorted (by decide +kernel) (pa_cons (C8.pe_c c_pieces hr (by decide) (by rfl) (pa_cons (pv 7) pa_nil)) pa_nil)) (pe_callB (cr_sortedT hr.units) (by rfl) T.sorted (by decide +kernel) (pa_cons (pe_lc rfl sc.nd (pi_list (C8.pe_c c_pieces hr (by decide) (by rfl) (pa_cons (pv 0) pa_nil))) (blkOk_by (own := [("_law_piece", 9)]) (N := N__law_turned_right) (sc := C8.fnScope s__law_turned_right) (by decide +kernel)) (fun _ _ _ _ _ => (pg_name (i := 9) sc.nd rfl (Or.inl rfl))) (fun _ _ _ _ _ => pts_nil) (fun _ _ _ _ _ => (C8.pe_c c_turned hr (by decide) (by rfl) (pa_cons (pv 9) (pa_cons (pv 2) (pa_cons (pv 5) (pa_cons (pv 6) pa_nil))))))) pa_nil)) (nomark _)) (pss_one (ps_ret pe_bl)) pss_nil)
      (pss_one (ps_ret (pe_and (pe_cmpR op_eq (C8.pe_c c_area hr (by decide) (by rfl) (pa_cons (pv 7) pa_nil)) (C8.pe_c c_area hr (by decide) (by rfl) (pa_cons (pv 0) pa_nil)) (nomark _)) (pe_one (pe_cmpR op_eq (C8.pe_c c_rim hr (by decide) (by rfl) (pa_cons (pv 7) pa_nil)) (C8.pe_c c_rim hr (by decide) (by rfl) (pa_cons (pv 0) pa_nil)) (nomark _)))))))))))))), ?_⟩
  refine ⟨.ref pb, rfl, pb, _, rfl, SqT.of hb, rfl, _, _, rfl, _, _, rfl, rfl, ?_⟩
  have big : ∀ {n : Nat} {r : Rg}, SzR n r → n ≤ 600 → SzR 600 r := fun h l => h.mono l
  refine ⟨u, rfl, .int t, rfl, .int dx, rfl, .int dy, rfl, u, one, t, dx, dy, rfl, hu, o1, z1.mono (by decide), fun vL H1 L sm1 hL eL => ?_⟩
  refine ⟨v, rfl, .int t, rfl, .int dx, rfl, .int dy, rfl, v, other, t, dx, dy, rfl, hv.keep (keepS sm1), o2, z2.mono (by decide), fun vR H2 R sm2 hR eR => ?_⟩
  have smA := sm1.trans sm2
  have hu2 := hu.keep (keepS smA)
  have hv2 := hv.keep (keepS smA)
  have eL2 := eL.keep (keepS sm2)
  have zL : SzR 40 L := hL.sz (SzR.rects z1).turn
  have zR : SzR 40 R := hR.sz (SzR.rects z2).turn
  -- both
  refine ⟨vL, rfl, vR, rfl, vL, vR, L, R, rfl, eL2, eR, hL.ok, hR.ok, zL.mono (by decide), zR.mono (by decide), fun x1 H3 m1 sm3 im1 e1 => ?_⟩
  refine ⟨u, rfl, v, rfl, u, v, one, other, rfl, hu2.keep (keepS sm3), hv2.keep (keepS sm3), o1, o2, z1.mono (by decide), z2.mono (by decide), fun x2 H4 m2 sm4 im2 e2 => ?_⟩
  refine ⟨.int t, rfl, .int dx, rfl, .int dy, rfl, x2, m2, t, dx, dy, rfl, e2, im2.ok, (im2.sz z1 z2).mono (by decide), fun x3 H5 m3 sm5 im3 e3 => ?_⟩
  refine ⟨dR m1, dR m3, (e1.keep (keepS (sm4.trans sm5))).dp, e3.dp, shaped_R _, shaped_R _, false, neR (law_both o1 o2 hL hR im2 im3 im1), iteF ?_⟩
  have smB := (sm3.trans sm4).trans sm5
  clear e1 e2 e3 im1 im2 im3
  -- either
  refine ⟨vL, rfl, vR, rfl, vL, vR, L, R, rfl, eL2.keep (keepS smB), eR.keep (keepS smB), hL.ok, hR.ok, zL.mono (by decide), zR.mono (by decide), fun x1 H3' m1 sm3' im1 e1 => ?_⟩
  have smB1 := smB.trans sm3'
  refine ⟨u, rfl, v, rfl, u, v, one, other, rfl, hu2.keep (keepS smB1), hv2.keep (keepS smB1), o1, o2, z1.mono (by decide), z2.mono (by decide), fun x2 H4' m2 sm4' im2 e2 => ?_⟩
  refine ⟨.int t, rfl, .int dx, rfl, .int dy, rfl, x2, m2, t, dx, dy, rfl, e2, im2.ok, (im2.sz z1 z2).mono (by decide), fun x3 H5' m3 sm5' im3 e3 => ?_⟩
  refine ⟨dR m1, dR m3, (e1.keep (keepS (sm4'.trans sm5'))).dp, e3.dp, shaped_R _, shaped_R _, false, neR (law_either o1 o2 hL hR im2 im3 im1), iteF ?_⟩
  have smC := (smB1.trans sm4').trans sm5'
  clear e1 e2 e3 im1 im2 im3
  -- less
  refine ⟨vL, rfl, vR, rfl, vL, vR, L, R, rfl, eL2.keep (keepS smC), eR.keep (keepS smC), hL.ok, hR.ok, zL.mono (by decide), zR.mono (by decide), fun x1 H6 m1 sm6 im1 e1 => ?_⟩
  have smC1 := smC.trans sm6
  refine ⟨u, rfl, v, rfl, u, v, one, other, rfl, hu2.keep (keepS smC1), hv2.keep (keepS smC1), o1, o2, z1.mono (by decide), z2.mono (by decide), fun x2 H7 m2 sm7 im2 e2 => ?_⟩
  refine ⟨.int t, rfl, .int dx, rfl, .int dy, rfl, x2, m2, t, dx, dy, rfl, e2, im2.ok, (im2.sz z1 z2).mono (by decide), fun x3 H8 m3 sm8 im3 e3 => ?_⟩
  refine ⟨dR m1, dR m3, (e1.keep (keepS (sm7.trans sm8))).dp, e3.dp, shaped_R _, shaped_R _, false, neR (law_less o1 o2 hL hR im2 im3 im1), iteF ?_⟩
  have smD := (smC1.trans sm7).trans sm8
  clear e1 e2 e3 im1 im2 im3
  -- grown
  refine ⟨vL, rfl, .int k, rfl, vL, L, k, rfl, eL2.keep (keepS smD), hL.ok, zL.mono (by decide), hk, fun x1 H9 m1 sm9 im1 e1 => ?_⟩
  have smD1 := smD.trans sm9
  refine ⟨u, rfl, .int k, rfl, u, one, k, rfl, hu2.keep (keepS smD1), o1, z1.mono (by decide), hk, fun x2 H10 m2 sm10 im2 e2 => ?_⟩
  refine ⟨.int t, rfl, .int dx, rfl, .int dy, rfl, x2, m2, t, dx, dy, rfl, e2, im2.ok, (im2.sz (SzR.rects z1).grow).mono (by decide), fun x3 H11 m3 sm11 im3 e3 => ?_⟩
  refine ⟨dR m1, dR m3, (e1.keep (keepS (sm10.trans sm11))).dp, e3.dp, shaped_R _, shaped_R _, false, neR (law_grown hk o1 hL im2 im3 im1), iteF ?_⟩
  have smE := (smD1.trans sm10).trans sm11
  clear e1 e2 e3 im1 im2 im3
  -- shrunk
  refine ⟨vL, rfl, .int k, rfl, vL, L, k, rfl, eL2.keep (keepS smE), hL.ok, zL.mono (by decide), hk, fun x1 H12 m1 sm12 im1 e1 => ?_⟩
  have smE1 := smE.trans sm12
  refine ⟨u, rfl, .int k, rfl, u, one, k, rfl, hu2.keep (keepS smE1), o1, z1.mono (by decide), hk, fun x2 H13 m2 sm13 im2 e2 => ?_⟩
  refine ⟨.int t, rfl, .int dx, rfl, .int dy, rfl, x2, m2, t, dx, dy, rfl, e2, im2.ok, (im2.sz 40 z1).mono (by decide), fun x3 H14 m3 sm14 im3 e3 => ?_⟩
  refine ⟨dR m1, dR m3, (e1.keep (keepS (sm13.trans sm14))).dp, e3.dp, shaped_R _, shaped_R _, false, neR (law_shrunk hL im2 im3 im1), iteF ?_⟩
  have smF := (smE1.trans sm13).trans sm14
  clear e1 e2 e3 im1 im2 im3
  -- pieces
  refine ⟨vL, rfl, vL, L, rfl, eL2.keep (keepS smF), hL.ok, zL.mono (by decide), fun p1 H15 xs1 L1 sm15 np1 hp1 d1 pc1 ln1 cr1 => ?_⟩
  obtain ⟨a1, a2, a3⟩ := able_R (Pcs.ne pc1)
  refine ⟨Rg, dR, p1, xs1, L1, rfl, SqL.of hp1, d1, a1, a2, a3, fun ys1 q1 hy1 nq1 => ?_⟩
  have sm16 := same_new (o := .lst ys1) nq1
  have hq1 : (upd H15 q1 (.lst ys1)) q1 = some (.lst ys1) := upd_same
  have hy1' := hy1.keep (keepS sm16)
  have smG := (smF.trans sm15).trans sm16
  generalize upd H15 q1 (.lst ys1) = H16 at *
  refine ⟨u, rfl, u, one, rfl, hu2.keep (keepS smG), o1, z1.mono (by decide), fun p2 H17 xs2 M sm17 np2 hp2 d2 pc2 ln2 cr2 => ?_⟩
  have zP : ∀ a ∈ M, SzR 40 a := fun a ha => by
    obtain ⟨Xs, Ys, hx, hy, c⟩ := z1
    exact ⟨Xs, Ys, hx, hy, cr2 a ha _ _ c⟩
  refine ⟨p2, rfl, ⟨xs2, SqL.of hp2⟩, lcD_list (p := allT) (f := fun a : Rg => regE ((rectsM a).map (turnR t dx dy))) (encB := dR) hp2 d2 (by omega) (fun i x a H' Rk N hi hd sm ky kn => ?_) fun p3 H18 ys3 sm18 np3 hp3 d3 => ?_⟩
  · have ha := List.mem_of_getElem? hi
    refine ⟨rfl, yes ⟨x, rfl, .int t, rfl, .int dx, rfl, .int dy, rfl, x, a, t, dx, dy, rfl, hd, (pc2.ok a ha).1, (zP a ha).mono (by decide), fun w' H'' r' sm' ir dw => ?_⟩⟩
    refine ky rfl _ _ sm' ?_
    rw [ir.regE]
    exact dw
  rw [filter_all] at d3
  have pcQ : Pcs (inR L) (M.map fun a : Rg => regE ((rectsM a).map (turnR t dx dy))) := by
    refine law_pieces hL pc2 (List.length_map _) fun i a b ha hb => ?_
    rw [List.getElem?_map, ha] at hb
    cases hb
    obtain ⟨r0, h0⟩ := reg_ex (rects := (rectsM a).map (turnR t dx dy)) fun q0 h0 => by
      obtain ⟨q1, h1, rfl⟩ := List.mem_map.mp h0
      exact turn_ok (rectsM_ok (pc2.ok a (List.mem_of_getElem? ha)).1 q1 h1)
    exact h0.at
  generalize (M.map fun a : Rg => regE ((rectsM a).map (turnR t dx dy))) = Qs at *
  obtain ⟨b1, b2, b3⟩ := able_R (Pcs.ne pcQ)
  refine ⟨Rg, dR, p3, ys3, Qs, rfl, SqL.of hp3, d3, b1, b2, b3, fun ys2 q2 hy2 nq2 => ?_⟩
  have sm19 := same_new (o := .lst ys2) nq2
  have smH := (sm17.trans sm18).trans sm19
  refine ⟨.list ((L1.mergeSort (PySem.W.dataLe false dR)).map dR), .list ((Qs.mergeSort (PySem.W.dataLe false dR)).map dR), .lst (SqL.of (smH _ _ hq1)) (DtAll.dp (hy1'.keep (keepS smH))), .lst (SqL.of upd_same) (DtAll.dp (hy2.keep (keepS sm19))), shaped_LR _, shaped_LR _, false, neLR (sort_same (pc1.perm pcQ)), iteF ?_⟩
  have smI := smG.trans smH
  -- area, rim
  refine ⟨vL, rfl, vL, L, rfl, eL2.keep (keepS smI), hL.ok, zL.mono (by decide), yb_turn cr hdy hL o1, fun H20 sm20 => ?_⟩
  have smJ := smI.trans sm20
  refine ⟨u, rfl, u, one, rfl, hu2.keep (keepS smJ), o1, z1.mono (by decide), yb_of cr, fun H21 sm21 => ?_⟩
  have smK := smJ.trans sm21
  refine ⟨rfl, true, bt (congrArg V.int (law_area o1 hL)), iteT ?_⟩
  refine ⟨vL, rfl, vL, L, rfl, eL2.keep (keepS smK), hL.ok, zL.mono (by decide), fun H22 ra rb sm22 ro1 => ?_⟩
  have smM := smK.trans sm22
  refine ⟨u, rfl, u, one, rfl, hu2.keep (keepS smM), o1, z1.mono (by decide), fun H23 rc rd sm23 ro2 => ⟨rfl, ?_⟩⟩
  rw [decide_eq_true (congrArg V.int (law_rim hL ro1 ro2))]
  exact q _ (smA.trans (smM.trans sm23))
end
end Mw

-- W18
namespace Mw
open PySem PySem.Spec PyProof.Rows L2 MkR Mk
theorem RcIn.sz {rects : List Rc} (h : rects.length ≤ 20) : SzQ 40 rects := by
  refine ⟨(rects.map fun q : Rc => q.1) ++ (rects.map fun q : Rc => q.2.2.1), (rects.map fun q : Rc => q.2.1) ++ (rects.map fun q : Rc => q.2.2.2), by rw [List.length_append, List.length_map, List.length_map]; omega, by rw [List.length_append, List.length_map, List.length_map]; omega, fun q hq => ?_⟩
  exact ⟨List.mem_append_left _ (mm (f := fun q : Rc => q.1) hq), List.mem_append_right _ (mm (f := fun q : Rc => q.2.2.1) hq), List.mem_append_left _ (mm (f := fun q : Rc => q.2.1) hq), List.mem_append_right _ (mm (f := fun q : Rc => q.2.2.2) hq)⟩
/-- a union of the first pieces -/
structure UnP (one : Rg) (L : List Rg) (i : Nat) (F : Rg) : Prop where
  ok : ROK F
  mem : ∀ x y, inR F x y ↔ ∃ R ∈ L.take i, inR R x y
  crs : ∀ PX PY : Int → Prop, Crs one PX PY → Crs F PX PY
theorem UnP.apart {one : Rg} {L : List Rg} {i : Nat} {F R b : Rg} (u : UnP one L i F) (pc : Pcs (inR one) L) (hR : L[i]? = some R) (h : IsMix kBoth F R b) : b = [] := by
  obtain ⟨okR, pR⟩ := pc.ok R (List.mem_of_getElem? hR)
  refine h.ok.nil_of fun x y hxy => ?_
  rw [mix_both h u.ok okR] at hxy
  obtain ⟨h1, h2⟩ := hxy
  obtain ⟨S, hS, hs⟩ := (u.mem x y).mp h1
  have mS := List.mem_of_mem_take hS
  obtain ⟨okS, pS⟩ := pc.ok S mS
  have e : S = R := rg_eq okS okR (pS.eq pR hs h2)
  obtain ⟨j, hj, ej⟩ := List.getElem_of_mem hS
  rw [List.length_take] at hj
  have hS' : L[j]? = some S := by
    have : (L.take i)[j]? = some S := by rw [List.getElem?_eq_getElem (by rw [List.length_take]; exact hj), ej]
    rw [List.getElem?_take, if_pos (by omega)] at this
    exact this
  rw [e] at hS'
  have := nd_at pc.nd hS' hR
  omega
theorem UnP.next {one : Rg} {L : List Rg} {i : Nat} {F R G : Rg} (u : UnP one L i F) (pc : Pcs (inR one) L) (cr : ∀ R ∈ L, ∀ PX PY : Int → Prop, Crs one PX PY → Crs R PX PY) (hR : L[i]? = some R) (h : IsMix kEither F R G) : UnP one L (i + 1) G := by
  have mR := List.mem_of_getElem? hR
  refine ⟨h.ok, fun x y => ?_, fun PX PY c => h.crs PX PY (u.crs PX PY c) (cr R mR PX PY c)⟩
  rw [mix_either h u.ok (pc.ok R mR).1]
  show (inR F x y ∨ inR R x y) ↔ _
  rw [u.mem, List.take_add_one, hR, Option.toList_some]
  constructor
  · rintro (⟨S, hS, k⟩ | k)
    · exact ⟨S, List.mem_append_left _ hS, k⟩
    · exact ⟨R, List.mem_append_right _ (List.mem_singleton.mpr rfl), k⟩
  · rintro ⟨S, hS, k⟩
    rcases List.mem_append.mp hS with hS | hS
    · exact .inl ⟨S, hS, k⟩
    · rw [List.mem_singleton.mp hS] at k
      exact .inr k
theorem UnP.all {one : Rg} {L : List Rg} {F : Rg} (u : UnP one L L.length F) (pc : Pcs (inR one) L) (ok : ROK one) : F = one := by
  refine u.ok.ext ok fun x y => ?_
  rw [u.mem, List.take_length]
  constructor
  · rintro ⟨R, hR, k⟩
    exact (pc.ok R hR).2.sub k
  · intro k
    obtain ⟨R, hR, e⟩ := pc.has _ ⟨x, y, k, rfl⟩
    refine ⟨R, hR, ?_⟩
    rw [e]
    exact .refl k
theorem SzR.of_crs {n : Nat} {one r : Rg} (z : SzR n one) (h : ∀ PX PY : Int → Prop, Crs one PX PY → Crs r PX PY) : SzR n r := by
  obtain ⟨Xs, Ys, hx, hy, c⟩ := z
  exact ⟨Xs, Ys, hx, hy, h _ _ c⟩
theorem law_gg {one a b c : Rg} {k m : Int} (hk : 0 ≤ k) (hm : 0 ≤ m) (o : ROK one) (h1 : IsReg ((rectsM one).map (growR k)) a) (h2 : IsReg ((rectsM a).map (growR m)) b) (h3 : IsReg ((rectsM one).map (growR (k + m))) c) : b = c := by
  refine rg_eq h2.ok h3.ok ?_
  rw [h2.grow h1.ok hm, h1.grow o hk, h3.grow o (by omega), grow_grow hk hm]
theorem law_ss {one a b c : Rg} {k m : Int} (hk : 0 ≤ k) (hm : 0 ≤ m) (h1 : IsShr k one a) (h2 : IsShr m a b) (h3 : IsShr (k + m) one c) : b = c := by
  refine rg_eq h2.ok h3.ok ?_
  rw [h2.mem, h1.mem, h3.mem, shrink_shrink hk hm]
theorem law_sg {one a b c : Rg} {k : Int} (hk : 0 ≤ k) (o : ROK one) (h1 : IsShr k one a) (h2 : IsReg ((rectsM a).map (growR k)) b) (h3 : IsMix kFirst b one c) : c = [] := by
  refine h3.ok.nil_of fun x y h => ?_
  rw [mix_less h3 h2.ok o, h2.grow h1.ok hk, h1.mem] at h
  exact h.2 (shrink_grow h.1)
theorem law_gs {one a b c : Rg} {k : Int} (hk : 0 ≤ k) (o : ROK one) (h1 : IsReg ((rectsM one).map (growR k)) a) (h2 : IsShr k a b) (h3 : IsMix kFirst one b c) : c = [] := by
  refine h3.ok.nil_of fun x y h => ?_
  rw [mix_less h3 o h2.ok, h2.mem, h1.grow o hk] at h
  exact h.2 (grow_shrink h.1)
section
variable {P : Program} {w : World} {K : PySem.W.Frag} {mg : Str → Option Value} {base : Heap}
abbrev s_law : Stmt := topS 44
abbrev N_law : List Str := ["_law_script", "_law_at", "_law_bag_here", "_law_k", "_law_more", "_law_one", "_law_other", "_law_turn", "_law_by", "_law_found", "_law_piece"]
theorem sc_law : FnScope N_law ["_law_script"] (C8.fnScope s_law) := C8.fnScope_by (by decide +kernel)
def sp_law (K : PySem.W.Frag) : Sp := fun vs H Q _ => ∃ (a : Addr) (ns : List Int), vs = [.ref a] ∧ SqL K H a (ns.map V.int) ∧ ns.length ≤ 63 ∧ ∀ H', Q (.bl true) H'
theorem ok_law (T : Txt mg) (c__law_bag : C8.Cal P w K mg base 1 "_law_bag" (sp_bag K) []) (c__law_take : C8.Cal P w K mg base 1 "_law_take" sp_take []) (c__law_rects : C8.Cal P w K mg base 4 "_law_rects" sp_rects []) (c_region : C8.Cal P w K mg base 2 "region" sp_region []) (c__law_turned_right : C8.Cal P w K mg base 7 "_law_turned_right" sp_right [])
    (c_both : C8.Cal P w K mg base 4 "both" (sp_two kBoth) []) (c_either : C8.Cal P w K mg base 4 "either" (sp_two kEither) []) (c_less : C8.Cal P w K mg base 4 "less" (sp_two kFirst) []) (c_grown : C8.Cal P w K mg base 3 "grown" sp_grown []) (c_shrunk : C8.Cal P w K mg base 6 "shrunk" sp_shrunk []) (c_pieces : C8.Cal P w K mg base 3 "pieces" sp_pieces [])
    {f : Addr} {fd : FuncData} (F : C8.Fun K "law" "law" s_law f fd) : FnOk P w K mg base C8.CX0 8 f fd ["_law_script"] (sp_law K) := by
  refine C8.fn0 F sc_law (fun vs H Q E h => ?_) fun cdv A outer s H vs Q E hr h => ?_
  · obtain ⟨a, ns, rfl, _⟩ := h
    rfl
  obtain ⟨a, ns, rfl, ha, hn, q⟩ := h
  have sc := sc_law
  refine ⟨_, (pss_cons (ps_for PassesOwn.never rfl (pi_range1 (by rfl) T.range (pa_cons (pe_callB (call_max2 rfl) (by rfl) T.max (by decide +kernel) (pa_cons pe_int (pa_cons (pe_callB (call_min2 rfl) (by rfl) T.min (by decide +kernel) (pa_cons pe_int (pa_cons (pe_callB call_len_seq (by rfl) T.len (by decide +kernel) (pa_cons (pv 0) pa_nil)) pa_nil))) pa_nil))) pa_nil)) (pg_name (i := 1) sc.nd rfl (Or.inl rfl)) (pss_cons (ps_set (i := 2) sc.nd rfl (Or.inl rfl) (C8.pe_c c__law_bag hr (by decide) (by rfl) (pa_cons (pv 0) (pa_cons (pv 1) pa_nil))))
      (pss_cons (ps_set (i := 3) sc.nd rfl (Or.inl rfl) (C8.pe_c c__law_take hr (by decide) (by rfl) (pa_cons (pv 2) (pa_cons (pe_ix (ixL (K := K) rfl) (pe_lst (pa_cons pe_int (pa_cons pe_int pa_nil))) (C8.pe_c c__law_take hr (by decide) (by rfl) (pa_cons (pv 2) (pa_cons pe_int pa_nil))) (fun _ _ => rfl)) pa_nil))))
      (pss_cons (ps_set (i := 4) sc.nd rfl (Or.inl rfl) (C8.pe_c c__law_take hr (by decide) (by rfl) (pa_cons (pv 2) (pa_cons pe_int pa_nil))))
      (pss_cons (ps_set (i := 5) sc.nd rfl (Or.inl rfl) (C8.pe_c c_region hr (by decide) (by rfl) (pa_cons (C8.pe_c c__law_rects hr (by decide) (by rfl) (pa_cons (pv 2) (pa_cons pe_int pa_nil))) pa_nil)))
      (pss_cons (ps_set (i := 6) sc.nd rfl (Or.inl rfl) (C8.pe_c c_region hr (by decide) (by rfl) (pa_cons (C8.pe_c c__law_rects hr (by decide) (by rfl) (pa_cons (pv 2) (pa_cons pe_int pa_nil))) pa_nil)))
      (pss_cons (ps_for PassesOwn.never rfl (pi_list (pe_lst (pa_cons (C8.pe_c c__law_take hr (by decide) (by rfl) (pa_cons (pv 2) (pa_cons pe_int pa_nil))) (pa_cons (C8.pe_c c__law_take hr (by decide) (by rfl) (pa_cons (pv 2) (pa_cons pe_int pa_nil))) (pa_cons (pe_op op_add pe_int (pv 1)) pa_nil))))) (pg_name (i := 7) sc.nd rfl (Or.inl rfl)) (pss_cons (ps_set (i := 8) sc.nd rfl (Or.inl rfl) (pe_tup (pa_cons (pe_op op_sub (C8.pe_c c__law_take hr (by decide) (by rfl) (pa_cons (pv 2) (pa_cons pe_int pa_nil))) pe_int) (pa_cons (pe_op op_sub (C8.pe_c c__law_take hr (by decide) (by rfl) (pa_cons (pv 2) (pa_cons pe_int pa_nil))) pe_int) pa_nil))))
      (pss_one (ps_if (pt_not (pt_val (C8.pe_c c__law_turned_right hr (by decide) (by rfl) (pa_cons (pv 5) (pa_cons (pv 6) (pa_cons (pv 7) (pa_cons (pv 8) (pa_cons (pv 3) pa_nil)))))))) (pss_one (ps_ret pe_bl)) pss_nil))))
      (pss_cons (ps_if (PW.pt (pw_or (pt_cmpR (op_neD hr.units) (C8.pe_c c_grown hr (by decide) (by rfl) (pa_cons (C8.pe_c c_grown hr (by decide) (by rfl) (pa_cons (pv 5) (pa_cons (pv 3) pa_nil))) (pa_cons (pv 4) pa_nil))) (C8.pe_c c_grown hr (by decide) (by rfl) (pa_cons (pv 5) (pa_cons (pe_op op_add (pv 3) (pv 4)) pa_nil))) (nomark _)) (pw_or1 (pt_cmpR (op_neD hr.units) (C8.pe_c c_shrunk hr (by decide) (by rfl) (pa_cons (C8.pe_c c_shrunk hr (by decide) (by rfl) (pa_cons (pv 5) (pa_cons (pv 3) pa_nil))) (pa_cons (pv 4) pa_nil))) (C8.pe_c c_shrunk hr (by decide) (by rfl) (pa_cons (pv 5) (pa_cons (pe_op op_add (pv 3) (pv 4)) pa_nil))) (nomark _))))) (pss_one (ps_ret pe_bl)) pss_nil)
      (pss_cons (ps_if (PW.pt (pw_or (pt_cmpR (op_neD hr.units) (C8.pe_c c_less hr (by decide) (by rfl) (pa_cons (C8.pe_c c_grown hr (by decide) (by rfl) (pa_cons (C8.pe_c c_shrunk hr (by decide) (by rfl) (pa_cons (pv 5) (pa_cons (pv 3) pa_nil))) (pa_cons (pv 3) pa_nil))) (pa_cons (pv 5) pa_nil))) (pe_tup pa_nil) (nomark _)) (pw_or1 (pt_cmpR (op_neD hr.units) (C8.pe_c c_less hr (by decide) (by rfl) (pa_cons (pv 5) (pa_cons (C8.pe_c c_shrunk hr (by decide) (by rfl) (pa_cons (C8.pe_c c_grown hr (by decide) (by rfl) (pa_cons (pv 5) (pa_cons (pv 3) pa_nil))) (pa_cons (pv 3) pa_nil))) pa_nil))) (pe_tup pa_nil) (nomark _))))) (pss_one (ps_ret pe_bl)) pss_nil)
      (pss_cons (ps_set (i := 9) sc.nd rfl (Or.inl rfl) (pe_tup pa_nil))
      (pss_cons (ps_for PassesOwn.never rfl (pi_list (C8.pe_c c_pieces hr (by decide) (by rfl) (pa_cons (pv 5) pa_nil))) (pg_name (i := 10) sc.nd rfl (Or.inl rfl)) (pss_cons (ps_if (pt_cmpR (op_neD hr.units) (C8.pe_c c_both hr (by decide) (by rfl) (pa_cons (pv 9) (pa_cons (pv 10) pa_nil))) (pe_tup pa_nil) (nomark _)) (pss_one (ps_ret pe_bl)) pss_nil)
      (pss_one (ps_set (i := 9) sc.nd rfl (Or.inl rfl) (C8.pe_c c_either hr (by decide) (by rfl) (pa_cons (pv 9) (pa_cons (pv 10) pa_nil)))))))
      (pss_one (ps_if (pt_cmpR (op_neD hr.units) (pv 9) (pv 5) (nomark _)) (pss_one (ps_ret pe_bl)) pss_nil)))))))))))))
      (pss_one (ps_ret pe_bl))), ?_⟩
  have bnd : 0 ≤ (if (if ((ns.map V.int).length : Int) < 2 then ((ns.map V.int).length : Int) else 2) > 1 then (if ((ns.map V.int).length : Int) < 2 then ((ns.map V.int).length : Int) else 2) else 1 : Int) ∧ (if (if ((ns.map V.int).length : Int) < 2 then ((ns.map V.int).length : Int) else 2) > 1 then (if ((ns.map V.int).length : Int) < 2 then ((ns.map V.int).length : Int) else 2) else 1 : Int) ≤ 2 := by
    split <;> split <;> omega
  refine ⟨.ref a, rfl, a, _, rfl, .inl ha, _, _, rfl, _, _, rfl, _, rfl, by omega, by omega, for_range (lo := 0) (fun i σ' H' => ∃ (y1 y2 y3 y4 y5 y6 y7 y8 y9 y10 : Option V), σ' = [some (.ref a), y1, y2, y3, y4, y5, y6, y7, y8, y9, y10] ∧ L2.Same H H') ?_ ?_ ?_⟩
  · exact ⟨none, none, none, none, none, none, none, none, none, none, rfl, .refl _⟩
  · rintro i σ' H0 hi ⟨y1, y2, y3, y4, y5, y6, y7, y8, y9, y10, rfl, sm0⟩
    have li : i ≤ 1 := by omega
    have hi0 : (0 : Int) + (i : Int) = (i : Int) := Int.zero_add _
    rw [hi0]
    clear hi bnd
    -- the bag
    refine ⟨.ref a, rfl, .int i, rfl, a, ns, i, rfl, sm0.seq ha, hn, li, fun b H1 sm1 nb b1 => ?_⟩
    have smB := sm0.trans sm1
    have nbH : H b = none := sm0.free nb
    -- k
    refine ⟨.ref b, rfl, by show 2 ≤ sizeLine; decide, fun p1 np1 => ?_⟩
    have bg1 : Bag b H1 (upd H1 p1 (.lst [.int 5, .int 101])) := (Bag.refl b1).same (same_new np1)
    have hp1 : (upd H1 p1 (.lst [.int 5, .int 101])) p1 = some (.lst [.int 5, .int 101]) := upd_same
    have np1b : p1 ≠ b := fun e => by
      obtain ⟨c, m, h, _⟩ := b1
      rw [e, h] at np1
      cases np1
    generalize upd H1 p1 (.lst [.int 5, .int 101]) = H2 at *
    refine ⟨.ref b, rfl, b, 2, rfl, bg1.at', by decide, by decide, fun ix H3 bg2 ix0 ix1 => ?_⟩
    obtain ⟨u, hu, u1, u2⟩ : ∃ u : Int, atI [V.int 5, .int 101] ix = some (.int u) ∧ 1 ≤ u ∧ u ≤ 101 := by
      have : ix = 0 ∨ ix = 1 := by omega
      rcases this with rfl | rfl
      · exact ⟨5, at_0, by decide, by decide⟩
      · exact ⟨101, at_1, by decide, by decide⟩
    refine ⟨p1, _, ix, .int u, rfl, rfl, SqL.of (bg2.fr.l np1b hp1), hu, b, u, rfl, bg2.at', u1, by omega, fun k H4 bg3 k0 k1 => ?_⟩
    -- more
    refine ⟨.ref b, rfl, b, 30, rfl, bg3.at', by decide, by decide, fun more H5 bg4 m0 m1 => ?_⟩
    have bgA := ((bg1.trans bg2).trans bg3).trans bg4
    -- the two regions
    refine ⟨.ref b, rfl, b, rfl, bgA.at', fun pr H6 xs rects bg5 npr nprb hpr dx lr hv => ?_⟩
    refine ⟨pr, xs, rects, rfl, hpr, dx, fun q0 h0 => (hv q0 h0).1, by omega, (RcIn.sz lr).mono (by decide), fun v1 H7 one sm6 ir1 d1 => ?_⟩
    have z1 : SzR 40 one := ir1.sz (RcIn.sz lr)
    have cr1 : Crs one InR InR := ir1.crs _ _ fun q0 h0 => by
      obtain ⟨_, i1, i2, i3, i4⟩ := hv q0 h0
      exact ⟨i1, i3, i2, i4⟩
    have bgB := (bgA.trans bg5).same sm6
    clear dx hv hpr
    refine ⟨.ref b, rfl, b, rfl, bgB.at', fun pr2 H8 xs2 rects2 bg6 npr2 nprb2 hpr2 dx2 lr2 hv2 => ?_⟩
    refine ⟨pr2, xs2, rects2, rfl, hpr2, dx2, fun q0 h0 => (hv2 q0 h0).1, by omega, (RcIn.sz lr2).mono (by decide), fun v2 H9 other sm8 ir2 d2 => ?_⟩
    have z2 : SzR 40 other := ir2.sz (RcIn.sz lr2)
    have d1b := (d1.keep (bg6.keep bgB.at')).keep (keepS sm8)
    have bgC := (bgB.trans bg6).same sm8
    clear dx2 hv2 hpr2 d1
    have o1 := ir1.ok
    have o2 := ir2.ok
    -- the turns
    refine ⟨.ref b, rfl, b, 8, rfl, bgC.at', by decide, by decide, fun t1 H10 bg7 t10 t11 => ?_⟩
    refine ⟨.ref b, rfl, b, 8, rfl, bg7.at', by decide, by decide, fun t2 H11 bg8 t20 t21 => ?_⟩
    refine ⟨.int i, rfl, _, _, rfl, rfl, by show 3 ≤ sizeLine; decide, fun p2 np2 => ?_⟩
    have tv : ∀ (j : Nat) (x : V), [V.int t1, .int t2, .int (4 + (i : Int))][j]? = some x → ∃ t : Nat, x = .int (t : Int) := fun j x h => by
      match j, h with
      | 0, h =>
        cases h
        exact ⟨t1.toNat, by rw [show ((t1.toNat : Nat) : Int) = t1 by omega]⟩
      | 1, h =>
        cases h
        exact ⟨t2.toNat, by rw [show ((t2.toNat : Nat) : Int) = t2 by omega]⟩
      | 2, h =>
        cases h
        exact ⟨4 + i, rfl⟩
      | j + 3, h => simp at h
    have bgD : Bag b H9 (upd H11 p2 (.lst [.int t1, .int t2, .int (4 + (i : Int))])) := (bg7.trans bg8).same (same_new np2)
    have hp2 : (upd H11 p2 (.lst [.int t1, .int t2, .int (4 + (i : Int))])) p2 = some (.lst [.int t1, .int t2, .int (4 + (i : Int))]) := upd_same
    have np2b : p2 ≠ b := fun e => by
      obtain ⟨c, m, h, _⟩ := bg8.at'
      rw [e, h] at np2
      cases np2
    have hp2' : (upd H11 p2 (.lst [.int t1, .int t2, (fun i j => V.int (i + j)) 4 (i : Int)])) p2 = some (.lst [.int t1, .int t2, .int (4 + (i : Int))]) := upd_same
    have bgD' : Bag b H9 (upd H11 p2 (.lst [.int t1, .int t2, (fun i j => V.int (i + j)) 4 (i : Int)])) := bgD
    generalize upd H11 p2 (.lst [.int t1, .int t2, (fun i j => V.int (i + j)) 4 (i : Int)]) = H12 at *
    have d1c := d1b.keep (bgD'.keep bgC.at')
    have d2c := d2.keep (bgD'.keep bgC.at')
    have bgE := bgC.trans bgD'
    refine ⟨p2, rfl, ⟨_, SqL.of hp2'⟩, for_list (K := K) (a := p2) (xs := [V.int t1, .int t2, .int (4 + (i : Int))]) (fun j σ' H' => ∃ (y7 y8 : Option V), σ' = [some (.ref a), some (.int (i : Int)), some (.ref b), some (.int k), some (.int more), some v1, some v2, y7, y8, y9, y10] ∧ Bag b H12 H') ?_ ?_ ?_ ?_⟩
    · exact ⟨y7, y8, rfl, .refl bgE.at'⟩
    · rintro j σ' H' _ ⟨y7, y8, rfl, bg⟩
      exact SqL.of (bg.fr.l np2b hp2')
    · rintro j x σ' H' hj ⟨y7, y8, rfl, bg⟩
      obtain ⟨t, rfl⟩ := tv j x hj
      refine ⟨.ref b, rfl, b, 1048577, rfl, bg.at', by decide, by decide, fun dx0 H13 bg9 x0 x1 => ?_⟩
      refine ⟨_, _, rfl, rfl, .ref b, rfl, b, 1048577, rfl, bg9.at', by decide, by decide, fun dy0 H14 bg10 w0 w1 => ?_⟩
      refine ⟨_, _, rfl, rfl, by show 2 ≤ sizeLine; decide, fun pt npt => ?_⟩
      have bgF := ((bg.trans bg9).trans bg10).same (same_new (o := .tup [.int (dx0 - 524288), .int (dy0 - 524288)]) npt)
      have hpt : (upd H14 pt (.tup [.int (dx0 - 524288), .int (dy0 - 524288)])) pt = some (.tup [.int (dx0 - 524288), .int (dy0 - 524288)]) := upd_same
      refine ⟨v1, rfl, v2, rfl, .int t, rfl, .ref pt, rfl, .int k, rfl, v1, v2, one, other, t, pt, dx0 - 524288, dy0 - 524288, k, rfl, d1c.keep (bgF.keep bgE.at'), d2c.keep (bgF.keep bgE.at'), hpt, o1, o2, z1, z2, cr1, k0, ⟨by omega, by omega⟩, fun H15 sm15 => ?_⟩
      exact ⟨true, rfl, iteF ⟨_, _, rfl, bgF.same sm15⟩⟩
    · rintro σ' H' ⟨y7, y8, rfl, bg⟩
      have d1d := d1c.keep (bg.keep bgE.at')
      have smX : L2.Same H H' := ((bgE.trans bg).out smB nbH)
      clear d1b d1c d2 d2c bg bgD bgD' hp2 hp2' tv
      -- grown twice
      refine ⟨v1, rfl, .int k, rfl, v1, one, k, rfl, d1d, o1, z1.mono (by decide), k0, fun x1 G1 m1 s1 i1 e1 => ?_⟩
      have zg := i1.sz (SzR.rects z1).grow
      refine ⟨.int more, rfl, x1, m1, more, rfl, e1, i1.ok, zg.mono (by decide), m0, fun x2 G2 m2 s2 i2 e2 => ?_⟩
      refine ⟨v1, rfl, .int k, rfl, .int more, rfl, _, _, rfl, rfl, v1, one, k + more, rfl, d1d.keep (keepS (s1.trans s2)), o1, z1.mono (by decide), by omega, fun x3 G3 m3 s3 i3 e3 => ?_⟩
      refine ⟨dR m2, dR m3, (e2.keep (keepS s3)).dp, e3.dp, shaped_R _, shaped_R _, false, neR (law_gg k0 m0 o1 i1 i2 i3), iteF ?_⟩
      have sA := (s1.trans s2).trans s3
      clear e1 e2 e3 i2 i3
      -- shrunk twice
      refine ⟨v1, rfl, .int k, rfl, v1, one, k, rfl, d1d.keep (keepS sA), o1, z1.mono (by decide), k0, fun x1 G4 n1 s4 j1 e1 => ?_⟩
      have zs := j1.sz 40 z1
      refine ⟨.int more, rfl, x1, n1, more, rfl, e1, j1.ok, zs.mono (by decide), m0, fun x2 G5 n2 s5 j2 e2 => ?_⟩
      have sB := (sA.trans s4).trans s5
      refine ⟨v1, rfl, .int k, rfl, .int more, rfl, _, _, rfl, rfl, v1, one, k + more, rfl, d1d.keep (keepS sB), o1, z1.mono (by decide), by omega, fun x3 G6 n3 s6 j3 e3 => ?_⟩
      refine ⟨dR n2, dR n3, (e2.keep (keepS s6)).dp, e3.dp, shaped_R _, shaped_R _, false, neR (law_ss k0 m0 j1 j2 j3), iteF ?_⟩
      have sC := sB.trans s6
      clear e1 e2 e3 j1 j2 j3 i1
      -- less(grown(shrunk))
      refine ⟨v1, rfl, .int k, rfl, v1, one, k, rfl, d1d.keep (keepS sC), o1, z1.mono (by decide), k0, fun x1 G7 n1 s7 j1 e1 => ?_⟩
      refine ⟨.int k, rfl, x1, n1, k, rfl, e1, j1.ok, (j1.sz 40 z1).mono (by decide), k0, fun x2 G8 n2 s8 i2 e2 => ?_⟩
      have sD := (sC.trans s7).trans s8
      refine ⟨v1, rfl, x2, v1, n2, one, rfl, e2, d1d.keep (keepS sD), i2.ok, o1, (i2.sz (SzR.rects (j1.sz 40 z1)).grow).mono (by decide), z1.mono (by decide), fun x3 G9 n3 s9 i3 e3 => ?_⟩
      refine ⟨Nat.zero_le _, fun t0 nt0 => ?_⟩
      have s10 := same_new (o := .tup []) nt0
      have et : Dt (upd G9 t0 (.tup [])) (.ref t0) (dR []) := .tup upd_same .nil
      refine ⟨dR n3, dR [], (e3.keep (keepS s10)).dp, et.dp, shaped_R _, shaped_R _, false, neR (law_sg k0 o1 j1 i2 i3), iteF ?_⟩
      have sE := (sD.trans s9).trans s10
      clear e1 e2 e3 et j1 i2 i3
      generalize upd G9 t0 (.tup []) = G10 at *
      -- less(.., shrunk(grown))
      refine ⟨v1, rfl, v1, rfl, .int k, rfl, v1, one, k, rfl, d1d.keep (keepS sE), o1, z1.mono (by decide), k0, fun x1 G11 n1 s11 i1 e1 => ?_⟩
      have zg1 := i1.sz (SzR.rects z1).grow
      refine ⟨.int k, rfl, x1, n1, k, rfl, e1, i1.ok, zg1.mono (by decide), k0, fun x2 G12 n2 s12 j2 e2 => ?_⟩
      have sF := (sE.trans s11).trans s12
      refine ⟨v1, x2, one, n2, rfl, d1d.keep (keepS sF), e2, o1, j2.ok, z1.mono (by decide), (j2.sz _ zg1).mono (by decide), fun x3 G13 n3 s13 i3 e3 => ?_⟩
      refine ⟨Nat.zero_le _, fun t0 nt0 => ?_⟩
      have s14 := same_new (o := .tup []) nt0
      have et : Dt (upd G13 t0 (.tup [])) (.ref t0) (dR []) := .tup upd_same .nil
      refine ⟨dR n3, dR [], (e3.keep (keepS s14)).dp, et.dp, shaped_R _, shaped_R _, false, neR (law_gs k0 o1 i1 j2 i3), iteF ?_⟩
      have sG := (sF.trans s13).trans s14
      clear e1 e2 e3 et i1 j2 i3
      generalize upd G13 t0 (.tup []) = G14 at *
      -- the pieces
      refine ⟨Nat.zero_le _, fun t1' nt1 => ?_⟩
      have s15 := sG.trans (same_new (o := .tup []) nt1)
      have ef : Dt (upd G14 t1' (.tup [])) (.ref t1') (dR []) := .tup upd_same .nil
      generalize upd G14 t1' (.tup []) = G15 at *
      refine ⟨v1, rfl, v1, one, rfl, d1d.keep (keepS s15), o1, z1.mono (by decide), fun pp G16 xs3 L s16 npp hpp dL pc lnL crL => ?_⟩
      have lx : xs3.length = L.length := by rw [DtAll.len dL, List.length_map]
      refine ⟨pp, rfl, ⟨_, SqL.of hpp⟩, for_list (K := K) (a := pp) (xs := xs3) (fun j σ' H'' => ∃ (vf : V) (F : Rg) (y10 : Option V), σ' = [some (.ref a), some (.int (i : Int)), some (.ref b), some (.int k), some (.int more), some v1, some v2, y7, y8, some vf, y10] ∧ L2.Same G16 H'' ∧ Dt H'' vf (dR F) ∧ UnP one L j F) ?_ ?_ ?_ ?_⟩
      · exact ⟨.ref t1', [], _, rfl, .refl _, ef.keep (keepS s16), ROK.nil, fun x y => ⟨fun h => (inR_nil h).elim, fun ⟨R, hR, _⟩ => Mk.no hR⟩, fun _ _ _ b hb => Mk.no hb⟩
      · rintro j σ' H'' _ ⟨vf, F, y10, rfl, sm, _⟩
        exact SqL.of (sm _ _ hpp)
      · rintro j x σ' H'' hj ⟨vf, F, y10, rfl, sm, ef, uf⟩
        obtain ⟨R, hR, dRx⟩ := DtAll.at (dL.keep (keepS sm)) hj
        have mR := List.mem_of_getElem? hR
        have zF := SzR.of_crs z1 uf.crs
        have zR := SzR.of_crs z1 (crL R mR)
        have okR := (pc.ok R mR).1
        refine ⟨vf, rfl, x, rfl, vf, x, F, R, rfl, ef, dRx, uf.ok, okR, zF.mono (by decide), zR.mono (by decide), fun xb Hb bb sb ib eb => ⟨Nat.zero_le _, fun t0 nt0 => ?_⟩⟩
        have s17 := same_new (o := .tup []) nt0
        have et : Dt (upd Hb t0 (.tup [])) (.ref t0) (dR []) := .tup upd_same .nil
        refine ⟨dR bb, dR [], (eb.keep (keepS s17)).dp, et.dp, shaped_R _, shaped_R _, false, neR (uf.apart pc hR ib), iteF ?_⟩
        have s18 := sb.trans s17
        refine ⟨vf, rfl, x, rfl, vf, x, F, R, rfl, ef.keep (keepS s18), dRx.keep (keepS s18), uf.ok, okR, zF.mono (by decide), zR.mono (by decide), fun xe He GG se ie ee => ?_⟩
        exact ⟨xe, GG, _, rfl, (sm.trans s18).trans se, ee, uf.next pc crL hR ie⟩
      · rintro σ' H'' ⟨vf, F, y10, rfl, sm, ef, uf⟩
        rw [lx] at uf
        have e := uf.all pc o1
        subst e
        refine ⟨vf, rfl, v1, rfl, dR F, dR F, ef.dp, (d1d.keep (keepS ((s15.trans s16).trans sm))).dp, shaped_R _, shaped_R _, false, neR rfl, iteF ?_⟩
        exact ⟨_, _, _, _, _, _, _, _, _, _, rfl, ((smX.trans s15).trans s16).trans sm⟩
  · rintro σ' H' ⟨y1, y2, y3, y4, y5, y6, y7, y8, y9, y10, rfl, sm⟩
    exact q _
end
end Mw

-- W19
namespace Mw
open PySem PySem.Spec PyProof.Rows L2 MkR Mk
section
variable {K : PySem.W.Frag} {h : Heap} {mg : Str → Option Value} {f : Addr} {od an : Option Addr} {sl : Array (Option Value)} {oc kV dc pm cd ct : Value}
theorem mk_joined (X : K.In h) (G : h.Ns mainGlobals mg) (a : PySem.W.nsIn K mainGlobals "joined" = some (some (.ref f))) (l : K.lookup f = some ⟨oc, od, .func (PySem.W.fnOf "joined" "joined" (C8.fnArgs s_joined) (C8.fnBody s_joined) (C8.fnScope s_joined) .none kV dc pm an cd ct), sl⟩) (c : PySem.W.codeIn K cd "joined" = true) (k : PySem.W.keepIn K (.ref f) = true) : Here K mg "joined" s_joined ["stretches"] :=
  let F : C8.Fun K "joined" "joined" s_joined f _ := ⟨⟨oc, od, .none, kV, dc, pm, an, cd, ct, sl, rfl, l, c⟩⟩
  ⟨f, _, ⟨F, PySem.W.mg_of X G a, k⟩, F.binds rfl fun _ _ _ _ _ _ us hl => match us, hl with | [_], _ => rfl⟩
theorem mk_banded (X : K.In h) (G : h.Ns mainGlobals mg) (a : PySem.W.nsIn K mainGlobals "banded" = some (some (.ref f))) (l : K.lookup f = some ⟨oc, od, .func (PySem.W.fnOf "banded" "banded" (C8.fnArgs s_banded) (C8.fnBody s_banded) (C8.fnScope s_banded) .none kV dc pm an cd ct), sl⟩) (c : PySem.W.codeIn K cd "banded" = true) (k : PySem.W.keepIn K (.ref f) = true) : Here K mg "banded" s_banded ["cuts", "lines"] :=
  let F : C8.Fun K "banded" "banded" s_banded f _ := ⟨⟨oc, od, .none, kV, dc, pm, an, cd, ct, sl, rfl, l, c⟩⟩
  ⟨f, _, ⟨F, PySem.W.mg_of X G a, k⟩, F.binds rfl fun _ _ _ _ _ _ us hl => match us, hl with | [_, _], _ => rfl⟩
theorem mk_cuts_of (X : K.In h) (G : h.Ns mainGlobals mg) (a : PySem.W.nsIn K mainGlobals "cuts_of" = some (some (.ref f))) (l : K.lookup f = some ⟨oc, od, .func (PySem.W.fnOf "cuts_of" "cuts_of" (C8.fnArgs s_cuts_of) (C8.fnBody s_cuts_of) (C8.fnScope s_cuts_of) .none kV dc pm an cd ct), sl⟩) (c : PySem.W.codeIn K cd "cuts_of" = true) (k : PySem.W.keepIn K (.ref f) = true) : Here K mg "cuts_of" s_cuts_of ["rects"] :=
  let F : C8.Fun K "cuts_of" "cuts_of" s_cuts_of f _ := ⟨⟨oc, od, .none, kV, dc, pm, an, cd, ct, sl, rfl, l, c⟩⟩
  ⟨f, _, ⟨F, PySem.W.mg_of X G a, k⟩, F.binds rfl fun _ _ _ _ _ _ us hl => match us, hl with | [_], _ => rfl⟩
theorem mk_region (X : K.In h) (G : h.Ns mainGlobals mg) (a : PySem.W.nsIn K mainGlobals "region" = some (some (.ref f))) (l : K.lookup f = some ⟨oc, od, .func (PySem.W.fnOf "region" "region" (C8.fnArgs s_region) (C8.fnBody s_region) (C8.fnScope s_region) .none kV dc pm an cd ct), sl⟩) (c : PySem.W.codeIn K cd "region" = true) (k : PySem.W.keepIn K (.ref f) = true) : Here K mg "region" s_region ["rects"] :=
  let F : C8.Fun K "region" "region" s_region f _ := ⟨⟨oc, od, .none, kV, dc, pm, an, cd, ct, sl, rfl, l, c⟩⟩
  ⟨f, _, ⟨F, PySem.W.mg_of X G a, k⟩, F.binds rfl fun _ _ _ _ _ _ us hl => match us, hl with | [_], _ => rfl⟩
theorem mk_rects_of (X : K.In h) (G : h.Ns mainGlobals mg) (a : PySem.W.nsIn K mainGlobals "rects_of" = some (some (.ref f))) (l : K.lookup f = some ⟨oc, od, .func (PySem.W.fnOf "rects_of" "rects_of" (C8.fnArgs s_rects_of) (C8.fnBody s_rects_of) (C8.fnScope s_rects_of) .none kV dc pm an cd ct), sl⟩) (c : PySem.W.codeIn K cd "rects_of" = true) (k : PySem.W.keepIn K (.ref f) = true) : Here K mg "rects_of" s_rects_of ["some"] :=
  let F : C8.Fun K "rects_of" "rects_of" s_rects_of f _ := ⟨⟨oc, od, .none, kV, dc, pm, an, cd, ct, sl, rfl, l, c⟩⟩
  ⟨f, _, ⟨F, PySem.W.mg_of X G a, k⟩, F.binds rfl fun _ _ _ _ _ _ us hl => match us, hl with | [_], _ => rfl⟩
theorem mk_mirrored (X : K.In h) (G : h.Ns mainGlobals mg) (a : PySem.W.nsIn K mainGlobals "mirrored" = some (some (.ref f))) (l : K.lookup f = some ⟨oc, od, .func (PySem.W.fnOf "mirrored" "mirrored" (C8.fnArgs s_mirrored) (C8.fnBody s_mirrored) (C8.fnScope s_mirrored) .none kV dc pm an cd ct), sl⟩) (c : PySem.W.codeIn K cd "mirrored" = true) (k : PySem.W.keepIn K (.ref f) = true) : Here K mg "mirrored" s_mirrored ["rect"] :=
  let F : C8.Fun K "mirrored" "mirrored" s_mirrored f _ := ⟨⟨oc, od, .none, kV, dc, pm, an, cd, ct, sl, rfl, l, c⟩⟩
  ⟨f, _, ⟨F, PySem.W.mg_of X G a, k⟩, F.binds rfl fun _ _ _ _ _ _ us hl => match us, hl with | [_], _ => rfl⟩
theorem mk_quarter (X : K.In h) (G : h.Ns mainGlobals mg) (a : PySem.W.nsIn K mainGlobals "quarter" = some (some (.ref f))) (l : K.lookup f = some ⟨oc, od, .func (PySem.W.fnOf "quarter" "quarter" (C8.fnArgs s_quarter) (C8.fnBody s_quarter) (C8.fnScope s_quarter) .none kV dc pm an cd ct), sl⟩) (c : PySem.W.codeIn K cd "quarter" = true) (k : PySem.W.keepIn K (.ref f) = true) : Here K mg "quarter" s_quarter ["rect"] :=
  let F : C8.Fun K "quarter" "quarter" s_quarter f _ := ⟨⟨oc, od, .none, kV, dc, pm, an, cd, ct, sl, rfl, l, c⟩⟩
  ⟨f, _, ⟨F, PySem.W.mg_of X G a, k⟩, F.binds rfl fun _ _ _ _ _ _ us hl => match us, hl with | [_], _ => rfl⟩
theorem mk_turned_rect (X : K.In h) (G : h.Ns mainGlobals mg) (a : PySem.W.nsIn K mainGlobals "turned_rect" = some (some (.ref f))) (l : K.lookup f = some ⟨oc, od, .func (PySem.W.fnOf "turned_rect" "turned_rect" (C8.fnArgs s_turned_rect) (C8.fnBody s_turned_rect) (C8.fnScope s_turned_rect) .none kV dc pm an cd ct), sl⟩) (c : PySem.W.codeIn K cd "turned_rect" = true) (k : PySem.W.keepIn K (.ref f) = true) : Here K mg "turned_rect" s_turned_rect ["rect", "turn", "dx", "dy"] :=
  let F : C8.Fun K "turned_rect" "turned_rect" s_turned_rect f _ := ⟨⟨oc, od, .none, kV, dc, pm, an, cd, ct, sl, rfl, l, c⟩⟩
  ⟨f, _, ⟨F, PySem.W.mg_of X G a, k⟩, F.binds rfl fun _ _ _ _ _ _ us hl => match us, hl with | [_, _, _, _], _ => rfl⟩
theorem mk_turned (X : K.In h) (G : h.Ns mainGlobals mg) (a : PySem.W.nsIn K mainGlobals "turned" = some (some (.ref f))) (l : K.lookup f = some ⟨oc, od, .func (PySem.W.fnOf "turned" "turned" (C8.fnArgs s_turned) (C8.fnBody s_turned) (C8.fnScope s_turned) .none kV dc pm an cd ct), sl⟩) (c : PySem.W.codeIn K cd "turned" = true) (k : PySem.W.keepIn K (.ref f) = true) : Here K mg "turned" s_turned ["some", "turn", "dx", "dy"] :=
  let F : C8.Fun K "turned" "turned" s_turned f _ := ⟨⟨oc, od, .none, kV, dc, pm, an, cd, ct, sl, rfl, l, c⟩⟩
  ⟨f, _, ⟨F, PySem.W.mg_of X G a, k⟩, F.binds rfl fun _ _ _ _ _ _ us hl => match us, hl with | [_, _, _, _], _ => rfl⟩
theorem mk_in_both (X : K.In h) (G : h.Ns mainGlobals mg) (a : PySem.W.nsIn K mainGlobals "in_both" = some (some (.ref f))) (l : K.lookup f = some ⟨oc, od, .func (PySem.W.fnOf "in_both" "in_both" (C8.fnArgs s_in_both) (C8.fnBody s_in_both) (C8.fnScope s_in_both) .none kV dc pm an cd ct), sl⟩) (c : PySem.W.codeIn K cd "in_both" = true) (k : PySem.W.keepIn K (.ref f) = true) : Here K mg "in_both" s_in_both ["one", "other"] :=
  let F : C8.Fun K "in_both" "in_both" s_in_both f _ := ⟨⟨oc, od, .none, kV, dc, pm, an, cd, ct, sl, rfl, l, c⟩⟩
  ⟨f, _, ⟨F, PySem.W.mg_of X G a, k⟩, F.binds rfl fun _ _ _ _ _ _ us hl => match us, hl with | [_, _], _ => rfl⟩
theorem mk_in_either (X : K.In h) (G : h.Ns mainGlobals mg) (a : PySem.W.nsIn K mainGlobals "in_either" = some (some (.ref f))) (l : K.lookup f = some ⟨oc, od, .func (PySem.W.fnOf "in_either" "in_either" (C8.fnArgs s_in_either) (C8.fnBody s_in_either) (C8.fnScope s_in_either) .none kV dc pm an cd ct), sl⟩) (c : PySem.W.codeIn K cd "in_either" = true) (k : PySem.W.keepIn K (.ref f) = true) : Here K mg "in_either" s_in_either ["one", "other"] :=
  let F : C8.Fun K "in_either" "in_either" s_in_either f _ := ⟨⟨oc, od, .none, kV, dc, pm, an, cd, ct, sl, rfl, l, c⟩⟩
  ⟨f, _, ⟨F, PySem.W.mg_of X G a, k⟩, F.binds rfl fun _ _ _ _ _ _ us hl => match us, hl with | [_, _], _ => rfl⟩
theorem mk_in_first (X : K.In h) (G : h.Ns mainGlobals mg) (a : PySem.W.nsIn K mainGlobals "in_first" = some (some (.ref f))) (l : K.lookup f = some ⟨oc, od, .func (PySem.W.fnOf "in_first" "in_first" (C8.fnArgs s_in_first) (C8.fnBody s_in_first) (C8.fnScope s_in_first) .none kV dc pm an cd ct), sl⟩) (c : PySem.W.codeIn K cd "in_first" = true) (k : PySem.W.keepIn K (.ref f) = true) : Here K mg "in_first" s_in_first ["one", "other"] :=
  let F : C8.Fun K "in_first" "in_first" s_in_first f _ := ⟨⟨oc, od, .none, kV, dc, pm, an, cd, ct, sl, rfl, l, c⟩⟩
  ⟨f, _, ⟨F, PySem.W.mg_of X G a, k⟩, F.binds rfl fun _ _ _ _ _ _ us hl => match us, hl with | [_, _], _ => rfl⟩
theorem mk_in_one (X : K.In h) (G : h.Ns mainGlobals mg) (a : PySem.W.nsIn K mainGlobals "in_one" = some (some (.ref f))) (l : K.lookup f = some ⟨oc, od, .func (PySem.W.fnOf "in_one" "in_one" (C8.fnArgs s_in_one) (C8.fnBody s_in_one) (C8.fnScope s_in_one) .none kV dc pm an cd ct), sl⟩) (c : PySem.W.codeIn K cd "in_one" = true) (k : PySem.W.keepIn K (.ref f) = true) : Here K mg "in_one" s_in_one ["one", "other"] :=
  let F : C8.Fun K "in_one" "in_one" s_in_one f _ := ⟨⟨oc, od, .none, kV, dc, pm, an, cd, ct, sl, rfl, l, c⟩⟩
  ⟨f, _, ⟨F, PySem.W.mg_of X G a, k⟩, F.binds rfl fun _ _ _ _ _ _ us hl => match us, hl with | [_, _], _ => rfl⟩
theorem mk_edges (X : K.In h) (G : h.Ns mainGlobals mg) (a : PySem.W.nsIn K mainGlobals "edges" = some (some (.ref f))) (l : K.lookup f = some ⟨oc, od, .func (PySem.W.fnOf "edges" "edges" (C8.fnArgs s_edges) (C8.fnBody s_edges) (C8.fnScope s_edges) .none kV dc pm an cd ct), sl⟩) (c : PySem.W.codeIn K cd "edges" = true) (k : PySem.W.keepIn K (.ref f) = true) : Here K mg "edges" s_edges ["line", "side"] :=
  let F : C8.Fun K "edges" "edges" s_edges f _ := ⟨⟨oc, od, .none, kV, dc, pm, an, cd, ct, sl, rfl, l, c⟩⟩
  ⟨f, _, ⟨F, PySem.W.mg_of X G a, k⟩, F.binds rfl fun _ _ _ _ _ _ us hl => match us, hl with | [_, _], _ => rfl⟩
theorem mk_mixed_line (X : K.In h) (G : h.Ns mainGlobals mg) (a : PySem.W.nsIn K mainGlobals "mixed_line" = some (some (.ref f))) (l : K.lookup f = some ⟨oc, od, .func (PySem.W.fnOf "mixed_line" "mixed_line" (C8.fnArgs s_mixed_line) (C8.fnBody s_mixed_line) (C8.fnScope s_mixed_line) .none kV dc pm an cd ct), sl⟩) (c : PySem.W.codeIn K cd "mixed_line" = true) (k : PySem.W.keepIn K (.ref f) = true) : Here K mg "mixed_line" s_mixed_line ["one", "other", "keep"] :=
  let F : C8.Fun K "mixed_line" "mixed_line" s_mixed_line f _ := ⟨⟨oc, od, .none, kV, dc, pm, an, cd, ct, sl, rfl, l, c⟩⟩
  ⟨f, _, ⟨F, PySem.W.mg_of X G a, k⟩, F.binds rfl fun _ _ _ _ _ _ us hl => match us, hl with | [_, _, _], _ => rfl⟩
theorem mk_lines_at (X : K.In h) (G : h.Ns mainGlobals mg) (a : PySem.W.nsIn K mainGlobals "lines_at" = some (some (.ref f))) (l : K.lookup f = some ⟨oc, od, .func (PySem.W.fnOf "lines_at" "lines_at" (C8.fnArgs s_lines_at) (C8.fnBody s_lines_at) (C8.fnScope s_lines_at) .none kV dc pm an cd ct), sl⟩) (c : PySem.W.codeIn K cd "lines_at" = true) (k : PySem.W.keepIn K (.ref f) = true) : Here K mg "lines_at" s_lines_at ["some", "cuts"] :=
  let F : C8.Fun K "lines_at" "lines_at" s_lines_at f _ := ⟨⟨oc, od, .none, kV, dc, pm, an, cd, ct, sl, rfl, l, c⟩⟩
  ⟨f, _, ⟨F, PySem.W.mg_of X G a, k⟩, F.binds rfl fun _ _ _ _ _ _ us hl => match us, hl with | [_, _], _ => rfl⟩
theorem mk_ends_of (X : K.In h) (G : h.Ns mainGlobals mg) (a : PySem.W.nsIn K mainGlobals "ends_of" = some (some (.ref f))) (l : K.lookup f = some ⟨oc, od, .func (PySem.W.fnOf "ends_of" "ends_of" (C8.fnArgs s_ends_of) (C8.fnBody s_ends_of) (C8.fnScope s_ends_of) .none kV dc pm an cd ct), sl⟩) (c : PySem.W.codeIn K cd "ends_of" = true) (k : PySem.W.keepIn K (.ref f) = true) : Here K mg "ends_of" s_ends_of ["some"] :=
  let F : C8.Fun K "ends_of" "ends_of" s_ends_of f _ := ⟨⟨oc, od, .none, kV, dc, pm, an, cd, ct, sl, rfl, l, c⟩⟩
  ⟨f, _, ⟨F, PySem.W.mg_of X G a, k⟩, F.binds rfl fun _ _ _ _ _ _ us hl => match us, hl with | [_], _ => rfl⟩
theorem mk_mixed (X : K.In h) (G : h.Ns mainGlobals mg) (a : PySem.W.nsIn K mainGlobals "mixed" = some (some (.ref f))) (l : K.lookup f = some ⟨oc, od, .func (PySem.W.fnOf "mixed" "mixed" (C8.fnArgs s_mixed) (C8.fnBody s_mixed) (C8.fnScope s_mixed) .none kV dc pm an cd ct), sl⟩) (c : PySem.W.codeIn K cd "mixed" = true) (k : PySem.W.keepIn K (.ref f) = true) : Here K mg "mixed" s_mixed ["one", "other", "keep"] :=
  let F : C8.Fun K "mixed" "mixed" s_mixed f _ := ⟨⟨oc, od, .none, kV, dc, pm, an, cd, ct, sl, rfl, l, c⟩⟩
  ⟨f, _, ⟨F, PySem.W.mg_of X G a, k⟩, F.binds rfl fun _ _ _ _ _ _ us hl => match us, hl with | [_, _, _], _ => rfl⟩
theorem mk_both (X : K.In h) (G : h.Ns mainGlobals mg) (a : PySem.W.nsIn K mainGlobals "both" = some (some (.ref f))) (l : K.lookup f = some ⟨oc, od, .func (PySem.W.fnOf "both" "both" (C8.fnArgs s_both) (C8.fnBody s_both) (C8.fnScope s_both) .none kV dc pm an cd ct), sl⟩) (c : PySem.W.codeIn K cd "both" = true) (k : PySem.W.keepIn K (.ref f) = true) : Here K mg "both" s_both ["one", "other"] :=
  let F : C8.Fun K "both" "both" s_both f _ := ⟨⟨oc, od, .none, kV, dc, pm, an, cd, ct, sl, rfl, l, c⟩⟩
  ⟨f, _, ⟨F, PySem.W.mg_of X G a, k⟩, F.binds rfl fun _ _ _ _ _ _ us hl => match us, hl with | [_, _], _ => rfl⟩
theorem mk_either (X : K.In h) (G : h.Ns mainGlobals mg) (a : PySem.W.nsIn K mainGlobals "either" = some (some (.ref f))) (l : K.lookup f = some ⟨oc, od, .func (PySem.W.fnOf "either" "either" (C8.fnArgs s_either) (C8.fnBody s_either) (C8.fnScope s_either) .none kV dc pm an cd ct), sl⟩) (c : PySem.W.codeIn K cd "either" = true) (k : PySem.W.keepIn K (.ref f) = true) : Here K mg "either" s_either ["one", "other"] :=
  let F : C8.Fun K "either" "either" s_either f _ := ⟨⟨oc, od, .none, kV, dc, pm, an, cd, ct, sl, rfl, l, c⟩⟩
  ⟨f, _, ⟨F, PySem.W.mg_of X G a, k⟩, F.binds rfl fun _ _ _ _ _ _ us hl => match us, hl with | [_, _], _ => rfl⟩
theorem mk_less (X : K.In h) (G : h.Ns mainGlobals mg) (a : PySem.W.nsIn K mainGlobals "less" = some (some (.ref f))) (l : K.lookup f = some ⟨oc, od, .func (PySem.W.fnOf "less" "less" (C8.fnArgs s_less) (C8.fnBody s_less) (C8.fnScope s_less) .none kV dc pm an cd ct), sl⟩) (c : PySem.W.codeIn K cd "less" = true) (k : PySem.W.keepIn K (.ref f) = true) : Here K mg "less" s_less ["one", "other"] :=
  let F : C8.Fun K "less" "less" s_less f _ := ⟨⟨oc, od, .none, kV, dc, pm, an, cd, ct, sl, rfl, l, c⟩⟩
  ⟨f, _, ⟨F, PySem.W.mg_of X G a, k⟩, F.binds rfl fun _ _ _ _ _ _ us hl => match us, hl with | [_, _], _ => rfl⟩
theorem mk_long (X : K.In h) (G : h.Ns mainGlobals mg) (a : PySem.W.nsIn K mainGlobals "long" = some (some (.ref f))) (l : K.lookup f = some ⟨oc, od, .func (PySem.W.fnOf "long" "long" (C8.fnArgs s_long) (C8.fnBody s_long) (C8.fnScope s_long) .none kV dc pm an cd ct), sl⟩) (c : PySem.W.codeIn K cd "long" = true) (k : PySem.W.keepIn K (.ref f) = true) : Here K mg "long" s_long ["line"] :=
  let F : C8.Fun K "long" "long" s_long f _ := ⟨⟨oc, od, .none, kV, dc, pm, an, cd, ct, sl, rfl, l, c⟩⟩
  ⟨f, _, ⟨F, PySem.W.mg_of X G a, k⟩, F.binds rfl fun _ _ _ _ _ _ us hl => match us, hl with | [_], _ => rfl⟩
theorem mk_area (X : K.In h) (G : h.Ns mainGlobals mg) (a : PySem.W.nsIn K mainGlobals "area" = some (some (.ref f))) (l : K.lookup f = some ⟨oc, od, .func (PySem.W.fnOf "area" "area" (C8.fnArgs s_area) (C8.fnBody s_area) (C8.fnScope s_area) .none kV dc pm an cd ct), sl⟩) (c : PySem.W.codeIn K cd "area" = true) (k : PySem.W.keepIn K (.ref f) = true) : Here K mg "area" s_area ["some"] :=
  let F : C8.Fun K "area" "area" s_area f _ := ⟨⟨oc, od, .none, kV, dc, pm, an, cd, ct, sl, rfl, l, c⟩⟩
  ⟨f, _, ⟨F, PySem.W.mg_of X G a, k⟩, F.binds rfl fun _ _ _ _ _ _ us hl => match us, hl with | [_], _ => rfl⟩
theorem mk_rim (X : K.In h) (G : h.Ns mainGlobals mg) (a : PySem.W.nsIn K mainGlobals "rim" = some (some (.ref f))) (l : K.lookup f = some ⟨oc, od, .func (PySem.W.fnOf "rim" "rim" (C8.fnArgs s_rim) (C8.fnBody s_rim) (C8.fnScope s_rim) .none kV dc pm an cd ct), sl⟩) (c : PySem.W.codeIn K cd "rim" = true) (k : PySem.W.keepIn K (.ref f) = true) : Here K mg "rim" s_rim ["some"] :=
  let F : C8.Fun K "rim" "rim" s_rim f _ := ⟨⟨oc, od, .none, kV, dc, pm, an, cd, ct, sl, rfl, l, c⟩⟩
  ⟨f, _, ⟨F, PySem.W.mg_of X G a, k⟩, F.binds rfl fun _ _ _ _ _ _ us hl => match us, hl with | [_], _ => rfl⟩
theorem mk_grown (X : K.In h) (G : h.Ns mainGlobals mg) (a : PySem.W.nsIn K mainGlobals "grown" = some (some (.ref f))) (l : K.lookup f = some ⟨oc, od, .func (PySem.W.fnOf "grown" "grown" (C8.fnArgs s_grown) (C8.fnBody s_grown) (C8.fnScope s_grown) .none kV dc pm an cd ct), sl⟩) (c : PySem.W.codeIn K cd "grown" = true) (k : PySem.W.keepIn K (.ref f) = true) : Here K mg "grown" s_grown ["some", "k"] :=
  let F : C8.Fun K "grown" "grown" s_grown f _ := ⟨⟨oc, od, .none, kV, dc, pm, an, cd, ct, sl, rfl, l, c⟩⟩
  ⟨f, _, ⟨F, PySem.W.mg_of X G a, k⟩, F.binds rfl fun _ _ _ _ _ _ us hl => match us, hl with | [_, _], _ => rfl⟩
theorem mk_outside (X : K.In h) (G : h.Ns mainGlobals mg) (a : PySem.W.nsIn K mainGlobals "outside" = some (some (.ref f))) (l : K.lookup f = some ⟨oc, od, .func (PySem.W.fnOf "outside" "outside" (C8.fnArgs s_outside) (C8.fnBody s_outside) (C8.fnScope s_outside) .none kV dc pm an cd ct), sl⟩) (c : PySem.W.codeIn K cd "outside" = true) (k : PySem.W.keepIn K (.ref f) = true) : Here K mg "outside" s_outside ["some", "k"] :=
  let F : C8.Fun K "outside" "outside" s_outside f _ := ⟨⟨oc, od, .none, kV, dc, pm, an, cd, ct, sl, rfl, l, c⟩⟩
  ⟨f, _, ⟨F, PySem.W.mg_of X G a, k⟩, F.binds rfl fun _ _ _ _ _ _ us hl => match us, hl with | [_, _], _ => rfl⟩
theorem mk_shrunk (X : K.In h) (G : h.Ns mainGlobals mg) (a : PySem.W.nsIn K mainGlobals "shrunk" = some (some (.ref f))) (l : K.lookup f = some ⟨oc, od, .func (PySem.W.fnOf "shrunk" "shrunk" (C8.fnArgs s_shrunk) (C8.fnBody s_shrunk) (C8.fnScope s_shrunk) .none kV dc pm an cd ct), sl⟩) (c : PySem.W.codeIn K cd "shrunk" = true) (k : PySem.W.keepIn K (.ref f) = true) : Here K mg "shrunk" s_shrunk ["some", "k"] :=
  let F : C8.Fun K "shrunk" "shrunk" s_shrunk f _ := ⟨⟨oc, od, .none, kV, dc, pm, an, cd, ct, sl, rfl, l, c⟩⟩
  ⟨f, _, ⟨F, PySem.W.mg_of X G a, k⟩, F.binds rfl fun _ _ _ _ _ _ us hl => match us, hl with | [_, _], _ => rfl⟩
theorem mk_touches (X : K.In h) (G : h.Ns mainGlobals mg) (a : PySem.W.nsIn K mainGlobals "touches" = some (some (.ref f))) (l : K.lookup f = some ⟨oc, od, .func (PySem.W.fnOf "touches" "touches" (C8.fnArgs s_touches) (C8.fnBody s_touches) (C8.fnScope s_touches) .none kV dc pm an cd ct), sl⟩) (c : PySem.W.codeIn K cd "touches" = true) (k : PySem.W.keepIn K (.ref f) = true) : Here K mg "touches" s_touches ["one", "other"] :=
  let F : C8.Fun K "touches" "touches" s_touches f _ := ⟨⟨oc, od, .none, kV, dc, pm, an, cd, ct, sl, rfl, l, c⟩⟩
  ⟨f, _, ⟨F, PySem.W.mg_of X G a, k⟩, F.binds rfl fun _ _ _ _ _ _ us hl => match us, hl with | [_, _], _ => rfl⟩
theorem mk_banks (X : K.In h) (G : h.Ns mainGlobals mg) (a : PySem.W.nsIn K mainGlobals "banks" = some (some (.ref f))) (l : K.lookup f = some ⟨oc, od, .func (PySem.W.fnOf "banks" "banks" (C8.fnArgs s_banks) (C8.fnBody s_banks) (C8.fnScope s_banks) .none kV dc pm an cd ct), sl⟩) (c : PySem.W.codeIn K cd "banks" = true) (k : PySem.W.keepIn K (.ref f) = true) : Here K mg "banks" s_banks ["some"] :=
  let F : C8.Fun K "banks" "banks" s_banks f _ := ⟨⟨oc, od, .none, kV, dc, pm, an, cd, ct, sl, rfl, l, c⟩⟩
  ⟨f, _, ⟨F, PySem.W.mg_of X G a, k⟩, F.binds rfl fun _ _ _ _ _ _ us hl => match us, hl with | [_], _ => rfl⟩
theorem mk_root (X : K.In h) (G : h.Ns mainGlobals mg) (a : PySem.W.nsIn K mainGlobals "root" = some (some (.ref f))) (l : K.lookup f = some ⟨oc, od, .func (PySem.W.fnOf "root" "root" (C8.fnArgs s_root) (C8.fnBody s_root) (C8.fnScope s_root) .none kV dc pm an cd ct), sl⟩) (c : PySem.W.codeIn K cd "root" = true) (k : PySem.W.keepIn K (.ref f) = true) : Here K mg "root" s_root ["heads", "number"] :=
  let F : C8.Fun K "root" "root" s_root f _ := ⟨⟨oc, od, .none, kV, dc, pm, an, cd, ct, sl, rfl, l, c⟩⟩
  ⟨f, _, ⟨F, PySem.W.mg_of X G a, k⟩, F.binds rfl fun _ _ _ _ _ _ us hl => match us, hl with | [_, _], _ => rfl⟩
theorem mk_touching (X : K.In h) (G : h.Ns mainGlobals mg) (a : PySem.W.nsIn K mainGlobals "touching" = some (some (.ref f))) (l : K.lookup f = some ⟨oc, od, .func (PySem.W.fnOf "touching" "touching" (C8.fnArgs s_touching) (C8.fnBody s_touching) (C8.fnScope s_touching) .none kV dc pm an cd ct), sl⟩) (c : PySem.W.codeIn K cd "touching" = true) (k : PySem.W.keepIn K (.ref f) = true) : Here K mg "touching" s_touching ["above", "below"] :=
  let F : C8.Fun K "touching" "touching" s_touching f _ := ⟨⟨oc, od, .none, kV, dc, pm, an, cd, ct, sl, rfl, l, c⟩⟩
  ⟨f, _, ⟨F, PySem.W.mg_of X G a, k⟩, F.binds rfl fun _ _ _ _ _ _ us hl => match us, hl with | [_, _], _ => rfl⟩
theorem mk_pieces (X : K.In h) (G : h.Ns mainGlobals mg) (a : PySem.W.nsIn K mainGlobals "pieces" = some (some (.ref f))) (l : K.lookup f = some ⟨oc, od, .func (PySem.W.fnOf "pieces" "pieces" (C8.fnArgs s_pieces) (C8.fnBody s_pieces) (C8.fnScope s_pieces) .none kV dc pm an cd ct), sl⟩) (c : PySem.W.codeIn K cd "pieces" = true) (k : PySem.W.keepIn K (.ref f) = true) : Here K mg "pieces" s_pieces ["some"] :=
  let F : C8.Fun K "pieces" "pieces" s_pieces f _ := ⟨⟨oc, od, .none, kV, dc, pm, an, cd, ct, sl, rfl, l, c⟩⟩
  ⟨f, _, ⟨F, PySem.W.mg_of X G a, k⟩, F.binds rfl fun _ _ _ _ _ _ us hl => match us, hl with | [_], _ => rfl⟩
theorem mk__law_bag (X : K.In h) (G : h.Ns mainGlobals mg) (a : PySem.W.nsIn K mainGlobals "_law_bag" = some (some (.ref f))) (l : K.lookup f = some ⟨oc, od, .func (PySem.W.fnOf "_law_bag" "_law_bag" (C8.fnArgs s__law_bag) (C8.fnBody s__law_bag) (C8.fnScope s__law_bag) .none kV dc pm an cd ct), sl⟩) (c : PySem.W.codeIn K cd "_law_bag" = true) (k : PySem.W.keepIn K (.ref f) = true) : Here K mg "_law_bag" s__law_bag ["_law_script", "_law_at"] :=
  let F : C8.Fun K "_law_bag" "_law_bag" s__law_bag f _ := ⟨⟨oc, od, .none, kV, dc, pm, an, cd, ct, sl, rfl, l, c⟩⟩
  ⟨f, _, ⟨F, PySem.W.mg_of X G a, k⟩, F.binds rfl fun _ _ _ _ _ _ us hl => match us, hl with | [_, _], _ => rfl⟩
theorem mk__law_take (X : K.In h) (G : h.Ns mainGlobals mg) (a : PySem.W.nsIn K mainGlobals "_law_take" = some (some (.ref f))) (l : K.lookup f = some ⟨oc, od, .func (PySem.W.fnOf "_law_take" "_law_take" (C8.fnArgs s__law_take) (C8.fnBody s__law_take) (C8.fnScope s__law_take) .none kV dc pm an cd ct), sl⟩) (c : PySem.W.codeIn K cd "_law_take" = true) (k : PySem.W.keepIn K (.ref f) = true) : Here K mg "_law_take" s__law_take ["_law_bag_here", "_law_many"] :=
  let F : C8.Fun K "_law_take" "_law_take" s__law_take f _ := ⟨⟨oc, od, .none, kV, dc, pm, an, cd, ct, sl, rfl, l, c⟩⟩
  ⟨f, _, ⟨F, PySem.W.mg_of X G a, k⟩, F.binds rfl fun _ _ _ _ _ _ us hl => match us, hl with | [_, _], _ => rfl⟩
theorem mk__law_number (X : K.In h) (G : h.Ns mainGlobals mg) (a : PySem.W.nsIn K mainGlobals "_law_number" = some (some (.ref f))) (l : K.lookup f = some ⟨oc, od, .func (PySem.W.fnOf "_law_number" "_law_number" (C8.fnArgs s__law_number) (C8.fnBody s__law_number) (C8.fnScope s__law_number) .none kV dc pm an cd ct), sl⟩) (c : PySem.W.codeIn K cd "_law_number" = true) (k : PySem.W.keepIn K (.ref f) = true) : Here K mg "_law_number" s__law_number ["_law_bag_here", "_law_sort", "_law_some"] :=
  let F : C8.Fun K "_law_number" "_law_number" s__law_number f _ := ⟨⟨oc, od, .none, kV, dc, pm, an, cd, ct, sl, rfl, l, c⟩⟩
  ⟨f, _, ⟨F, PySem.W.mg_of X G a, k⟩, F.binds rfl fun _ _ _ _ _ _ us hl => match us, hl with | [_, _, _], _ => rfl⟩
theorem mk__law_side (X : K.In h) (G : h.Ns mainGlobals mg) (a : PySem.W.nsIn K mainGlobals "_law_side" = some (some (.ref f))) (l : K.lookup f = some ⟨oc, od, .func (PySem.W.fnOf "_law_side" "_law_side" (C8.fnArgs s__law_side) (C8.fnBody s__law_side) (C8.fnScope s__law_side) .none kV dc pm an cd ct), sl⟩) (c : PySem.W.codeIn K cd "_law_side" = true) (k : PySem.W.keepIn K (.ref f) = true) : Here K mg "_law_side" s__law_side ["_law_bag_here", "_law_sort", "_law_some"] :=
  let F : C8.Fun K "_law_side" "_law_side" s__law_side f _ := ⟨⟨oc, od, .none, kV, dc, pm, an, cd, ct, sl, rfl, l, c⟩⟩
  ⟨f, _, ⟨F, PySem.W.mg_of X G a, k⟩, F.binds rfl fun _ _ _ _ _ _ us hl => match us, hl with | [_, _, _], _ => rfl⟩
theorem mk__law_rects (X : K.In h) (G : h.Ns mainGlobals mg) (a : PySem.W.nsIn K mainGlobals "_law_rects" = some (some (.ref f))) (l : K.lookup f = some ⟨oc, od, .func (PySem.W.fnOf "_law_rects" "_law_rects" (C8.fnArgs s__law_rects) (C8.fnBody s__law_rects) (C8.fnScope s__law_rects) .none kV dc pm an cd ct), sl⟩) (c : PySem.W.codeIn K cd "_law_rects" = true) (k : PySem.W.keepIn K (.ref f) = true) : Here K mg "_law_rects" s__law_rects ["_law_bag_here", "_law_most"] :=
  let F : C8.Fun K "_law_rects" "_law_rects" s__law_rects f _ := ⟨⟨oc, od, .none, kV, dc, pm, an, cd, ct, sl, rfl, l, c⟩⟩
  ⟨f, _, ⟨F, PySem.W.mg_of X G a, k⟩, F.binds rfl fun _ _ _ _ _ _ us hl => match us, hl with | [_, _], _ => rfl⟩
theorem mk__law_turned_right (X : K.In h) (G : h.Ns mainGlobals mg) (a : PySem.W.nsIn K mainGlobals "_law_turned_right" = some (some (.ref f))) (l : K.lookup f = some ⟨oc, od, .func (PySem.W.fnOf "_law_turned_right" "_law_turned_right" (C8.fnArgs s__law_turned_right) (C8.fnBody s__law_turned_right) (C8.fnScope s__law_turned_right) .none kV dc pm an cd ct), sl⟩) (c : PySem.W.codeIn K cd "_law_turned_right" = true) (k : PySem.W.keepIn K (.ref f) = true) : Here K mg "_law_turned_right" s__law_turned_right ["_law_one", "_law_other", "_law_turn", "_law_by", "_law_k"] :=
  let F : C8.Fun K "_law_turned_right" "_law_turned_right" s__law_turned_right f _ := ⟨⟨oc, od, .none, kV, dc, pm, an, cd, ct, sl, rfl, l, c⟩⟩
  ⟨f, _, ⟨F, PySem.W.mg_of X G a, k⟩, F.binds rfl fun _ _ _ _ _ _ us hl => match us, hl with | [_, _, _, _, _], _ => rfl⟩
end
theorem all_mk {l : PySem.W.OpenLaw} {w : World} {K : PySem.W.Frag} {h : Heap} {mg : Str → Option Value} {fa f2 : Addr} (X : K.In h) (G : h.Ns mainGlobals mg) (hfa : mg "law" = some (.ref fa)) {od2 an2 : Option Addr} {sl2 : Array (Option Value)} {oc2 kV2 dc2 pm2 cd2 ct2 : Value}
    (h_joined : Here K mg "joined" s_joined ["stretches"])
    (h_banded : Here K mg "banded" s_banded ["cuts", "lines"])
    (h_cuts_of : Here K mg "cuts_of" s_cuts_of ["rects"])
    (h_region : Here K mg "region" s_region ["rects"])
    (h_rects_of : Here K mg "rects_of" s_rects_of ["some"])
    (h_mirrored : Here K mg "mirrored" s_mirrored ["rect"])
    (h_quarter : Here K mg "quarter" s_quarter ["rect"])
    (h_turned_rect : Here K mg "turned_rect" s_turned_rect ["rect", "turn", "dx", "dy"])
    (h_turned : Here K mg "turned" s_turned ["some", "turn", "dx", "dy"])
    (h_in_both : Here K mg "in_both" s_in_both ["one", "other"])
    (h_in_either : Here K mg "in_either" s_in_either ["one", "other"])
    (h_in_first : Here K mg "in_first" s_in_first ["one", "other"])
    (h_in_one : Here K mg "in_one" s_in_one ["one", "other"])
    (h_edges : Here K mg "edges" s_edges ["line", "side"])
    (h_mixed_line : Here K mg "mixed_line" s_mixed_line ["one", "other", "keep"])
    (h_lines_at : Here K mg "lines_at" s_lines_at ["some", "cuts"])
    (h_ends_of : Here K mg "ends_of" s_ends_of ["some"])
    (h_mixed : Here K mg "mixed" s_mixed ["one", "other", "keep"])
    (h_both : Here K mg "both" s_both ["one", "other"])
    (h_either : Here K mg "either" s_either ["one", "other"])
    (h_less : Here K mg "less" s_less ["one", "other"])
    (h_long : Here K mg "long" s_long ["line"])
    (h_area : Here K mg "area" s_area ["some"])
    (h_rim : Here K mg "rim" s_rim ["some"])
    (h_grown : Here K mg "grown" s_grown ["some", "k"])
    (h_outside : Here K mg "outside" s_outside ["some", "k"])
    (h_shrunk : Here K mg "shrunk" s_shrunk ["some", "k"])
    (h_touches : Here K mg "touches" s_touches ["one", "other"])
    (h_banks : Here K mg "banks" s_banks ["some"])
    (h_root : Here K mg "root" s_root ["heads", "number"])
    (h_touching : Here K mg "touching" s_touching ["above", "below"])
    (h_pieces : Here K mg "pieces" s_pieces ["some"])
    (h__law_bag : Here K mg "_law_bag" s__law_bag ["_law_script", "_law_at"])
    (h__law_take : Here K mg "_law_take" s__law_take ["_law_bag_here", "_law_many"])
    (h__law_number : Here K mg "_law_number" s__law_number ["_law_bag_here", "_law_sort", "_law_some"])
    (h__law_side : Here K mg "_law_side" s__law_side ["_law_bag_here", "_law_sort", "_law_some"])
    (h__law_rects : Here K mg "_law_rects" s__law_rects ["_law_bag_here", "_law_most"])
    (h__law_turned_right : Here K mg "_law_turned_right" s__law_turned_right ["_law_one", "_law_other", "_law_turn", "_law_by", "_law_k"])
    (a2 : PySem.W.nsIn K mainGlobals "law" = some (some (.ref f2))) (l2 : K.lookup f2 = some ⟨oc2, od2, .func (PySem.W.fnOf "law" "law" (C8.fnArgs s_law) (C8.fnBody s_law) (C8.fnScope s_law) .none kV2 dc2 pm2 an2 cd2 ct2), sl2⟩) (c2 : PySem.W.codeIn K cd2 "law" = true)
    (z_len : PySem.W.nsIn K mainGlobals "len" = some none)
    (z_sorted : PySem.W.nsIn K mainGlobals "sorted" = some none)
    (z_max : PySem.W.nsIn K mainGlobals "max" = some none)
    (z_min : PySem.W.nsIn K mainGlobals "min" = some none)
    (z_zip : PySem.W.nsIn K mainGlobals "zip" = some none)
    (z_set : PySem.W.nsIn K mainGlobals "set" = some none)
    (z_tuple : PySem.W.nsIn K mainGlobals "tuple" = some none)
    (z_list : PySem.W.nsIn K mainGlobals "list" = some none)
    (z_enumerate : PySem.W.nsIn K mainGlobals "enumerate" = some none)
    (z_range : PySem.W.nsIn K mainGlobals "range" = some none)
    (z_sum : PySem.W.nsIn K mainGlobals "sum" = some none)
    (z_abs : PySem.W.nsIn K mainGlobals "abs" = some none)
    : ∃ fd : FuncData, (∀ (s : Shared) (v : Value), BindsTo s fd ⟨[v], []⟩ [("_law_script", v)]) ∧ ∀ base : Heap, K.In base → base.Ns mainGlobals mg → FnOk l.prog w K mg base C8.CX0 8 fa fd ["_law_script"] (sp_law K) := by
  have e := hfa.symm.trans (PySem.W.mg_of X G a2)
  cases e
  refine ⟨PySem.W.fnOf "law" "law" (C8.fnArgs s_law) (C8.fnBody s_law) (C8.fnScope s_law) .none kV2 dc2 pm2 an2 cd2 ct2, fun s v => .of_eq rfl, fun base _ _ => ?_⟩
  have T : Txt mg := ⟨PySem.W.mg_none_of X G z_len, PySem.W.mg_none_of X G z_sorted, PySem.W.mg_none_of X G z_max, PySem.W.mg_none_of X G z_min, PySem.W.mg_none_of X G z_zip, PySem.W.mg_none_of X G z_set, PySem.W.mg_none_of X G z_tuple, PySem.W.mg_none_of X G z_list, PySem.W.mg_none_of X G z_enumerate, PySem.W.mg_none_of X G z_range, PySem.W.mg_none_of X G z_sum, PySem.W.mg_none_of X G z_abs⟩
  have c_joined := cal_joined (P := l.prog) (w := w) (base := base) T h_joined
  have c_banded := cal_banded (P := l.prog) (w := w) (base := base) T h_banded
  have c_cuts_of := cal_cuts_of (P := l.prog) (w := w) (base := base) T h_cuts_of
  have c_region := cal_region (P := l.prog) (w := w) (base := base) T c_joined c_banded c_cuts_of h_region
  have c_rects_of := cal_rects_of (P := l.prog) (w := w) (base := base) T h_rects_of
  have c_mirrored := cal_mirrored (P := l.prog) (w := w) (base := base)  h_mirrored
  have c_quarter := cal_quarter (P := l.prog) (w := w) (base := base)  h_quarter
  have c_turned_rect := cal_turned_rect (P := l.prog) (w := w) (base := base) T c_mirrored c_quarter h_turned_rect
  have c_turned := cal_turned (P := l.prog) (w := w) (base := base) T c_rects_of c_turned_rect c_region h_turned
  have c_in_both := cal_in_both (P := l.prog) (w := w) (base := base)  h_in_both
  have c_in_either := cal_in_either (P := l.prog) (w := w) (base := base)  h_in_either
  have c_in_first := cal_in_first (P := l.prog) (w := w) (base := base)  h_in_first
  have c_in_one := cal_in_one (P := l.prog) (w := w) (base := base)  h_in_one
  have c_edges := cal_edges (P := l.prog) (w := w) (base := base) T h_edges
  have c_mixed_line := cal_mixed_line (P := l.prog) (w := w) (base := base) T c_edges h_mixed_line
  have c_lines_at := cal_lines_at (P := l.prog) (w := w) (base := base) T h_lines_at
  have c_ends_of := cal_ends_of (P := l.prog) (w := w) (base := base) T h_ends_of
  have c_mixed := cal_mixed (P := l.prog) (w := w) (base := base) T c_ends_of c_lines_at c_mixed_line c_banded h_mixed
  have c_both := cal_both (P := l.prog) (w := w) (base := base) c_in_both c_mixed h_both
  have c_either := cal_either (P := l.prog) (w := w) (base := base) c_in_either c_mixed h_either
  have c_less := cal_less (P := l.prog) (w := w) (base := base) c_in_first c_mixed h_less
  have c_long := cal_long (P := l.prog) (w := w) (base := base) T h_long
  have c_area := cal_area (P := l.prog) (w := w) (base := base) T c_long h_area
  have c_rim := cal_rim (P := l.prog) (w := w) (base := base) T c_in_one c_ends_of c_lines_at c_mixed_line c_long h_rim
  have c_grown := cal_grown (P := l.prog) (w := w) (base := base) T c_rects_of c_region h_grown
  have c_outside := cal_outside (P := l.prog) (w := w) (base := base) T c_rects_of c_region c_less h_outside
  have c_shrunk := cal_shrunk (P := l.prog) (w := w) (base := base) T c_outside c_grown c_less h_shrunk
  have c_touches := cal_touches (P := l.prog) (w := w) (base := base) T h_touches
  have c_banks := cal_banks (P := l.prog) (w := w) (base := base) T h_banks
  have c_root := cal_root (P := l.prog) (w := w) (base := base) T h_root
  have c_touching := cal_touching (P := l.prog) (w := w) (base := base) T c_touches h_touching
  have c_pieces := cal_pieces (P := l.prog) (w := w) (base := base) T c_banks c_touching c_root c_region h_pieces
  have c__law_bag := cal_bag (P := l.prog) (w := w) (base := base) T h__law_bag
  have c__law_take := cal_take (P := l.prog) (w := w) (base := base) T h__law_take
  have c__law_number := cal_number (P := l.prog) (w := w) (base := base) T c__law_take h__law_number
  have c__law_side := cal_side (P := l.prog) (w := w) (base := base) T c__law_number h__law_side
  have c__law_rects := cal_rects (P := l.prog) (w := w) (base := base) T c__law_take c__law_side h__law_rects
  have c__law_turned_right := cal_right (P := l.prog) (w := w) (base := base) T c_turned c_both c_either c_less c_grown c_shrunk c_pieces c_area c_rim h__law_turned_right
  exact ok_law T c__law_bag c__law_take c__law_rects c_region c__law_turned_right c_both c_either c_less c_grown c_shrunk c_pieces ⟨⟨oc2, od2, .none, kV2, dc2, pm2, an2, cd2, ct2, sl2, rfl, l2, c2⟩⟩
end Mw

-- END
open PySem PySem.W PyProof.Rows
set_option maxHeartbeats 0 in
theorem PySem.Challenge.cw_maskwright_k12_whole_turned_and_moved_holds : PySem.Challenge.rw_maskwright_k12_whole_turned_and_moved.Holds := by
  w_on; o_law; k_head; (case hw => w_witness2)
  k_fill
  refine L2.walk_of (l := PySem.Challenge.rw_maskwright_k12_whole_turned_and_moved) (n := 63) (k := 8) (x := "_law_script") (CX := fun _ => C8.CX0) (sp := fun w => Mw.sp_law _) rfl (by decide) rfl ⟨rfl, by decide, by decide⟩ (fun w h Y => PySem.W.kIn_of Y) ?F (fun _ _ a ns hl _ hS => ⟨a, ns, rfl, hS, hl, fun _ => rfl⟩) (fun _ _ _ _ _ h => h)
  case F =>
    intro w mg fa h KX G hmg
    refine' Mw.all_mk KX G hmg (Mw.mk_joined KX G ?a_joined ?l_joined ?c_joined ?k_joined) (Mw.mk_banded KX G ?a_banded ?l_banded ?c_banded ?k_banded) (Mw.mk_cuts_of KX G ?a_cuts_of ?l_cuts_of ?c_cuts_of ?k_cuts_of) (Mw.mk_region KX G ?a_region ?l_region ?c_region ?k_region) (Mw.mk_rects_of KX G ?a_rects_of ?l_rects_of ?c_rects_of ?k_rects_of) (Mw.mk_mirrored KX G ?a_mirrored ?l_mirrored ?c_mirrored ?k_mirrored) (Mw.mk_quarter KX G ?a_quarter ?l_quarter ?c_quarter ?k_quarter) (Mw.mk_turned_rect KX G ?a_turned_rect ?l_turned_rect ?c_turned_rect ?k_turned_rect) (Mw.mk_turned KX G ?a_turned ?l_turned ?c_turned ?k_turned) (Mw.mk_in_both KX G ?a_in_both ?l_in_both ?c_in_both ?k_in_both) (Mw.mk_in_either KX G ?a_in_either ?l_in_either ?c_in_either ?k_in_either) (Mw.mk_in_first KX G ?a_in_first ?l_in_first ?c_in_first ?k_in_first) (Mw.mk_in_one KX G ?a_in_one ?l_in_one ?c_in_one ?k_in_one) (Mw.mk_edges KX G ?a_edges ?l_edges ?c_edges ?k_edges) (Mw.mk_mixed_line KX G ?a_mixed_line ?l_mixed_line ?c_mixed_line ?k_mixed_line) (Mw.mk_lines_at KX G ?a_lines_at ?l_lines_at ?c_lines_at ?k_lines_at) (Mw.mk_ends_of KX G ?a_ends_of ?l_ends_of ?c_ends_of ?k_ends_of) (Mw.mk_mixed KX G ?a_mixed ?l_mixed ?c_mixed ?k_mixed) (Mw.mk_both KX G ?a_both ?l_both ?c_both ?k_both) (Mw.mk_either KX G ?a_either ?l_either ?c_either ?k_either) (Mw.mk_less KX G ?a_less ?l_less ?c_less ?k_less) (Mw.mk_long KX G ?a_long ?l_long ?c_long ?k_long) (Mw.mk_area KX G ?a_area ?l_area ?c_area ?k_area) (Mw.mk_rim KX G ?a_rim ?l_rim ?c_rim ?k_rim) (Mw.mk_grown KX G ?a_grown ?l_grown ?c_grown ?k_grown) (Mw.mk_outside KX G ?a_outside ?l_outside ?c_outside ?k_outside) (Mw.mk_shrunk KX G ?a_shrunk ?l_shrunk ?c_shrunk ?k_shrunk) (Mw.mk_touches KX G ?a_touches ?l_touches ?c_touches ?k_touches) (Mw.mk_banks KX G ?a_banks ?l_banks ?c_banks ?k_banks) (Mw.mk_root KX G ?a_root ?l_root ?c_root ?k_root) (Mw.mk_touching KX G ?a_touching ?l_touching ?c_touching ?k_touching) (Mw.mk_pieces KX G ?a_pieces ?l_pieces ?c_pieces ?k_pieces) (Mw.mk__law_bag KX G ?a__law_bag ?l__law_bag ?c__law_bag ?k__law_bag) (Mw.mk__law_take KX G ?a__law_take ?l__law_take ?c__law_take ?k__law_take) (Mw.mk__law_number KX G ?a__law_number ?l__law_number ?c__law_number ?k__law_number) (Mw.mk__law_side KX G ?a__law_side ?l__law_side ?c__law_side ?k__law_side) (Mw.mk__law_rects KX G ?a__law_rects ?l__law_rects ?c__law_rects ?k__law_rects) (Mw.mk__law_turned_right KX G ?a__law_turned_right ?l__law_turned_right ?c__law_turned_right ?k__law_turned_right) ?a2 ?l2 ?c2 ?z_len ?z_sorted ?z_max ?z_min ?z_zip ?z_set ?z_tuple ?z_list ?z_enumerate ?z_range ?z_sum ?z_abs
    (case a_joined => k_is); (case l_joined => k_is); (case c_joined => k_is); (case k_joined => k_is)
    (case a_banded => k_is); (case l_banded => k_is); (case c_banded => k_is); (case k_banded => k_is)
    (case a_cuts_of => k_is); (case l_cuts_of => k_is); (case c_cuts_of => k_is); (case k_cuts_of => k_is)
    (case a_region => k_is); (case l_region => k_is); (case c_region => k_is); (case k_region => k_is)
    (case a_rects_of => k_is); (case l_rects_of => k_is); (case c_rects_of => k_is); (case k_rects_of => k_is)
    (case a_mirrored => k_is); (case l_mirrored => k_is); (case c_mirrored => k_is); (case k_mirrored => k_is)
    (case a_quarter => k_is); (case l_quarter => k_is); (case c_quarter => k_is); (case k_quarter => k_is)
    (case a_turned_rect => k_is); (case l_turned_rect => k_is); (case c_turned_rect => k_is); (case k_turned_rect => k_is)
    (case a_turned => k_is); (case l_turned => k_is); (case c_turned => k_is); (case k_turned => k_is)
    (case a_in_both => k_is); (case l_in_both => k_is); (case c_in_both => k_is); (case k_in_both => k_is)
    (case a_in_either => k_is); (case l_in_either => k_is); (case c_in_either => k_is); (case k_in_either => k_is)
    (case a_in_first => k_is); (case l_in_first => k_is); (case c_in_first => k_is); (case k_in_first => k_is)
    (case a_in_one => k_is); (case l_in_one => k_is); (case c_in_one => k_is); (case k_in_one => k_is)
    (case a_edges => k_is); (case l_edges => k_is); (case c_edges => k_is); (case k_edges => k_is)
    (case a_mixed_line => k_is); (case l_mixed_line => k_is); (case c_mixed_line => k_is); (case k_mixed_line => k_is)
    (case a_lines_at => k_is); (case l_lines_at => k_is); (case c_lines_at => k_is); (case k_lines_at => k_is)
    (case a_ends_of => k_is); (case l_ends_of => k_is); (case c_ends_of => k_is); (case k_ends_of => k_is)
    (case a_mixed => k_is); (case l_mixed => k_is); (case c_mixed => k_is); (case k_mixed => k_is)
    (case a_both => k_is); (case l_both => k_is); (case c_both => k_is); (case k_both => k_is)
    (case a_either => k_is); (case l_either => k_is); (case c_either => k_is); (case k_either => k_is)
    (case a_less => k_is); (case l_less => k_is); (case c_less => k_is); (case k_less => k_is)
    (case a_long => k_is); (case l_long => k_is); (case c_long => k_is); (case k_long => k_is)
    (case a_area => k_is); (case l_area => k_is); (case c_area => k_is); (case k_area => k_is)
    (case a_rim => k_is); (case l_rim => k_is); (case c_rim => k_is); (case k_rim => k_is)
    (case a_grown => k_is); (case l_grown => k_is); (case c_grown => k_is); (case k_grown => k_is)
    (case a_outside => k_is); (case l_outside => k_is); (case c_outside => k_is); (case k_outside => k_is)
    (case a_shrunk => k_is); (case l_shrunk => k_is); (case c_shrunk => k_is); (case k_shrunk => k_is)
    (case a_touches => k_is); (case l_touches => k_is); (case c_touches => k_is); (case k_touches => k_is)
    (case a_banks => k_is); (case l_banks => k_is); (case c_banks => k_is); (case k_banks => k_is)
    (case a_root => k_is); (case l_root => k_is); (case c_root => k_is); (case k_root => k_is)
    (case a_touching => k_is); (case l_touching => k_is); (case c_touching => k_is); (case k_touching => k_is)
    (case a_pieces => k_is); (case l_pieces => k_is); (case c_pieces => k_is); (case k_pieces => k_is)
    (case a__law_bag => k_is); (case l__law_bag => k_is); (case c__law_bag => k_is); (case k__law_bag => k_is)
    (case a__law_take => k_is); (case l__law_take => k_is); (case c__law_take => k_is); (case k__law_take => k_is)
    (case a__law_number => k_is); (case l__law_number => k_is); (case c__law_number => k_is); (case k__law_number => k_is)
    (case a__law_side => k_is); (case l__law_side => k_is); (case c__law_side => k_is); (case k__law_side => k_is)
    (case a__law_rects => k_is); (case l__law_rects => k_is); (case c__law_rects => k_is); (case k__law_rects => k_is)
    (case a__law_turned_right => k_is); (case l__law_turned_right => k_is); (case c__law_turned_right => k_is); (case k__law_turned_right => k_is)
    (case a2 => k_is); (case l2 => k_is); (case c2 => k_is)
    (case z_len => k_is); (case z_sorted => k_is); (case z_max => k_is); (case z_min => k_is); (case z_zip => k_is); (case z_set => k_is); (case z_tuple => k_is); (case z_list => k_is); (case z_enumerate => k_is); (case z_range => k_is); (case z_sum => k_is); (case z_abs => k_is)
