import PyProof.Rows.All
import Wide.All
import OpenK.AllK
import Wide.FinOn
import HandS.ForMost
import HandS.ForExc
import HandS.TupAny
import HandS.Walk
import HandS.Zip
import HandS.CallLocal
import HandS.IsInst
import HandS.Flow
import HandS.Strs
import HandS.TupSets
import HandS.SortInts
import KE.SortData
import KE.GoesNew
import KE.KRevSl
import HandS.Style
import PySem.Challenge.RW_maskwright_k17_whole_cells_and_sheets
set_option Elab.async false
set_option linter.all false
section
set_option autoImplicit false
/-! Regions as bands of stretches: canonical form, and that it is told by its places. Plain Lean. -/
namespace Mw
abbrev Line := List (Int × Int)
abbrev Band := Int × Int × Line
abbrev Reg := List Band
/-- x0, y0, x1, y1 -/
abbrev Rect := Int × Int × Int × Int

def inLine (l : Line) (x : Int) : Prop := ∃ s ∈ l, s.1 ≤ x ∧ x < s.2
def inReg (r : Reg) (x y : Int) : Prop := ∃ b ∈ r, b.1 ≤ y ∧ y < b.2.1 ∧ inLine b.2.2 x
def inRects (rs : List Rect) (x y : Int) : Prop := ∃ r ∈ rs, r.1 ≤ x ∧ x < r.2.2.1 ∧ r.2.1 ≤ y ∧ y < r.2.2.2

structure NLine (l : Line) : Prop where
  gap : l.Pairwise fun s t => s.2 < t.1
  pos : ∀ s ∈ l, s.1 < s.2
structure OkBand (b : Band) : Prop where
  pos : b.1 < b.2.1
  some : b.2.2 ≠ []
  line : NLine b.2.2
abbrev Below (a b : Band) : Prop := a.2.1 ≤ b.1 ∧ (a.2.1 = b.1 → a.2.2 ≠ b.2.2)
structure CReg (r : Reg) : Prop where
  ok : ∀ b ∈ r, OkBand b
  ord : r.Pairwise Below

theorem NLine.nil : NLine [] := ⟨.nil, fun _ h => absurd h (by simp)⟩
theorem NLine.tail {s : Int × Int} {l : Line} (h : NLine (s :: l)) : NLine l := ⟨(List.pairwise_cons.mp h.gap).2, fun t ht => h.pos t (List.mem_cons_of_mem _ ht)⟩
theorem NLine.after {s : Int × Int} {l : Line} (h : NLine (s :: l)) : ∀ t ∈ l, s.2 < t.1 := (List.pairwise_cons.mp h.gap).1
theorem inLine_nil (x : Int) : ¬ inLine [] x := fun ⟨_, h, _⟩ => absurd h (by simp)
theorem inLine_cons {s : Int × Int} {l : Line} {x : Int} : inLine (s :: l) x ↔ (s.1 ≤ x ∧ x < s.2) ∨ inLine l x := by
  unfold inLine
  simp
theorem NLine.from {s : Int × Int} {l : Line} (h : NLine (s :: l)) {x : Int} (hx : inLine (s :: l) x) : s.1 ≤ x := by
  rcases inLine_cons.mp hx with h1 | ⟨t, ht, h1, _⟩
  · exact h1.1
  · have := h.after t ht
    have := h.pos s List.mem_cons_self
    omega
theorem NLine.rest {s : Int × Int} {l : Line} (h : NLine (s :: l)) {x : Int} : inLine l x ↔ inLine (s :: l) x ∧ s.2 ≤ x := by
  rw [inLine_cons]
  constructor
  · intro hx
    refine ⟨.inr hx, ?_⟩
    obtain ⟨t, ht, h1, _⟩ := hx
    have := h.after t ht
    omega
  · rintro ⟨h1 | h1, h2⟩
    · omega
    · exact h1
/-- a line is told by its places -/
theorem line_uniq : ∀ {l m : Line}, NLine l → NLine m → (∀ x, inLine l x ↔ inLine m x) → l = m
  | [], [], _, _, _ => rfl
  | [], t :: m, _, hm, h => absurd ((h t.1).mpr (inLine_cons.mpr (.inl ⟨Int.le_refl _, hm.pos t List.mem_cons_self⟩))) (inLine_nil _)
  | s :: l, [], hl, _, h => absurd ((h s.1).mp (inLine_cons.mpr (.inl ⟨Int.le_refl _, hl.pos s List.mem_cons_self⟩))) (inLine_nil _)
  | s :: l, t :: m, hl, hm, h => by
    have ps := hl.pos s List.mem_cons_self
    have pt := hm.pos t List.mem_cons_self
    have e1 : s.1 = t.1 := by
      have a := hm.from ((h s.1).mp (inLine_cons.mpr (.inl ⟨Int.le_refl _, ps⟩)))
      have b := hl.from ((h t.1).mpr (inLine_cons.mpr (.inl ⟨Int.le_refl _, pt⟩)))
      omega
    have key : ∀ {s t : Int × Int} {l m : Line}, NLine (s :: l) → (∀ x, inLine (t :: m) x → inLine (s :: l) x) → s.1 = t.1 → s.1 < s.2 → ¬ s.2 < t.2 := by
      intro s t l m hl h e1 ps c
      have a := h s.2 (inLine_cons.mpr (.inl ⟨by omega, c⟩))
      rcases inLine_cons.mp a with q | ⟨u, hu, q, _⟩
      · omega
      · have := hl.after u hu
        omega
    have e2 : s.2 = t.2 := by
      have a := key hl (fun x q => (h x).mpr q) e1 ps
      have b := key hm (fun x q => (h x).mp q) e1.symm pt
      omega
    have e : s = t := Prod.ext e1 e2
    subst e
    rw [line_uniq hl.tail hm.tail fun x => by rw [hl.rest, hm.rest, h x]]

theorem inReg_nil (x y : Int) : ¬ inReg [] x y := fun ⟨_, h, _⟩ => absurd h (by simp)
theorem inReg_cons {b : Band} {r : Reg} {x y : Int} : inReg (b :: r) x y ↔ (b.1 ≤ y ∧ y < b.2.1 ∧ inLine b.2.2 x) ∨ inReg r x y := by
  unfold inReg
  simp
theorem CReg.nil : CReg [] := ⟨fun _ h => absurd h (by simp), .nil⟩
theorem CReg.tail {b : Band} {r : Reg} (h : CReg (b :: r)) : CReg r := ⟨fun c hc => h.ok c (List.mem_cons_of_mem _ hc), (List.pairwise_cons.mp h.ord).2⟩
theorem CReg.head {b : Band} {r : Reg} (h : CReg (b :: r)) : OkBand b := h.ok b List.mem_cons_self
theorem CReg.after {b : Band} {r : Reg} (h : CReg (b :: r)) : ∀ c ∈ r, Below b c := (List.pairwise_cons.mp h.ord).1
theorem OkBand.place {b : Band} (h : OkBand b) : ∃ x, inLine b.2.2 x := by
  obtain ⟨_, hs, hl⟩ := h
  cases e : b.2.2 with
  | nil => exact absurd e hs
  | cons s l =>
    rw [e] at hl
    exact ⟨s.1, inLine_cons.mpr (.inl ⟨Int.le_refl _, hl.pos s List.mem_cons_self⟩)⟩
theorem CReg.from {b : Band} {r : Reg} (h : CReg (b :: r)) {x y : Int} (hx : inReg (b :: r) x y) : b.1 ≤ y := by
  rcases inReg_cons.mp hx with h1 | ⟨c, hc, h1, _⟩
  · exact h1.1
  · have := (h.after c hc).1
    have := h.head.pos
    omega
theorem CReg.rest {b : Band} {r : Reg} (h : CReg (b :: r)) {x y : Int} : inReg r x y ↔ inReg (b :: r) x y ∧ b.2.1 ≤ y := by
  rw [inReg_cons]
  constructor
  · intro hx
    refine ⟨.inr hx, ?_⟩
    obtain ⟨c, hc, h1, _⟩ := hx
    have := (h.after c hc).1
    omega
  · rintro ⟨h1 | h1, h2⟩
    · omega
    · exact h1
theorem CReg.first {b : Band} {r : Reg} (h : CReg (b :: r)) {x y : Int} (h1 : b.1 ≤ y) (h2 : y < b.2.1) : inReg (b :: r) x y ↔ inLine b.2.2 x := by
  rw [inReg_cons]
  constructor
  · rintro (q | ⟨c, hc, q, _⟩)
    · exact q.2.2
    · have := (h.after c hc).1
      omega
  · exact fun q => .inl ⟨h1, h2, q⟩
/-- a region is told by its places -/
theorem reg_uniq : ∀ {r q : Reg}, CReg r → CReg q → (∀ x y, inReg r x y ↔ inReg q x y) → r = q
  | [], [], _, _, _ => rfl
  | [], b :: q, _, hq, h => by
    obtain ⟨x, hx⟩ := hq.head.place
    exact absurd ((h x b.1).mpr (inReg_cons.mpr (.inl ⟨Int.le_refl _, hq.head.pos, hx⟩))) (inReg_nil _ _)
  | a :: r, [], hr, _, h => by
    obtain ⟨x, hx⟩ := hr.head.place
    exact absurd ((h x a.1).mp (inReg_cons.mpr (.inl ⟨Int.le_refl _, hr.head.pos, hx⟩))) (inReg_nil _ _)
  | a :: r, b :: q, hr, hq, h => by
    have pa := hr.head.pos
    have pb := hq.head.pos
    have e1 : a.1 = b.1 := by
      obtain ⟨x, hx⟩ := hr.head.place
      obtain ⟨z, hz⟩ := hq.head.place
      have s := hq.from ((h x a.1).mp (inReg_cons.mpr (.inl ⟨Int.le_refl _, pa, hx⟩)))
      have t := hr.from ((h z b.1).mpr (inReg_cons.mpr (.inl ⟨Int.le_refl _, pb, hz⟩)))
      omega
    have eL : a.2.2 = b.2.2 := line_uniq hr.head.line hq.head.line fun x => by
      rw [← hr.first (x := x) (y := a.1) (Int.le_refl _) pa, ← hq.first (x := x) (y := a.1) (by omega) (by omega)]
      exact h x a.1
    have key : ∀ {a b : Band} {r q : Reg}, CReg (a :: r) → CReg (b :: q) → (∀ x y, inReg (a :: r) x y ↔ inReg (b :: q) x y) → a.1 = b.1 → a.2.2 = b.2.2 → a.1 < a.2.1 → ¬ a.2.1 < b.2.1 := by
      intro a b r q hr hq h e1 eL pa c
      -- at y = a.2.1 the second has the line, the first another one
      have hb : ∀ x, inReg (a :: r) x a.2.1 ↔ inLine a.2.2 x := fun x => by
        rw [h x a.2.1, hq.first (by omega) c, eL]
      cases r with
      | nil =>
        obtain ⟨x, hx⟩ := hr.head.place
        have z := (hb x).mpr hx
        rcases inReg_cons.mp z with z | z
        · omega
        · exact inReg_nil _ _ z
      | cons d r =>
        have hd := hr.after d List.mem_cons_self
        by_cases e : a.2.1 = d.1
        · have e3 : a.2.2 = d.2.2 := line_uniq hr.head.line hr.tail.head.line fun x => by
            rw [← hb x, ← hr.tail.first (x := x) (y := a.2.1) (by omega) (by have := hr.tail.head.pos; omega), hr.rest]
            exact ⟨fun z => ⟨z, Int.le_refl _⟩, fun z => z.1⟩
          exact hd.2 e e3
        · obtain ⟨x, hx⟩ := hr.head.place
          have z := hr.rest.mpr ⟨(hb x).mpr hx, Int.le_refl _⟩
          have := hr.tail.from z
          have := hd.1
          omega
    have e2 : a.2.1 = b.2.1 := by
      have s := key hr hq h e1 eL pa
      have t := key hq hr (fun x y => (h x y).symm) e1.symm eL.symm pb
      omega
    have e : a = b := Prod.ext e1 (Prod.ext e2 eL)
    subst e
    rw [reg_uniq hr.tail hq.tail fun x y => by rw [hr.rest, hq.rest, h x y]]

/-! ### joined -/
/-- one stretch more, the last one ahead -/
def joinStep (acc : Line) (s : Int × Int) : Line := match acc with
  | (a, b) :: t => if s.1 ≤ b then (a, if s.2 > b then s.2 else b) :: t else s :: (a, b) :: t
  | [] => [s]
/-- of stretches that are sorted -/
def joinedS (l : Line) : Line := (l.foldl joinStep []).reverse
structure JInv (done acc : Line) : Prop where
  gap : acc.Pairwise fun s t => t.2 < s.1
  pos : ∀ s ∈ acc, s.1 < s.2
  cov : ∀ x, inLine acc x ↔ inLine done x
  start : ∀ s ∈ acc, ∃ t ∈ done, t.1 = s.1
  ends : ∀ s ∈ acc, ∃ t ∈ done, t.2 = s.2
  len : acc.length ≤ done.length
theorem inLine_append {l m : Line} {x : Int} : inLine (l ++ m) x ↔ inLine l x ∨ inLine m x := by
  unfold inLine
  simp only [List.mem_append]
  constructor
  · rintro ⟨s, h | h, q⟩
    · exact .inl ⟨s, h, q⟩
    · exact .inr ⟨s, h, q⟩
  · rintro (⟨s, h, q⟩ | ⟨s, h, q⟩)
    · exact ⟨s, .inl h, q⟩
    · exact ⟨s, .inr h, q⟩
theorem inLine_one {s : Int × Int} {x : Int} : inLine [s] x ↔ s.1 ≤ x ∧ x < s.2 := by
  rw [inLine_cons]
  exact ⟨fun h => h.elim id fun z => absurd z (inLine_nil _), .inl⟩
theorem JInv.step {done acc : Line} {s : Int × Int} (I : JInv done acc) (hs : s.1 < s.2) (ho : ∀ t ∈ done, t.1 ≤ s.1) : JInv (done ++ [s]) (joinStep acc s) := by
  obtain ⟨g, p, c, st, en, ln⟩ := I
  have up : ∀ {P : Int × Int → Prop}, (∃ t ∈ done, P t) → ∃ t ∈ done ++ [s], P t := fun ⟨t, ht, q⟩ => ⟨t, List.mem_append_left _ ht, q⟩
  have me : s ∈ done ++ [s] := List.mem_append_right _ (List.mem_singleton.mpr rfl)
  cases acc with
  | nil =>
    have e : joinStep [] s = [s] := rfl
    rw [e]
    refine ⟨List.pairwise_singleton _ _, fun t ht => by rw [List.mem_singleton.mp ht]; exact hs, fun x => ?_, fun t ht => ?_, fun t ht => ?_, by simp⟩
    · rw [inLine_append, ← c x]
      exact ⟨.inr, fun h => h.elim (fun z => absurd z (inLine_nil _)) id⟩
    · exact ⟨s, me, by rw [List.mem_singleton.mp ht]⟩
    · exact ⟨s, me, by rw [List.mem_singleton.mp ht]⟩
  | cons a t =>
    obtain ⟨a1, b1⟩ := a
    have pa := p (a1, b1) List.mem_cons_self
    obtain ⟨ta, hta, eta⟩ := st (a1, b1) List.mem_cons_self
    obtain ⟨tb, htb, etb⟩ := en (a1, b1) List.mem_cons_self
    have h0 : a1 ≤ s.1 := by
      have := ho ta hta
      simp only at eta
      omega
    obtain ⟨g1, g2⟩ := List.pairwise_cons.mp g
    simp only [joinStep]
    simp only at pa etb g1
    by_cases h1 : s.1 ≤ b1
    · rw [if_pos h1]
      refine ⟨List.pairwise_cons.mpr ⟨g1, g2⟩, fun u hu => ?_, fun x => ?_, fun u hu => ?_, fun u hu => ?_, ?_⟩
      · rcases List.mem_cons.mp hu with e | hu
        · subst e
          show a1 < if s.2 > b1 then s.2 else b1
          split <;> omega
        · exact p u (List.mem_cons_of_mem _ hu)
      · rw [inLine_append, inLine_one, ← c x, inLine_cons, inLine_cons]
        show (a1 ≤ x ∧ x < if s.2 > b1 then s.2 else b1) ∨ _ ↔ ((a1 ≤ x ∧ x < b1) ∨ _) ∨ _
        have key : (a1 ≤ x ∧ x < if s.2 > b1 then s.2 else b1) ↔ (a1 ≤ x ∧ x < b1) ∨ (s.1 ≤ x ∧ x < s.2) := by
          split <;> omega
        rw [key]
        exact ⟨fun h => h.elim (fun h => h.elim (fun z => .inl (.inl z)) .inr) fun z => .inl (.inr z), fun h => h.elim (fun h => h.elim (fun z => .inl (.inl z)) .inr) fun z => .inl (.inr z)⟩
      · rcases List.mem_cons.mp hu with e | hu
        · subst e
          exact up ⟨ta, hta, eta⟩
        · exact up (st u (List.mem_cons_of_mem _ hu))
      · rcases List.mem_cons.mp hu with e | hu
        · subst e
          by_cases hm : s.2 > b1
          · exact ⟨s, me, by simp [hm]⟩
          · exact up ⟨tb, htb, by simp [hm, etb]⟩
        · exact up (en u (List.mem_cons_of_mem _ hu))
      · rw [List.length_cons] at ln ⊢
        rw [List.length_append, List.length_singleton]
        omega
    · rw [if_neg h1]
      refine ⟨List.pairwise_cons.mpr ⟨fun u hu => ?_, g⟩, fun u hu => ?_, fun x => ?_, fun u hu => ?_, fun u hu => ?_, ?_⟩
      · rcases List.mem_cons.mp hu with e | hu
        · subst e
          show b1 < s.1
          omega
        · have := g1 u hu
          have := p u (List.mem_cons_of_mem _ hu)
          omega
      · rcases List.mem_cons.mp hu with e | hu
        · rw [e]; exact hs
        · exact p u hu
      · rw [inLine_append, inLine_one, ← c x, inLine_cons]
        exact Or.comm
      · rcases List.mem_cons.mp hu with e | hu
        · exact ⟨s, me, by rw [e]⟩
        · exact up (st u hu)
      · rcases List.mem_cons.mp hu with e | hu
        · exact ⟨s, me, by rw [e]⟩
        · exact up (en u hu)
      · rw [List.length_cons, List.length_append, List.length_singleton]
        omega
theorem join_all : ∀ (l done acc : Line), JInv done acc → (∀ s ∈ l, s.1 < s.2) → (∀ s ∈ l, ∀ t ∈ done, t.1 ≤ s.1) → l.Pairwise (fun s t => s.1 ≤ t.1) → JInv (done ++ l) (l.foldl joinStep acc)
  | [], done, acc, I, _, _, _ => by rw [List.append_nil]; exact I
  | s :: l, done, acc, I, hp, hd, ho => by
    obtain ⟨o1, o2⟩ := List.pairwise_cons.mp ho
    have J := I.step (hp s List.mem_cons_self) fun t ht => hd s List.mem_cons_self t ht
    have q := join_all l (done ++ [s]) _ J (fun t ht => hp t (List.mem_cons_of_mem _ ht)) (fun t ht u hu => by
      rcases List.mem_append.mp hu with hu | hu
      · exact hd t (List.mem_cons_of_mem _ ht) u hu
      · rw [List.mem_singleton.mp hu]
        exact o1 t ht) o2
    rw [List.append_assoc] at q
    exact q
theorem joinedS_inv {l : Line} (hp : ∀ s ∈ l, s.1 < s.2) (ho : l.Pairwise fun s t => s.1 ≤ t.1) : JInv l (l.foldl joinStep []) :=
  join_all l [] [] ⟨.nil, fun _ h => absurd h (by simp), fun _ => Iff.rfl, fun _ h => absurd h (by simp), fun _ h => absurd h (by simp), Nat.le_refl _⟩ hp (fun _ _ _ h => absurd h (by simp)) ho
theorem inLine_reverse {l : Line} {x : Int} : inLine l.reverse x ↔ inLine l x := by
  unfold inLine
  simp
theorem joinedS_ok {l : Line} (hp : ∀ s ∈ l, s.1 < s.2) (ho : l.Pairwise fun s t => s.1 ≤ t.1) : NLine (joinedS l) ∧ ∀ x, inLine (joinedS l) x ↔ inLine l x := by
  have I := joinedS_inv hp ho
  exact ⟨⟨List.pairwise_reverse.mpr I.gap, fun s hs => I.pos s (List.mem_reverse.mp hs)⟩, fun x => by rw [← I.cov x]; exact inLine_reverse⟩
theorem joinedS_len {l : Line} (hp : ∀ s ∈ l, s.1 < s.2) (ho : l.Pairwise fun s t => s.1 ≤ t.1) : (joinedS l).length ≤ l.length := by
  have I := joinedS_inv hp ho
  unfold joinedS
  rw [List.length_reverse]
  exact I.len
theorem joinedS_ends {l : Line} (hp : ∀ s ∈ l, s.1 < s.2) (ho : l.Pairwise fun s t => s.1 ≤ t.1) : ∀ s ∈ joinedS l, (∃ t ∈ l, t.1 = s.1) ∧ ∃ t ∈ l, t.2 = s.2 := fun s hs =>
  have I := joinedS_inv hp ho
  ⟨I.start s (List.mem_reverse.mp hs), I.ends s (List.mem_reverse.mp hs)⟩
theorem joinStep_len (acc : Line) (s : Int × Int) : (joinStep acc s).length ≤ acc.length + 1 := by
  unfold joinStep
  split
  · split <;> simp
  · simp

/-! ### banded -/
abbrev Trip := Int × Int × Line
def bandStep (acc : Reg) (t : Trip) : Reg := if t.2.2 = [] then acc else match acc with
  | (a, b, l) :: r => if b = t.1 ∧ l = t.2.2 then (a, t.2.1, t.2.2) :: r else t :: (a, b, l) :: r
  | [] => [t]
def bandedT (ts : List Trip) : Reg := (ts.foldl bandStep []).reverse
structure BInv (done : List Trip) (acc : Reg) : Prop where
  ok : ∀ b ∈ acc, OkBand b
  ord : acc.Pairwise fun a b => Below b a
  cov : ∀ x y, inReg acc x y ↔ inReg done x y
  ends : ∀ b ∈ acc, ∃ t ∈ done, t.2.1 = b.2.1
  len : acc.length ≤ done.length
  lines : ∀ b ∈ acc, (∃ t ∈ done, t.1 = b.1) ∧ ∃ t ∈ done, t.2.2 = b.2.2
theorem inReg_append {l m : Reg} {x y : Int} : inReg (l ++ m) x y ↔ inReg l x y ∨ inReg m x y := by
  unfold inReg
  simp only [List.mem_append]
  constructor
  · rintro ⟨s, h | h, q⟩
    · exact .inl ⟨s, h, q⟩
    · exact .inr ⟨s, h, q⟩
  · rintro (⟨s, h, q⟩ | ⟨s, h, q⟩)
    · exact ⟨s, .inl h, q⟩
    · exact ⟨s, .inr h, q⟩
theorem inReg_one {b : Band} {x y : Int} : inReg [b] x y ↔ b.1 ≤ y ∧ y < b.2.1 ∧ inLine b.2.2 x := by
  rw [inReg_cons]
  exact ⟨fun h => h.elim id fun z => absurd z (inReg_nil _ _), .inl⟩
theorem BInv.step {done : List Trip} {acc : Reg} {t : Trip} (I : BInv done acc) (hp : t.1 < t.2.1) (hl : NLine t.2.2) (ho : ∀ u ∈ done, u.2.1 ≤ t.1) : BInv (done ++ [t]) (bandStep acc t) := by
  obtain ⟨ok, ord, cov, en, ln, li⟩ := I
  have up : ∀ {P : Trip → Prop}, (∃ u ∈ done, P u) → ∃ u ∈ done ++ [t], P u := fun ⟨u, hu, q⟩ => ⟨u, List.mem_append_left _ hu, q⟩
  have me : t ∈ done ++ [t] := List.mem_append_right _ (List.mem_singleton.mpr rfl)
  have le : ∀ b ∈ acc, b.2.1 ≤ t.1 := fun b hb => by
    obtain ⟨u, hu, e⟩ := en b hb
    have := ho u hu
    omega
  unfold bandStep
  by_cases h0 : t.2.2 = []
  · rw [if_pos h0]
    refine ⟨ok, ord, fun x y => ?_, fun b hb => up (en b hb), ?_, fun b hb => ⟨up (li b hb).1, up (li b hb).2⟩⟩
    · rw [inReg_append, inReg_one, cov x y, h0]
      exact ⟨.inl, fun h => h.elim id fun z => absurd z.2.2 (inLine_nil _)⟩
    · rw [List.length_append, List.length_singleton]
      omega
  rw [if_neg h0]
  have okt : OkBand t := ⟨hp, h0, hl⟩
  cases acc with
  | nil =>
    refine ⟨fun b hb => by rw [List.mem_singleton.mp hb]; exact okt, List.pairwise_singleton _ _, fun x y => ?_, fun b hb => ⟨t, me, by rw [List.mem_singleton.mp hb]⟩, by simp, fun b hb => ⟨⟨t, me, by rw [List.mem_singleton.mp hb]⟩, t, me, by rw [List.mem_singleton.mp hb]⟩⟩
    rw [inReg_append, ← cov x y]
    exact ⟨.inr, fun h => h.elim (fun z => absurd z (inReg_nil _ _)) id⟩
  | cons a r =>
    obtain ⟨a1, b1, l1⟩ := a
    obtain ⟨o1, o2⟩ := List.pairwise_cons.mp ord
    have oka := ok (a1, b1, l1) List.mem_cons_self
    have lea := le (a1, b1, l1) List.mem_cons_self
    have pa := oka.pos
    simp only at lea pa o1
    by_cases h1 : b1 = t.1 ∧ l1 = t.2.2
    · simp only [if_pos h1]
      refine ⟨fun b hb => ?_, List.pairwise_cons.mpr ⟨fun b hb => ?_, o2⟩, fun x y => ?_, fun b hb => ?_, ?_, fun b hb => ?_⟩
      · rcases List.mem_cons.mp hb with e | hb
        · subst e
          exact ⟨by show a1 < t.2.1; omega, h0, hl⟩
        · exact ok b (List.mem_cons_of_mem _ hb)
      · have q := o1 b hb
        exact ⟨q.1, fun e => by have q2 := q.2 e; rw [h1.2] at q2; exact q2⟩
      · rw [inReg_append, inReg_one, ← cov x y, inReg_cons, inReg_cons]
        show (a1 ≤ y ∧ y < t.2.1 ∧ inLine t.2.2 x) ∨ _ ↔ ((a1 ≤ y ∧ y < b1 ∧ inLine l1 x) ∨ _) ∨ _
        rw [h1.2]
        by_cases hx : inLine t.2.2 x
        · simp only [hx, and_true]
          have : (a1 ≤ y ∧ y < t.2.1) ↔ (a1 ≤ y ∧ y < b1) ∨ (t.1 ≤ y ∧ y < t.2.1) := by omega
          rw [this]
          exact ⟨fun h => h.elim (fun h => h.elim (fun z => .inl (.inl z)) .inr) fun z => .inl (.inr z), fun h => h.elim (fun h => h.elim (fun z => .inl (.inl z)) .inr) fun z => .inl (.inr z)⟩
        · simp [hx]
      · rcases List.mem_cons.mp hb with e | hb
        · subst e
          exact ⟨t, me, rfl⟩
        · exact up (en b (List.mem_cons_of_mem _ hb))
      · rw [List.length_cons] at ln ⊢
        rw [List.length_append, List.length_singleton]
        omega
      · rcases List.mem_cons.mp hb with e | hb
        · subst e
          exact ⟨up (li (a1, b1, l1) List.mem_cons_self).1, t, me, rfl⟩
        · exact ⟨up (li b (List.mem_cons_of_mem _ hb)).1, up (li b (List.mem_cons_of_mem _ hb)).2⟩
    · simp only [if_neg h1]
      refine ⟨fun b hb => ?_, List.pairwise_cons.mpr ⟨fun b hb => ?_, ord⟩, fun x y => ?_, fun b hb => ?_, ?_, fun b hb => ?_⟩
      · rcases List.mem_cons.mp hb with e | hb
        · rw [e]; exact okt
        · exact ok b hb
      · refine ⟨le b hb, fun e => ?_⟩
        rcases List.mem_cons.mp hb with z | hb
        · subst z
          exact fun q => h1 ⟨e, q⟩
        · have := (o1 b hb).1
          omega
      · rw [inReg_append, inReg_one, ← cov x y, inReg_cons]
        exact Or.comm
      · rcases List.mem_cons.mp hb with e | hb
        · exact ⟨t, me, by rw [e]⟩
        · exact up (en b hb)
      · rw [List.length_cons, List.length_append, List.length_singleton]
        omega
      · rcases List.mem_cons.mp hb with e | hb
        · exact ⟨⟨t, me, by rw [e]⟩, t, me, by rw [e]⟩
        · exact ⟨up (li b hb).1, up (li b hb).2⟩
structure Trips (ts : List Trip) : Prop where
  pos : ∀ t ∈ ts, t.1 < t.2.1
  line : ∀ t ∈ ts, NLine t.2.2
  ord : ts.Pairwise fun a b => a.2.1 ≤ b.1
theorem band_all : ∀ (ts done : List Trip) (acc : Reg), BInv done acc → Trips ts → (∀ t ∈ ts, ∀ u ∈ done, u.2.1 ≤ t.1) → BInv (done ++ ts) (ts.foldl bandStep acc)
  | [], done, acc, I, _, _ => by rw [List.append_nil]; exact I
  | t :: ts, done, acc, I, T, hd => by
    obtain ⟨o1, o2⟩ := List.pairwise_cons.mp T.ord
    have J := I.step (T.pos t List.mem_cons_self) (T.line t List.mem_cons_self) (hd t List.mem_cons_self)
    have q := band_all ts (done ++ [t]) _ J ⟨fun u hu => T.pos u (List.mem_cons_of_mem _ hu), fun u hu => T.line u (List.mem_cons_of_mem _ hu), o2⟩ (fun u hu v hv => by
      rcases List.mem_append.mp hv with hv | hv
      · exact hd u (List.mem_cons_of_mem _ hu) v hv
      · rw [List.mem_singleton.mp hv]
        exact o1 u hu)
    rw [List.append_assoc] at q
    exact q
theorem bandedT_inv {ts : List Trip} (T : Trips ts) : BInv ts (ts.foldl bandStep []) :=
  band_all ts [] [] ⟨fun _ h => absurd h (by simp), .nil, fun _ _ => Iff.rfl, fun _ h => absurd h (by simp), Nat.le_refl _, fun _ h => absurd h (by simp)⟩ T (fun _ _ _ h => absurd h (by simp))
theorem inReg_reverse {r : Reg} {x y : Int} : inReg r.reverse x y ↔ inReg r x y := by
  unfold inReg
  simp
theorem bandedT_ok {ts : List Trip} (T : Trips ts) : CReg (bandedT ts) ∧ ∀ x y, inReg (bandedT ts) x y ↔ inReg ts x y := by
  have I := bandedT_inv T
  exact ⟨⟨fun b hb => I.ok b (List.mem_reverse.mp hb), List.pairwise_reverse.mpr I.ord⟩, fun x y => by rw [← I.cov x y]; exact inReg_reverse⟩
theorem bandedT_len {ts : List Trip} (T : Trips ts) : (bandedT ts).length ≤ ts.length := by
  have I := bandedT_inv T
  unfold bandedT
  rw [List.length_reverse]
  exact I.len
theorem bandedT_from {ts : List Trip} (T : Trips ts) : ∀ b ∈ bandedT ts, (∃ t ∈ ts, t.1 = b.1) ∧ (∃ t ∈ ts, t.2.1 = b.2.1) ∧ ∃ t ∈ ts, t.2.2 = b.2.2 := fun b hb =>
  have I := bandedT_inv T
  have q := List.mem_reverse.mp hb
  ⟨(I.lines b q).1, I.ends b q, (I.lines b q).2⟩
theorem bandStep_len (acc : Reg) (t : Trip) : (bandStep acc t).length ≤ acc.length + 1 := by
  unfold bandStep
  split
  · omega
  · split
    · split <;> simp
    · simp
end Mw
end
section
set_option autoImplicit false
/-! The region of rectangles, two regions mixed: what the sweeps make. -/
namespace Mw
/-! ### cuts -/
/-- rising -/
abbrev Up (l : List Int) : Prop := l.Pairwise (· < ·)
/-- the cut that a y lies behind: the next but the last -/
theorem cut_at : ∀ {cuts : List Int}, Up cuts → ∀ {a b y : Int}, a ∈ cuts → b ∈ cuts → a ≤ y → y < b → ∃ p q : Int, ∃ pre post : List Int, cuts = pre ++ p :: q :: post ∧ p ≤ y ∧ y < q
  | [], _, _, _, _, h, _, _, _ => absurd h (by simp)
  | [c], _, a, b, y, ha, hb, h1, h2 => by
    rw [List.mem_singleton] at ha hb
    omega
  | c :: d :: l, hu, a, b, y, ha, hb, h1, h2 => by
    obtain ⟨u1, u2⟩ := List.pairwise_cons.mp hu
    by_cases h : y < d
    · refine ⟨c, d, [], l, rfl, ?_, h⟩
      rcases List.mem_cons.mp ha with e | ha
      · omega
      · rcases List.mem_cons.mp ha with e | ha
        · omega
        · have := (List.pairwise_cons.mp u2).1 a ha
          omega
    · have hb' : b ∈ d :: l := by
        rcases List.mem_cons.mp hb with e | hb
        · have := u1 d List.mem_cons_self
          omega
        · exact hb
      obtain ⟨p, q, pre, post, e, h3, h4⟩ := cut_at u2 (a := d) List.mem_cons_self hb' (by omega) h2
      exact ⟨p, q, c :: pre, post, by rw [e]; rfl, h3, h4⟩
/-- cuts and the lines between them -/
def trips : List Int → List Line → List Trip
  | a :: b :: cs, l :: ls => (a, b, l) :: trips (b :: cs) ls
  | _, _ => []
theorem trips_len : ∀ (cs : List Int) (ls : List Line), (trips cs ls).length ≤ cs.length
  | [], _ => Nat.le_refl _
  | [_], _ => Nat.zero_le _
  | _ :: _ :: _, [] => Nat.zero_le _
  | a :: b :: cs, l :: ls => by
    have := trips_len (b :: cs) ls
    simp only [trips, List.length_cons] at this ⊢
    omega
theorem trips_ok : ∀ {cs : List Int} {ls : List Line}, Up cs → (∀ l ∈ ls, NLine l) → Trips (trips cs ls) ∧ ∀ t ∈ trips cs ls, t.1 ∈ cs ∧ t.2.1 ∈ cs ∧ t.2.2 ∈ ls
  | [], _, _, _ => ⟨⟨fun _ h => absurd h (by simp [trips]), fun _ h => absurd h (by simp [trips]), by simp [trips]⟩, fun _ h => absurd h (by simp [trips])⟩
  | [_], _, _, _ => ⟨⟨fun _ h => absurd h (by simp [trips]), fun _ h => absurd h (by simp [trips]), by simp [trips]⟩, fun _ h => absurd h (by simp [trips])⟩
  | _ :: _ :: _, [], _, _ => ⟨⟨fun _ h => absurd h (by simp [trips]), fun _ h => absurd h (by simp [trips]), by simp [trips]⟩, fun _ h => absurd h (by simp [trips])⟩
  | a :: b :: cs, l :: ls, hu, hl => by
    obtain ⟨u1, u2⟩ := List.pairwise_cons.mp hu
    obtain ⟨⟨p, n, o⟩, m⟩ := trips_ok (cs := b :: cs) (ls := ls) u2 fun x hx => hl x (List.mem_cons_of_mem _ hx)
    have hab := u1 b List.mem_cons_self
    refine ⟨⟨fun t ht => ?_, fun t ht => ?_, List.pairwise_cons.mpr ⟨fun t ht => ?_, o⟩⟩, fun t ht => ?_⟩
    · rcases List.mem_cons.mp ht with e | ht
      · rw [e]; exact hab
      · exact p t ht
    · rcases List.mem_cons.mp ht with e | ht
      · rw [e]; exact hl l List.mem_cons_self
      · exact n t ht
    · have q := (m t ht).1
      rcases List.mem_cons.mp q with e | q
      · show b ≤ t.1
        omega
      · have := (List.pairwise_cons.mp u2).1 t.1 q
        show b ≤ t.1
        omega
    · rcases List.mem_cons.mp ht with e | ht
      · rw [e]; exact ⟨by simp, by simp, by simp⟩
      · obtain ⟨q1, q2, q3⟩ := m t ht
        exact ⟨List.mem_cons_of_mem _ q1, List.mem_cons_of_mem _ q2, List.mem_cons_of_mem _ q3⟩

/-! ### the region of rectangles: the sweep -/
/-- y0, y1, x0, x1 -/
abbrev Row4 := Int × Int × Int × Int
def rowOf (r : Rect) : Row4 := (r.2.1, r.2.2.2, r.1, r.2.2.1)
def alive1 (low : Int) (alive : List Row4) : List Row4 := alive.filter fun r => decide (low < r.2.1)
def newOnes (low : Int) (pend : List Row4) : List Row4 := pend.takeWhile fun r => r.1 == low
def leftOnes (low : Int) (pend : List Row4) : List Row4 := pend.dropWhile fun r => r.1 == low
/-- S: how stretches are sorted -/
def lineOf (S : Line → Line) (rows : List Row4) : Line := joinedS (S (rows.map fun r => (r.2.2.1, r.2.2.2)))
def sweep (S : Line → Line) : List Int → List Row4 → List Row4 → List Line
  | low :: high :: cs, pend, alive => lineOf S (alive1 low alive ++ newOnes low pend) :: sweep S (high :: cs) (leftOnes low pend) (alive1 low alive ++ newOnes low pend)
  | _, _, _ => []
theorem sweep_len (S : Line → Line) : ∀ (cs : List Int) (pend alive : List Row4), (sweep S cs pend alive).length = cs.length - 1
  | [], _, _ => rfl
  | [_], _, _ => rfl
  | a :: b :: cs, pend, alive => by
    have := sweep_len S (b :: cs) (leftOnes a pend) (alive1 a alive ++ newOnes a pend)
    simp only [sweep, List.length_cons] at this ⊢
    omega
/-- what is asked of the sort of stretches -/
structure Sorts (S : Line → Line) : Prop where
  perm : ∀ l, (S l).Perm l
  ord : ∀ l, (S l).Pairwise fun s t => s.1 ≤ t.1
theorem lineOf_ok {S : Line → Line} (hS : Sorts S) {rows : List Row4} (hp : ∀ r ∈ rows, r.2.2.1 < r.2.2.2) : NLine (lineOf S rows) ∧ (∀ x, inLine (lineOf S rows) x ↔ ∃ r ∈ rows, r.2.2.1 ≤ x ∧ x < r.2.2.2) ∧
    (lineOf S rows).length ≤ rows.length ∧ ∀ s ∈ lineOf S rows, (∃ r ∈ rows, r.2.2.1 = s.1) ∧ ∃ r ∈ rows, r.2.2.2 = s.2 := by
  have pm := hS.perm (rows.map fun r => (r.2.2.1, r.2.2.2))
  have hp' : ∀ s ∈ S (rows.map fun r => (r.2.2.1, r.2.2.2)), s.1 < s.2 := fun s hs => by
    obtain ⟨r, hr, e⟩ := List.mem_map.mp (pm.mem_iff.mp hs)
    rw [← e]
    exact hp r hr
  obtain ⟨a, b⟩ := joinedS_ok hp' (hS.ord _)
  refine ⟨a, fun x => ?_, ?_, fun s hs => ?_⟩
  · unfold lineOf
    rw [b x]
    constructor
    · rintro ⟨s, hs, q⟩
      obtain ⟨r, hr, e⟩ := List.mem_map.mp (pm.mem_iff.mp hs)
      rw [← e] at q
      exact ⟨r, hr, q⟩
    · rintro ⟨r, hr, q⟩
      exact ⟨_, pm.mem_iff.mpr (List.mem_map.mpr ⟨r, hr, rfl⟩), q⟩
  · have := joinedS_len hp' (hS.ord _)
    rw [pm.length_eq, List.length_map] at this
    exact this
  · obtain ⟨⟨t, ht, e⟩, u, hu, e'⟩ := joinedS_ends hp' (hS.ord _) s hs
    obtain ⟨r, hr, er⟩ := List.mem_map.mp (pm.mem_iff.mp ht)
    obtain ⟨r', hr', er'⟩ := List.mem_map.mp (pm.mem_iff.mp hu)
    refine ⟨⟨r, hr, ?_⟩, r', hr', ?_⟩
    · rw [← e, ← er]
    · rw [← e', ← er']
theorem takeWhile_mem {α : Type} {p : α → Bool} : ∀ {l : List α} {x : α}, x ∈ l.takeWhile p → p x = true ∧ x ∈ l
  | [], _, h => absurd h (by simp)
  | y :: l, x, h => by
    rw [List.takeWhile_cons] at h
    by_cases e : p y = true
    · rw [if_pos e] at h
      rcases List.mem_cons.mp h with z | z
      · rw [z]; exact ⟨e, List.mem_cons_self⟩
      · have q := takeWhile_mem z
        exact ⟨q.1, List.mem_cons_of_mem _ q.2⟩
    · rw [if_neg e] at h
      exact absurd h (by simp)
/-- behind the new ones all begin later -/
theorem left_later {low : Int} : ∀ {pend : List Row4}, pend.Pairwise (fun a b => a.1 ≤ b.1) → (∀ r ∈ pend, low ≤ r.1) → ∀ r ∈ leftOnes low pend, low < r.1
  | [], _, _, r, h => absurd h (by simp [leftOnes])
  | y :: l, ho, hl, r, h => by
    obtain ⟨o1, o2⟩ := List.pairwise_cons.mp ho
    unfold leftOnes at h
    rw [List.dropWhile_cons] at h
    by_cases e : (y.1 == low) = true
    · rw [if_pos e] at h
      exact left_later o2 (fun z hz => hl z (List.mem_cons_of_mem _ hz)) r h
    · rw [if_neg e] at h
      have hy := hl y List.mem_cons_self
      have ne : y.1 ≠ low := fun z => e (by rw [z]; exact beq_self_eq_true _)
      rcases List.mem_cons.mp h with z | z
      · rw [z]; omega
      · have := o1 r z
        omega
theorem pend_split (low : Int) (pend : List Row4) : newOnes low pend ++ leftOnes low pend = pend := List.takeWhile_append_dropWhile
structure SInv (all pend alive : List Row4) (low : Int) : Prop where
  later : ∀ r ∈ pend, low ≤ r.1
  ord : pend.Pairwise fun a b => a.1 ≤ b.1
  sub : ∀ r ∈ alive, r ∈ all ∧ r.1 < low
  subp : ∀ r ∈ pend, r ∈ all
  have_ : ∀ r ∈ all, r.1 < low → low < r.2.1 → r ∈ alive
  rest : ∀ r ∈ all, low ≤ r.1 → r ∈ pend
theorem sweep_ok {S : Line → Line} (hS : Sorts S) {all : List Row4} (hx : ∀ r ∈ all, r.2.2.1 < r.2.2.2) (hy : ∀ r ∈ all, r.1 < r.2.1) : ∀ (cs : List Int) (pend alive : List Row4) (low : Int), Up (low :: cs) →
    (∀ r ∈ all, low ≤ r.1 → r.1 ∈ low :: cs) → SInv all pend alive low → alive.length + pend.length ≤ all.length →
    ∀ t ∈ trips (low :: cs) (sweep S (low :: cs) pend alive), NLine t.2.2 ∧ (∀ x, inLine t.2.2 x ↔ ∃ r ∈ all, r.1 ≤ t.1 ∧ t.1 < r.2.1 ∧ r.2.2.1 ≤ x ∧ x < r.2.2.2) ∧
      t.2.2.length ≤ all.length ∧ ∀ s ∈ t.2.2, (∃ r ∈ all, r.2.2.1 = s.1) ∧ ∃ r ∈ all, r.2.2.2 = s.2
  | [], _, _, _, _, _, _, _, t, ht => absurd ht (by simp [trips])
  | high :: cs, pend, alive, low, hu, hc, I, hlen, t, ht => by
    obtain ⟨u1, u2⟩ := List.pairwise_cons.mp hu
    have hlh := u1 high List.mem_cons_self
    have m2 : ∀ r, r ∈ alive1 low alive ++ newOnes low pend ↔ r ∈ all ∧ r.1 ≤ low ∧ (low < r.2.1 ∨ r ∈ newOnes low pend) := fun r => by
      rw [List.mem_append]
      constructor
      · rintro (h | h)
        · obtain ⟨h1, h2⟩ := List.mem_filter.mp h
          have h3 : low < r.2.1 := of_decide_eq_true h2
          have := I.sub r h1
          exact ⟨this.1, by omega, .inl h3⟩
        · obtain ⟨h1, h2⟩ := takeWhile_mem h
          have e : r.1 = low := eq_of_beq h1
          exact ⟨I.subp r h2, by omega, .inr h⟩
      · rintro ⟨h1, h2, h3⟩
        rcases h3 with h3 | h3
        · by_cases c : r.1 < low
          · exact .inl (List.mem_filter.mpr ⟨I.have_ r h1 c h3, decide_eq_true h3⟩)
          · refine .inr ?_
            have hp := I.rest r h1 (by omega)
            rw [← pend_split low pend] at hp
            rcases List.mem_append.mp hp with q | q
            · exact q
            · have := left_later I.ord I.later r q
              omega
        · exact .inr h3
    have hlen2 : (alive1 low alive ++ newOnes low pend).length + (leftOnes low pend).length ≤ all.length := by
      have e := congrArg List.length (pend_split low pend)
      rw [List.length_append] at e ⊢
      have : (alive1 low alive).length ≤ alive.length := List.length_filter_le ..
      omega
    have J : SInv all (leftOnes low pend) (alive1 low alive ++ newOnes low pend) high := by
      refine ⟨fun r hr => ?_, ?_, fun r hr => ?_, fun r hr => ?_, fun r h1 h2 h3 => ?_, fun r h1 h2 => ?_⟩
      · have a := left_later I.ord I.later r hr
        have hrp : r ∈ pend := by
          rw [← pend_split low pend]
          exact List.mem_append_right _ hr
        rcases List.mem_cons.mp (hc r (I.subp r hrp) (by omega)) with e | q
        · omega
        · rcases List.mem_cons.mp q with e | q
          · omega
          · have := (List.pairwise_cons.mp u2).1 r.1 q
            omega
      · have o := I.ord
        rw [← pend_split low pend] at o
        exact (List.pairwise_append.mp o).2.1
      · have := (m2 r).mp hr
        exact ⟨this.1, by omega⟩
      · refine I.subp r ?_
        rw [← pend_split low pend]
        exact List.mem_append_right _ hr
      · refine (m2 r).mpr ⟨h1, ?_, .inl (by omega)⟩
        by_cases c : r.1 ≤ low
        · exact c
        · rcases List.mem_cons.mp (hc r h1 (by omega)) with e | q
          · omega
          · rcases List.mem_cons.mp q with e | q
            · omega
            · have := (List.pairwise_cons.mp u2).1 r.1 q
              omega
      · have hp := I.rest r h1 (by omega)
        rw [← pend_split low pend] at hp
        rcases List.mem_append.mp hp with q | q
        · have e : r.1 = low := eq_of_beq (takeWhile_mem q).1
          omega
        · exact q
    rw [sweep] at ht
    rcases List.mem_cons.mp ht with e | ht
    · subst e
      obtain ⟨a, b, c, d⟩ := lineOf_ok hS (rows := alive1 low alive ++ newOnes low pend) fun r hr => hx r ((m2 r).mp hr).1
      refine ⟨a, fun x => ?_, ?_, fun s hs => ?_⟩
      · show inLine (lineOf S _) x ↔ _
        rw [b x]
        constructor
        · rintro ⟨r, hr, q⟩
          obtain ⟨h1, h2, h3⟩ := (m2 r).mp hr
          refine ⟨r, h1, h2, ?_, q⟩
          rcases h3 with h3 | h3
          · exact h3
          · have e : r.1 = low := eq_of_beq (takeWhile_mem h3).1
            have := hy r h1
            show low < r.2.1
            omega
        · rintro ⟨r, h1, h2, h3, q⟩
          exact ⟨r, (m2 r).mpr ⟨h1, h2, .inl h3⟩, q⟩
      · have : (lineOf S (alive1 low alive ++ newOnes low pend)).length ≤ all.length := by omega
        exact this
      · obtain ⟨⟨r, hr, e⟩, r', hr', e'⟩ := d s hs
        exact ⟨⟨r, ((m2 r).mp hr).1, e⟩, r', ((m2 r').mp hr').1, e'⟩
    · exact sweep_ok hS hx hy cs _ _ high u2 (fun r h1 h2 => by
        rcases List.mem_cons.mp (hc r h1 (by omega)) with e | q
        · omega
        · exact q) J hlen2 t ht
/-- cuts, sorted rows: the region -/
def sweepReg (S : Line → Line) (cuts : List Int) (rows : List Row4) : Reg := bandedT (trips cuts (sweep S cuts rows []))
abbrev Valid (rs : List Rect) : Prop := ∀ r ∈ rs, r.1 < r.2.2.1 ∧ r.2.1 < r.2.2.2
structure IsReg (rs : List Rect) (R : Reg) : Prop where
  can : CReg R
  cov : ∀ x y, inReg R x y ↔ inRects rs x y
  len : R.length ≤ 2 * rs.length
  line : ∀ b ∈ R, b.2.2.length ≤ rs.length
  ends : ∀ b ∈ R, (∃ r ∈ rs, b.1 = r.2.1 ∨ b.1 = r.2.2.2) ∧ (∃ r ∈ rs, b.2.1 = r.2.1 ∨ b.2.1 = r.2.2.2) ∧ ∀ s ∈ b.2.2, (∃ r ∈ rs, r.1 = s.1) ∧ ∃ r ∈ rs, r.2.2.1 = s.2
theorem up_len : ∀ {l m : List Int}, Up l → (∀ x ∈ l, x ∈ m) → l.length ≤ m.length
  | [], _, _, _ => Nat.zero_le _
  | x :: l, m, hu, hs => by
    obtain ⟨u1, u2⟩ := List.pairwise_cons.mp hu
    have hx := hs x List.mem_cons_self
    have ih := up_len (l := l) (m := m.erase x) u2 fun y hy => by
      have := u1 y hy
      exact (List.mem_erase_of_ne (by omega)).mpr (hs y (List.mem_cons_of_mem _ hy))
    rw [List.length_erase_of_mem hx] at ih
    have := List.length_pos_of_mem hx
    rw [List.length_cons]
    omega
theorem trips_mem : ∀ {cs : List Int} {ls : List Line} {pre post : List Int} {p q : Int}, ls.length = cs.length - 1 → cs = pre ++ p :: q :: post → ∃ l, (p, q, l) ∈ trips cs ls
  | [], _, pre, _, _, _, _, e => by cases pre <;> simp at e
  | [_], _, pre, _, _, _, _, e => by
    have := congrArg List.length e
    simp at this
    omega
  | a :: b :: cs, [], _, _, _, _, h, _ => by simp at h
  | a :: b :: cs, l :: ls, pre, post, p, q, h, e => by
    cases pre with
    | nil =>
      simp at e
      obtain ⟨rfl, rfl, rfl⟩ := e
      exact ⟨l, by simp [trips]⟩
    | cons c pre =>
      simp only [List.cons_append, List.cons.injEq] at e
      obtain ⟨l', hl'⟩ := trips_mem (cs := b :: cs) (ls := ls) (by simp only [List.length_cons] at h ⊢; omega) e.2
      exact ⟨l', List.mem_cons_of_mem _ hl'⟩
theorem region_ok {S : Line → Line} (hS : Sorts S) {rs : List Rect} {cuts : List Int} {rows : List Row4} (hv : Valid rs) (hu : Up cuts) (hc : ∀ c, c ∈ cuts ↔ ∃ r ∈ rs, c = r.2.1 ∨ c = r.2.2.2)
    (hp : rows.Perm (rs.map rowOf)) (ho : rows.Pairwise fun a b => a.1 ≤ b.1) : IsReg rs (sweepReg S cuts rows) := by
  have mrow : ∀ {P : Row4 → Prop}, (∃ r ∈ rows, P r) ↔ ∃ r ∈ rs, P (rowOf r) := fun {P} => by
    constructor
    · rintro ⟨r, hr, q⟩
      obtain ⟨u, hu, e⟩ := List.mem_map.mp (hp.mem_iff.mp hr)
      exact ⟨u, hu, by rw [e]; exact q⟩
    · rintro ⟨r, hr, q⟩
      exact ⟨_, hp.mem_iff.mpr (List.mem_map.mpr ⟨r, hr, rfl⟩), q⟩
  have hx : ∀ r ∈ rows, r.2.2.1 < r.2.2.2 := fun r hr => by
    obtain ⟨u, hu, e⟩ := List.mem_map.mp (hp.mem_iff.mp hr)
    rw [← e]
    exact (hv u hu).1
  have hy : ∀ r ∈ rows, r.1 < r.2.1 := fun r hr => by
    obtain ⟨u, hu, e⟩ := List.mem_map.mp (hp.mem_iff.mp hr)
    rw [← e]
    exact (hv u hu).2
  have hcut : ∀ r ∈ rows, r.1 ∈ cuts ∧ r.2.1 ∈ cuts := fun r hr => by
    obtain ⟨u, hu, e⟩ := List.mem_map.mp (hp.mem_iff.mp hr)
    rw [← e]
    exact ⟨(hc _).mpr ⟨u, hu, .inl rfl⟩, (hc _).mpr ⟨u, hu, .inr rfl⟩⟩
  have hlr : rows.length = rs.length := by rw [hp.length_eq, List.length_map]
  have hcl : cuts.length ≤ 2 * rs.length := by
    have := up_len (l := cuts) (m := rs.map (fun r => r.2.1) ++ rs.map (fun r => r.2.2.2)) hu fun c h => by
      obtain ⟨r, hr, e | e⟩ := (hc c).mp h
      · exact List.mem_append_left _ (List.mem_map.mpr ⟨r, hr, e.symm⟩)
      · exact List.mem_append_right _ (List.mem_map.mpr ⟨r, hr, e.symm⟩)
    rw [List.length_append, List.length_map, List.length_map] at this
    omega
  have main : ∀ t ∈ trips cuts (sweep S cuts rows []), NLine t.2.2 ∧ (∀ x, inLine t.2.2 x ↔ ∃ r ∈ rows, r.1 ≤ t.1 ∧ t.1 < r.2.1 ∧ r.2.2.1 ≤ x ∧ x < r.2.2.2) ∧
      t.2.2.length ≤ rows.length ∧ ∀ s ∈ t.2.2, (∃ r ∈ rows, r.2.2.1 = s.1) ∧ ∃ r ∈ rows, r.2.2.2 = s.2 := by
    cases hcs : cuts with
    | nil => exact fun t ht => absurd ht (by simp [trips])
    | cons low cs =>
      rw [hcs] at hu hcut
      have lo : ∀ r ∈ rows, low ≤ r.1 := fun r hr => by
        rcases List.mem_cons.mp (hcut r hr).1 with e | q
        · omega
        · have := (List.pairwise_cons.mp hu).1 r.1 q
          omega
      exact sweep_ok hS hx hy cs rows [] low hu (fun r hr _ => (hcut r hr).1) ⟨lo, ho, fun _ h => absurd h (by simp), fun _ h => h, fun r hr h => by have := lo r hr; omega, fun _ h _ => h⟩ (by simp)
  -- each line stands in some trip
  have tl : Trips (trips cuts (sweep S cuts rows [])) ∧ ∀ t ∈ trips cuts (sweep S cuts rows []), t.1 ∈ cuts ∧ t.2.1 ∈ cuts := by
    have key : ∀ (cs : List Int) (ls : List Line), Up cs → (∀ t ∈ trips cs ls, NLine t.2.2) → Trips (trips cs ls) ∧ ∀ t ∈ trips cs ls, t.1 ∈ cs ∧ t.2.1 ∈ cs := by
      intro cs
      induction cs with
      | nil => exact fun _ _ _ => ⟨⟨fun _ h => absurd h (by simp [trips]), fun _ h => absurd h (by simp [trips]), by simp [trips]⟩, fun _ h => absurd h (by simp [trips])⟩
      | cons a cs ih =>
        intro ls hu hl
        cases cs with
        | nil => exact ⟨⟨fun _ h => absurd h (by simp [trips]), fun _ h => absurd h (by simp [trips]), by simp [trips]⟩, fun _ h => absurd h (by simp [trips])⟩
        | cons b cs =>
          cases ls with
          | nil => exact ⟨⟨fun _ h => absurd h (by simp [trips]), fun _ h => absurd h (by simp [trips]), by simp [trips]⟩, fun _ h => absurd h (by simp [trips])⟩
          | cons l ls =>
            obtain ⟨u1, u2⟩ := List.pairwise_cons.mp hu
            obtain ⟨⟨p, n, o⟩, m⟩ := ih ls u2 fun t ht => hl t (List.mem_cons_of_mem _ ht)
            have hab := u1 b List.mem_cons_self
            refine ⟨⟨fun t ht => ?_, hl, List.pairwise_cons.mpr ⟨fun t ht => ?_, o⟩⟩, fun t ht => ?_⟩
            · rcases List.mem_cons.mp ht with e | ht
              · rw [e]; exact hab
              · exact p t ht
            · have q := (m t ht).1
              rcases List.mem_cons.mp q with e | q
              · show b ≤ t.1
                omega
              · have := (List.pairwise_cons.mp u2).1 t.1 q
                show b ≤ t.1
                omega
            · rcases List.mem_cons.mp ht with e | ht
              · rw [e]; exact ⟨by simp, by simp⟩
              · obtain ⟨q1, q2⟩ := m t ht
                exact ⟨List.mem_cons_of_mem _ q1, List.mem_cons_of_mem _ q2⟩
    exact key cuts _ hu fun t ht => (main t ht).1
  obtain ⟨T, tm⟩ := tl
  obtain ⟨c1, c2⟩ := bandedT_ok T
  refine ⟨c1, fun x y => ?_, ?_, fun b hb => ?_, fun b hb => ?_⟩
  · unfold sweepReg
    rw [c2 x y]
    constructor
    · rintro ⟨t, ht, h1, h2, h3⟩
      obtain ⟨r, hr, q1, q2, q3, q4⟩ := ((main t ht).2.1 x).mp h3
      -- no cut lies between
      have far : t.2.1 ≤ r.2.1 := by
        have key : ∀ (cs : List Int) (ls : List Line), Up cs → t ∈ trips cs ls → ∀ c ∈ cs, t.1 < c → t.2.1 ≤ c := by
          intro cs
          induction cs with
          | nil => exact fun _ _ h => absurd h (by simp [trips])
          | cons a cs ih =>
            intro ls hu ht c hcc hlt
            cases cs with
            | nil => exact absurd ht (by simp [trips])
            | cons b cs =>
              cases ls with
              | nil => exact absurd ht (by simp [trips])
              | cons l ls =>
                obtain ⟨u1, u2⟩ := List.pairwise_cons.mp hu
                rcases List.mem_cons.mp ht with e | ht'
                · subst e
                  rcases List.mem_cons.mp hcc with e | q
                  · simp only at hlt
                    omega
                  · rcases List.mem_cons.mp q with e | q
                    · show b ≤ c
                      omega
                    · have := (List.pairwise_cons.mp u2).1 c q
                      show b ≤ c
                      omega
                · rcases List.mem_cons.mp hcc with e | q
                  · have htb : t.1 ∈ b :: cs := by
                      have key2 : ∀ (cs : List Int) (ls : List Line), ∀ u ∈ trips cs ls, u.1 ∈ cs := by
                        intro cs
                        induction cs with
                        | nil => exact fun _ _ h => absurd h (by simp [trips])
                        | cons a cs ih =>
                          intro ls u hu
                          cases cs with
                          | nil => exact absurd hu (by simp [trips])
                          | cons b cs =>
                            cases ls with
                            | nil => exact absurd hu (by simp [trips])
                            | cons l ls =>
                              rcases List.mem_cons.mp hu with e | hu
                              · rw [e]; simp
                              · exact List.mem_cons_of_mem _ (ih ls u hu)
                      exact key2 _ _ t ht'
                    have := u1 t.1 htb
                    omega
                  · exact ih ls u2 ht' c q hlt
        exact key cuts _ hu ht r.2.1 (hcut r hr).2 q2
      obtain ⟨u, hu', e⟩ := List.mem_map.mp (hp.mem_iff.mp hr)
      subst e
      exact ⟨u, hu', q3, q4, by simp only [rowOf] at q1; omega, by simp only [rowOf] at far; omega⟩
    · rintro ⟨r, hr, h1, h2, h3, h4⟩
      have hr' : rowOf r ∈ rows := hp.mem_iff.mpr (List.mem_map.mpr ⟨r, hr, rfl⟩)
      obtain ⟨k1, k2⟩ := hcut _ hr'
      obtain ⟨p, q, pre, post, e, p1, p2⟩ := cut_at hu (y := y) k1 k2 h3 h4
      obtain ⟨l, hl⟩ := trips_mem (ls := sweep S cuts rows []) (sweep_len S cuts rows []) e
      refine ⟨_, hl, p1, p2, ((main _ hl).2.1 x).mpr ⟨_, hr', ?_, ?_, h1, h2⟩⟩
      · -- the cut r.y0 is not above p
        have : ∀ c ∈ cuts, c < q → c ≤ p := fun c hcc hlt => by
          rw [e] at hcc hu
          obtain ⟨v1, v2, v3⟩ := List.pairwise_append.mp hu
          rcases List.mem_append.mp hcc with z | z
          · have := v3 c z p List.mem_cons_self
            omega
          · rcases List.mem_cons.mp z with z | z
            · omega
            · rcases List.mem_cons.mp z with z | z
              · omega
              · have := (List.pairwise_cons.mp (List.pairwise_cons.mp v2).2).1 c z
                omega
        exact this _ k1 (by simp only [rowOf]; omega)
      · simp only [rowOf]
        omega
  · have := bandedT_len T
    have := trips_len cuts (sweep S cuts rows [])
    unfold sweepReg
    omega
  · obtain ⟨_, _, t, ht, e⟩ := bandedT_from T b hb
    have := (main t ht).2.2.1
    rw [← e]
    omega
  · obtain ⟨⟨t1, ht1, e1⟩, ⟨t2, ht2, e2⟩, t3, ht3, e3⟩ := bandedT_from T b hb
    refine ⟨?_, ?_, fun s hs => ?_⟩
    · rw [← e1]
      exact (hc _).mp (tm t1 ht1).1
    · rw [← e2]
      exact (hc _).mp (tm t2 ht2).2
    · rw [← e3] at hs
      obtain ⟨a, b⟩ := (main t3 ht3).2.2.2 s hs
      obtain ⟨r, hr, e⟩ := mrow.mp a
      obtain ⟨r', hr', e'⟩ := mrow.mp b
      exact ⟨⟨r, hr, e⟩, r', hr', e'⟩
end Mw
end
section
set_option autoImplicit false
/-! The one region of rectangles; regions mixed. -/
namespace Mw
/-! ### there is such a region -/
def insU (x : Int) : List Int → List Int
  | [] => [x]
  | y :: l => if x < y then x :: y :: l else if x = y then y :: l else y :: insU x l
theorem insU_mem {x : Int} : ∀ {l : List Int} {z : Int}, z ∈ insU x l ↔ z = x ∨ z ∈ l
  | [], z => by simp [insU]
  | y :: l, z => by
    unfold insU
    split
    · simp
    · split
      · rename_i h
        subst h
        simp
      · rw [List.mem_cons, List.mem_cons, insU_mem]
        exact ⟨fun h => h.elim (fun z => .inr (.inl z)) fun h => h.elim .inl fun z => .inr (.inr z), fun h => h.elim (fun z => .inr (.inl z)) fun h => h.elim .inl fun z => .inr (.inr z)⟩
theorem insU_up {x : Int} : ∀ {l : List Int}, Up l → Up (insU x l)
  | [], _ => List.pairwise_singleton _ _
  | y :: l, h => by
    obtain ⟨h1, h2⟩ := List.pairwise_cons.mp h
    unfold insU
    split
    · refine List.pairwise_cons.mpr ⟨fun z hz => ?_, h⟩
      rcases List.mem_cons.mp hz with e | hz
      · omega
      · have := h1 z hz
        omega
    · split
      · exact h
      · refine List.pairwise_cons.mpr ⟨fun z hz => ?_, insU_up h2⟩
        rcases insU_mem.mp hz with e | hz
        · omega
        · exact h1 z hz
def upOf (l : List Int) : List Int := l.foldr insU []
theorem upOf_up : ∀ l : List Int, Up (upOf l)
  | [] => .nil
  | _ :: l => insU_up (upOf_up l)
theorem upOf_mem : ∀ {l : List Int} {z : Int}, z ∈ upOf l ↔ z ∈ l
  | [], _ => Iff.rfl
  | x :: l, z => by
    show z ∈ insU x (upOf l) ↔ _
    rw [insU_mem, upOf_mem, List.mem_cons]
def sortBy {α : Type} (k : α → Int) (l : List α) : List α := l.mergeSort fun a b => decide (k a ≤ k b)
theorem sortBy_perm {α : Type} (k : α → Int) (l : List α) : (sortBy k l).Perm l := List.mergeSort_perm ..
theorem sortBy_ord {α : Type} (k : α → Int) (l : List α) : (sortBy k l).Pairwise fun a b => k a ≤ k b := by
  have h := List.pairwise_mergeSort (le := fun a b : α => decide (k a ≤ k b)) (fun a b c h1 h2 => by simp only [decide_eq_true_eq] at *; omega) (fun a b => by simp only [Bool.or_eq_true, decide_eq_true_eq]; omega) l
  exact h.imp fun h => of_decide_eq_true h
theorem sortBy_sorts : Sorts (sortBy fun s : Int × Int => s.1) := ⟨sortBy_perm _, sortBy_ord _⟩
def ysOf (rs : List Rect) : List Int := rs.map (fun r => r.2.1) ++ rs.map (fun r => r.2.2.2)
theorem ysOf_mem {rs : List Rect} {c : Int} : c ∈ ysOf rs ↔ ∃ r ∈ rs, c = r.2.1 ∨ c = r.2.2.2 := by
  unfold ysOf
  rw [List.mem_append, List.mem_map, List.mem_map]
  constructor
  · rintro (⟨r, hr, e⟩ | ⟨r, hr, e⟩)
    · exact ⟨r, hr, .inl e.symm⟩
    · exact ⟨r, hr, .inr e.symm⟩
  · rintro ⟨r, hr, e | e⟩
    · exact .inl ⟨r, hr, e.symm⟩
    · exact .inr ⟨r, hr, e.symm⟩
/-- THE region of rectangles -/
def regOf (rs : List Rect) : Reg := sweepReg (sortBy fun s => s.1) (upOf (ysOf rs)) (sortBy (fun r => r.1) (rs.map rowOf))
theorem regOf_is {rs : List Rect} (hv : Valid rs) : IsReg rs (regOf rs) :=
  region_ok sortBy_sorts hv (upOf_up _) (fun c => by rw [upOf_mem, ysOf_mem]) (sortBy_perm _ _) (sortBy_ord _ _)
theorem is_regOf {rs : List Rect} {R : Reg} (hv : Valid rs) (h1 : CReg R) (h2 : ∀ x y, inReg R x y ↔ inRects rs x y) : R = regOf rs :=
  reg_uniq h1 (regOf_is hv).can fun x y => by rw [h2 x y, (regOf_is hv).cov x y]
theorem regOf_eq {rs qs : List Rect} (hr : Valid rs) (hq : Valid qs) (h : ∀ x y, inRects rs x y ↔ inRects qs x y) : regOf rs = regOf qs :=
  is_regOf hq (regOf_is hr).can fun x y => by rw [(regOf_is hr).cov x y, h x y]
theorem inRects_mem {rs qs : List Rect} (h : ∀ r, r ∈ rs ↔ r ∈ qs) (x y : Int) : inRects rs x y ↔ inRects qs x y :=
  ⟨fun ⟨r, hr, q⟩ => ⟨r, (h r).mp hr, q⟩, fun ⟨r, hr, q⟩ => ⟨r, (h r).mpr hr, q⟩⟩
theorem regOf_mem {rs qs : List Rect} (hr : Valid rs) (h : ∀ r, r ∈ rs ↔ r ∈ qs) : regOf rs = regOf qs :=
  regOf_eq hr (fun r hq => hr r ((h r).mpr hq)) (inRects_mem h)

/-! ### a region's rectangles -/
def rectsOf (R : Reg) : List Rect := R.flatMap fun b => b.2.2.map fun s => (s.1, b.1, s.2, b.2.1)
theorem rectsOf_cov {R : Reg} {x y : Int} : inRects (rectsOf R) x y ↔ inReg R x y := by
  unfold inRects inReg rectsOf
  constructor
  · rintro ⟨r, hr, h1, h2, h3, h4⟩
    obtain ⟨b, hb, hr⟩ := List.mem_flatMap.mp hr
    obtain ⟨s, hs, e⟩ := List.mem_map.mp hr
    subst e
    exact ⟨b, hb, h3, h4, s, hs, h1, h2⟩
  · rintro ⟨b, hb, h1, h2, s, hs, h3, h4⟩
    exact ⟨_, List.mem_flatMap.mpr ⟨b, hb, List.mem_map.mpr ⟨s, hs, rfl⟩⟩, h3, h4, h1, h2⟩
theorem rectsOf_valid {R : Reg} (h : CReg R) : Valid (rectsOf R) := fun r hr => by
  obtain ⟨b, hb, hr⟩ := List.mem_flatMap.mp hr
  obtain ⟨s, hs, e⟩ := List.mem_map.mp hr
  subst e
  exact ⟨(h.ok b hb).line.pos s hs, (h.ok b hb).pos⟩
theorem rectsOf_len {rs : List Rect} {R : Reg} (h : IsReg rs R) : (rectsOf R).length ≤ 2 * rs.length * rs.length := by
  have key : ∀ l : Reg, (∀ b ∈ l, b.2.2.length ≤ rs.length) → (rectsOf l).length ≤ l.length * rs.length := by
    intro l
    induction l with
    | nil => exact fun _ => by simp [rectsOf]
    | cons b l ih =>
      intro hb
      have h1 := ih fun c hc => hb c (List.mem_cons_of_mem _ hc)
      have h2 := hb b List.mem_cons_self
      unfold rectsOf at h1 ⊢
      rw [List.flatMap_cons, List.length_append, List.length_map, List.length_cons, Nat.succ_mul]
      omega
  exact Nat.le_trans (key R h.line) (Nat.mul_le_mul_right _ h.len)
theorem rectsOf_ends {rs : List Rect} {R : Reg} (h : IsReg rs R) : ∀ r ∈ rectsOf R, (∃ q ∈ rs, r.2.1 = q.2.1 ∨ r.2.1 = q.2.2.2) ∧ (∃ q ∈ rs, r.2.2.2 = q.2.1 ∨ r.2.2.2 = q.2.2.2) ∧ (∃ q ∈ rs, q.1 = r.1) ∧ ∃ q ∈ rs, q.2.2.1 = r.2.2.1 := fun r hr => by
  obtain ⟨b, hb, hr⟩ := List.mem_flatMap.mp hr
  obtain ⟨s, hs, e⟩ := List.mem_map.mp hr
  subst e
  obtain ⟨a, c, d⟩ := h.ends b hb
  exact ⟨a, c, d s hs⟩

/-! ### lines at cuts -/
def secOf (low : Int) (pend : Reg) : Line := match pend with
  | b :: _ => if b.1 ≤ low then b.2.2 else []
  | [] => []
def dropLow (low : Int) (pend : Reg) : Reg := pend.dropWhile fun b => decide (b.2.1 ≤ low)
def linesAt : List Int → Reg → List Line
  | low :: high :: cs, pend => secOf low (dropLow low pend) :: linesAt (high :: cs) (dropLow low pend)
  | _, _ => []
theorem linesAt_len : ∀ (cs : List Int) (pend : Reg), (linesAt cs pend).length = cs.length - 1
  | [], _ => rfl
  | [_], _ => rfl
  | a :: b :: cs, pend => by
    have := linesAt_len (b :: cs) (dropLow a pend)
    simp only [linesAt, List.length_cons] at this ⊢
    omega
theorem dropLow_can {low : Int} : ∀ {pend : Reg}, CReg pend → CReg (dropLow low pend) ∧ (∀ x y, low ≤ y → (inReg (dropLow low pend) x y ↔ inReg pend x y)) ∧ (∀ b ∈ dropLow low pend, low < b.2.1 ∧ b ∈ pend)
  | [], h => ⟨h, fun _ _ _ => Iff.rfl, fun _ h => absurd h (by simp [dropLow])⟩
  | b :: r, h => by
    unfold dropLow
    rw [List.dropWhile_cons]
    by_cases e : b.2.1 ≤ low
    · rw [if_pos (decide_eq_true e)]
      obtain ⟨h1, h2, h3⟩ := dropLow_can (low := low) h.tail
      refine ⟨h1, fun x y hy => ?_, fun c hc => ⟨(h3 c hc).1, List.mem_cons_of_mem _ (h3 c hc).2⟩⟩
      have q := h2 x y hy
      unfold dropLow at q
      rw [q, inReg_cons]
      exact ⟨.inr, fun z => z.elim (fun z => by omega) id⟩
    · rw [if_neg (by rw [decide_eq_true_eq]; exact e)]
      refine ⟨h, fun _ _ _ => Iff.rfl, fun c hc => ⟨?_, hc⟩⟩
      rcases List.mem_cons.mp hc with z | z
      · rw [z]; omega
      · have := (h.after c z).1
        have := (h.tail.ok c z).pos
        omega
theorem secOf_ok {low : Int} {pend : Reg} (h : CReg pend) (hl : ∀ b ∈ pend, low < b.2.1) : NLine (secOf low pend) ∧ ∀ x, inLine (secOf low pend) x ↔ inReg pend x low := by
  cases pend with
  | nil => exact ⟨NLine.nil, fun x => ⟨fun z => absurd z (inLine_nil _), fun z => absurd z (inReg_nil _ _)⟩⟩
  | cons b r =>
    unfold secOf
    by_cases c : b.1 ≤ low
    · simp only [if_pos c]
      exact ⟨h.head.line, fun x => (h.first c (hl b List.mem_cons_self)).symm⟩
    · simp only [if_neg c]
      refine ⟨NLine.nil, fun x => ⟨fun z => absurd z (inLine_nil _), fun z => ?_⟩⟩
      have := h.from z
      omega
/-- between two cuts a region doesn't change -/
theorem still {R : Reg} {low high : Int} (he : ∀ b ∈ R, (b.1 ≤ low ∨ high ≤ b.1) ∧ (b.2.1 ≤ low ∨ high ≤ b.2.1)) {x y : Int} (h1 : low ≤ y) (h2 : y < high) : inReg R x y ↔ inReg R x low := by
  constructor
  · rintro ⟨b, hb, q1, q2, q3⟩
    obtain ⟨a, c⟩ := he b hb
    exact ⟨b, hb, by omega, by omega, q3⟩
  · rintro ⟨b, hb, q1, q2, q3⟩
    obtain ⟨a, c⟩ := he b hb
    exact ⟨b, hb, by omega, by omega, q3⟩

/-! ### two lines mixed -/
def edges (l : Line) (side : Int) : List (Int × Int) := l.flatMap fun s => [(s.1, side), (s.2, side)]
structure MixSt where
  in0 : Bool
  in1 : Bool
  begun : Option Int
def tog (m : MixSt) (side : Int) : Bool × Bool := (if side = 0 then !m.in0 else m.in0, if side = 0 then m.in1 else !m.in1)
/-- the turns that are left -/
def mixL : List (Int × Int) → Bool → Bool → Option Int → Line
  | [], _, _, _ => []
  | (x, side) :: rest, i0, i1, begun =>
    let j0 := if side = 0 then !i0 else i0
    let j1 := if side = 0 then i1 else !i1
    if (match rest with | [] => true | t :: _ => decide (x < t.1)) = true then
      if (j0 || j1) = true then mixL rest j0 j1 (match begun with | none => some x | some b => some b)
      else match begun with
        | none => mixL rest j0 j1 none
        | some b => (b, x) :: mixL rest j0 j1 none
    else mixL rest j0 j1 begun
def lastOf (x : Int) (rest : List (Int × Int)) : Bool := match rest with | [] => true | t :: _ => decide (x < t.1)
def begunOf (x : Int) (begun : Option Int) : Option Int := match begun with | none => some x | some b => some b
def endRun (x : Int) (begun : Option Int) (l : Line) : Line := match begun with | none => l | some b => (b, x) :: l
theorem mixL_nil (i0 i1 : Bool) (begun : Option Int) : mixL [] i0 i1 begun = [] := by unfold mixL; rfl
theorem mixL_cons (x side : Int) (rest : List (Int × Int)) (i0 i1 : Bool) (begun : Option Int) : mixL ((x, side) :: rest) i0 i1 begun =
    if lastOf x rest = true then (if ((if side = 0 then !i0 else i0) || (if side = 0 then i1 else !i1)) = true then mixL rest (if side = 0 then !i0 else i0) (if side = 0 then i1 else !i1) (begunOf x begun)
      else endRun x begun (mixL rest (if side = 0 then !i0 else i0) (if side = 0 then i1 else !i1) none)) else mixL rest (if side = 0 then !i0 else i0) (if side = 0 then i1 else !i1) begun := by
  conv => lhs; unfold mixL
  cases begun <;> rfl
/-- how many edges of a side are not beyond x, odd or even -/
def odd (ts : List (Int × Int)) (side x : Int) : Bool := (ts.filter fun t => decide (t.1 ≤ x ∧ t.2 = side)).length % 2 == 1
def oddAll (ts : List (Int × Int)) (side : Int) : Bool := (ts.filter fun t => decide (t.2 = side)).length % 2 == 1
theorem odd_cons (t : Int × Int) (ts : List (Int × Int)) (side x : Int) : odd (t :: ts) side x = if t.1 ≤ x ∧ t.2 = side then !odd ts side x else odd ts side x := by
  unfold odd
  rw [List.filter_cons]
  by_cases h : t.1 ≤ x ∧ t.2 = side
  · rw [if_pos (decide_eq_true h), if_pos h, List.length_cons]
    generalize (ts.filter fun t => decide (t.1 ≤ x ∧ t.2 = side)).length = n
    rcases Nat.mod_two_eq_zero_or_one n with e | e
    · have : (n + 1) % 2 = 1 := by omega
      rw [e, this]
      rfl
    · have : (n + 1) % 2 = 0 := by omega
      rw [e, this]
      rfl
  · rw [if_neg (by rw [decide_eq_true_eq]; exact h), if_neg h]
theorem oddAll_cons (t : Int × Int) (ts : List (Int × Int)) (side : Int) : oddAll (t :: ts) side = if t.2 = side then !oddAll ts side else oddAll ts side := by
  unfold oddAll
  rw [List.filter_cons]
  by_cases h : t.2 = side
  · rw [if_pos (decide_eq_true h), if_pos h, List.length_cons]
    generalize (ts.filter fun t => decide (t.2 = side)).length = n
    rcases Nat.mod_two_eq_zero_or_one n with e | e
    · have : (n + 1) % 2 = 1 := by omega
      rw [e, this]
      rfl
    · have : (n + 1) % 2 = 0 := by omega
      rw [e, this]
      rfl
  · rw [if_neg (by rw [decide_eq_true_eq]; exact h), if_neg h]
theorem odd_none {ts : List (Int × Int)} {side x : Int} (h : ∀ t ∈ ts, x < t.1) : odd ts side x = false := by
  unfold odd
  have : (ts.filter fun t => decide (t.1 ≤ x ∧ t.2 = side)) = [] := List.filter_eq_nil_iff.mpr fun t ht => by
    have := h t ht
    rw [decide_eq_true_eq]
    omega
  rw [this]
  rfl
def F (ts : List (Int × Int)) (i0 i1 : Bool) (x : Int) : Bool := (i0 != odd ts 0 x) || (i1 != odd ts 1 x)
theorem mix_ok : ∀ (ts : List (Int × Int)) (i0 i1 : Bool) (begun : Option Int), ts.Pairwise (fun a b => a.1 ≤ b.1) → (∀ t ∈ ts, t.2 = 0 ∨ t.2 = 1) → i0 = oddAll ts 0 → i1 = oddAll ts 1 → (∀ b, begun = some b → ts ≠ [] ∧ ∀ t ∈ ts, b < t.1) →
    (mixL ts i0 i1 begun).length ≤ ts.length ∧ NLine (mixL ts i0 i1 begun) ∧ (begun = none → ∀ s ∈ mixL ts i0 i1 begun, ∀ t, ts.head? = some t → t.1 ≤ s.1) ∧
    ∀ x, inLine (mixL ts i0 i1 begun) x ↔ ∃ t, ts.head? = some t ∧ ((t.1 ≤ x ∧ F ts i0 i1 x = true) ∨ ∃ b, begun = some b ∧ b ≤ x ∧ x < t.1)
  | [], i0, i1, begun, _, _, _, _, _ => ⟨Nat.le_refl _, NLine.nil, fun _ s h => absurd h (by simp [mixL]), fun x => ⟨fun h => absurd h (inLine_nil _), fun ⟨t, h, _⟩ => absurd h (by simp)⟩⟩
  | (c, side) :: rest, i0, i1, begun, ho, hs, e0, e1, hb => by
    obtain ⟨o1, o2⟩ := List.pairwise_cons.mp ho
    have hs' : ∀ t ∈ rest, t.2 = 0 ∨ t.2 = 1 := fun t ht => hs t (List.mem_cons_of_mem _ ht)
    have hsd : side = 0 ∨ side = 1 := hs (c, side) List.mem_cons_self
    have f0 : (if side = 0 then !i0 else i0) = oddAll rest 0 := by
      rw [e0, oddAll_cons]
      by_cases z : side = 0
      · simp [z]
      · simp [z]
    have f1 : (if side = 0 then i1 else !i1) = oddAll rest 1 := by
      rw [e1, oddAll_cons]
      rcases hsd with z | z
      · simp [z]
      · simp [z]
    generalize hj0 : (if side = 0 then !i0 else i0) = j0 at f0
    generalize hj1 : (if side = 0 then i1 else !i1) = j1 at f1
    -- beyond the turn's place both tell the same
    have same : ∀ x, c ≤ x → F ((c, side) :: rest) i0 i1 x = F rest j0 j1 x := fun x hx => by
      unfold F
      rw [odd_cons, odd_cons, ← hj0, ← hj1]
      rcases hsd with z | z
      · subst z
        simp only [hx, true_and, if_true]
        rw [if_neg (by decide)]
        cases i0 <;> cases odd rest 0 x <;> rfl
      · subst z
        simp only [hx, true_and, if_true]
        rw [if_neg (by decide), if_neg (by decide), if_neg (by decide)]
        cases i1 <;> cases odd rest 1 x <;> simp
    have hbc : ∀ b, begun = some b → b < c := fun b e => (hb b e).2 (c, side) List.mem_cons_self
    rw [mixL_cons]
    simp only [hj0, hj1]
    cases rest with
    | nil =>
      have z0 : j0 = false := f0
      have z1 : j1 = false := f1
      simp only [z0, z1, lastOf, begunOf, endRun, mixL_nil, if_true, Bool.or_self, Bool.false_eq_true, if_false]
      have fx : ∀ x, c ≤ x → F [(c, side)] i0 i1 x = false := fun x hx => by
        rw [same x hx, z0, z1]
        rfl
      cases begun with
      | none =>
        refine ⟨Nat.zero_le _, NLine.nil, fun _ s h => absurd h (by simp), fun x => ⟨fun h => absurd h (by simp [inLine]), ?_⟩⟩
        rintro ⟨t, ht, h⟩
        have et : (c, side) = t := Option.some.inj ht
        subst et
        rcases h with ⟨h1, h2⟩ | ⟨b, h1, _⟩
        · rw [fx x h1] at h2
          cases h2
        · cases h1
      | some b =>
        have hbc' := hbc b rfl
        refine ⟨by simp, ⟨List.pairwise_singleton _ _, fun s h => ?_⟩, fun h => (by cases h), fun x => ?_⟩
        · rw [List.mem_singleton] at h
          rw [h]
          exact hbc'
        · rw [inLine_one]
          constructor
          · rintro ⟨h1, h2⟩
            exact ⟨(c, side), rfl, .inr ⟨b, rfl, h1, h2⟩⟩
          · rintro ⟨t, ht, h⟩
            have et : (c, side) = t := Option.some.inj ht
            subst et
            rcases h with ⟨h1, h2⟩ | ⟨b', h1, h2⟩
            · rw [fx x h1] at h2
              cases h2
            · cases h1
              exact h2
    | cons t r =>
      have hct := o1 t List.mem_cons_self
      simp only at hct
      by_cases hlt : c < t.1
      · have hd : decide (c < t.1) = true := decide_eq_true hlt
        have all : ∀ u ∈ t :: r, c < u.1 := fun u hu => by
          rcases List.mem_cons.mp hu with e | hu
          · rw [e]; exact hlt
          · have := (List.pairwise_cons.mp o2).1 u hu
            omega
        have mid : ∀ x, c ≤ x → x < t.1 → F ((c, side) :: t :: r) i0 i1 x = (j0 || j1) := fun x h1 h2 => by
          rw [same x h1]
          unfold F
          rw [odd_none fun u hu => ?_, odd_none fun u hu => ?_]
          · cases j0 <;> cases j1 <;> rfl
          all_goals
            rcases List.mem_cons.mp hu with e | hu
            · rw [e]; exact h2
            · have := (List.pairwise_cons.mp o2).1 u hu
              omega
        simp only [lastOf, hd, if_true]
        by_cases hk : (j0 || j1) = true
        · rw [if_pos hk]
          have bb : ∀ b, begunOf c begun = some b → b < t.1 ∧ b ≤ c := fun b e => by
            cases begun with
            | none => cases e; exact ⟨hlt, Int.le_refl _⟩
            | some b' =>
              cases e
              have := hbc b rfl
              omega
          obtain ⟨l1, l2, l3, l4⟩ := mix_ok (t :: r) j0 j1 (begunOf c begun) o2 hs' f0 f1 fun b e => ⟨by simp, fun u hu => by
            have := (bb b e).2
            have := all u hu
            omega⟩
          refine ⟨by rw [List.length_cons]; omega, l2, fun e s hs u hu => ?_, fun x => ?_⟩
          · subst e
            have eu : (c, side) = u := Option.some.inj hu
            subst eu
            -- the first begins at c
            have pos := l2.pos s hs
            have z := (l4 s.1).mp ⟨s, hs, Int.le_refl _, pos⟩
            obtain ⟨v, hv, h⟩ := z
            have ev : t = v := Option.some.inj hv
            subst ev
            show c ≤ s.1
            rcases h with ⟨h1, _⟩ | ⟨b, h1, h2, _⟩
            · omega
            · have := Option.some.inj h1
              omega
          · rw [l4 x]
            constructor
            · rintro ⟨v, hv, h⟩
              have ev : t = v := Option.some.inj hv
              subst ev
              refine ⟨(c, side), rfl, ?_⟩
              rcases h with ⟨h1, h2⟩ | ⟨b, h1, h2, h3⟩
              · exact .inl ⟨by show c ≤ x; omega, by rw [same x (by omega)]; exact h2⟩
              · cases begun with
                | none =>
                  have := Option.some.inj h1
                  exact .inl ⟨by show c ≤ x; omega, by rw [mid x (by omega) h3]; exact hk⟩
                | some b' =>
                  have := Option.some.inj h1
                  by_cases hx : c ≤ x
                  · exact .inl ⟨hx, by rw [mid x hx h3]; exact hk⟩
                  · exact .inr ⟨b', rfl, by omega, by show x < c; omega⟩
            · rintro ⟨v, hv, h⟩
              have ev : (c, side) = v := Option.some.inj hv
              subst ev
              refine ⟨t, rfl, ?_⟩
              rcases h with ⟨h1, h2⟩ | ⟨b, h1, h2, h3⟩
              · have h1' : c ≤ x := h1
                by_cases hx : t.1 ≤ x
                · exact .inl ⟨hx, by rw [← same x h1']; exact h2⟩
                · refine .inr ?_
                  cases begun with
                  | none => exact ⟨c, rfl, h1', by omega⟩
                  | some b' =>
                    have := hbc b' rfl
                    exact ⟨b', rfl, by omega, by omega⟩
              · subst h1
                have h3' : x < c := h3
                exact .inr ⟨b, rfl, h2, by omega⟩
        · rw [if_neg hk]
          have hk' : (j0 || j1) = false := by
            cases h : (j0 || j1) with
            | true => exact absurd h hk
            | false => rfl
          obtain ⟨l1, l2, l3, l4⟩ := mix_ok (t :: r) j0 j1 none o2 hs' f0 f1 fun b e => (by cases e)
          have cov : ∀ x, inLine (mixL (t :: r) j0 j1 none) x ↔ c ≤ x ∧ F ((c, side) :: t :: r) i0 i1 x = true := fun x => by
            rw [l4 x]
            constructor
            · rintro ⟨v, hv, h⟩
              have ev : t = v := Option.some.inj hv
              subst ev
              rcases h with ⟨h1, h2⟩ | ⟨b, h1, _⟩
              · exact ⟨by omega, by rw [same x (by omega)]; exact h2⟩
              · cases h1
            · rintro ⟨h1, h2⟩
              refine ⟨t, rfl, .inl ?_⟩
              by_cases hx : t.1 ≤ x
              · exact ⟨hx, by rw [← same x h1]; exact h2⟩
              · rw [mid x h1 (by omega), hk'] at h2
                cases h2
          have late : ∀ s ∈ mixL (t :: r) j0 j1 none, t.1 ≤ s.1 := fun s hs => l3 rfl s hs t rfl
          cases begun with
          | none =>
            refine ⟨by simp only [endRun, List.length_cons] at l1 ⊢; omega, l2, fun _ s hs u hu => ?_, fun x => ?_⟩
            · have eu : (c, side) = u := Option.some.inj hu
              subst eu
              have := late s hs
              show c ≤ s.1
              omega
            · show inLine (mixL (t :: r) j0 j1 none) x ↔ _
              rw [cov x]
              constructor
              · exact fun h => ⟨(c, side), rfl, .inl h⟩
              · rintro ⟨v, hv, h⟩
                have ev : (c, side) = v := Option.some.inj hv
                subst ev
                rcases h with h | ⟨b, h1, _⟩
                · exact h
                · cases h1
          | some b =>
            have hbc' := hbc b rfl
            refine ⟨by simp only [endRun, List.length_cons] at l1 ⊢; omega, ⟨List.pairwise_cons.mpr ⟨fun s hs => ?_, l2.gap⟩, fun s hs => ?_⟩, fun h => (by cases h), fun x => ?_⟩
            · have := late s hs
              show c < s.1
              omega
            · rcases List.mem_cons.mp hs with e | hs
              · rw [e]; exact hbc'
              · exact l2.pos s hs
            · show inLine ((b, c) :: mixL (t :: r) j0 j1 none) x ↔ _
              rw [inLine_cons, cov x]
              constructor
              · rintro (h | h)
                · exact ⟨(c, side), rfl, .inr ⟨b, rfl, h⟩⟩
                · exact ⟨(c, side), rfl, .inl h⟩
              · rintro ⟨v, hv, h⟩
                have ev : (c, side) = v := Option.some.inj hv
                subst ev
                rcases h with h | ⟨b', h1, h2⟩
                · exact .inr h
                · cases h1
                  exact .inl h2
      · have ec : t.1 = c := by omega
        have hd : decide (c < t.1) = false := decide_eq_false hlt
        simp only [lastOf, hd, Bool.false_eq_true, if_false]
        obtain ⟨l1, l2, l3, l4⟩ := mix_ok (t :: r) j0 j1 begun o2 hs' f0 f1 fun b e => ⟨by simp, fun u hu => (hb b e).2 u (List.mem_cons_of_mem _ hu)⟩
        refine ⟨by rw [List.length_cons]; omega, l2, fun e s hs u hu => ?_, fun x => ?_⟩
        · have eu : (c, side) = u := Option.some.inj hu
          subst eu
          have := l3 e s hs t rfl
          show c ≤ s.1
          omega
        · rw [l4 x]
          constructor
          · rintro ⟨v, hv, h⟩
            have ev : t = v := Option.some.inj hv
            subst ev
            refine ⟨(c, side), rfl, ?_⟩
            rcases h with ⟨h1, h2⟩ | ⟨b, h1, h2, h3⟩
            · exact .inl ⟨by show c ≤ x; omega, by rw [same x (by omega)]; exact h2⟩
            · exact .inr ⟨b, h1, h2, by show x < c; omega⟩
          · rintro ⟨v, hv, h⟩
            have ev : (c, side) = v := Option.some.inj hv
            subst ev
            refine ⟨t, rfl, ?_⟩
            rcases h with ⟨h1, h2⟩ | ⟨b, h1, h2, h3⟩
            · have h1' : c ≤ x := h1
              exact .inl ⟨by omega, by rw [← same x h1']; exact h2⟩
            · have h3' : x < c := h3
              exact .inr ⟨b, h1, h2, by omega⟩
/-- the edges of a line that is in order tell its places -/
theorem odd_line {side : Int} : ∀ {l : Line}, NLine l → ∀ x, (odd (edges l side) side x = true ↔ inLine l x)
  | [], _, x => by simp [edges, odd, inLine]
  | s :: l, h, x => by
    have hp := h.pos s List.mem_cons_self
    have e : edges (s :: l) side = (s.1, side) :: (s.2, side) :: edges l side := rfl
    have ih := odd_line (side := side) h.tail x
    rw [e, odd_cons, odd_cons, inLine_cons]
    by_cases h1 : s.1 ≤ x
    · by_cases h2 : s.2 ≤ x
      · simp only [h1, h2, and_self, if_true, Bool.not_not]
        rw [ih]
        exact ⟨.inr, fun h => h.elim (fun z => by omega) id⟩
      · simp only [h1, h2, and_true, if_true, if_false]
        have no : odd (edges l side) side x = false := odd_none fun t ht => by
          unfold edges at ht
          obtain ⟨u, hu, ht⟩ := List.mem_flatMap.mp ht
          have := h.after u hu
          have := h.tail.pos u hu
          simp only [List.mem_cons, List.not_mem_nil, or_false] at ht
          rcases ht with e | e <;> rw [e] <;> simp only <;> omega
        rw [no]
        exact ⟨fun _ => .inl ⟨trivial, by omega⟩, fun _ => rfl⟩
    · have h2 : ¬ s.2 ≤ x := by omega
      simp only [h1, h2, false_and, if_false]
      rw [ih]
      exact ⟨.inr, fun h => h.elim (fun z => z.elim) id⟩
theorem odd_other {l : Line} {side other x : Int} (hne : side ≠ other) : odd (edges l side) other x = false := by
  unfold odd
  have : ((edges l side).filter fun t => decide (t.1 ≤ x ∧ t.2 = other)) = [] := List.filter_eq_nil_iff.mpr fun t ht => by
    unfold edges at ht
    obtain ⟨u, hu, ht⟩ := List.mem_flatMap.mp ht
    simp only [List.mem_cons, List.not_mem_nil, or_false] at ht
    rw [decide_eq_true_eq]
    rcases ht with e | e <;> rw [e] <;> simp only <;> exact fun z => hne z.2
  rw [this]
  rfl
theorem odd_perm {l m : List (Int × Int)} (h : l.Perm m) (side x : Int) : odd l side x = odd m side x := by
  unfold odd
  rw [(h.filter _).length_eq]
theorem oddAll_perm {l m : List (Int × Int)} (h : l.Perm m) (side : Int) : oddAll l side = oddAll m side := by
  unfold oddAll
  rw [(h.filter _).length_eq]
theorem odd_append (l m : List (Int × Int)) (side x : Int) : odd (l ++ m) side x = (odd l side x != odd m side x) := by
  unfold odd
  rw [List.filter_append, List.length_append]
  generalize (l.filter _).length = a
  generalize (m.filter _).length = b
  rcases Nat.mod_two_eq_zero_or_one a with e | e <;> rcases Nat.mod_two_eq_zero_or_one b with f | f <;> (have : (a + b) % 2 = (a % 2 + b % 2) % 2 := Nat.add_mod ..; rw [this, e, f]; rfl)
theorem oddAll_append (l m : List (Int × Int)) (side : Int) : oddAll (l ++ m) side = (oddAll l side != oddAll m side) := by
  unfold oddAll
  rw [List.filter_append, List.length_append]
  generalize (l.filter _).length = a
  generalize (m.filter _).length = b
  rcases Nat.mod_two_eq_zero_or_one a with e | e <;> rcases Nat.mod_two_eq_zero_or_one b with f | f <;> (have : (a + b) % 2 = (a % 2 + b % 2) % 2 := Nat.add_mod ..; rw [this, e, f]; rfl)
theorem oddAll_edges (side other : Int) : ∀ l : Line, oddAll (edges l side) other = false
  | [] => rfl
  | s :: l => by
    have e : edges (s :: l) side = (s.1, side) :: (s.2, side) :: edges l side := rfl
    rw [e, oddAll_cons, oddAll_cons, oddAll_edges side other l]
    split <;> rfl
/-- turns: all edges, sorted by place -/
theorem mixed_ok {one other : Line} {ts : List (Int × Int)} (h1 : NLine one) (h2 : NLine other) (hp : ts.Perm (edges one 0 ++ edges other 1)) (ho : ts.Pairwise fun a b => a.1 ≤ b.1) :
    NLine (mixL ts false false none) ∧ (∀ x, inLine (mixL ts false false none) x ↔ inLine one x ∨ inLine other x) ∧ (mixL ts false false none).length ≤ ts.length := by
  have side : ∀ t ∈ ts, t.2 = 0 ∨ t.2 = 1 := fun t ht => by
    have q := hp.mem_iff.mp ht
    rcases List.mem_append.mp q with q | q
    all_goals
      unfold edges at q
      obtain ⟨u, hu, q⟩ := List.mem_flatMap.mp q
      simp only [List.mem_cons, List.not_mem_nil, or_false] at q
      rcases q with e | e <;> rw [e] <;> simp
  have all0 : ∀ s, oddAll ts s = false := fun s => by rw [oddAll_perm hp, oddAll_append, oddAll_edges, oddAll_edges]; rfl
  obtain ⟨l1, l2, _, l4⟩ := mix_ok ts false false none ho side (all0 0).symm (all0 1).symm fun b e => (by cases e)
  have fF : ∀ x, F ts false false x = true ↔ inLine one x ∨ inLine other x := fun x => by
    unfold F
    rw [odd_perm hp, odd_perm hp, odd_append, odd_append, odd_other (side := 1) (other := 0) (by decide), odd_other (side := 0) (other := 1) (by decide), ← odd_line (side := 0) h1 x, ← odd_line (side := 1) h2 x]
    cases odd (edges one 0) 0 x <;> cases odd (edges other 1) 1 x <;> simp
  refine ⟨l2, fun x => ?_, l1⟩
  rw [l4 x, ← fF x]
  constructor
  · rintro ⟨t, _, ⟨_, h⟩ | ⟨b, h, _⟩⟩
    · exact h
    · cases h
  · intro h
    cases ts with
    | nil => cases h
    | cons t r =>
      refine ⟨t, rfl, .inl ⟨?_, h⟩⟩
      by_cases c : t.1 ≤ x
      · exact c
      · have : F (t :: r) false false x = false := by
          unfold F
          rw [odd_none fun u hu => ?_, odd_none fun u hu => ?_]
          · rfl
          all_goals
            rcases List.mem_cons.mp hu with e | hu
            · rw [e]; omega
            · have := (List.pairwise_cons.mp ho).1 u hu
              omega
        rw [this] at h
        cases h

/-! ### two regions mixed -/
/-- M: how two lines are mixed -/
def mixLines (M : Line → Line → Line) (l m : List Line) : List Line := (l.zip m).map fun p => M p.1 p.2
def eitherReg (M : Line → Line → Line) (cuts : List Int) (one other : Reg) : Reg := bandedT (trips cuts (mixLines M (linesAt cuts one) (linesAt cuts other)))
def endsOf (R : Reg) : List Int := R.map (fun b => b.1) ++ R.map (fun b => b.2.1)
theorem endsOf_mem {R : Reg} {b : Band} (h : b ∈ R) : b.1 ∈ endsOf R ∧ b.2.1 ∈ endsOf R :=
  ⟨List.mem_append_left _ (List.mem_map.mpr ⟨b, h, rfl⟩), List.mem_append_right _ (List.mem_map.mpr ⟨b, h, rfl⟩)⟩
theorem either_trips {M : Line → Line → Line} (hM : ∀ l m, NLine l → NLine m → NLine (M l m) ∧ ∀ x, inLine (M l m) x ↔ inLine l x ∨ inLine m x) : ∀ (cs : List Int) (p q P Q : Reg) (low : Int), Up (low :: cs) → CReg P → CReg Q → CReg p → CReg q →
    (∀ b ∈ p, b ∈ P) → (∀ b ∈ q, b ∈ Q) → (∀ b ∈ P, b.1 ∈ low :: cs ∨ b.1 ≤ low) → (∀ b ∈ P, b.2.1 ∈ low :: cs ∨ b.2.1 ≤ low) → (∀ b ∈ Q, b.1 ∈ low :: cs ∨ b.1 ≤ low) → (∀ b ∈ Q, b.2.1 ∈ low :: cs ∨ b.2.1 ≤ low) →
    (∀ x y, low ≤ y → (inReg p x y ↔ inReg P x y)) → (∀ x y, low ≤ y → (inReg q x y ↔ inReg Q x y)) →
    ∀ t ∈ trips (low :: cs) (mixLines M (linesAt (low :: cs) p) (linesAt (low :: cs) q)), NLine t.2.2 ∧ ∀ x y, t.1 ≤ y → y < t.2.1 → (inLine t.2.2 x ↔ inReg P x y ∨ inReg Q x y)
  | [], _, _, _, _, _, _, _, _, _, _, _, _, _, _, _, _, _, _, t, ht => absurd ht (by simp [trips])
  | high :: cs, p, q, P, Q, low, hu, cP, cQ, cp, cq, sp, sq, b1, b2, b3, b4, kp, kq, t, ht => by
    obtain ⟨u1, u2⟩ := List.pairwise_cons.mp hu
    have hlh := u1 high List.mem_cons_self
    obtain ⟨dp1, dp2, dp3⟩ := dropLow_can (low := low) cp
    obtain ⟨dq1, dq2, dq3⟩ := dropLow_can (low := low) cq
    obtain ⟨np, ep⟩ := secOf_ok (low := low) dp1 fun b hb => (dp3 b hb).1
    obtain ⟨nq, eq⟩ := secOf_ok (low := low) dq1 fun b hb => (dq3 b hb).1
    have nx : ∀ z : Int, z ∈ low :: high :: cs ∨ z ≤ low → (z ≤ low ∨ high ≤ z) ∧ (z ∈ high :: cs ∨ z ≤ high) := fun z h => by
      rcases h with h | h
      · rcases List.mem_cons.mp h with e | h
        · exact ⟨.inl (by omega), .inr (by omega)⟩
        · refine ⟨.inr ?_, .inl h⟩
          rcases List.mem_cons.mp h with e | h
          · omega
          · have := (List.pairwise_cons.mp u2).1 z h
            omega
      · exact ⟨.inl h, .inr (by omega)⟩
    have ht' : t ∈ (low, high, M (secOf low (dropLow low p)) (secOf low (dropLow low q))) :: trips (high :: cs) (mixLines M (linesAt (high :: cs) (dropLow low p)) (linesAt (high :: cs) (dropLow low q))) := ht
    rcases List.mem_cons.mp ht' with e | ht'
    · subst e
      obtain ⟨m1, m2⟩ := hM _ _ np nq
      refine ⟨m1, fun x y h1 h2 => ?_⟩
      show inLine (M _ _) x ↔ _
      rw [m2 x, ep x, eq x, dp2 x low (Int.le_refl _), dq2 x low (Int.le_refl _), kp x low (Int.le_refl _), kq x low (Int.le_refl _), still (R := P) (low := low) (high := high) (fun b hb => ⟨(nx _ (b1 b hb)).1, (nx _ (b2 b hb)).1⟩) h1 h2,
        still (R := Q) (low := low) (high := high) (fun b hb => ⟨(nx _ (b3 b hb)).1, (nx _ (b4 b hb)).1⟩) h1 h2]
    · exact either_trips hM cs _ _ P Q high u2 cP cQ dp1 dq1 (fun b hb => sp b (dp3 b hb).2) (fun b hb => sq b (dq3 b hb).2) (fun b hb => (nx _ (b1 b hb)).2) (fun b hb => (nx _ (b2 b hb)).2) (fun b hb => (nx _ (b3 b hb)).2) (fun b hb => (nx _ (b4 b hb)).2)
        (fun x y hy => by rw [dp2 x y (by omega), kp x y (by omega)]) (fun x y hy => by rw [dq2 x y (by omega), kq x y (by omega)]) t ht'
/-- trips in order, their places between the cuts alone asked of their lines -/
theorem trips_ord : ∀ (cs : List Int) (ls : List Line), Up cs → (∀ t ∈ trips cs ls, NLine t.2.2) → Trips (trips cs ls) ∧ ∀ t ∈ trips cs ls, t.1 ∈ cs ∧ t.2.1 ∈ cs := by
  intro cs
  induction cs with
  | nil => exact fun _ _ _ => ⟨⟨fun _ h => absurd h (by simp [trips]), fun _ h => absurd h (by simp [trips]), by simp [trips]⟩, fun _ h => absurd h (by simp [trips])⟩
  | cons a cs ih =>
    intro ls hu hl
    cases cs with
    | nil => exact ⟨⟨fun _ h => absurd h (by simp [trips]), fun _ h => absurd h (by simp [trips]), by simp [trips]⟩, fun _ h => absurd h (by simp [trips])⟩
    | cons b cs =>
      cases ls with
      | nil => exact ⟨⟨fun _ h => absurd h (by simp [trips]), fun _ h => absurd h (by simp [trips]), by simp [trips]⟩, fun _ h => absurd h (by simp [trips])⟩
      | cons l ls =>
        obtain ⟨u1, u2⟩ := List.pairwise_cons.mp hu
        obtain ⟨⟨p, n, o⟩, m⟩ := ih ls u2 fun t ht => hl t (List.mem_cons_of_mem _ ht)
        have hab := u1 b List.mem_cons_self
        refine ⟨⟨fun t ht => ?_, hl, List.pairwise_cons.mpr ⟨fun t ht => ?_, o⟩⟩, fun t ht => ?_⟩
        · rcases List.mem_cons.mp ht with e | ht
          · rw [e]; exact hab
          · exact p t ht
        · have q := (m t ht).1
          rcases List.mem_cons.mp q with e | q
          · show b ≤ t.1
            omega
          · have := (List.pairwise_cons.mp u2).1 t.1 q
            show b ≤ t.1
            omega
        · rcases List.mem_cons.mp ht with e | ht
          · rw [e]; exact ⟨by simp, by simp⟩
          · obtain ⟨q1, q2⟩ := m t ht
            exact ⟨List.mem_cons_of_mem _ q1, List.mem_cons_of_mem _ q2⟩
theorem either_ok {M : Line → Line → Line} (hM : ∀ l m, NLine l → NLine m → NLine (M l m) ∧ ∀ x, inLine (M l m) x ↔ inLine l x ∨ inLine m x) {one other : Reg} {cuts : List Int} (c1 : CReg one) (c2 : CReg other) (hu : Up cuts)
    (hc : ∀ z, z ∈ cuts ↔ z ∈ endsOf one ∨ z ∈ endsOf other) : CReg (eitherReg M cuts one other) ∧ ∀ x y, inReg (eitherReg M cuts one other) x y ↔ inReg one x y ∨ inReg other x y := by
  have main : ∀ t ∈ trips cuts (mixLines M (linesAt cuts one) (linesAt cuts other)), NLine t.2.2 ∧ ∀ x y, t.1 ≤ y → y < t.2.1 → (inLine t.2.2 x ↔ inReg one x y ∨ inReg other x y) := by
    cases e : cuts with
    | nil => exact fun t ht => absurd ht (by simp [trips])
    | cons low cs =>
      rw [e] at hu hc
      exact either_trips hM cs one other one other low hu c1 c2 c1 c2 (fun _ h => h) (fun _ h => h) (fun b hb => .inl ((hc _).mpr (.inl (endsOf_mem hb).1))) (fun b hb => .inl ((hc _).mpr (.inl (endsOf_mem hb).2)))
        (fun b hb => .inl ((hc _).mpr (.inr (endsOf_mem hb).1))) (fun b hb => .inl ((hc _).mpr (.inr (endsOf_mem hb).2))) (fun _ _ _ => Iff.rfl) (fun _ _ _ => Iff.rfl)
  obtain ⟨T, tm⟩ := trips_ord cuts _ hu fun t ht => (main t ht).1
  obtain ⟨k1, k2⟩ := bandedT_ok T
  refine ⟨k1, fun x y => ?_⟩
  unfold eitherReg
  rw [k2 x y]
  constructor
  · rintro ⟨t, ht, h1, h2, h3⟩
    exact ((main t ht).2 x y h1 h2).mp h3
  · intro h
    have hz : ∃ a b, a ∈ cuts ∧ b ∈ cuts ∧ a ≤ y ∧ y < b := by
      rcases h with ⟨b, hb, q1, q2, _⟩ | ⟨b, hb, q1, q2, _⟩
      · exact ⟨b.1, b.2.1, (hc _).mpr (.inl (endsOf_mem hb).1), (hc _).mpr (.inl (endsOf_mem hb).2), q1, q2⟩
      · exact ⟨b.1, b.2.1, (hc _).mpr (.inr (endsOf_mem hb).1), (hc _).mpr (.inr (endsOf_mem hb).2), q1, q2⟩
    obtain ⟨a, b, ha, hb, q1, q2⟩ := hz
    obtain ⟨p, q, pre, post, e, p1, p2⟩ := cut_at hu ha hb q1 q2
    have hl : (mixLines M (linesAt cuts one) (linesAt cuts other)).length = cuts.length - 1 := by
      unfold mixLines
      rw [List.length_map, List.length_zip, linesAt_len, linesAt_len]
      omega
    obtain ⟨l, hm⟩ := trips_mem hl e
    exact ⟨_, hm, p1, p2, ((main _ hm).2 x y p1 p2).mpr h⟩
theorem either_regOf {M : Line → Line → Line} (hM : ∀ l m, NLine l → NLine m → NLine (M l m) ∧ ∀ x, inLine (M l m) x ↔ inLine l x ∨ inLine m x) {rs qs : List Rect} {cuts : List Int} (hr : Valid rs) (hq : Valid qs) (hu : Up cuts)
    (hc : ∀ z, z ∈ cuts ↔ z ∈ endsOf (regOf rs) ∨ z ∈ endsOf (regOf qs)) : eitherReg M cuts (regOf rs) (regOf qs) = regOf (rs ++ qs) := by
  obtain ⟨k1, k2⟩ := either_ok hM (regOf_is hr).can (regOf_is hq).can hu hc
  refine is_regOf (fun r h => ?_) k1 fun x y => ?_
  · rcases List.mem_append.mp h with h | h
    · exact hr r h
    · exact hq r h
  · rw [k2 x y, (regOf_is hr).cov, (regOf_is hq).cov]
    constructor
    · rintro (⟨r, h, q⟩ | ⟨r, h, q⟩)
      · exact ⟨r, List.mem_append_left _ h, q⟩
      · exact ⟨r, List.mem_append_right _ h, q⟩
    · rintro ⟨r, h, q⟩
      rcases List.mem_append.mp h with h | h
      · exact .inl ⟨r, h, q⟩
      · exact .inr ⟨r, h, q⟩
end Mw
end
section
set_option autoImplicit false
/-! Turns; houses laid flat. -/
namespace Mw
/-! ### turns -/
def mirr (r : Rect) : Rect := (-r.2.2.1, r.2.1, -r.1, r.2.2.2)
def quart (r : Rect) : Rect := (-r.2.2.2, r.1, -r.2.1, r.2.2.1)
def quarts : Nat → Rect → Rect
  | 0, r => r
  | n + 1, r => quart (quarts n r)
def turnR (t dx dy : Int) (r : Rect) : Rect :=
  let q := quarts (t % 4).toNat (if 3 < t then mirr r else r)
  (q.1 + dx, q.2.1 + dy, q.2.2.1 + dx, q.2.2.2 + dy)
def turnP (t dx dy : Int) (p : Int × Int) : Int × Int :=
  let r := turnR t dx dy (p.1, p.2, p.1 + 1, p.2 + 1)
  (r.1, r.2.1)
def swaps : Nat → Int × Int → Int × Int
  | 0, p => p
  | n + 1, p => (-(swaps n p).2, (swaps n p).1)
/-- a corner's point -/
def turnC (t dx dy : Int) (p : Int × Int) : Int × Int :=
  let q := swaps (t % 4).toNat (if 3 < t then (-p.1, p.2) else p)
  (q.1 + dx, q.2 + dy)
def afterT (one other : Int) : Int := (other + (if 3 < other then -(one % 4) else one % 4)) % 4 + 4 * ((one / 4 + other / 4) % 2)
def backT (t : Int) : Int := if 3 < t then t else -t % 4
abbrev Tn (t : Int) : Prop := 0 ≤ t ∧ t ≤ 7
theorem tn_cases {t : Int} (h : Tn t) : t = 0 ∨ t = 1 ∨ t = 2 ∨ t = 3 ∨ t = 4 ∨ t = 5 ∨ t = 6 ∨ t = 7 := by
  obtain ⟨h1, h2⟩ := h
  omega
theorem afterT_tn {a b : Int} : Tn (afterT a b) := by
  unfold afterT Tn
  omega
theorem turnR_0 (dx dy : Int) (r : Rect) : turnR 0 dx dy r = (r.1 + dx, r.2.1 + dy, r.2.2.1 + dx, r.2.2.2 + dy) := rfl
theorem turnR_1 (dx dy : Int) (r : Rect) : turnR 1 dx dy r = (-r.2.2.2 + dx, r.1 + dy, -r.2.1 + dx, r.2.2.1 + dy) := rfl
theorem turnR_2 (dx dy : Int) (r : Rect) : turnR 2 dx dy r = (-r.2.2.1 + dx, -r.2.2.2 + dy, -r.1 + dx, -r.2.1 + dy) := rfl
theorem turnR_3 (dx dy : Int) (r : Rect) : turnR 3 dx dy r = (-(-r.2.1) + dx, -r.2.2.1 + dy, -(-r.2.2.2) + dx, -r.1 + dy) := rfl
theorem turnR_4 (dx dy : Int) (r : Rect) : turnR 4 dx dy r = (-r.2.2.1 + dx, r.2.1 + dy, -r.1 + dx, r.2.2.2 + dy) := rfl
theorem turnR_5 (dx dy : Int) (r : Rect) : turnR 5 dx dy r = (-r.2.2.2 + dx, -r.2.2.1 + dy, -r.2.1 + dx, -r.1 + dy) := rfl
theorem turnR_6 (dx dy : Int) (r : Rect) : turnR 6 dx dy r = (-(-r.1) + dx, -r.2.2.2 + dy, -(-r.2.2.1) + dx, -r.2.1 + dy) := rfl
theorem turnR_7 (dx dy : Int) (r : Rect) : turnR 7 dx dy r = (-(-r.2.1) + dx, -(-r.1) + dy, -(-r.2.2.2) + dx, -(-r.2.2.1) + dy) := rfl
theorem turnC_0 (dx dy : Int) (p : Int × Int) : turnC 0 dx dy p = (p.1 + dx, p.2 + dy) := rfl
theorem turnC_1 (dx dy : Int) (p : Int × Int) : turnC 1 dx dy p = (-p.2 + dx, p.1 + dy) := rfl
theorem turnC_2 (dx dy : Int) (p : Int × Int) : turnC 2 dx dy p = (-p.1 + dx, -p.2 + dy) := rfl
theorem turnC_3 (dx dy : Int) (p : Int × Int) : turnC 3 dx dy p = (-(-p.2) + dx, -p.1 + dy) := rfl
theorem turnC_4 (dx dy : Int) (p : Int × Int) : turnC 4 dx dy p = (-p.1 + dx, p.2 + dy) := rfl
theorem turnC_5 (dx dy : Int) (p : Int × Int) : turnC 5 dx dy p = (-p.2 + dx, -p.1 + dy) := rfl
theorem turnC_6 (dx dy : Int) (p : Int × Int) : turnC 6 dx dy p = (-(-p.1) + dx, -p.2 + dy) := rfl
theorem turnC_7 (dx dy : Int) (p : Int × Int) : turnC 7 dx dy p = (-(-p.2) + dx, -(-p.1) + dy) := rfl
theorem rect_ext {r q : Rect} (h1 : r.1 = q.1) (h2 : r.2.1 = q.2.1) (h3 : r.2.2.1 = q.2.2.1) (h4 : r.2.2.2 = q.2.2.2) : r = q := Prod.ext h1 (Prod.ext h2 (Prod.ext h3 h4))
/-- one turn behind another -/
theorem turn_turn {a b : Int} (ha : Tn a) (hb : Tn b) (x y dx dy : Int) (r : Rect) : turnR (afterT a b) (turnC b dx dy (x, y)).1 (turnC b dx dy (x, y)).2 r = turnR b dx dy (turnR a x y r) := by
  rcases tn_cases ha with e | e | e | e | e | e | e | e <;> subst e <;> rcases tn_cases hb with e | e | e | e | e | e | e | e <;> subst e
  all_goals
    first
      | rw [show afterT _ _ = (0 : Int) from by decide]
      | rw [show afterT _ _ = (1 : Int) from by decide]
      | rw [show afterT _ _ = (2 : Int) from by decide]
      | rw [show afterT _ _ = (3 : Int) from by decide]
      | rw [show afterT _ _ = (4 : Int) from by decide]
      | rw [show afterT _ _ = (5 : Int) from by decide]
      | rw [show afterT _ _ = (6 : Int) from by decide]
      | rw [show afterT _ _ = (7 : Int) from by decide]
    simp only [turnR_0, turnR_1, turnR_2, turnR_3, turnR_4, turnR_5, turnR_6, turnR_7, turnC_0, turnC_1, turnC_2, turnC_3, turnC_4, turnC_5, turnC_6, turnC_7]
    apply rect_ext <;> simp only <;> omega
theorem turn_back {t : Int} (h : Tn t) (r : Rect) : turnR (backT t) 0 0 (turnR t 0 0 r) = r := by
  rcases tn_cases h with e | e | e | e | e | e | e | e <;> subst e
  all_goals
    first
      | rw [show backT _ = (0 : Int) from by decide]
      | rw [show backT _ = (1 : Int) from by decide]
      | rw [show backT _ = (2 : Int) from by decide]
      | rw [show backT _ = (3 : Int) from by decide]
      | rw [show backT _ = (4 : Int) from by decide]
      | rw [show backT _ = (5 : Int) from by decide]
      | rw [show backT _ = (6 : Int) from by decide]
      | rw [show backT _ = (7 : Int) from by decide]
    simp only [turnR_0, turnR_1, turnR_2, turnR_3, turnR_4, turnR_5, turnR_6, turnR_7]
    apply rect_ext <;> simp only <;> omega
theorem backT_tn {t : Int} (h : Tn t) : Tn (backT t) := by
  unfold backT Tn
  split
  · exact h
  · omega
theorem turn_none (r : Rect) : turnR 0 0 0 r = r := by
  rw [turnR_0]
  apply rect_ext <;> simp
abbrev ValidR (r : Rect) : Prop := r.1 < r.2.2.1 ∧ r.2.1 < r.2.2.2
theorem turn_valid {t : Int} (h : Tn t) {dx dy : Int} {r : Rect} (hv : ValidR r) : ValidR (turnR t dx dy r) := by
  obtain ⟨v1, v2⟩ := hv
  rcases tn_cases h with e | e | e | e | e | e | e | e <;> subst e <;> simp only [turnR_0, turnR_1, turnR_2, turnR_3, turnR_4, turnR_5, turnR_6, turnR_7] <;> constructor <;> simp only <;> omega
/-- the place that is turned to a place -/
theorem turn_place {t : Int} (h : Tn t) (dx dy x y : Int) : ∃ x' y' : Int, ∀ r : Rect, ((turnR t dx dy r).1 ≤ x ∧ x < (turnR t dx dy r).2.2.1 ∧ (turnR t dx dy r).2.1 ≤ y ∧ y < (turnR t dx dy r).2.2.2) ↔ (r.1 ≤ x' ∧ x' < r.2.2.1 ∧ r.2.1 ≤ y' ∧ y' < r.2.2.2) := by
  rcases tn_cases h with e | e | e | e | e | e | e | e <;> subst e
  · exact ⟨x - dx, y - dy, fun r => by simp only [turnR_0]; omega⟩
  · exact ⟨y - dy, -(x - dx) - 1, fun r => by simp only [turnR_1]; omega⟩
  · exact ⟨-(x - dx) - 1, -(y - dy) - 1, fun r => by simp only [turnR_2]; omega⟩
  · exact ⟨-(y - dy) - 1, x - dx, fun r => by simp only [turnR_3]; omega⟩
  · exact ⟨-(x - dx) - 1, y - dy, fun r => by simp only [turnR_4]; omega⟩
  · exact ⟨-(y - dy) - 1, -(x - dx) - 1, fun r => by simp only [turnR_5]; omega⟩
  · exact ⟨x - dx, -(y - dy) - 1, fun r => by simp only [turnR_6]; omega⟩
  · exact ⟨y - dy, x - dx, fun r => by simp only [turnR_7]; omega⟩
theorem turn_cov {t : Int} (h : Tn t) (dx dy : Int) {as bs : List Rect} (e : ∀ x y, inRects as x y ↔ inRects bs x y) (x y : Int) : inRects (as.map (turnR t dx dy)) x y ↔ inRects (bs.map (turnR t dx dy)) x y := by
  obtain ⟨x', y', k⟩ := turn_place h dx dy x y
  have key : ∀ l : List Rect, inRects (l.map (turnR t dx dy)) x y ↔ inRects l x' y' := fun l => by
    constructor
    · rintro ⟨q, hq, z⟩
      obtain ⟨r, hr, e⟩ := List.mem_map.mp hq
      rw [← e] at z
      exact ⟨r, hr, (k r).mp z⟩
    · rintro ⟨r, hr, z⟩
      exact ⟨_, List.mem_map.mpr ⟨r, hr, rfl⟩, (k r).mpr z⟩
  rw [key, key, e]
theorem valid_map {t : Int} (h : Tn t) {dx dy : Int} {rs : List Rect} (hv : Valid rs) : Valid (rs.map (turnR t dx dy)) := fun r hr => by
  obtain ⟨q, hq, e⟩ := List.mem_map.mp hr
  rw [← e]
  exact turn_valid h (hv q hq)
/-- a region turned -/
theorem turned_regOf {t : Int} (h : Tn t) (dx dy : Int) {rs : List Rect} (hv : Valid rs) : regOf ((rectsOf (regOf rs)).map (turnR t dx dy)) = regOf (rs.map (turnR t dx dy)) :=
  regOf_eq (valid_map h (rectsOf_valid (regOf_is hv).can)) (valid_map h hv) (turn_cov h dx dy fun x y => by rw [rectsOf_cov, (regOf_is hv).cov])
theorem turnP_unit {t : Int} (h : Tn t) (dx dy : Int) (p : Int × Int) : turnR t dx dy (p.1, p.2, p.1 + 1, p.2 + 1) = ((turnP t dx dy p).1, (turnP t dx dy p).2, (turnP t dx dy p).1 + 1, (turnP t dx dy p).2 + 1) := by
  unfold turnP
  rcases tn_cases h with e | e | e | e | e | e | e | e <;> subst e <;> simp only [turnR_0, turnR_1, turnR_2, turnR_3, turnR_4, turnR_5, turnR_6, turnR_7] <;> apply rect_ext <;> simp only <;> omega
theorem turnP_turn {a b : Int} (ha : Tn a) (hb : Tn b) (x y dx dy : Int) (p : Int × Int) : turnP (afterT a b) (turnC b dx dy (x, y)).1 (turnC b dx dy (x, y)).2 p = turnP b dx dy (turnP a x y p) := by
  have e : turnP b dx dy (turnP a x y p) = ((turnR b dx dy (turnR a x y (p.1, p.2, p.1 + 1, p.2 + 1))).1, (turnR b dx dy (turnR a x y (p.1, p.2, p.1 + 1, p.2 + 1))).2.1) := by
    rw [turnP_unit ha]
    rfl
  rw [e, ← turn_turn ha hb]
  rfl
theorem turnP_back {t : Int} (h : Tn t) (p : Int × Int) : turnP (backT t) 0 0 (turnP t 0 0 p) = p := by
  have e : turnP (backT t) 0 0 (turnP t 0 0 p) = ((turnR (backT t) 0 0 (turnR t 0 0 (p.1, p.2, p.1 + 1, p.2 + 1))).1, (turnR (backT t) 0 0 (turnR t 0 0 (p.1, p.2, p.1 + 1, p.2 + 1))).2.1) := by
    rw [turnP_unit h]
    rfl
  rw [e, turn_back h]
theorem turnP_none (p : Int × Int) : turnP 0 0 0 p = p := by
  unfold turnP
  rw [turn_none]

/-! ### houses -/
section
variable {N : Type} [DecidableEq N]
abbrev LRect (N : Type) := N × Rect
abbrev Mark (N : Type) := N × N × Int × Int
abbrev Use (N : Type) := N × Int × Int × Int
abbrev Body (N : Type) := List (LRect N) × List (Mark N) × List (Use N)
abbrev Cell (N : Type) := N × Body N
abbrev House (N : Type) := List (Cell N)
def look {α : Type} : List (N × α) → N → Option α
  | [], _ => none
  | c :: h, n => if c.1 = n then some c.2 else look h n
theorem look_append {α : Type} : ∀ (a b : List (N × α)) (n : N), n ∈ a.map (·.1) → look (a ++ b) n = look a n
  | [], _, _, h => absurd h (by simp)
  | c :: a, b, n, h => by
    show (if c.1 = n then some c.2 else look (a ++ b) n) = if c.1 = n then some c.2 else look a n
    by_cases e : c.1 = n
    · rw [if_pos e, if_pos e]
    · rw [if_neg e, if_neg e]
      refine look_append a b n ?_
      rw [List.map_cons] at h
      rcases List.mem_cons.mp h with z | z
      · exact absurd z.symm e
      · exact z
theorem look_not {α : Type} : ∀ (a b : List (N × α)) (n : N), n ∉ a.map (·.1) → look (a ++ b) n = look b n
  | [], _, _, _ => rfl
  | c :: a, b, n, h => by
    rw [List.map_cons, List.mem_cons, not_or] at h
    show (if c.1 = n then some c.2 else look (a ++ b) n) = look b n
    rw [if_neg (fun e => h.1 e.symm)]
    exact look_not a b n h.2
theorem look_some {α : Type} : ∀ {a : List (N × α)} {n : N}, n ∈ a.map (·.1) → ∃ v, look a n = some v ∧ (n, v) ∈ a
  | [], _, h => absurd h (by simp)
  | c :: a, n, h => by
    by_cases e : c.1 = n
    · refine ⟨c.2, by show (if c.1 = n then _ else _) = _; rw [if_pos e], ?_⟩
      rw [← e]
      exact List.mem_cons_self
    · have h' : n ∈ a.map (·.1) := by
        rw [List.map_cons] at h
        rcases List.mem_cons.mp h with z | z
        · exact absurd z.symm e
        · exact z
      obtain ⟨v, h1, h2⟩ := look_some h'
      exact ⟨v, by show (if c.1 = n then _ else _) = _; rw [if_neg e]; exact h1, List.mem_cons_of_mem _ h2⟩
theorem look_mem {α : Type} : ∀ {a : List (N × α)} {n : N} {v : α}, look a n = some v → (n, v) ∈ a
  | [], _, _, h => by cases h
  | c :: a, n, v, h => by
    have h : (if c.1 = n then some c.2 else look a n) = some v := h
    by_cases e : c.1 = n
    · rw [if_pos e] at h
      cases h
      rw [← e]
      exact List.mem_cons_self
    · rw [if_neg e] at h
      exact List.mem_cons_of_mem _ (look_mem h)
/-- each cell uses only cells ahead, its turns are turns, its rectangles have places, names differ -/
structure CellOk (ahead : List N) (c : Cell N) : Prop where
  new : c.1 ∉ ahead
  uses : ∀ u ∈ c.2.2.2, u.1 ∈ ahead ∧ Tn u.2.1
  rects : ∀ r ∈ c.2.1, ValidR r.2
def HouseOk : List N → House N → Prop
  | _, [] => True
  | ahead, c :: h => CellOk ahead c ∧ HouseOk (ahead ++ [c.1]) h
theorem HouseOk.append : ∀ {a b : House N} {ahead : List N}, HouseOk ahead (a ++ b) ↔ HouseOk ahead a ∧ HouseOk (ahead ++ a.map (·.1)) b
  | [], b, ahead => by simp [HouseOk]
  | c :: a, b, ahead => by
    show CellOk ahead c ∧ HouseOk (ahead ++ [c.1]) (a ++ b) ↔ (CellOk ahead c ∧ HouseOk (ahead ++ [c.1]) a) ∧ _
    rw [HouseOk.append (a := a), List.append_assoc, and_assoc]
    rfl
theorem HouseOk.cell : ∀ {h : House N} {ahead : List N} {c : Cell N}, HouseOk ahead h → c ∈ h → ∃ pre post, h = pre ++ c :: post ∧ CellOk (ahead ++ pre.map (·.1)) c
  | [], _, _, _, hc => absurd hc (by simp)
  | d :: h, ahead, c, H, hc => by
    rcases List.mem_cons.mp hc with e | hc
    · subst e
      exact ⟨[], h, rfl, by simpa using H.1⟩
    · obtain ⟨pre, post, e, k⟩ := H.2.cell hc
      exact ⟨d :: pre, post, by rw [e]; rfl, by rw [List.append_assoc] at k; exact k⟩
theorem HouseOk.names : ∀ {h : House N} {ahead : List N}, HouseOk ahead h → (∀ c ∈ h, c.1 ∉ ahead) ∧ (h.map (·.1)).Nodup
  | [], _, _ => ⟨fun _ h => absurd h (by simp), List.nodup_nil⟩
  | c :: h, ahead, H => by
    obtain ⟨a, b⟩ := HouseOk.names H.2
    refine ⟨fun d hd => ?_, ?_⟩
    · rcases List.mem_cons.mp hd with e | hd
      · rw [e]; exact H.1.new
      · exact fun z => a d hd (List.mem_append_left _ z)
    · rw [List.map_cons]
      refine List.nodup_cons.mpr ⟨fun z => ?_, b⟩
      obtain ⟨d, hd, e⟩ := List.mem_map.mp z
      exact a d hd (List.mem_append_right _ (List.mem_singleton.mpr e))

/-- the parts of a cell, n cells deep -/
def partsF : Nat → House N → N → Int → Int → Int → List (LRect N) × List (Mark N)
  | 0, _, _, _, _, _ => ([], [])
  | d + 1, h, n, t, dx, dy => match look h n with
    | none => ([], [])
    | some b => (b.1.map (fun r => (r.1, turnR t dx dy r.2)) ++ b.2.2.flatMap (fun u => (partsF d h u.1 (afterT u.2.1 t) (turnC t dx dy u.2.2).1 (turnC t dx dy u.2.2).2).1),
        b.2.1.map (fun m => (m.1, m.2.1, turnP t dx dy m.2.2)) ++ b.2.2.flatMap (fun u => (partsF d h u.1 (afterT u.2.1 t) (turnC t dx dy u.2.2).1 (turnC t dx dy u.2.2).2).2))
def turnLR (t dx dy : Int) (r : LRect N) : LRect N := (r.1, turnR t dx dy r.2)
def turnM (t dx dy : Int) (m : Mark N) : Mark N := (m.1, m.2.1, turnP t dx dy m.2.2)
theorem flatMap_congr {α β : Type} {f g : α → List β} : ∀ {l : List α}, (∀ x ∈ l, f x = g x) → l.flatMap f = l.flatMap g
  | [], _ => rfl
  | x :: l, h => by
    rw [List.flatMap_cons, List.flatMap_cons, h x List.mem_cons_self, flatMap_congr fun y hy => h y (List.mem_cons_of_mem _ hy)]
/-- the parts turned are the turned parts -/
theorem parts_turn : ∀ (d : Nat) (h : House N) (ahead : List N) (n : N) (t dx dy : Int), HouseOk ahead h → Tn t →
    (partsF d h n t dx dy).1 = (partsF d h n 0 0 0).1.map (turnLR t dx dy) ∧ (partsF d h n t dx dy).2 = (partsF d h n 0 0 0).2.map (turnM t dx dy)
  | 0, _, _, _, _, _, _, _, _ => ⟨rfl, rfl⟩
  | d + 1, h, ahead, n, t, dx, dy, H, ht => by
    unfold partsF
    cases e : look h n with
    | none => exact ⟨rfl, rfl⟩
    | some b =>
      obtain ⟨pre, post, eh, ok⟩ := H.cell (look_mem e)
      have tu : ∀ u ∈ b.2.2, Tn u.2.1 := fun u hu => (ok.uses u hu).2
      have ih := fun (u : Use N) (t dx dy : Int) (ht : Tn t) => parts_turn d h ahead u.1 t dx dy H ht
      have zero : Tn 0 := ⟨Int.le_refl _, by decide⟩
      simp only
      constructor
      · rw [List.map_append, List.map_map, List.map_flatMap]
        congr 1
        · refine List.map_congr_left fun r _ => ?_
          show (r.1, turnR t dx dy r.2) = (r.1, turnR t dx dy (turnR 0 0 0 r.2))
          rw [turn_none]
        · refine flatMap_congr fun u hu => ?_
          rw [(ih u _ _ _ afterT_tn).1, (ih u (afterT u.2.1 0) _ _ afterT_tn).1, List.map_map]
          refine List.map_congr_left fun r _ => ?_
          show (r.1, turnR (afterT u.2.1 t) (turnC t dx dy (u.2.2.1, u.2.2.2)).1 (turnC t dx dy (u.2.2.1, u.2.2.2)).2 r.2) = (r.1, turnR t dx dy (turnR (afterT u.2.1 0) (turnC 0 0 0 (u.2.2.1, u.2.2.2)).1 (turnC 0 0 0 (u.2.2.1, u.2.2.2)).2 r.2))
          rw [turn_turn (tu u hu) ht, turn_turn (tu u hu) zero, turn_none]
      · rw [List.map_append, List.map_map, List.map_flatMap]
        congr 1
        · refine List.map_congr_left fun r _ => ?_
          show (r.1, r.2.1, turnP t dx dy r.2.2) = (r.1, r.2.1, turnP t dx dy (turnP 0 0 0 r.2.2))
          rw [turnP_none]
        · refine flatMap_congr fun u hu => ?_
          rw [(ih u _ _ _ afterT_tn).2, (ih u (afterT u.2.1 0) _ _ afterT_tn).2, List.map_map]
          refine List.map_congr_left fun r _ => ?_
          show (r.1, r.2.1, turnP (afterT u.2.1 t) (turnC t dx dy (u.2.2.1, u.2.2.2)).1 (turnC t dx dy (u.2.2.1, u.2.2.2)).2 r.2.2) = (r.1, r.2.1, turnP t dx dy (turnP (afterT u.2.1 0) (turnC 0 0 0 (u.2.2.1, u.2.2.2)).1 (turnC 0 0 0 (u.2.2.1, u.2.2.2)).2 r.2.2))
          rw [turnP_turn (tu u hu) ht, turnP_turn (tu u hu) zero, turnP_none]
/-- what stands behind does nothing to the parts of a cell ahead -/
theorem parts_ahead {a b : House N} (H : HouseOk [] a) : ∀ (d : Nat) (n : N) (t dx dy : Int), n ∈ a.map (·.1) → partsF d (a ++ b) n t dx dy = partsF d a n t dx dy
  | 0, _, _, _, _, _ => rfl
  | d + 1, n, t, dx, dy, hn => by
    unfold partsF
    rw [look_append a b n hn]
    cases e : look a n with
    | none => rfl
    | some c =>
      obtain ⟨pre, post, eh, ok⟩ := H.cell (look_mem e)
      have ih : ∀ u ∈ c.2.2, ∀ t dx dy, partsF d (a ++ b) u.1 t dx dy = partsF d a u.1 t dx dy := fun u hu t dx dy => parts_ahead H d u.1 t dx dy (by
        have := (ok.uses u hu).1
        rw [List.nil_append] at this
        rw [eh, List.map_append]
        exact List.mem_append_left _ this)
      exact Prod.ext (congrArg (_ ++ ·) (flatMap_congr fun u hu => congrArg Prod.fst (ih u hu _ _ _))) (congrArg (_ ++ ·) (flatMap_congr fun u hu => congrArg Prod.snd (ih u hu _ _ _)))
/-- a cell is no more than d deep -/
def DeepOk : Nat → House N → N → Prop
  | 0, _, _ => False
  | d + 1, h, n => ∃ b, look h n = some b ∧ ∀ u ∈ b.2.2, DeepOk d h u.1
theorem DeepOk.more : ∀ {d : Nat} {h : House N} {n : N}, DeepOk d h n → DeepOk (d + 1) h n
  | 0, _, _, k => k.elim
  | _ + 1, _, _, ⟨b, e, k⟩ => ⟨b, e, fun u hu => (k u hu).more⟩
theorem DeepOk.mono {d e : Nat} {h : House N} {n : N} (k : DeepOk d h n) (le : d ≤ e) : DeepOk e h n := by
  induction le with
  | refl => exact k
  | step _ ih => exact ih.more
theorem parts_more : ∀ {d : Nat} {h : House N} {n : N} {t dx dy : Int}, DeepOk d h n → partsF (d + 1) h n t dx dy = partsF d h n t dx dy
  | 0, _, _, _, _, _, k => k.elim
  | d + 1, h, n, t, dx, dy, ⟨b, e, k⟩ => by
    have ih : ∀ u ∈ b.2.2, ∀ t dx dy, partsF (d + 1) h u.1 t dx dy = partsF d h u.1 t dx dy := fun u hu t dx dy => parts_more (k u hu)
    rw [partsF, partsF]
    rw [e]
    exact Prod.ext (congrArg (_ ++ ·) (flatMap_congr fun u hu => congrArg Prod.fst (ih u hu _ _ _))) (congrArg (_ ++ ·) (flatMap_congr fun u hu => congrArg Prod.snd (ih u hu _ _ _)))
theorem DeepOk.ahead {a b : House N} (H : HouseOk [] a) : ∀ {d : Nat} {n : N}, n ∈ a.map (·.1) → (DeepOk d (a ++ b) n ↔ DeepOk d a n)
  | 0, _, _ => Iff.rfl
  | d + 1, n, hn => by
    unfold DeepOk
    rw [look_append a b n hn]
    have key : ∀ c, look a n = some c → ∀ u ∈ c.2.2, (DeepOk d (a ++ b) u.1 ↔ DeepOk d a u.1) := fun c e u hu => by
      obtain ⟨pre, post, eh, ok⟩ := H.cell (look_mem e)
      refine DeepOk.ahead H ?_
      have := (ok.uses u hu).1
      rw [List.nil_append] at this
      rw [eh, List.map_append]
      exact List.mem_append_left _ this
    constructor
    · rintro ⟨c, e, k⟩
      exact ⟨c, e, fun u hu => (key c e u hu).mp (k u hu)⟩
    · rintro ⟨c, e, k⟩
      exact ⟨c, e, fun u hu => (key c e u hu).mpr (k u hu)⟩

/-! ### sizes -/
abbrev Size := Int × Int
def muchOf (found : List (N × Size)) (us : List (Use N)) : Int := (us.map fun u => ((look found u.1).getD (0, 0)).1).sum
def maxZ : List Int → Int
  | [] => 0
  | x :: l => if maxZ l < x then x else maxZ l
def deepOf (found : List (N × Size)) (us : List (Use N)) : Int := maxZ (us.map fun u => ((look found u.1).getD (0, 0)).2)
def sizeOf1 (found : List (N × Size)) (b : Body N) : Size := ((b.1.length : Int) + b.2.1.length + b.2.2.length + muchOf found b.2.2, 1 + deepOf found b.2.2)
def szStep (found : List (N × Size)) (c : Cell N) : List (N × Size) := found ++ [(c.1, sizeOf1 found c.2)]
def sizesL (h : House N) : List (N × Size) := h.foldl szStep []
theorem sz_names : ∀ (h : House N) (f : List (N × Size)), (h.foldl szStep f).map (·.1) = f.map (·.1) ++ h.map (·.1)
  | [], f => by simp
  | c :: h, f => by
    rw [List.foldl_cons, sz_names h, szStep, List.map_append, List.map_cons, List.append_assoc]
    rfl
theorem sz_ext : ∀ (h : House N) (f : List (N × Size)), ∃ more, h.foldl szStep f = f ++ more
  | [], f => ⟨[], by simp⟩
  | c :: h, f => by
    obtain ⟨m, e⟩ := sz_ext h (szStep f c)
    exact ⟨(c.1, sizeOf1 f c.2) :: m, by rw [List.foldl_cons, e, szStep, List.append_assoc]; rfl⟩
theorem sizesL_names (h : House N) : (sizesL h).map (·.1) = h.map (·.1) := by
  unfold sizesL
  rw [sz_names]
  rfl
theorem sizes_ahead {a b : House N} {n : N} (hn : n ∈ a.map (·.1)) : look (sizesL (a ++ b)) n = look (sizesL a) n := by
  unfold sizesL
  rw [List.foldl_append]
  obtain ⟨m, e⟩ := sz_ext b (a.foldl szStep [])
  rw [e]
  refine look_append _ _ _ ?_
  have := sizesL_names a
  unfold sizesL at this
  rw [this]
  exact hn
theorem maxZ_le : ∀ {l : List Int} {x : Int}, x ∈ l → x ≤ maxZ l
  | [], _, h => absurd h (by simp)
  | y :: l, x, h => by
    show x ≤ if maxZ l < y then y else maxZ l
    rcases List.mem_cons.mp h with e | h
    · split <;> omega
    · have := maxZ_le h
      split <;> omega
theorem maxZ_nn : ∀ l : List Int, 0 ≤ maxZ l
  | [] => Int.le_refl _
  | y :: l => by
    have := maxZ_nn l
    show 0 ≤ if maxZ l < y then y else maxZ l
    split <;> omega
theorem maxZ_mem : ∀ l : List Int, maxZ l = 0 ∨ maxZ l ∈ l
  | [] => .inl rfl
  | y :: l => by
    show (if maxZ l < y then y else maxZ l) = 0 ∨ (if maxZ l < y then y else maxZ l) ∈ y :: l
    split
    · exact .inr List.mem_cons_self
    · rcases maxZ_mem l with h | h
      · exact .inl h
      · exact .inr (List.mem_cons_of_mem _ h)
/-- what the sizes say of a cell -/
structure SizeInv (h : House N) : Prop where
  all : ∀ n v, look (sizesL h) n = some v → 0 ≤ v.1 ∧ 1 ≤ v.2 ∧ DeepOk v.2.toNat h n ∧ ∀ d t dx dy, ((partsF d h n t dx dy).1.length : Int) + (partsF d h n t dx dy).2.length ≤ v.1
theorem sum_le {α : Type} {f g : α → Int} : ∀ {l : List α}, (∀ x ∈ l, f x ≤ g x) → (l.map f).sum ≤ (l.map g).sum
  | [], _ => Int.le_refl _
  | x :: l, h => by
    have h1 := h x List.mem_cons_self
    have h2 := sum_le (l := l) fun y hy => h y (List.mem_cons_of_mem _ hy)
    rw [List.map_cons, List.map_cons, List.sum_cons, List.sum_cons]
    omega
theorem sum_nn {α : Type} {f : α → Int} {l : List α} (h : ∀ x ∈ l, 0 ≤ f x) : 0 ≤ (l.map f).sum := by
  induction l with
  | nil => exact Int.le_refl _
  | cons x l ih =>
    have h1 := h x List.mem_cons_self
    have h2 := ih fun y hy => h y (List.mem_cons_of_mem _ hy)
    rw [List.map_cons, List.sum_cons]
    omega
theorem flat_len {α β γ : Type} (f : α → List β) (g : α → List γ) : ∀ l : List α, (((l.flatMap f).length : Nat) : Int) + ((l.flatMap g).length : Nat) = (l.map fun x => ((f x).length : Int) + (g x).length).sum
  | [] => rfl
  | x :: l => by
    have := flat_len f g l
    rw [List.flatMap_cons, List.flatMap_cons, List.map_cons, List.sum_cons, List.length_append, List.length_append]
    omega
theorem sizeInv_nil : SizeInv ([] : House N) := ⟨fun n v e => by cases e⟩
theorem sizeInv_snoc {h : House N} {c : Cell N} (H : HouseOk [] (h ++ [c])) (I : SizeInv h) : SizeInv (h ++ [c]) := by
  have H1 := (HouseOk.append.mp H).1
  have ok : CellOk (h.map (·.1)) c := by
    have := (HouseOk.append.mp H).2.1
    rw [List.nil_append] at this
    exact this
  have es : sizesL (h ++ [c]) = sizesL h ++ [(c.1, sizeOf1 (sizesL h) c.2)] := by
    unfold sizesL
    rw [List.foldl_append]
    rfl
  refine ⟨fun n v e => ?_⟩
  by_cases hn : n ∈ h.map (·.1)
  · rw [sizes_ahead hn] at e
    obtain ⟨a, b, k, p⟩ := I.all n v e
    refine ⟨a, b, (DeepOk.ahead H1 hn).mpr k, fun d t dx dy => ?_⟩
    rw [parts_ahead H1 d n t dx dy hn]
    exact p d t dx dy
  · rw [es, look_not _ _ _ (by rw [sizesL_names]; exact hn)] at e
    have e' : (if c.1 = n then some (sizeOf1 (sizesL h) c.2) else none) = some v := e
    by_cases ec : c.1 = n
    · rw [if_pos ec] at e'
      cases e'
      have lk : look (h ++ [c]) n = some c.2 := by
        rw [look_not _ _ _ hn]
        show (if c.1 = n then some c.2 else none) = some c.2
        rw [if_pos ec]
      have us : ∀ u ∈ c.2.2.2, ∃ v, look (sizesL h) u.1 = some v := fun u hu => by
        have := (ok.uses u hu).1
        rw [← sizesL_names h] at this
        obtain ⟨v, e, _⟩ := look_some this
        exact ⟨v, e⟩
      have m0 : 0 ≤ muchOf (sizesL h) c.2.2.2 := sum_nn fun u hu => by
        obtain ⟨v, ev⟩ := us u hu
        rw [ev]
        exact (I.all _ _ ev).1
      have d0 : 0 ≤ deepOf (sizesL h) c.2.2.2 := maxZ_nn _
      refine ⟨by show 0 ≤ (_ : Int) + _ + _ + _; omega, by show 1 ≤ 1 + deepOf _ _; omega, ?_, fun d t dx dy => ?_⟩
      · show DeepOk (1 + deepOf (sizesL h) c.2.2.2).toNat (h ++ [c]) n
        obtain ⟨k, ek⟩ : ∃ k : Nat, deepOf (sizesL h) c.2.2.2 = k := ⟨(deepOf (sizesL h) c.2.2.2).toNat, by omega⟩
        rw [ek, show (1 + (k : Int)).toNat = k + 1 by omega]
        refine ⟨c.2, lk, fun u hu => ?_⟩
        obtain ⟨v, ev⟩ := us u hu
        refine (DeepOk.ahead H1 (ok.uses u hu).1).mpr ((I.all _ _ ev).2.2.1.mono ?_)
        have : v.2 ≤ deepOf (sizesL h) c.2.2.2 := maxZ_le (List.mem_map.mpr ⟨u, hu, by rw [ev]; rfl⟩)
        omega
      · cases d with
        | zero =>
          show ((0 : Nat) : Int) + ((0 : Nat) : Int) ≤ (_ : Int) + _ + _ + _
          omega
        | succ d =>
          rw [partsF, lk]
          simp only
          rw [List.length_append, List.length_append, List.length_map, List.length_map]
          have fl := flat_len (fun u : Use N => (partsF d (h ++ [c]) u.1 (afterT u.2.1 t) (turnC t dx dy u.2.2).1 (turnC t dx dy u.2.2).2).1) (fun u : Use N => (partsF d (h ++ [c]) u.1 (afterT u.2.1 t) (turnC t dx dy u.2.2).1 (turnC t dx dy u.2.2).2).2) c.2.2.2
          have le := sum_le (l := c.2.2.2) (f := fun u : Use N => ((partsF d (h ++ [c]) u.1 (afterT u.2.1 t) (turnC t dx dy u.2.2).1 (turnC t dx dy u.2.2).2).1.length : Int) + (partsF d (h ++ [c]) u.1 (afterT u.2.1 t) (turnC t dx dy u.2.2).1 (turnC t dx dy u.2.2).2).2.length)
            (g := fun u => ((look (sizesL h) u.1).getD (0, 0)).1) fun u hu => by
              obtain ⟨v, ev⟩ := us u hu
              rw [ev, parts_ahead H1 d u.1 _ _ _ (ok.uses u hu).1]
              exact (I.all _ _ ev).2.2.2 d _ _ _
          show _ ≤ (c.2.1.length : Int) + c.2.2.1.length + c.2.2.2.length + muchOf (sizesL h) c.2.2.2
          unfold muchOf
          omega
    · rw [if_neg ec] at e'
      cases e'
theorem sizeInv : ∀ {h : House N}, HouseOk [] h → SizeInv h := fun {h} H => by
  have key : ∀ (post pre : House N), HouseOk [] (pre ++ post) → SizeInv pre → SizeInv (pre ++ post) := by
    intro post
    induction post with
    | nil => intro pre _ I; rw [List.append_nil]; exact I
    | cons c post ih =>
      intro pre H I
      have e : pre ++ c :: post = (pre ++ [c]) ++ post := by rw [List.append_assoc]; rfl
      rw [e] at H ⊢
      exact ih (pre ++ [c]) H (sizeInv_snoc (HouseOk.append.mp H).1 I)
  exact key h [] H sizeInv_nil

/-! ### the cell in another order -/
theorem parts_other {pre post : House N} {n : N} {b b' : Body N} (H : HouseOk [] (pre ++ (n, b) :: post)) (h1 : ∀ r, r ∈ b'.1 ↔ r ∈ b.1) (h2 : ∀ m, m ∈ b'.2.1 ↔ m ∈ b.2.1) (h3 : ∀ u, u ∈ b'.2.2 ↔ u ∈ b.2.2) (d : Nat) (t dx dy : Int) :
    (∀ r, r ∈ (partsF d (pre ++ (n, b') :: post) n t dx dy).1 ↔ r ∈ (partsF d (pre ++ (n, b) :: post) n t dx dy).1) ∧ (∀ m, m ∈ (partsF d (pre ++ (n, b') :: post) n t dx dy).2 ↔ m ∈ (partsF d (pre ++ (n, b) :: post) n t dx dy).2) := by
  cases d with
  | zero => exact ⟨fun _ => Iff.rfl, fun _ => Iff.rfl⟩
  | succ d =>
    obtain ⟨H1, H2⟩ := HouseOk.append.mp H
    rw [List.nil_append] at H2
    have hn := H2.1.new
    have lk : ∀ c : Body N, look (pre ++ (n, c) :: post) n = some c := fun c => by
      rw [look_not _ _ _ hn]
      show (if n = n then some c else _) = _
      rw [if_pos rfl]
    rw [partsF, partsF, lk, lk]
    simp only
    have same : ∀ u ∈ b.2.2, ∀ t dx dy, partsF d (pre ++ (n, b') :: post) u.1 t dx dy = partsF d (pre ++ (n, b) :: post) u.1 t dx dy := fun u hu t dx dy => by
      rw [parts_ahead H1 d u.1 t dx dy (H2.1.uses u hu).1, parts_ahead H1 d u.1 t dx dy (H2.1.uses u hu).1]
    constructor
    · intro r
      rw [List.mem_append, List.mem_append, List.mem_map, List.mem_map, List.mem_flatMap, List.mem_flatMap]
      constructor
      · rintro (⟨q, hq, e⟩ | ⟨u, hu, e⟩)
        · exact .inl ⟨q, (h1 q).mp hq, e⟩
        · have hu' := (h3 u).mp hu
          rw [same u hu'] at e
          exact .inr ⟨u, hu', e⟩
      · rintro (⟨q, hq, e⟩ | ⟨u, hu, e⟩)
        · exact .inl ⟨q, (h1 q).mpr hq, e⟩
        · rw [← same u hu] at e
          exact .inr ⟨u, (h3 u).mpr hu, e⟩
    · intro r
      rw [List.mem_append, List.mem_append, List.mem_map, List.mem_map, List.mem_flatMap, List.mem_flatMap]
      constructor
      · rintro (⟨q, hq, e⟩ | ⟨u, hu, e⟩)
        · exact .inl ⟨q, (h2 q).mp hq, e⟩
        · have hu' := (h3 u).mp hu
          rw [same u hu'] at e
          exact .inr ⟨u, hu', e⟩
      · rintro (⟨q, hq, e⟩ | ⟨u, hu, e⟩)
        · exact .inl ⟨q, (h2 q).mpr hq, e⟩
        · rw [← same u hu] at e
          exact .inr ⟨u, (h3 u).mpr hu, e⟩
/-- all parts have places -/
theorem parts_valid : ∀ (d : Nat) (h : House N) (n : N) (t dx dy : Int), HouseOk [] h → Tn t → ∀ r ∈ (partsF d h n t dx dy).1, ValidR r.2
  | 0, _, _, _, _, _, _, _, r, hr => absurd hr (by simp [partsF])
  | d + 1, h, n, t, dx, dy, H, ht, r, hr => by
    rw [partsF] at hr
    cases e : look h n with
    | none => rw [e] at hr; exact absurd hr (by simp)
    | some b =>
      obtain ⟨pre, post, eh, ok⟩ := H.cell (look_mem e)
      rw [e] at hr
      simp only at hr
      rcases List.mem_append.mp hr with hr | hr
      · obtain ⟨q, hq, e⟩ := List.mem_map.mp hr
        rw [← e]
        exact turn_valid ht (ok.rects q hq)
      · obtain ⟨u, hu, hr⟩ := List.mem_flatMap.mp hr
        exact parts_valid d h u.1 _ _ _ H afterT_tn r hr
/-- the rectangles of a layer -/
def layerOf (l : N) (ps : List (LRect N)) : List Rect := (ps.filter fun r => decide (r.1 = l)).map (·.2)
theorem layerOf_append (l : N) (a b : List (LRect N)) : layerOf l (a ++ b) = layerOf l a ++ layerOf l b := by
  unfold layerOf
  rw [List.filter_append, List.map_append]
theorem layerOf_turn (l : N) (t dx dy : Int) (a : List (LRect N)) : layerOf l (a.map (turnLR t dx dy)) = (layerOf l a).map (turnR t dx dy) := by
  unfold layerOf
  rw [List.filter_map, List.map_map, List.map_map]
  rfl
theorem layerOf_len (l : N) (a : List (LRect N)) : (layerOf l a).length ≤ a.length := by
  unfold layerOf
  rw [List.length_map]
  exact List.length_filter_le ..
theorem layerOf_mem {l : N} {a : List (LRect N)} {r : Rect} : r ∈ layerOf l a ↔ (l, r) ∈ a := by
  unfold layerOf
  rw [List.mem_map]
  constructor
  · rintro ⟨q, hq, e⟩
    obtain ⟨h1, h2⟩ := List.mem_filter.mp hq
    have h3 : q.1 = l := of_decide_eq_true h2
    rw [← e, ← h3]
    exact h1
  · intro h
    exact ⟨(l, r), List.mem_filter.mpr ⟨h, decide_eq_true rfl⟩, rfl⟩
end
end Mw
end
section
set_option maxRecDepth 100000
set_option maxHeartbeats 2000000
/-! Data that stand in the heap as tuples; lists of them; sorted of such lists. -/
namespace Mw
open PySem PySem.Spec PyProof.Rows L2

/-! ### immutable data: numbers, texts, truths, None, tuples of these -/
mutual
inductive Is (H : Hp) : V → PyData → Prop
  | non : Is H .non .none
  | bl (b : Bool) : Is H (.bl b) (.bool b)
  | int (i : Int) : Is H (.int i) (.int i)
  | str (x : Str) : Is H (.str x) (.str x)
  | tup {a : Addr} {xs : List V} {ds : List PyData} : H a = some (.tup xs) → IsAll H xs ds → Is H (.ref a) (.tuple ds)
inductive IsAll (H : Hp) : List V → List PyData → Prop
  | nil : IsAll H [] []
  | cons {v : V} {vs : List V} {d : PyData} {ds : List PyData} : Is H v d → IsAll H vs ds → IsAll H (v :: vs) (d :: ds)
end
/-- a list of such data -/
def IsL (H : Hp) (a : Addr) (ds : List PyData) : Prop := ∃ xs, H a = some (.lst xs) ∧ IsAll H xs ds
/-- the tuples stay -/
def KT (H H' : Hp) : Prop := ∀ b xs, H b = some (.tup xs) → H' b = some (.tup xs)
theorem KT.refl (H : Hp) : KT H H := fun _ _ h => h
theorem KT.trans {H H1 H2 : Hp} (a : KT H H1) (b : KT H1 H2) : KT H H2 := fun c o h => b c o (a c o h)
theorem kt {H H' : Hp} (s : Same H H') : KT H H' := fun b _ h => s b _ h
theorem same_new {H : Hp} {p : Addr} (h : H p = none) (o : HO) : Same H (upd H p o) := fun b u q => by rw [upd_ne (ne_of_none q h)]; exact q
theorem kt_new {H : Hp} {p : Addr} (h : H p = none) (o : HO) : KT H (upd H p o) := kt (same_new h o)
/-- a store to what is no tuple -/
theorem kt_upd {H : Hp} {p : Addr} {u : HO} (h : H p = some u) (hu : ∀ xs, u ≠ .tup xs) (o : HO) : KT H (upd H p o) := fun b xs q => by
  rw [upd_ne]
  · exact q
  · rintro rfl
    rw [h] at q
    exact hu xs (Option.some.inj q)
theorem kt_lst {H : Hp} {p : Addr} {us : List V} (h : H p = some (.lst us)) (o : HO) : KT H (upd H p o) := kt_upd h (fun _ z => by cases z) o
/-- what was the same as before a new object stays the same through stores to that object -/
theorem same_upd {H0 H : Hp} {p : Addr} (s : Same H0 H) (hp : H0 p = none) (o : HO) : Same H0 (upd H p o) := fun b u q => by rw [upd_ne (ne_of_none q hp)]; exact s b u q

mutual
theorem Is.mono {H H' : Hp} (k : KT H H') : ∀ {v : V} {d : PyData}, Is H v d → Is H' v d
  | _, _, .non => .non
  | _, _, .bl b => .bl b
  | _, _, .int i => .int i
  | _, _, .str x => .str x
  | _, _, .tup h r => .tup (k _ _ h) (IsAll.mono k r)
theorem IsAll.mono {H H' : Hp} (k : KT H H') : ∀ {vs : List V} {ds : List PyData}, IsAll H vs ds → IsAll H' vs ds
  | _, _, .nil => .nil
  | _, _, .cons h r => .cons (Is.mono k h) (IsAll.mono k r)
end
mutual
theorem Is.dp {K : PySem.W.Frag} {H : Hp} : ∀ {v : V} {d : PyData}, Is H v d → Dp K H v d
  | _, _, .non => .non
  | _, _, .bl b => .bl b
  | _, _, .int i => .int i
  | _, _, .str x => .str x
  | _, _, .tup h r => .tup (SqT.of h) (IsAll.dp r)
theorem IsAll.dp {K : PySem.W.Frag} {H : Hp} : ∀ {vs : List V} {ds : List PyData}, IsAll H vs ds → DpAll K H vs ds
  | _, _, .nil => .nil
  | _, _, .cons h r => .cons (Is.dp h) (IsAll.dp r)
end
mutual
theorem Is.uniq {H : Hp} : ∀ {v : V} {d d' : PyData}, Is H v d → Is H v d' → d = d'
  | _, _, _, .non, h => by cases h; rfl
  | _, _, _, .bl b, h => by cases h; rfl
  | _, _, _, .int i, h => by cases h; rfl
  | _, _, _, .str x, h => by cases h; rfl
  | _, _, _, .tup h r, h' => by
    cases h' with
    | tup k q =>
      rw [h] at k
      cases k
      rw [IsAll.uniq r q]
theorem IsAll.uniq {H : Hp} : ∀ {vs : List V} {ds ds' : List PyData}, IsAll H vs ds → IsAll H vs ds' → ds = ds'
  | _, _, _, .nil, h => by cases h; rfl
  | _, _, _, .cons h r, h' => by
    cases h' with
    | cons k q => rw [Is.uniq h k, IsAll.uniq r q]
end
section
variable {H : Hp} {v : V} {vs ws : List V} {ds es : List PyData} {d : PyData}
theorem IsAll.length : ∀ {vs : List V} {ds : List PyData}, IsAll H vs ds → vs.length = ds.length
  | _, _, .nil => rfl
  | _, _, .cons _ r => congrArg (· + 1) (IsAll.length r)
theorem IsAll.get : ∀ {vs : List V} {ds : List PyData} {i : Nat} {v : V}, IsAll H vs ds → vs[i]? = some v → ∃ d, ds[i]? = some d ∧ Is H v d
  | _, _, _, _, .nil, h => by simp at h
  | _, _, 0, _, .cons h r, e => by
    cases e
    exact ⟨_, rfl, h⟩
  | _, _, i + 1, v, .cons h r, e => IsAll.get (i := i) (v := v) r e
theorem IsAll.at : ∀ {vs : List V} {ds : List PyData} {i : Nat} {d : PyData}, IsAll H vs ds → ds[i]? = some d → ∃ v, vs[i]? = some v ∧ Is H v d
  | _, _, _, _, .nil, h => by simp at h
  | _, _, 0, _, .cons h r, e => by
    cases e
    exact ⟨_, rfl, h⟩
  | _, _, i + 1, d, .cons h r, e => IsAll.at (i := i) (d := d) r e
theorem IsAll.append : ∀ {vs ws : List V} {ds es : List PyData}, IsAll H vs ds → IsAll H ws es → IsAll H (vs ++ ws) (ds ++ es)
  | _, _, _, _, .nil, k => k
  | _, _, _, _, .cons h r, k => .cons h (IsAll.append r k)
theorem IsAll.snoc (h : IsAll H vs ds) (k : Is H v d) : IsAll H (vs ++ [v]) (ds ++ [d]) := h.append (.cons k .nil)
theorem IsAll.one (k : Is H v d) : IsAll H [v] [d] := .cons k .nil
theorem IsAll.drop : ∀ {vs : List V} {ds : List PyData} (n : Nat), IsAll H vs ds → IsAll H (vs.drop n) (ds.drop n)
  | _, _, 0, h => h
  | _, _, _ + 1, .nil => .nil
  | _, _, n + 1, .cons _ r => IsAll.drop n r
theorem IsAll.take : ∀ {vs : List V} {ds : List PyData} (n : Nat), IsAll H vs ds → IsAll H (vs.take n) (ds.take n)
  | _, _, 0, _ => .nil
  | _, _, _ + 1, .nil => .nil
  | _, _, n + 1, .cons h r => .cons h (IsAll.take n r)
theorem IsAll.reverse : ∀ {vs : List V} {ds : List PyData}, IsAll H vs ds → IsAll H vs.reverse ds.reverse
  | _, _, .nil => .nil
  | _, _, .cons h r => by
    rw [List.reverse_cons, List.reverse_cons]
    exact (IsAll.reverse r).snoc h
theorem IsAll.cons_inv (h : IsAll H vs (d :: ds)) : ∃ v r, vs = v :: r ∧ Is H v d ∧ IsAll H r ds := by
  cases h with
  | cons a b => exact ⟨_, _, rfl, a, b⟩
theorem IsAll.nil_inv (h : IsAll H vs []) : vs = [] := by
  cases h
  rfl
theorem Is.tup_inv (h : Is H v (.tuple ds)) : ∃ a xs, v = .ref a ∧ H a = some (.tup xs) ∧ IsAll H xs ds := by
  cases h with
  | tup h r => exact ⟨_, _, rfl, h, r⟩
theorem Is.int_inv {i : Int} (h : Is H v (.int i)) : v = .int i := by
  cases h
  rfl
theorem Is.str_inv {x : Str} (h : Is H v (.str x)) : v = .str x := by
  cases h
  rfl
theorem Is.bl_inv {b : Bool} (h : Is H v (.bool b)) : v = .bl b := by
  cases h
  rfl
theorem IsAll.one_inv (h : IsAll H vs [d]) : ∃ v, vs = [v] ∧ Is H v d := by
  obtain ⟨v, r, rfl, a, b⟩ := h.cons_inv
  rw [b.nil_inv]
  exact ⟨v, rfl, a⟩
theorem IsAll.two_inv {d e : PyData} (h : IsAll H vs [d, e]) : ∃ v w, vs = [v, w] ∧ Is H v d ∧ Is H w e := by
  obtain ⟨v, r, rfl, a, b⟩ := h.cons_inv
  obtain ⟨w, rfl, c⟩ := b.one_inv
  exact ⟨v, w, rfl, a, c⟩
theorem IsAll.three_inv {d e f : PyData} (h : IsAll H vs [d, e, f]) : ∃ v w u, vs = [v, w, u] ∧ Is H v d ∧ Is H w e ∧ Is H u f := by
  obtain ⟨v, r, rfl, a, b⟩ := h.cons_inv
  obtain ⟨w, u, rfl, c, g⟩ := b.two_inv
  exact ⟨v, w, u, rfl, a, c, g⟩
theorem IsAll.four_inv {d e f g : PyData} (h : IsAll H vs [d, e, f, g]) : ∃ v w u t, vs = [v, w, u, t] ∧ Is H v d ∧ Is H w e ∧ Is H u f ∧ Is H t g := by
  obtain ⟨v, r, rfl, a, b⟩ := h.cons_inv
  obtain ⟨w, u, t, rfl, c, i, j⟩ := b.three_inv
  exact ⟨v, w, u, t, rfl, a, c, i, j⟩
theorem isAll_ints : ∀ (ns : List Int), IsAll H (ns.map V.int) (ns.map PyData.int)
  | [] => .nil
  | n :: ns => .cons (.int n) (isAll_ints ns)
theorem ints_inv : ∀ {vs : List V} {ns : List Int}, IsAll H vs (ns.map PyData.int) → vs = ns.map V.int
  | vs, [], h => by rw [h.nil_inv]; rfl
  | vs, n :: ns, h => by
    obtain ⟨v, r, rfl, a, b⟩ := IsAll.cons_inv (d := .int n) (ds := ns.map PyData.int) h
    rw [a.int_inv, ints_inv b]
    rfl
theorem bools_inv : ∀ {vs : List V} {ns : List Bool}, IsAll H vs (ns.map PyData.bool) → vs = ns.map V.bl
  | vs, [], h => by rw [h.nil_inv]; rfl
  | vs, n :: ns, h => by
    obtain ⟨v, r, rfl, a, b⟩ := IsAll.cons_inv (d := .bool n) (ds := ns.map PyData.bool) h
    rw [a.bl_inv, bools_inv b]
    rfl
theorem strs_inv : ∀ {vs : List V} {ns : List Str}, IsAll H vs (ns.map PyData.str) → vs = ns.map V.str
  | vs, [], h => by rw [h.nil_inv]; rfl
  | vs, n :: ns, h => by
    obtain ⟨v, r, rfl, a, b⟩ := IsAll.cons_inv (d := .str n) (ds := ns.map PyData.str) h
    rw [a.str_inv, strs_inv b]
    rfl
theorem IsL.mono {H H' : Hp} {a : Addr} {ds : List PyData} (s : Same H H') (h : IsL H a ds) : IsL H' a ds := by
  obtain ⟨xs, h1, h2⟩ := h
  exact ⟨xs, s _ _ h1, h2.mono (kt s)⟩
theorem isL_new {H : Hp} {a : Addr} {xs : List V} {ds : List PyData} (hn : H a = none) (h : IsAll H xs ds) : IsL (upd H a (.lst xs)) a ds := ⟨xs, upd_same, h.mono (kt_new hn _)⟩
theorem is_new {H : Hp} {a : Addr} {xs : List V} {ds : List PyData} (hn : H a = none) (h : IsAll H xs ds) : Is (upd H a (.tup xs)) (.ref a) (.tuple ds) := .tup upd_same (h.mono (kt_new hn _))
end

/-! ### equality of data without truths -/
mutual
def plainD : PyData → Bool
  | .none => true
  | .int _ => true
  | .str _ => true
  | .tuple xs => plainA xs
  | _ => false
def plainA : List PyData → Bool
  | [] => true
  | x :: xs => plainD x && plainA xs
end
mutual
theorem eqv_plain : ∀ d e : PyData, plainD d = true → plainD e = true → (PyData.eqv d e = true ↔ d = e)
  | .none, e, _, h => by cases e <;> simp [PyData.eqv, plainD] at h ⊢
  | .int i, e, _, h => by cases e <;> simp [PyData.eqv, plainD] at h ⊢
  | .str x, e, _, h => by cases e <;> simp [PyData.eqv, plainD] at h ⊢
  | .tuple xs, .tuple ys, h1, h2 => by
    have q := eqvAll_plain xs ys (by simpa [plainD] using h1) (by simpa [plainD] using h2)
    show PyData.eqvAll xs ys = true ↔ _
    rw [q]
    simp
  | .tuple xs, .none, _, _ => by simp [PyData.eqv]
  | .tuple xs, .int _, _, _ => by simp [PyData.eqv]
  | .tuple xs, .str _, _, _ => by simp [PyData.eqv]
  | .tuple xs, .bool _, _, h => by simp [plainD] at h
  | .tuple xs, .list _, _, h => by simp [plainD] at h
  | .tuple xs, .dict _, _, h => by simp [plainD] at h
  | .bool _, _, h, _ => by simp [plainD] at h
  | .list _, _, h, _ => by simp [plainD] at h
  | .dict _, _, h, _ => by simp [plainD] at h
theorem eqvAll_plain : ∀ xs ys : List PyData, plainA xs = true → plainA ys = true → (PyData.eqvAll xs ys = true ↔ xs = ys)
  | [], [], _, _ => by simp [PyData.eqvAll]
  | [], _ :: _, _, _ => by simp [PyData.eqvAll]
  | _ :: _, [], _, _ => by simp [PyData.eqvAll]
  | x :: xs, y :: ys, h1, h2 => by
    rw [plainA, Bool.and_eq_true] at h1 h2
    rw [PyData.eqvAll, Bool.and_eq_true, eqv_plain x y h1.1 h2.1, eqvAll_plain xs ys h1.2 h2.2]
    simp
end
theorem eqv_dec {d e : PyData} (h1 : plainD d = true) (h2 : plainD e = true) [Decidable (d = e)] : PyData.eqv d e = decide (d = e) := by
  have q := eqv_plain d e h1 h2
  by_cases c : d = e
  · rw [decide_eq_true c]
    exact q.mpr c
  · rw [decide_eq_false c]
    cases z : PyData.eqv d e with
    | false => rfl
    | true => exact absurd (q.mp z) c

/-! ### sorted -/
theorem each_all {H : Hp} {X : Cx} {pins : List (Addr × Obj)} {σ : L2.St} {s : Shared} (I : Inv X pins σ H s) : ∀ {ds : List PyData} {xs : List V} {us : List Value}, IsAll H xs ds → Vals xs us →
    PySem.W.EachIs (fun u d => ∃ v, Is H v d ∧ RelV v u) us ds
  | _, _, _, .nil, .nil => .nil
  | _, _, _, .cons h r, .cons a b => .cons ⟨_, h, a⟩ (each_all I r b)
theorem all_each {H : Hp} : ∀ {us : List Value} {ds : List PyData}, PySem.W.EachIs (fun u d => ∃ v, Is H v d ∧ RelV v u) us ds → ∃ xs, Vals xs us ∧ IsAll H xs ds
  | _, _, .nil => ⟨[], .nil, .nil⟩
  | _, _, .cons ⟨v, h, r⟩ t => by
    obtain ⟨xs, a, b⟩ := all_each t
    exact ⟨v :: xs, .cons r a, .cons h b⟩
theorem each_map_inv {β : Type} {R : Value → PyData → Prop} (enc : β → PyData) : ∀ {us : List Value} {bs : List β}, PySem.W.EachIs R us (bs.map enc) → PySem.W.EachIs (fun u b => R u (enc b)) us bs
  | _, [], h => by
    cases h
    exact .nil
  | _, b :: bs, h => by
    cases h with
    | cons a t => exact .cons a (each_map_inv enc t)
/-- sorted(xs) of data: β is what the items stand for -/
def rSortedD (β : Type) (enc : β → PyData) : List V → Hp → VK → Prop := fun vs H Q => ∃ (a : Addr) (bs : List β), vs = [V.ref a] ∧ IsL H a (bs.map enc) ∧ PySem.W.AllAlike (bs.map enc) ∧ PySem.W.Sortable (bs.map enc) ∧ (∀ b ∈ bs, (enc b).depth ≤ 8) ∧
  ∀ p xs, H p = none → xs.length = bs.length → IsAll H xs ((bs.mergeSort (PySem.W.dataLe false enc)).map enc) → Q (.ref p) (upd H p (.lst xs))
theorem cr_sortedD {X : Cx} (β : Type) (enc : β → PyData) (hu : X.A.units + 64 < cLine) : CallR X (.builtin "sorted") (rSortedD β enc) := by
  intro pins s σ H vs us Q I r h
  obtain ⟨a, bs, rfl, ⟨xs, ha, hx⟩, hal, hk, hd, q⟩ := h
  obtain ⟨u, rfl, ru⟩ := vals1 r
  obtain rfl : u = Value.ref a := ru
  obtain ⟨its, rv, hl, hz⟩ := I.list (SqL.of ha)
  have e := each_map_inv enc (each_all I hx rv)
  have hlen : bs.length = xs.length := by rw [hx.length, List.length_map]
  refine PySem.W.sorted_data (R := fun u b => ∃ v, Is H v (enc b) ∧ RelV v u) (enc := enc) (bs := bs) hl.isList e (e.mono fun u b ⟨v, hv, rr⟩ => Dp.reads I _ _ _ (hv.dp (K := X.K)) rr) hal hk (by rw [hlen]; exact hz) (fun b hb => by
    have := hd b hb
    omega) fun out ho eo => ?_
  obtain ⟨ys, ry, iy⟩ := all_each (ds := (bs.mergeSort (PySem.W.dataLe false enc)).map enc) (PySem.W.each_map (R := fun u d => ∃ v, Is H v d ∧ RelV v u) enc eo)
  obtain ⟨ep, he'⟩ := PyProof.Rows.sortedAll_at s.heap its out.toArray
  have hyl : ys.length = bs.length := by rw [iy.length, List.length_map, (List.mergeSort_perm _ _).length_eq]
  exact ⟨.ref _, upd H (s.heap.objs.size + 1) (.lst ys), I.laid (t' := s.toks) (fun _ _ => PyProof.Rows.sortedAll_old) (Nat.le_succ _) ⟨by rw [hyl, hlen]; exact hz, out, ep, ry, he'⟩, rfl, q _ ys (I.hok.fresh (Nat.le_succ _)) hyl iy⟩
end Mw
end
section
set_option maxRecDepth 100000
set_option maxHeartbeats 4000000
/-! set(a list), whatever the items are: by what each adding does. -/
namespace Mw
open PySem PySem.Spec PyProof.Rows L2
section
variable {P : Program} {w : World} {A : Around} {E : Value → Shared → Prop}
abbrev Kept (h h' : Heap) : Prop := ∀ b o, h.get? b = some o → h'.get? b = some o
/-- one adding: J tells the set at S, by how many items are in -/
def Adds (P : Program) (w : World) (A : Around) (S : Addr) (h0 : Heap) (J : Nat → Heap → Prop) (at_ : Nat → Value → Prop) (n : Nat) : Prop :=
  ∀ (i : Nat) (v : Value) (s : Shared), i < n → at_ i v → J i s.heap → Kept h0 s.heap → ∀ (E : Value → Shared → Prop) (Q : Bool → Shared → Prop),
    (∀ (b : Bool) (h' : Heap) (tk : Nat), Heap.SameBut S s.heap h' → s.toks ≤ tk → J (i + 1) h' → Q b { s with heap := h', toks := tk }) → wpAny (model P w) A (setAdd S v) Q E s
/-- J leans on the set's own object and on what stood ahead -/
def Leans (S : Addr) (h0 : Heap) (J : Nat → Heap → Prop) : Prop :=
  ∀ (i : Nat) (h h' : Heap), J i h → (∀ o, h.get? S = some o → h'.get? S = some o) → Kept h0 h' → J i h'
/-- the loop of set.update -/
theorem set_loop {I : Addr} {fp wr : List Addr} {G : Array GenState → Array GenState → Prop} {n : Nat} {Pv : Nat → Value → Prop} {Ti : Nat → Shared → Prop} {R : Result → Shared → Prop} (W : WalksS P w A.in1 I fp wr G n Pv Ti)
    {S : Addr} (hSf : S ∉ fp) {h0 : Heap} {J : Nat → Heap → Prop} (hJ : Leans S h0 J) (hA : Adds P w A.in1 S h0 J Pv n) (hS0 : h0.get? S = none) (hw0 : ∀ b ∈ wr, h0.get? b = none) :
    ∀ (k i : Nat) (s : Shared), n - i = k → i ≤ n → Ti i s → Kept h0 s.heap → J i s.heap →
      (∀ s', Moved (S :: wr) G s s' → J n s'.heap → Kept h0 s'.heap → R (.ok (.ret .none)) s') →
      codeAny (model P w) A (.builtin "set.update.loop" ⟨[.ref S, .ref I], []⟩) R s := by
  have noS : S ∉ wr := fun z => hSf (W.sub _ z)
  have more : ∀ b ∈ wr, b ∈ S :: wr := fun b z => List.mem_cons_of_mem _ z
  have stay : ∀ {s s' : Shared}, Moved wr G s s' → Kept h0 s.heap → Kept h0 s'.heap := fun m k b o e => m.heap b o (fun z => by rw [hw0 b z] at e; cases e) (k b o e)
  intro k
  induction k with
  | zero =>
    intro i s hk hi hT kp hj hR
    obtain rfl : i = n := by omega
    refine codeAny_builtin F.entry_set_update_loop ?_
    rw [Around.under_plainId F.plain_set_update_loop _]
    show wpAny _ A.in1 (pyNext (.ref I) >>= _) _ _ s
    refine wpAny_bind (W.done s _ _ hT fun s' m => ?_)
    show wpAny _ A.in1 (ret Value.none) _ _ s'
    have kp' := stay m kp
    exact wpAny_pure (hR s' (m.mono more) (hJ _ _ _ hj (fun o e => m.heap S o noS e) kp') kp')
  | succ k ih =>
    intro i s hk hi hT kp hj hR
    have lt : i < n := by omega
    refine codeAny_builtin F.entry_set_update_loop ?_
    rw [Around.under_plainId F.plain_set_update_loop _]
    show wpAny _ A.in1 (pyNext (.ref I) >>= _) _ _ s
    refine wpAny_bind (W.item i s _ _ lt hT fun v s' hv hT' m => ?_)
    have kp' := stay m kp
    have hj' := hJ _ _ s'.heap hj (fun o e => m.heap S o noS e) kp'
    show wpAny _ A.in1 (holding [v] (setAdd S v) >>= _) _ _ s'
    refine wpAny_bind (wpAny_holding (hA i v s' lt hv hj' kp' _ _ fun b h' tk sb le hj2 => ?_))
    have kp2 : Kept h0 h' := fun b o e => (sb.2 b (fun z => by rw [z, hS0] at e; cases e)).trans (kp' b o e)
    refine wpAny_pure ⟨plainId_quiet F.plain_set_update_loop _, ih (i + 1) _ (by omega) lt (W.frame _ s' _ _ hT' le fun b hb o e => ?_) kp2 hj2 fun s'' m2 hj3 kp3 => ?_⟩
    · rw [sb.2 b (fun z : b = S => hSf (by rw [← z]; exact hb))]
      exact e
    · refine hR s'' (Moved.trans W.gtrans ((m.mono more).then_heap le fun b o hb e => ?_) m2) hj3 kp3
      rw [sb.2 b (fun z : b = S => hb (by rw [z]; exact List.mem_cons_self))]
      exact e
def freshSet (w : World) : Obj := { cls := .type "set", dict := none, data := .set #[] 0 (.fresh 0 0 (!w.params.followText "set-order")) }
set_option maxHeartbeats 6400000 in
/-- set(xs), xs a list at l -/
theorem set_of_list {s : Shared} {l : Addr} {items : Array Value} {J : Nat → Heap → Prop} {Q : Value → Shared → Prop} (hh : A.handled = none) (hl : s.heap.IsList l items)
    (hJ : Leans s.heap.objs.size s.heap J) (h0 : ∀ h' : Heap, Kept s.heap h' → h'.get? s.heap.objs.size = some (freshSet w) → J 0 h') (hA : ∀ A' : Around, A'.units ≤ A.units + 4 → Adds P w A' s.heap.objs.size s.heap J (fun i v => items[i]? = some v) items.size)
    (h : ∀ (h' : Heap) (tk : Nat), J items.size h' → Kept s.heap h' → Q (.ref s.heap.objs.size) { s with heap := h', toks := tk }) :
    wpAny (model P w) A (call (.type "set") [.ref l]) Q E s := by
  obtain ⟨c, tl, hmro⟩ := F.called_set.mro
  have hmade := F.called_set.made
  have hsub := F.called_set.sub
  refine wpAny_call (codeAny_of_tree ?_)
  show wpAny _ _ (callAny (.type "set") _) _ _ _
  refine wpAny_pure ⟨Code.quiet_builtin _ (by decide +kernel), codeAny_builtin F.entry_type_call ?_⟩
  rw [Around.under_plain (weight_type_call_type "set" [.ref l] []) rfl]
  have h1 := F.called_set.notType
  have h2 := F.called_set.canCreate
  have hct := F.typeCall_set_1 (.ref l)
  repeat (any_goals (first | assumption | wp_step))

  refine codeAny_mono (code_set_led1 (.ref l) (E := E) (Q₁ := fun obj s₁ => obj = .ref s.heap.objs.size ∧ s₁ = { s with heap := s.heap.push (freshSet w) }) ⟨rfl, rfl⟩) fun r s₁ hr => ?_
  cases r with
  | error e => exact hr
  | ok fl =>
    cases fl with
    | ret obj =>
      obtain ⟨rfl, rfl⟩ := hr
      have hS : (s.heap.push (freshSet w)).get? s.heap.objs.size = some (freshSet w) := Heap.get?_push_size _ rfl
      have hT : Shared.TypeIs { s with heap := s.heap.push (freshSet w) } (.ref s.heap.objs.size) "set" := ⟨_, hS, rfl⟩
      have hli := F.called_set.init.lookup
      have hbi := F.called_set.init.bind (.ref s.heap.objs.size)
      repeat (any_goals (first | assumption | wp_step))

      refine codeAny_mono (codeAny_call_builtin (R := wants (fun r s₂ => r = .none ∧ ∃ h' tk, s₂ = { s with heap := h', toks := tk } ∧ J items.size h' ∧ Kept s.heap h') E) F.called_set.init.plain F.entry_set_init (check_set_init_1 hT ?_)) fun r₂ s₂ hr₂ => ?_
      · obtain ⟨ol, hol, hcl, nl, hdl⟩ := hl
        obtain ⟨ocls, odict, odata, oslots⟩ := ol
        simp only at hcl hdl
        subst hcl; subst hdl
        have hol' : (s.heap.push (freshSet w)).get? l = some { cls := .type "list", dict := odict, data := .seq items nl, slots := oslots } := Heap.get?_push_of_some _ hol
        have hsls := F.sub_list_set
        have hslf := F.sub_list_frozenset
        have hne : (Value.type "list" == Value.type "dict") = false := by decide
        have hl1 : (s.heap.push (freshSet w)).IsList l items := ⟨_, hol', rfl, nl, rfl⟩
        unfold Builtin.«set.__init__» noKeywords Builtin.Frozenset.updateFrom
        generalize hPI : pyIter = PI
        wp_walk
        subst hPI

        refine wpAny_pyIter_list hl1 ?_
        refine wpAny_bind (wpAny_runValue ?_)
        have hlS : l < s.heap.objs.size := Heap.lt_size hol
        have hh3 : A.in1.in1.in1.handled = none := by simp [hh]
        have hneI : l ≠ (s.heap.push (freshSet w)).objs.size := by
          rw [Heap.size_push]; exact Nat.ne_of_lt (Nat.lt_succ_of_lt hlS)
        have hSf : s.heap.objs.size ∉ [(s.heap.push (freshSet w)).objs.size, l] := by
          rw [Heap.size_push]; simp only [List.mem_cons, List.mem_singleton, List.not_mem_nil, or_false, not_or]
          exact ⟨Nat.ne_of_lt (Nat.lt_succ_self _), Nat.ne_of_gt hlS⟩
        have none_of : ∀ b, s.heap.objs.size ≤ b → s.heap.get? b = none := fun b hb => by
          cases q : s.heap.get? b with
          | none => rfl
          | some o => exact absurd (Nat.lt_of_lt_of_le (Heap.lt_size q) hb) (Nat.lt_irrefl _)
        refine set_loop ((Walks.list hh3 _ l hneI items).toS) hSf hJ (hA _ ?hu) (none_of _ (Nat.le_refl _)) (fun b hb => none_of b (by
            rw [List.mem_singleton.mp hb, Heap.size_push]
            exact Nat.le_succ _)) (items.size - 0) 0 _ (by omega) (Nat.zero_le _)
          ⟨⟨_, Heap.get?_push_size _ rfl, rfl, rfl⟩, (hl1.push _)⟩ (fun b o e => Heap.get?_push_of_some _ (Heap.get?_push_of_some _ e)) ?hS0 ?hR
        case hu =>
          show A.units + 3 ≤ A.units + 4
          omega
        case hS0 =>
          exact h0 _ (fun b o e => Heap.get?_push_of_some _ (Heap.get?_push_of_some _ e)) (Heap.get?_push_of_some _ hS)
        case hR =>
          intro s' hm hj' hkp
          obtain ⟨h', g2, d', tk', os'⟩ := s'
          have eg : g2 = s.gens := hm.gens
          have ed : d' = s.drawn := hm.drawn
          have eo : os' = s.os := hm.os
          subst eg; subst ed; subst eo
          show wpAny _ _ _ _ _ _
          refine wpAny_pure ?_
          show wpAny _ _ (ret Value.none) _ _ _
          exact wpAny_pure ⟨rfl, h', tk', rfl, hj', hkp⟩

      · cases r₂ with
        | error e => exact hr₂
        | ok fl₂ =>
          cases fl₂ with
          | ret r =>
            obtain ⟨rfl, h', tk, rfl, hj', hk'⟩ := hr₂
            repeat (any_goals (first | assumption | wp_step))
            exact h _ _ hj' hk'
          | _ => exact hr₂.elim
    | _ => exact hr.elim
end

end Mw
end
section
set_option maxRecDepth 100000
set_option maxHeartbeats 4000000
/-! Sets of ints from long lists; sorted of them. -/
namespace Mw
open PySem PySem.Spec PyProof.Rows L2
/-! ### sets of ints, from lists of any length with fewer than 4,096 unlike items -/
section
variable {P : Program} {w : World} {A : Around} {E : Value → Shared → Prop}
theorem few_of {D : List Int} (h : D.length < 4096) : ∀ {l : List Int}, l.Nodup → (∀ x ∈ l, x ∈ D) → l.length ≤ D.length := fun {l} hn hs => by
  have key : ∀ (l D : List Int), l.Nodup → (∀ x ∈ l, x ∈ D) → l.length ≤ D.length := by
    intro l
    induction l with
    | nil => exact fun _ _ _ => Nat.zero_le _
    | cons x l ih =>
      intro D hn hs
      obtain ⟨h1, h2⟩ := List.nodup_cons.mp hn
      have hx := hs x List.mem_cons_self
      have := ih (D.erase x) h2 fun y hy => (List.mem_erase_of_ne (fun e : y = x => h1 (e ▸ hy))).mpr (hs y (List.mem_cons_of_mem _ hy))
      rw [List.length_erase_of_mem hx] at this
      have := List.length_pos_of_mem hx
      rw [List.length_cons]
      omega
  exact key l D hn hs
/-- the set at S holds the ints of the list -/
def IntSet (w : World) (S : Addr) (h : Heap) (ns : List Int) : Prop := ∃ n, SetR w h S (fun k => decide (k ∈ ns)) n
theorem intSet_adds {S : Addr} {h0 : Heap} {vs : List Value} {ns D : List Int} (hI : IntsAre vs ns) (hD : ∀ x ∈ ns, x ∈ D) (hd : D.length < 4095) (A : Around) :
    Adds P w A S h0 (fun i h => IntSet w S h (ns.take i)) (fun i v => vs.toArray[i]? = some v) vs.toArray.size := by
  intro i v s hi hv ⟨n, R⟩ _ E Q hQ
  have hlen : vs.length = ns.length := by
    clear hi hv R hQ
    induction hI with
    | nil => rfl
    | cons _ _ _ ih => exact congrArg (· + 1) (ih fun x hx => hD x (List.mem_cons_of_mem _ hx))
  have hi' : i < ns.length := by
    rw [← hlen]
    simpa using hi
  obtain ⟨tk, rfl⟩ : ∃ tk, v = .int ns[i] tk := by
    have hv' : vs[i]? = some v := by simpa using hv
    clear hi hv R hQ hlen
    induction hI generalizing i with
    | nil => simp at hi'
    | @cons k t vs ns _ ih =>
      cases i with
      | zero =>
        cases hv'
        exact ⟨_, rfl⟩
      | succ i => exact ih (fun x hx => hD x (List.mem_cons_of_mem _ hx)) i (by simpa using hi') (by simpa using hv')
  have hn : n < 4095 := by
    obtain ⟨o, es, ep, t, _, _, _, _, nd, hm, _, _, hsz, _⟩ := R
    have := few_of (D := D) (by omega) nd fun x hx => by
      have q := (hm x).mpr hx
      exact hD x (List.mem_of_mem_take (of_decide_eq_true q))
    rw [List.length_map, Array.length_toList, hsz] at this
    omega
  unfold setAdd
  refine wpAny_holding (wpAny_bind ((intKind P w).pyHash (intKind_is P w _ tk) ?_))
  refine setR_add_hashed (s := { s with toks := s.toks + 1 }) R (by unfold scanBound; omega) fun h' sb r => ?_
  refine hQ _ h' (s.toks + 1) sb (Nat.le_succ _) ⟨_, r.congr fun k => ?_⟩
  have e : ns.take (i + 1) = ns.take i ++ [ns[i]] := by
    rw [List.take_succ, List.getElem?_eq_getElem hi']
    rfl
  have m : k ∈ ns.take (i + 1) ↔ k ∈ ns.take i ∨ k = ns[i] := by rw [e, List.mem_append, List.mem_singleton]
  show decide (k ∈ ns.take (i + 1)) = (decide (k ∈ ns.take i) || decide (k = ns[i]))
  rw [Bool.eq_iff_iff, Bool.or_eq_true, decide_eq_true_eq, decide_eq_true_eq, decide_eq_true_eq]
  exact m
theorem intSet_leans {S : Addr} {h0 : Heap} {ns : List Int} : Leans S h0 (fun i h => IntSet w S h (ns.take i)) := fun i h h' ⟨n, R⟩ k _ => ⟨n, R.at k⟩
theorem intSet_fresh {S : Addr} {h : Heap} {ns : List Int} (e : h.get? S = some (freshSet w)) : IntSet w S h (ns.take 0) :=
  ⟨0, _, #[], 0, _, e, ⟨rfl, rfl, rfl⟩, rfl, (fun e he => by simp at he), by simp, fun k => by simp, by decide, by rfl, rfl, List.Pairwise.nil, by
    show _ ∨ (!w.params.followText "set-order") = true
    cases w.params.followText "set-order"
    · exact .inr rfl
    · exact .inl rfl⟩
end
section
variable {X : Cx}
/-- the set of the ints of a list, as the layer tracks it -/
def SetI (w : World) (a : Addr) (ns : List Int) : HO := .ext fun h => IntSet w a h ns
theorem setI_new {w : World} {P : Program} {H : Hp} {h : Heap} {a : Addr} {ns : List Int} (R : IntSet w a h ns) : ObjOk P w H h a (SetI w a ns) := by
  have ⟨n, o, _, _, _, ho, _⟩ := R
  exact ⟨R, ⟨o, ho⟩, fun h1 h2 ⟨n, p⟩ k => ⟨n, p.at k⟩⟩
/-- set(xs): D has all the unlike ones -/
def rSetI (K : PySem.W.Frag) (w : World) : List V → Hp → VK → Prop := fun xs H Q => ∃ (l : Addr) (ns D : List Int), xs = [V.ref l] ∧ SqL K H l (ns.map V.int) ∧ (∀ x ∈ ns, x ∈ D) ∧ D.length < 4095 ∧
  ∀ a, H a = none → Q (.ref a) (upd H a (SetI w a ns))
theorem cr_setI (hc : X.calm = true) : CallR X (.type "set") (rSetI X.K X.w) := by
  intro pins s σ H xs us Q I r h
  obtain ⟨l, ns, D, rfl, hl, hD, hd, q⟩ := h
  rw [Vals.ref1 r]
  obtain ⟨its, rv, pl, hz⟩ := I.list hl
  have hn : H s.heap.objs.size = none := I.hok.fresh (Nat.le_refl _)
  have hI := rv.ints
  have hlen : its.toArray.size = ns.length := by
    rw [List.size_toArray, ← rv.length, List.length_map]
  refine set_of_list (P := X.prog) (w := X.w) (J := fun i h => IntSet X.w s.heap.objs.size h (ns.take i)) (I.ok.hd hc) pl.isList intSet_leans (fun h' _ e => intSet_fresh e) (fun A' _ => intSet_adds hI hD hd A') fun h' tk R k => ?_
  rw [hlen, List.take_length] at R
  exact ⟨.ref s.heap.objs.size, upd H s.heap.objs.size (SetI X.w s.heap.objs.size ns), I.laid (t' := tk) k (Nat.le_refl _) (setI_new R), rfl, q _ hn⟩
end
end Mw
end
section
set_option maxRecDepth 100000
set_option maxHeartbeats 4000000
/-! sorted of a set, whatever its items are. -/
namespace Mw
open PySem PySem.Spec PyProof.Rows L2
mutual
theorem reads_plain {h : Heap} : ∀ (d : PyData) (v : Value) (as : List Addr), plainD d = true → Reads h v d as → as = []
  | .none, _, _, _, r => by cases r; rfl
  | .bool _, _, _, p, _ => by simp [plainD] at p
  | .int _, _, _, _, r => by cases r; rfl
  | .str _, _, _, _, r => by cases r; rfl
  | .list _, _, _, p, _ => by simp [plainD] at p
  | .tuple xs, _, _, p, r => by
    cases r with
    | tuple _ _ _ k => exact readsAll_plain xs _ _ (by simpa [plainD] using p) k
  | .dict _, _, _, p, _ => by simp [plainD] at p
theorem readsAll_plain {h : Heap} : ∀ (ds : List PyData) (vs : List Value) (as : List Addr), plainA ds = true → ReadsAll h vs ds as → as = []
  | [], _, _, _, r => by cases r; rfl
  | d :: ds, _, _, p, r => by
    rw [plainA, Bool.and_eq_true] at p
    cases r with
    | cons a b => rw [reads_plain d _ _ p.1 a, readsAll_plain ds _ _ p.2 b]; rfl
end
theorem each_perm {α β : Type} {R : α → β → Prop} {as cs : List α} {bs : List β} (h : PySem.W.EachIs R as bs) (p : cs.Perm as) : ∃ ds, ds.Perm bs ∧ PySem.W.EachIs R cs ds := by
  have key : ∀ {cs as : List α}, cs.Perm as → ∀ {bs : List β}, PySem.W.EachIs R as bs → ∃ ds, ds.Perm bs ∧ PySem.W.EachIs R cs ds := by
    intro cs as p
    induction p with
    | nil => intro bs h; exact ⟨bs, .refl _, h⟩
    | cons x _ ih =>
      intro bs h
      cases h with
      | cons a t =>
        obtain ⟨ds, p, k⟩ := ih t
        exact ⟨_, p.cons _, .cons a k⟩
    | swap x y l =>
      intro bs h
      cases h with
      | cons a t =>
        cases t with
        | cons b t => exact ⟨_, .swap .., .cons b (.cons a t)⟩
    | trans _ _ ih1 ih2 =>
      intro bs h
      obtain ⟨ds, p, k⟩ := ih2 h
      obtain ⟨es, p2, k2⟩ := ih1 k
      exact ⟨es, p2.trans p, k2⟩
  exact key p h
section
variable {X : Cx} {pins : List (Addr × Obj)} {σ : L2.St} {H : Hp} {s : Shared} {β : Type} {enc : β → PyData}
theorem sorted_set_layer (I : L2.Inv X pins σ H s) (hc : X.calm = true) (hu : X.A.units + 64 < cLine) {a : Addr} {es : Array (Int × Value)} {ep : Nat} {t : SetTable} {bs0 : List β} {Q : VK}
    (ha : SetAt s.heap a es ep t) (hf : t.fits es.size = true) (hsz : es.size < scanBound) (ris : Ris t.place.toList) (hl : X.w.params.followText "set-order" = true ∨ t.led = true)
    (hb : PySem.W.EachIs (fun u b => ∃ x, Is H x (enc b) ∧ RelV x u) (es.toList.map (·.2)) bs0) (hal : PySem.W.AllAlike (bs0.map enc)) (hk : PySem.W.Sortable (bs0.map enc)) (hd : ∀ b ∈ bs0, (enc b).depth ≤ 8) (hp : ∀ b ∈ bs0, plainD (enc b) = true)
    (hQ : ∀ (p : Addr) (xs : List V) (bs : List β), bs.Perm bs0 → H p = none → IsAll H xs ((bs.mergeSort (PySem.W.dataLe false enc)).map enc) → Q (.ref p) (upd H p (.lst xs))) :
    wpAny (model X.prog X.w) X.A (call (.builtin "sorted") [.ref a]) (EP X pins σ Q) X.xe s := by
  refine Calls.call_function_entry kind_sorted plain_sorted entry_sorted (args_sorted1 _) ?_
  unfold Builtin.«sorted»
  refine wpAny_bind (m := checkCount "sorted" 1 1 _) (wpAny_pure ?_)
  refine wpAny_bind (collect_set (A := X.A.in1) (I.ok.hd hc) ha hf hsz ris hl fun s1 vs k1 hz g1 o1 pm => ?_)
  obtain ⟨bs, pb, eb⟩ := each_perm hb pm
  have hvl : vs.length = es.size := by rw [pm.length_eq, List.length_map, Array.length_toList]
  have hbl : bs.length = es.size := by rw [← eb.length, hvl]
  have hvz : vs.length ≤ sizeLine := by
    rw [hvl, sizeLine_eq]
    unfold scanBound at hsz
    omega
  refine wpAny_bind (wpAny_newList ?_ hvz)
  have hoL : (s1.heap.push (seqObj "list" vs.toArray 0)).get? s1.heap.objs.size = some (seqObj "list" vs.toArray 0) := Heap.get?_push_size _ rfl
  have keep2 : ∀ b o, s.heap.get? b = some o → (s1.heap.push (seqObj "list" vs.toArray 0)).get? b = some o := fun b o q => Heap.get?_push_of_some _ (k1 b o q)
  have sub : ∀ {P : PyData → Prop}, (∀ d ∈ bs0.map enc, P d) → ∀ d ∈ bs.map enc, P d := fun h d hd => h d ((pb.map enc).mem_iff.mp hd)
  have hal' : PySem.W.AllAlike (bs.map enc) := fun d hd d' hd' => hal d ((pb.map enc).mem_iff.mp hd) d' ((pb.map enc).mem_iff.mp hd')
  have hk' : PySem.W.Sortable (bs.map enc) := hk.elim (fun h => .inl (sub h)) fun h => .inr (sub h)
  have er : PySem.W.EachIs (fun v b => ∃ as, Reads (s1.heap.push (seqObj "list" vs.toArray 0)) v (enc b) as ∧ s1.heap.objs.size ∉ as) vs bs := (PySem.W.each_mem eb).mono fun u b ⟨⟨x, hx, rx⟩, hm⟩ => by
    obtain ⟨as, r⟩ := Dp.reads I _ _ _ (hx.dp (K := X.K)) rx
    refine ⟨as, PyProof.Rows.Reads.keeps keep2 r, ?_⟩
    rw [reads_plain _ _ _ (hp b (pb.mem_iff.mp hm)) r]
    simp
  refine wpAny_bind (wpAny_holding (PySem.W.list_sort_data (s := { s1 with heap := s1.heap.push (seqObj "list" vs.toArray 0) }) (R := fun u b => ∃ x, Is H x (enc b) ∧ RelV x u) hoL eb er hal' hk' (by rw [hbl, ← hvl]; exact hvz) (fun b hb => by
    have := hd b (pb.mem_iff.mp hb)
    show X.A.units + 1 + 1 + (enc b).depth < cLine
    omega) fun out ho eo => ?_))
  obtain ⟨ys, ry, iy⟩ := all_each (ds := (bs.mergeSort (PySem.W.dataLe false enc)).map enc) (PySem.W.each_map (R := fun u d => ∃ v, Is H v d ∧ RelV v u) enc eo)
  obtain ⟨c, he'⟩ := PyProof.Rows.sortedHeap_at (vs := vs) (out := out.toArray) hoL
  have kp : ∀ b o, s.heap.get? b = some o → (sortedHeap (s1.heap.push (seqObj "list" vs.toArray 0)) s1.heap.objs.size vs out.toArray).get? b = some o := fun b o q => by
    have q' := k1 b o q
    have hlt := Heap.lt_size q'
    rw [sortedHeap_old (Nat.ne_of_lt hlt) (by rw [size_push']; exact Nat.lt_succ_of_lt hlt)]
    exact Heap.get?_push_of_some _ q'
  have hyl : ys.length ≤ sizeLine := by
    rw [iy.length, List.length_map, (List.mergeSort_perm _ _).length_eq, hbl, ← hvl]
    exact hvz
  have hn : H s1.heap.objs.size = none := I.hok.fresh hz
  obtain ⟨sh, sg, sd, st, so⟩ := s1
  have eg : sg = s.gens := g1
  have eo : so = s.os := o1
  subst eg
  subst eo
  have J : L2.Inv X pins σ (upd H sh.objs.size (.lst ys)) { s with heap := sortedHeap (sh.push (seqObj "list" vs.toArray 0)) sh.objs.size vs out.toArray, gens := s.gens, drawn := sd, toks := st } :=
    I.call (ch := []) (Un.laid kp hz hn) (I.hok.laid kp hz ⟨hyl, out, c, ry, he'⟩) I.bare (fun _ z => nomatch z)
  exact wpAny_pure ⟨_, rfl, ⟨.ref sh.objs.size, _, J, rfl, hQ _ ys bs pb hn iy⟩⟩
end

/-! ### ints -/
theorem le_int : (PySem.W.dataLe false PyData.int) = fun a b => decide (a ≤ b) := PySem.W.dataLe_int (fun i : Int => i)
/-- sorted(set of ints) -/
def rSortedI (w : World) : List V → Hp → VK → Prop := fun vs H Q => ∃ (a : Addr) (ns : List Int), vs = [V.ref a] ∧ H a = some (SetI w a ns) ∧
  ∀ (l : List Int) (p : Addr), l.Pairwise (· < ·) → (∀ x, x ∈ l ↔ x ∈ ns) → H p = none → Q (.ref p) (upd H p (.lst (l.map V.int)))
theorem cr_sortedI {X : Cx} (hc : X.calm = true) (hu : X.A.units + 64 < cLine) : CallR X (.builtin "sorted") (rSortedI X.w) := by
  intro pins s σ H vs us Q I r h
  obtain ⟨a, ns, rfl, ha, q⟩ := h
  rw [Vals.ref1 r]
  obtain ⟨n, o, es, ep, t, ho, hex, hd, g, nd, hm, hb, hf, hn, hr, hl⟩ : IntSet X.w a s.heap ns := (I.hok a _ ha).1
  have e : PySem.W.EachIs (fun u b => ∃ x, Is H x (PyData.int b) ∧ RelV x u) (es.toList.map (·.2)) (es.toList.map keyOf) := by
    have key : ∀ l : List (Int × Value), (∀ e ∈ l, GoodE e) → PySem.W.EachIs (fun u b => ∃ x, Is H x (PyData.int b) ∧ RelV x u) (l.map (·.2)) (l.map keyOf) := by
      intro l
      induction l with
      | nil => exact fun _ => .nil
      | cons e l ih =>
        intro h
        obtain ⟨k, tk, e1, _⟩ := h e List.mem_cons_self
        refine .cons ⟨.int (keyOf e), .int _, tk, ?_⟩ (ih fun x hx => h x (List.mem_cons_of_mem _ hx))
        unfold keyOf
        rw [e1]
        exact e1
    exact key _ g
  refine sorted_set_layer (enc := PyData.int) I hc hu ⟨o, ho, hex.1, hd⟩ hf hb hr hl e (PySem.W.AllAlike.of fun b b' => by simp [PySem.W.alike]) (PySem.W.Sortable.others fun b => ⟨by simp, by simp⟩) (fun b _ => by simp [PyData.depth]) (fun b _ => by simp [plainD]) fun p xs bs pb hp ix => ?_
  rw [ints_inv ix]
  have pm := (List.mergeSort_perm bs (PySem.W.dataLe false PyData.int)).trans pb
  refine q _ p ?_ (fun x => ?_) hp
  · rw [le_int] at pm ⊢
    refine L2.lt_of_le_nodup _ ?_ (pm.nodup_iff.mpr nd)
    exact (List.pairwise_mergeSort (fun a b c h1 h2 => by simp only [decide_eq_true_eq] at *; omega) (fun a b => by simp only [Bool.or_eq_true, decide_eq_true_eq]; omega) bs).imp fun h => of_decide_eq_true h
  · rw [pm.mem_iff, ← hm x, decide_eq_true_eq]
end Mw
end
section
set_option maxRecDepth 100000
set_option maxHeartbeats 4000000
/-! The tables of sets of up to some hundred things that are found by their hash alone: every search ends, every table laid anew is whole. Masks 7 to 2047. -/
namespace Mw
open PySem PySem.Spec PyProof.Rows L2
/-! ### the round of 5 i + 1 meets all, for the greater masks -/
def orbit (m : Nat) : Nat → Nat × Nat
  | 0 => (0, 0)
  | k + 1 => ((orbit m k).1 ||| 2 ^ (orbit m k).2, ((orbit m k).2 * 5 + 1) % (m + 1))
def orbitF (m : Nat) (n : Nat) : Nat × Nat := (List.range n).foldl (fun p _ => (p.1 ||| 2 ^ p.2, (p.2 * 5 + 1) % (m + 1))) (0, 0)
theorem orbitF_eq (m : Nat) : ∀ n, orbitF m n = orbit m n
  | 0 => rfl
  | n + 1 => by
    have ih := orbitF_eq m n
    unfold orbitF at ih ⊢
    rw [List.range_succ, List.foldl_append, ih]
    rfl
theorem orbit_x (m : Nat) : ∀ k, (orbit m k).2 = lcgN m k
  | 0 => rfl
  | k + 1 => by
    show ((orbit m k).2 * 5 + 1) % (m + 1) = (lcgN m k * 5 + 1) % (m + 1)
    rw [orbit_x m k]
theorem orbit_bit (m : Nat) : ∀ (k j : Nat), (orbit m k).1.testBit j = true → ∃ b, b < k ∧ lcgN m b = j
  | 0, j, h => by
    have e : (orbit m 0).1 = 0 := rfl
    rw [e, Nat.zero_testBit] at h
    cases h
  | k + 1, j, h => by
    have e : (orbit m (k + 1)).1 = (orbit m k).1 ||| 2 ^ (orbit m k).2 := rfl
    rw [e, Nat.testBit_or, Bool.or_eq_true] at h
    rcases h with h | h
    · obtain ⟨b, hb, q⟩ := orbit_bit m k j h
      exact ⟨b, Nat.lt_succ_of_lt hb, q⟩
    · rw [Nat.testBit_two_pow, decide_eq_true_eq] at h
      exact ⟨k, Nat.lt_succ_self k, by rw [← orbit_x, h]⟩
theorem orbit511 : orbitF 511 512 = (2 ^ 512 - 1, 0) := by decide +kernel
theorem orbit2047 : orbitF 2047 2048 = (2 ^ 2048 - 1, 0) := by decide +kernel
/-- from 0 every slot is met in a round, and the round closes -/
def Round (m : Nat) : Prop := (∀ j, j ≤ m → ∃ b, b ≤ m ∧ lcgN m b = j) ∧ lcgN m (m + 1) = 0
theorem round_of {m : Nat} (h : orbitF m (m + 1) = (2 ^ (m + 1) - 1, 0)) : Round m := by
  rw [orbitF_eq] at h
  refine ⟨fun j hj => ?_, by rw [← orbit_x, h]⟩
  have hb : (orbit m (m + 1)).1.testBit j = true := by
    rw [h]
    show (2 ^ (m + 1) - 1).testBit j = true
    rw [Nat.testBit_two_pow_sub_one, decide_eq_true_eq]
    omega
  obtain ⟨b, h1, h2⟩ := orbit_bit m (m + 1) j hb
  exact ⟨b, Nat.le_of_lt_succ h1, h2⟩
theorem round_old {m : Nat} (h : MaskOk m) : Round m := ⟨fun j hj => lcg_all h hj, lcg_round h⟩
/-- the masks that come here -/
def MOk (m : Nat) : Prop := (m = 7 ∨ m = 31 ∨ m = 127) ∨ m = 511 ∨ m = 2047
theorem MOk.round {m : Nat} (h : MOk m) : Round m := by
  rcases h with h | h | h
  · exact round_old h
  · subst h; exact round_of orbit511
  · subst h; exact round_of orbit2047
theorem MOk.odd {m : Nat} (h : MOk m) : m % 2 = 1 := by
  rcases h with (h | h | h) | h | h <;> subst h <;> rfl
theorem MOk.le {m : Nat} (h : MOk m) : 7 ≤ m ∧ m ≤ 2047 := by
  rcases h with (h | h | h) | h | h <;> subst h <;> decide
theorem again {m : Nat} (h : Round m) : ∀ k, lcgN m (m + 1 + k) = lcgN m k
  | 0 => h.2
  | k + 1 => by
    show (lcgN m (m + 1 + k) * 5 + 1) % (m + 1) = (lcgN m k * 5 + 1) % (m + 1)
    rw [again h k]
theorem any_all {m : Nat} (h : Round m) {i j : Nat} (hi : i ≤ m) (hj : j ≤ m) : ∃ k, k ≤ m ∧ lcgI m i k = j := by
  obtain ⟨a, ha, ea⟩ := h.1 i hi
  obtain ⟨b, hb, eb⟩ := h.1 j hj
  subst ea
  by_cases c : b < a
  · refine ⟨b + (m + 1) - a, by omega, ?_⟩
    rw [lcgN_add, show a + (b + (m + 1) - a) = m + 1 + b by omega, again h, eb]
  · refine ⟨b - a, by omega, ?_⟩
    rw [lcgN_add, show a + (b - a) = b by omega, eb]
theorem meets_run {m : Nat} (hm : MOk m) (h : Int) {j : Nat} (hj : j ≤ m) : ∃ n, n ≤ m + 12 ∧ runI m (SetTable.bits h) n = j := by
  obtain ⟨k, hk, e⟩ := any_all hm.round (runI_le m (SetTable.bits h) 12) hj
  refine ⟨12 + k, by omega, ?_⟩
  rw [runI_tail (bits_lt h)]
  exact e
theorem meets_way {m : Nat} (hm : MOk m) (h : Int) {j : Nat} (hj : j ≤ m) : ∃ k, k < 10 * SetTable.turns m ∧ way m h k = j := by
  obtain ⟨n, hn, e⟩ := meets_run hm h hj
  obtain ⟨k, hk, e2⟩ := run_nth m (SetTable.bits h) n
  refine ⟨k, by unfold SetTable.turns; omega, ?_⟩
  show (nth m (runAt m (SetTable.bits h % (m + 1)) (SetTable.bits h)) k).j = j
  rw [e2]
  exact e
theorem way_in {m : Nat} {h : Int} {k : Nat} : way m h k ≤ m := by
  have hi : SetTable.bits h % (m + 1) ≤ m := Nat.le_of_lt_succ (Nat.mod_lt _ (Nat.succ_pos _))
  have r := runEnd_bd hi
  have q := nth_in (m := m) k (runAt m (SetTable.bits h % (m + 1)) (SetTable.bits h)) (by
    show SetTable.bits h % (m + 1) + (SetTable.runEnd m (SetTable.bits h % (m + 1)) - SetTable.bits h % (m + 1)) ≤ m
    omega)
  exact Nat.le_trans (Nat.le_add_right _ _) q
/-! ### a table whose slots are all found again -/
structure Tab (t : SetTable) (hs : List Int) : Prop where
  ris : Ris t.place.toList
  dm : t.dummies = #[]
  sz : t.place.size = hs.length
  mok : MOk t.mask
  bd : ∀ x ∈ t.place.toList, x ≤ t.mask
  reach : ∀ (i : Nat) (h : Int) (j : Nat), hs[i]? = some h → t.place.toList[i]? = some j → ∃ k, way t.mask h k = j ∧ ∀ k', k' < k → way t.mask h k' ∈ t.place.toList
theorem Tab.first {t : SetTable} {hs : List Int} (T : Tab t hs) (hl : hs.length ≤ t.mask) (h : Int) : ∃ K, K < 10 * SetTable.turns t.mask ∧ way t.mask h K ∉ t.place.toList ∧ ∀ k, k < K → way t.mask h k ∈ t.place.toList := by
  obtain ⟨j, hj, hn⟩ := st_missing t.place.toList (t.mask + 1) (by rw [Array.length_toList, T.sz]; omega)
  obtain ⟨k, hk, e⟩ := meets_way T.mok h (Nat.le_of_lt_succ hj)
  obtain ⟨K, h1, h2, h3⟩ := st_least (p := fun k => way t.mask h k ∉ t.place.toList) k (by show way t.mask h k ∉ _; rw [e]; exact hn)
  exact ⟨K, Nat.lt_of_le_of_lt h1 hk, h2, fun k' hk' => Classical.not_not.mp (h3 k' hk')⟩
theorem Tab.before {t : SetTable} {hs : List Int} (T : Tab t hs) {h : Int} {K i j : Nat} (hK : way t.mask h K ∉ t.place.toList) (hi : hs[i]? = some h) (hj : t.place.toList[i]? = some j) : ∃ k, k < K ∧ way t.mask h k = j := by
  obtain ⟨k, e, hb⟩ := T.reach i h j hi hj
  refine ⟨k, ?_, e⟩
  rcases Nat.lt_trichotomy k K with c | c | c
  · exact c
  · subst c
    rw [e] at hK
    exact absurd (List.mem_of_getElem? hj) hK
  · exact absurd (hb K c) hK
structure PutOk (t : SetTable) (hs : List Int) (h : Int) (j : Nat) : Prop where
  at_ : (t.put j).2 = SetTable.below t.place j
  le : SetTable.below t.place j ≤ hs.length
  tab : Tab (t.put j).1 (hs.take (SetTable.below t.place j) ++ h :: hs.drop (SetTable.below t.place j))
  mask : (t.put j).1.mask = t.mask
  led : (t.put j).1.led = t.led
  fill : (t.put j).1.fill = hs.length + 1
theorem Tab.put {t : SetTable} {hs : List Int} (T : Tab t hs) {h : Int} {K : Nat} (hK : way t.mask h K ∉ t.place.toList) (hb : ∀ k, k < K → way t.mask h k ∈ t.place.toList) : PutOk t hs h (way t.mask h K) := by
  have hjm : way t.mask h K ≤ t.mask := way_in
  obtain ⟨j, hj⟩ : ∃ j, j = way t.mask h K := ⟨_, rfl⟩
  rw [← hj] at hK hjm ⊢
  obtain ⟨c1, _, _⟩ := below_cut T.ris j
  have hsz : t.place.toList.length = hs.length := by rw [Array.length_toList]; exact T.sz
  have hph : SetTable.below t.place j ≤ hs.length := by rw [← T.sz]; exact c1
  have hpl : SetTable.below t.place j ≤ t.place.toList.length := by rw [hsz]; exact hph
  have hpp := put_place t j
  have hsize : (t.put j).1.place.size = hs.length + 1 := by rw [← Array.length_toList, hpp, len_ins _ hpl, hsz]
  have up : ∀ {x : Nat}, x ∈ t.place.toList → x ∈ (t.put j).1.place.toList := fun hx => by rw [hpp]; exact mem_ins.2 (.inr hx)
  refine ⟨rfl, hph, ⟨ris_insert T.ris fun e => hK (List.mem_of_getElem? (by rw [Array.getElem?_toList]; exact e)), put_dm T.dm j, by rw [len_ins _ hph]; exact hsize, T.mok, fun x hx => ?_, fun i h' j' h1 h2 => ?_⟩, rfl, rfl, ?_⟩
  · rw [hpp] at hx
    rcases mem_ins.1 hx with z | z
    · rw [z]; exact hjm
    · exact T.bd x z
  · rw [tins_get hs hph] at h1
    rw [hpp, tins_get _ hpl] at h2
    show ∃ k, way t.mask h' k = j' ∧ ∀ k', k' < k → way t.mask h' k' ∈ (t.put j).1.place.toList
    split at h1
    · rename_i c
      rw [if_pos c] at h2
      obtain ⟨k, e, z⟩ := T.reach i h' j' h1 h2
      exact ⟨k, e, fun k' hk' => up (z k' hk')⟩
    · rename_i c
      rw [if_neg c] at h2
      split at h1
      · rename_i d
        rw [if_pos d] at h2
        cases h1
        cases h2
        exact ⟨K, hj.symm, fun k' hk' => up (hb k' hk')⟩
      · rename_i d
        rw [if_neg d] at h2
        obtain ⟨k, e, z⟩ := T.reach (i - 1) h' j' h1 h2
        exact ⟨k, e, fun k' hk' => up (z k' hk')⟩
  · show (t.put j).1.place.size + (t.put j).1.dummies.size = hs.length + 1
    rw [hsize, put_dm T.dm j]
    rfl
/-! ### laid anew -/
theorem free_at {m : Nat} (hm : MOk m) (owner : Array (Option Nat)) (h : Int) {j : Nat} (hj : j ≤ m) (hf : oAt owner j = none) :
    ∃ K, SetTable.layClean.free m owner (SetTable.turns m) (SetTable.bits h % (m + 1)) (SetTable.bits h) = some (way m h K) ∧ oAt owner (way m h K) = none ∧ ∀ k, k < K → oAt owner (way m h k) ≠ none := by
  obtain ⟨n, hn, e⟩ := meets_run hm h hj
  have hw : way m h (off m (SetTable.bits h % (m + 1)) (SetTable.bits h) n) = j := by
    show (nth m (runAt m (SetTable.bits h % (m + 1)) (SetTable.bits h)) (off m (SetTable.bits h % (m + 1)) (SetTable.bits h) n)).j = j
    rw [nth_off, itL_run]
    exact e
  obtain ⟨K, k1, k2, k3⟩ := st_least (p := fun k => oAt owner (way m h k) = none) (off m (SetTable.bits h % (m + 1)) (SetTable.bits h) n) (by
    show oAt owner (way m h _) = none
    rw [hw]
    exact hf)
  refine ⟨K, free_spec m owner (SetTable.turns m) n _ _ K (by unfold SetTable.turns; omega) k1 (fun k hk => ?_) ?_, k2, k3⟩
  · cases z : oAt owner (nth m (runAt m (SetTable.bits h % (m + 1)) (SetTable.bits h)) k).j with
    | none => exact absurd z (k3 k hk)
    | some _ => rfl
  · have q : oAt owner (nth m (runAt m (SetTable.bits h % (m + 1)) (SetTable.bits h)) K).j = none := k2
    rw [q]
    rfl
theorem own_step {m : Nat} (hm : MOk m) {done : List Int} {owner : Array (Option Nat)} (W : Own m done owner) (hl : done.length ≤ m) (h : Int) :
    ∃ j, SetTable.layClean.free m owner (SetTable.turns m) (SetTable.bits h % (m + 1)) (SetTable.bits h) = some j ∧ Own m (done ++ [h]) (owner.setIfInBounds j (some done.length)) := by
  obtain ⟨ps, hps, hin⟩ := W.ps
  obtain ⟨j0, h0, hn0⟩ := st_missing ps (m + 1) (by omega)
  have hj0 : oAt owner j0 = none := Classical.byContradiction fun z => hn0 (hin j0 (Nat.le_of_lt_succ h0) z)
  obtain ⟨K, e1, e2, e3⟩ := free_at hm owner h (Nat.le_of_lt_succ h0) hj0
  have hjm : way m h K ≤ m := way_in
  have hjs : way m h K < owner.size := by rw [W.sz]; exact Nat.lt_succ_of_le hjm
  refine ⟨way m h K, e1, ?_⟩
  have hself := oAt_set_self (some done.length) hjs
  have mono : ∀ {i : Nat}, oAt owner i ≠ none → oAt (owner.setIfInBounds (way m h K) (some done.length)) i ≠ none := fun {i} hi => by
    by_cases c : i = way m h K
    · rw [c, hself]; exact fun e => nomatch e
    · rw [oAt_set_ne _ c]; exact hi
  refine ⟨by rw [Array.size_setIfInBounds]; exact W.sz, fun j k hj e => ?_, fun k hk => ?_, way m h K :: ps, by rw [List.length_cons, List.length_append, hps]; rfl, fun j hj e => ?_⟩
  · by_cases c : j = way m h K
    · rw [c, hself] at e
      cases e
      refine ⟨h, K, ?_, c.symm, fun k' hk' => mono (e3 k' hk')⟩
      rw [List.getElem?_append_right (Nat.le_refl _), Nat.sub_self]
      rfl
    · rw [oAt_set_ne _ c] at e
      obtain ⟨h', K', a1, a2, a3⟩ := W.at_ j k hj e
      refine ⟨h', K', ?_, a2, fun k' hk' => mono (a3 k' hk')⟩
      rw [List.getElem?_append_left (List.getElem?_eq_some_iff.mp a1).1]
      exact a1
  · rw [List.length_append, List.length_singleton] at hk
    by_cases c : k < done.length
    · obtain ⟨j, hj, e⟩ := W.all k c
      refine ⟨j, hj, ?_⟩
      rw [oAt_set_ne _ (fun z => by rw [z, e2] at e; cases e)]
      exact e
    · obtain rfl : k = done.length := by omega
      exact ⟨way m h K, hjm, hself⟩
  · by_cases c : j = way m h K
    · rw [c]; exact List.mem_cons_self
    · rw [oAt_set_ne _ c] at e
      exact List.mem_cons_of_mem _ (hin j hj e)
theorem own_fold {m : Nat} (hm : MOk m) : ∀ (rest done : List Int) (owner : Array (Option Nat)), Own m done owner → done.length + rest.length ≤ m →
    ∃ owner', rest.foldl (stepF m) (some (owner, done.length)) = some (owner', (done ++ rest).length) ∧ Own m (done ++ rest) owner'
  | [], done, owner, W, _ => ⟨owner, by rw [List.append_nil]; rfl, by rw [List.append_nil]; exact W⟩
  | h :: rest, done, owner, W, hl => by
    rw [List.length_cons] at hl
    obtain ⟨j, e, W'⟩ := own_step hm W (by omega) h
    have hl' : (done ++ [h]).length = done.length + 1 := by rw [List.length_append]; rfl
    obtain ⟨owner', f, W2⟩ := own_fold hm rest (done ++ [h]) _ W' (by rw [hl']; omega)
    have ea : done ++ [h] ++ rest = done ++ h :: rest := by rw [List.append_assoc]; rfl
    rw [ea, hl'] at f
    rw [ea] at W2
    exact ⟨owner', by rw [List.foldl_cons, stepF_some e]; exact f, W2⟩
theorem own_all {m : Nat} (hm : MOk m) {hs : Array Int} (hn : hs.size ≤ m) : ∃ owner, SetTable.layClean m hs = some owner ∧ Own m hs.toList owner := by
  obtain ⟨owner, f, W⟩ := own_fold hm hs.toList [] _ (Own.init m) (by rw [Array.length_toList]; show 0 + hs.size ≤ m; omega)
  rw [List.nil_append] at W
  refine ⟨owner, ?_, W⟩
  have f' : hs.toList.foldl (stepF m) (some (Array.replicate (m + 1) none, 0)) = some (owner, ([] ++ hs.toList).length) := f
  rw [layClean_eq, f']
  rfl
structure Relaid (t : SetTable) (hs : Array Int) (M : Nat) (t' : SetTable) (order : Array Nat) : Prop where
  perm : order.toList.Perm (List.range hs.size)
  tab : Tab t' (order.toList.map fun i => hs.getD i 0)
  mask : t'.mask = M
  led : t'.led = t.led
theorem relaid_all (t : SetTable) {hs : Array Int} {wanted M : Nat} (hw : SetTable.sizeAbove wanted - 1 = M) (hM : MOk M) (hn : hs.size ≤ M) : ∃ t' order, t.relaid hs wanted = some (t', order) ∧ Relaid t hs M t' order := by
  obtain ⟨owner, e, W⟩ := own_all hM hn
  have hr : t.relaid hs wanted = some (tabOf t M owner, ((liveOf M owner).map (·.2)).toArray) := by
    rw [relaid_eq, hw, e]
    rfl
  have ris := ris_live (fun j => owner.getD j none) (List.range (M + 1)) (by
    unfold Ris
    first | exact List.pairwise_lt_range | exact List.pairwise_lt_range _)
  have r1 : Ris ((liveOf M owner).map (·.1)) := ris.1
  have r2 : ∀ x ∈ (liveOf M owner).map (·.1), x ∈ List.range (M + 1) := ris.2
  have nd : ((liveOf M owner).map (·.1)).Nodup := List.Pairwise.imp (fun h => Nat.ne_of_lt h) r1
  have hmem : ∀ k, k < hs.size → k ∈ (liveOf M owner).map (·.2) := fun k hk => by
    obtain ⟨j, b1, b2⟩ := W.all k (by rw [Array.length_toList]; exact hk)
    exact List.mem_map.mpr ⟨(j, k), (mem_live W.sz).2 ⟨b1, b2⟩, rfl⟩
  have hlen : (liveOf M owner).length = hs.size := by
    obtain ⟨ps, p1, p2⟩ := W.ps
    have a := nat_nodup_len ((liveOf M owner).map (·.1)) ps nd fun x hx => by
      obtain ⟨⟨y, k⟩, hq, rfl⟩ := List.mem_map.mp hx
      obtain ⟨b1, b2⟩ := (mem_live W.sz).1 hq
      exact p2 y b1 (by rw [b2]; exact fun z => nomatch z)
    have b := nat_nodup_len (List.range hs.size) ((liveOf M owner).map (·.2)) List.nodup_range fun k hk => hmem k (List.mem_range.mp hk)
    rw [List.length_map, p1] at a
    rw [List.length_map, List.length_range] at b
    have hz : hs.toList.length = hs.size := rfl
    omega
  refine ⟨tabOf t M owner, ((liveOf M owner).map (·.2)).toArray, hr, perm_range hs.size _ ?_ hmem, ⟨r1, rfl, ?_, hM, fun x hx => Nat.le_of_lt_succ (List.mem_range.mp (r2 x hx)), fun i h j h1 h2 => ?_⟩, rfl, rfl⟩
  · show ((liveOf M owner).map (·.2)).length = hs.size
    rw [List.length_map]
    exact hlen
  · show ((liveOf M owner).map (·.1)).toArray.size = (((liveOf M owner).map (·.2)).map fun i => hs.getD i 0).length
    rw [List.size_toArray, List.length_map, List.length_map, List.length_map]
  · have h1' : (((liveOf M owner).map (·.2)).map fun i => hs.getD i 0)[i]? = some h := h1
    have h2' : ((liveOf M owner).map (·.1))[i]? = some j := h2
    rw [List.getElem?_map, List.getElem?_map] at h1'
    rw [List.getElem?_map] at h2'
    cases hq : (liveOf M owner)[i]? with
    | none => rw [hq] at h2'; cases h2'
    | some q =>
      obtain ⟨y, k⟩ := q
      rw [hq] at h1' h2'
      obtain rfl : y = j := Option.some.inj h2'
      have eh : hs.getD k 0 = h := Option.some.inj h1'
      obtain ⟨b1, b2⟩ := (mem_live W.sz).1 (List.mem_of_getElem? hq)
      obtain ⟨h0, K, a1, a2, a3⟩ := W.at_ y k b1 b2
      have e0 : hs.getD k 0 = h0 := by
        rw [Array.getD_eq_getD_getElem?, ← Array.getElem?_toList, a1]
        rfl
      obtain rfl : h0 = h := e0.symm.trans eh
      refine ⟨K, a2, fun k' hk' => ?_⟩
      show way M h0 k' ∈ (liveOf M owner).map (·.1)
      cases z : oAt owner (way M h0 k') with
      | none => exact absurd z (a3 k' hk')
      | some k2 => exact List.mem_map.mpr ⟨(way M h0 k', k2), (mem_live W.sz).2 ⟨way_in, z⟩, rfl⟩
theorem grow5 : SetTable.sizeAbove (SetTable.grown 5) = 32 := by decide +kernel
theorem grow19 : SetTable.sizeAbove (SetTable.grown 19) = 128 := by decide +kernel
theorem grow77 : SetTable.sizeAbove (SetTable.grown 77) = 512 := by decide +kernel
theorem grow307 : SetTable.sizeAbove (SetTable.grown 307) = 2048 := by decide +kernel
end Mw
end
section
set_option maxRecDepth 100000
set_option maxHeartbeats 4000000
/-! Sets of tuples of ints and texts, of some hundred items; sorted of them. -/
namespace Mw
open PySem PySem.Spec PyProof.Rows L2
abbrev IsK (P : Program) (w : World) (h : Heap) (k : List Key) (a : Addr) : Prop := IsTupleKey (mixKind P w) h k a
abbrev khash (P : Program) (w : World) (k : List Key) : Int := tupleKeyHash (mixKind P w) k
section
variable {P : Program} {w : World} {A : Around} {E : Value → Shared → Prop} {s : Shared}
theorem flat_items {k : List Key} {vs : List Value} (h : ItemsAre (mixKind P w) k vs) : ∀ v ∈ vs, (∃ i t, v = Value.int i t) ∨ ∃ x t, v = Value.str x t := by
  induction h with
  | nil => intro v hv; cases hv
  | cons h1 _ ih =>
    intro v hv
    rcases List.mem_cons.mp hv with e | hv
    · rw [e]
      rcases keyIs_shape h1 with ⟨i, t, _, e⟩ | ⟨x, t, _, e⟩
      · exact .inl ⟨i, t, e⟩
      · exact .inr ⟨x, t, e⟩
    · exact ih v hv
theorem noClass {n : Nat} {v : Value} (h : (∃ i t, v = Value.int i t) ∨ ∃ x t, v = Value.str x t) : ofAClassStatement n v = pure false := by
  rcases h with ⟨i, t, rfl⟩ | ⟨x, t, rfl⟩ <;> cases n <;> rfl
theorem hashBy {n : Nat} {v : Value} (h : (∃ i t, v = Value.int i t) ∨ ∃ x t, v = Value.str x t) : hashByValue n v = pure true ∨ hashByValue n v = pure false := by
  rcases h with ⟨i, t, rfl⟩ | ⟨x, t, rfl⟩
  · exact .inl (by cases n <;> rfl)
  · exact .inr (by cases n <;> rfl)
theorem noClass_tup {k : List Key} {b : Addr} {Q : Bool → Shared → Prop} (hk : IsK P w s.heap k b) (h : Q false s) : wpAny (model P w) A (ofAClassStatement 8 (.ref b)) Q E s := by
  have hT := hk.typeIs
  obtain ⟨o, items, n, ho, _, hd, hi⟩ := hk
  unfold ofAClassStatement
  refine wpAny_bind (wpAny_typeOf hT ?_)
  dsimp only
  have e : (("tuple" : String) == "tuple") = true := by decide
  simp only [e, if_true, Bool.not_true, Bool.false_eq_true, if_false]
  show wpAny _ _ (seqItems? (.ref b) >>= _) _ _ s
  refine wpAny_bind (wpAny_seqItems ho hd ?_)
  dsimp only
  refine wpAny_bind ?_
  show wpAny _ _ (forIn items _ _) _ _ s
  rw [← Array.forIn_toList]
  refine wpAny_forIn_list _ (fun rest r s' => r.1 = none ∧ s' = s ∧ ∀ v ∈ rest, (∃ i t, v = Value.int i t) ∨ ∃ x t, v = Value.str x t) _ ?_ ?_ _ _ ⟨rfl, rfl, flat_items hi⟩
  · rintro v rest r s' ⟨hr, rfl, hall⟩
    rw [noClass (hall v List.mem_cons_self)]
    refine wpAny_bind (wpAny_pure ?_)
    simp only [Bool.false_eq_true, if_false]
    exact wpAny_pure ⟨rfl, rfl, fun u hu' => hall u (List.mem_cons_of_mem _ hu')⟩
  · rintro ⟨r1, r2⟩ s' ⟨hr, rfl, _⟩
    simp only at hr
    subst hr
    exact wpAny_pure h
theorem hashBy_any {k : List Key} {b : Addr} {Q : Bool → Shared → Prop} (hk : IsK P w s.heap k b) (h : ∀ c, Q c s) : wpAny (model P w) A (hashByValue 8 (.ref b)) Q E s := by
  have hT := hk.typeIs
  obtain ⟨o, items, n, ho, _, hd, hi⟩ := hk
  unfold hashByValue
  refine wpAny_bind (wpAny_specialOf hT F.slot_tuple_hash.lookup ?_)
  show wpAny _ _ (seqItems? (.ref b) >>= _) _ _ s
  refine wpAny_bind (wpAny_seqItems ho hd ?_)
  refine wpAny_bind ?_
  show wpAny _ _ (forIn items _ _) _ _ s
  rw [← Array.forIn_toList]
  refine wpAny_forIn_list _ (fun rest r s' => r.1 = none ∧ s' = s ∧ ∀ v ∈ rest, (∃ i t, v = Value.int i t) ∨ ∃ x t, v = Value.str x t) _ ?_ ?_ _ _ ⟨rfl, rfl, flat_items hi⟩
  · rintro v rest r s' ⟨hr, rfl, hall⟩
    rcases hashBy (n := 7) (hall v List.mem_cons_self) with e | e
    · rw [e]
      refine wpAny_bind (wpAny_pure ?_)
      simp only [Bool.not_true, Bool.false_eq_true, if_false]
      exact wpAny_pure ⟨rfl, rfl, fun u hu' => hall u (List.mem_cons_of_mem _ hu')⟩
    · rw [e]
      refine wpAny_bind (wpAny_pure ?_)
      simp only [Bool.not_false, if_true]
      refine wpAny_pure ?_
      exact wpAny_pure (h false)
  · rintro ⟨r1, r2⟩ s' ⟨hr, rfl, _⟩
    simp only at hr
    subst hr
    exact wpAny_pure (h true)
/-- a search among such tuples shows nothing -/
theorem unseen {k : List Key} {b : Addr} {Q : Bool → Shared → Prop} (hk : IsK P w s.heap k b) {ys : List Value} (hy : ∀ y ∈ ys, ∃ k' c, y = Value.ref c ∧ IsK P w s.heap k' c) (h : Q false s) :
    wpAny (model P w) A (searchCouldBeSeen (.ref b) ys) Q E s := by
  unfold searchCouldBeSeen
  refine wpAny_bind ?_
  refine wpAny_forIn_list _ (fun rest r s' => r.1 = none ∧ s' = s ∧ ∀ y ∈ rest, ∃ k' c, y = Value.ref c ∧ IsK P w s.heap k' c) _ ?_ ?_ _ _ ⟨rfl, rfl, hy⟩
  · rintro v rest r s' ⟨hr, rfl, hall⟩
    obtain ⟨k', c, rfl, hc⟩ := hall v List.mem_cons_self
    have next : ∀ y ∈ rest, ∃ k' c, y = Value.ref c ∧ IsK P w s'.heap k' c := fun u hu' => hall u (List.mem_cons_of_mem _ hu')
    dsimp only
    by_cases hv : (b == c || (carriedByValue (.ref b) && carriedByValue (.ref c))) = true
    · exact wp_if_pos hv (wpAny_pure ⟨rfl, rfl, next⟩)
    · refine wp_if_neg hv ?_
      refine wpAny_bind (wpAny_eqIsQuiet_tuple hk ?_)
      simp only [Bool.not_true, Bool.false_eq_true, if_false]
      refine wpAny_bind (wpAny_eqIsQuiet_tuple hc ?_)
      simp only [Bool.not_true, Bool.false_eq_true, if_false]
      refine wpAny_bind (noClass_tup hk ?_)
      simp only [Bool.false_eq_true, if_false]
      refine wpAny_bind (noClass_tup hc ?_)
      simp only [Bool.false_eq_true, if_false]
      exact wpAny_pure ⟨rfl, rfl, next⟩
  · rintro ⟨r1, r2⟩ s' ⟨hr, rfl, _⟩
    simp only at hr
    subst hr
    exact wpAny_pure h
/-! ### the set -/
abbrev Row (P : Program) (w : World) (p : Addr × List Key) : Int × Value := (khash P w p.2, Value.ref p.1)
structure SetM (P : Program) (w : World) (h : Heap) (a : Addr) (L : List (Addr × List Key)) (es : Array (Int × Value)) (ep : Nat) (t : SetTable) : Prop where
  ob : ∃ o, h.get? a = some o ∧ o.ExactSet ∧ o.data = .set es ep t
  rows : es.toList = L.map (Row P w)
  tab : Tab t (L.map fun p => khash P w p.2)
  nd : (L.map (·.2)).Nodup
  led : w.params.followText "set-order" = true ∨ t.led = true
  room : L.length * 5 < t.mask * 3
variable {a : Addr} {L : List (Addr × List Key)} {es : Array (Int × Value)} {ep : Nat} {t : SetTable}
theorem SetM.size {h : Heap} (R : SetM P w h a L es ep t) : es.size = L.length := by
  have h := congrArg List.length R.rows
  rw [Array.length_toList, List.length_map] at h
  exact h
theorem SetM.fits {h : Heap} (R : SetM P w h a L es ep t) : t.fits es.size = true := by
  have h1 := R.tab.sz
  rw [List.length_map] at h1
  have h2 := R.size
  have h3 := R.room
  unfold SetTable.fits SetTable.fill
  rw [R.tab.dm, Bool.and_eq_true, beq_iff_eq, decide_eq_true_eq]
  show t.place.size = es.size ∧ t.place.size + 0 ≤ t.mask
  omega
theorem SetM.entry {h : Heap} (R : SetM P w h a L es ep t) {i : Nat} {p : Addr × List Key} (e : L[i]? = some p) : es[i]? = some (Row P w p) := by
  rw [← Array.getElem?_toList, R.rows, List.getElem?_map, e]
  rfl
theorem SetM.gw {h : Heap} (R : SetM P w h a L es ep t) : ¬ t.gaveWay = true := by
  unfold SetTable.gaveWay
  rw [R.tab.mok.odd]
  decide
/-- THE SEARCH: from the c-th step of the way on -/
theorem look_from (R : SetM P w s.heap a L es ep t) (ht : ∀ p ∈ L, IsK P w s.heap p.2 p.1) {x : Addr} {k : List Key} (hx : IsK P w s.heap k x) (hu : A.units < cLine) {K : Nat} (hKf : K < 10 * SetTable.turns t.mask)
    (hK : way t.mask (khash P w k) K ∉ t.place.toList) (hKb : ∀ c, c < K → way t.mask (khash P w k) c ∈ t.place.toList) {Q : SetFound → Shared → Prop}
    (hin : k ∈ L.map (·.2) → Q (.there none) s) (hout : k ∉ L.map (·.2) → Q (.free (way t.mask (khash P w k) K) false) s) :
    ∀ (f c : Nat) (stand : Option SetTable.Probe), stand.getD (t.probeStart (khash P w k)) = nth t.mask (runAt t.mask (SetTable.bits (khash P w k) % (t.mask + 1)) (SetTable.bits (khash P w k))) c → c ≤ K → K - c < f →
      (∀ (i : Nat) p, L[i]? = some p → p.2 = k → ∃ c', c ≤ c' ∧ c' < K ∧ t.place.toList[i]? = some (way t.mask (khash P w k) c')) →
      wpAny (model P w) A (setSearchFrom a (.ref x) (khash P w k) true f stand) Q E s
  | 0, c, stand, _, _, hf, _ => absurd hf (Nat.not_lt_zero _)
  | f + 1, c, stand, hst, hc, hf, hre => by
    obtain ⟨o, ho, hex, hd⟩ := R.ob
    rw [setSearchFrom_succ]
    refine wpAny_bind (wpAny_setState_of ho hd R.fits ?_)
    dsimp only
    refine wp_if_neg R.gw ?_
    generalize hp0 : runAt t.mask (SetTable.bits (khash P w k) % (t.mask + 1)) (SetTable.bits (khash P w k)) = p0 at hst
    have wj : ∀ q, way t.mask (khash P w k) q = (nth t.mask p0 q).j := fun q => by rw [← hp0]
    have hnd : (nth t.mask p0 c).dummy = none := by
      have key : ∀ (n : Nat) (p : SetTable.Probe), p.dummy = none → (nth t.mask p n).dummy = none := by
        intro n
        induction n with
        | zero => exact fun p h => h
        | succ n ih =>
          intro p h
          refine ih (adv t.mask p) ?_
          unfold adv
          split <;> exact h
      exact key c _ (by rw [← hp0]; rfl)
    have sh : ∀ q, nth t.mask (nth t.mask p0 c) q = nth t.mask p0 (c + q) := fun q => (nth_add t.mask c _ q).symm
    have e1 : ∀ q, (nth t.mask (nth t.mask p0 c) q).j = way t.mask (khash P w k) (c + q) := fun q => by rw [wj, sh]
    have spec := go_spec t R.tab.ris R.tab.dm (fun i => (es[i]?.map (·.1)).getD 0) (khash P w k) (10 * SetTable.turns t.mask) (K - c) _ hnd (by omega)
      (fun q hq => by rw [e1]; exact hKb (c + q) (by omega)) (by rw [e1, show c + (K - c) = K by omega]; exact hK)
    have hashAt : ∀ (i : Nat) p, L[i]? = some p → (fun i => (es[i]?.map (·.1)).getD 0) i = khash P w p.2 := fun i p hp => by
      show (es[i]?.map (·.1)).getD 0 = _
      rw [R.entry hp]
      rfl
    rcases spec with ⟨q, i, hq, hi, hh, hno, hpr⟩ | ⟨hno, hpr⟩
    · have hpr' : t.probe (fun i => (es[i]?.map (·.1)).getD 0) (khash P w k) (stand.getD (t.probeStart (khash P w k))) = some (.candidate (way t.mask (khash P w k) (c + q)) i (nth t.mask p0 (c + (q + 1)))) := by
        rw [hst, ← e1, ← sh]
        exact hpr
      rw [hpr']
      dsimp only
      rw [e1] at hi
      have hil : i < L.length := by
        have h1 : i < t.place.toList.length := (List.getElem?_eq_some_iff.mp hi).1
        have h2 := R.tab.sz
        rw [List.length_map] at h2
        rw [Array.length_toList] at h1
        omega
      have hp : L[i]? = some L[i] := List.getElem?_eq_getElem hil
      generalize hpe : L[i] = p at hp
      have hmem : p ∈ L := List.mem_of_getElem? hp
      have hpt := ht p hmem
      have rest : wpAny (model P w) A (searchRest a (.ref x) (khash P w k) true f es t (way t.mask (khash P w k) (c + q)) i (nth t.mask p0 (c + (q + 1)))) Q E s := by
        unfold searchRest
        rw [R.entry hp]
        dsimp only
        refine wpAny_bind (wpAny_holding (wpAny_eqBool_tuple hu hpt hx ?_))
        refine wpAny_bind (wpAny_setState_of ho hd R.fits ?_)
        dsimp only
        by_cases hkk : p.2 = k
        · refine wp_if_pos (by simp [hkk]) ?_
          exact wpAny_pure (hin (List.mem_map.mpr ⟨p, hmem, hkk⟩))
        · refine wp_if_neg (by simp [hkk]) ?_
          rw [sameMem]
          dsimp only
          have hsl : t.slot (way t.mask (khash P w k) (c + q)) = .live i := slot_live R.tab.ris hi
          simp only [if_true, hsl, R.entry hp]
          refine wpAny_bind (wpAny_isSame_ref_self (wpAny_bind (wpAny_pure ?_)))
          simp only [if_true]
          refine wp_if_neg (by simp [hkk]) ?_
          refine look_from R ht hx hu hKf hK hKb hin hout f (c + (q + 1)) _ (by rw [hp0]; rfl) (by omega) (by omega) fun i0 p1 h0 hk0 => ?_
          obtain ⟨c', a1, a2, a3⟩ := hre i0 p1 h0 hk0
          refine ⟨c', ?_, a2, a3⟩
          rcases Nat.lt_trichotomy c' (c + q) with z | z | z
          · exfalso
            refine hno (c' - c) i0 (by omega) (by rw [e1, show c + (c' - c) = c' by omega]; exact a3) ?_
            exact (hashAt i0 p1 h0).trans (congrArg (khash P w) hk0)
          · exfalso
            rw [z] at a3
            have s0 := slot_live R.tab.ris a3
            rw [hsl] at s0
            injection s0 with s0
            rw [← s0, hp] at h0
            exact hkk ((congrArg Prod.snd (Option.some.inj h0)).trans hk0)
          · omega
      by_cases hl : t.led = true
      · exact wp_if_neg (by simp [hl]) rest
      · refine wp_if_pos (by simp [hl]) ?_
        refine wpAny_bind (unseen hx (fun y hy => ?_) ?_)
        · obtain ⟨e, he, ee⟩ := List.mem_map.mp hy
          have he1 : e ∈ es ∧ e.1 = khash P w k := by simpa using he
          have he2 : e ∈ es.toList := by simpa using he1.1
          rw [R.rows] at he2
          obtain ⟨p2, hp2, e2⟩ := List.mem_map.mp he2
          refine ⟨p2.2, p2.1, ?_, ht p2 hp2⟩
          rw [← ee, ← e2]
        · exact wp_if_neg (by decide) rest
    · have hpr' : t.probe (fun i => (es[i]?.map (·.1)).getD 0) (khash P w k) (stand.getD (t.probeStart (khash P w k))) = some (.empty (way t.mask (khash P w k) K) none) := by
        have e2 : way t.mask (khash P w k) K = (nth t.mask (nth t.mask p0 c) (K - c)).j := by rw [e1, show c + (K - c) = K by omega]
        rw [hst, e2]
        exact hpr
      rw [hpr']
      dsimp only
      refine wpAny_pure (hout fun hm => ?_)
      obtain ⟨p1, h0, hk0⟩ := List.mem_map.mp hm
      obtain ⟨i0, hi0, e0⟩ := List.getElem_of_mem h0
      have h00 : L[i0]? = some p1 := by rw [List.getElem?_eq_getElem hi0, e0]
      obtain ⟨c', a1, a2, a3⟩ := hre i0 p1 h00 hk0
      refine hno (c' - c) i0 (by omega) (by rw [e1, show c + (c' - c) = c' by omega]; exact a3) ?_
      exact (hashAt i0 p1 h00).trans (congrArg (khash P w) hk0)
theorem look_in (R : SetM P w s.heap a L es ep t) (ht : ∀ p ∈ L, IsK P w s.heap p.2 p.1) {x : Addr} {k : List Key} (hx : IsK P w s.heap k x) (hu : A.units < cLine) {Q : SetFound → Shared → Prop}
    (hin : k ∈ L.map (·.2) → Q (.there none) s)
    (hout : ∀ K, k ∉ L.map (·.2) → way t.mask (khash P w k) K ∉ t.place.toList → (∀ c, c < K → way t.mask (khash P w k) c ∈ t.place.toList) → Q (.free (way t.mask (khash P w k) K) false) s) :
    wpAny (model P w) A (setSearch a (.ref x) (khash P w k) true) Q E s := by
  have hroom := R.room
  have hle := R.tab.mok.le
  obtain ⟨K, hKf, hK, hKb⟩ := R.tab.first (by rw [List.length_map]; omega) (khash P w k)
  have hbig : K < 100000 := by
    unfold SetTable.turns at hKf
    omega
  unfold setSearch
  refine look_from R ht hx hu hKf hK hKb hin (fun hn => hout K hn hK hKb) 100000 0 none rfl (Nat.zero_le _) (by omega) fun i p hp hk => ?_
  have hi : (L.map fun p => khash P w p.2)[i]? = some (khash P w k) := by rw [List.getElem?_map, hp, ← hk]; rfl
  have hil : i < t.place.toList.length := by
    have h1 : i < L.length := (List.getElem?_eq_some_iff.mp hp).1
    have h2 := R.tab.sz
    rw [List.length_map] at h2
    rw [Array.length_toList]
    omega
  have hj := List.getElem?_eq_getElem hil
  obtain ⟨c, hc, e⟩ := R.tab.before hK hi hj
  exact ⟨c, Nat.zero_le _, hc, by rw [hj, e]⟩
end
end Mw
end
section
set_option maxRecDepth 100000
set_option maxHeartbeats 4000000
/-! Sets of tuples: adding, the table laid anew; set(xs), sorted(set(xs)). -/
namespace Mw
open PySem PySem.Spec PyProof.Rows L2
section
variable {P : Program} {w : World} {A : Around} {E : Value → Shared → Prop} {s : Shared}
variable {a : Addr} {L : List (Addr × List Key)} {es : Array (Int × Value)} {ep : Nat} {t : SetTable}
theorem order_new (L : List (Addr × List Key)) (es : Array (Int × Value)) (order : Array Nat) (hr : es.toList = L.map (Row P w)) (hp : order.toList.Perm (List.range L.length)) :
    ∃ L2 : List (Addr × List Key), (order.filterMap (es[·]?)).toList = L2.map (Row P w) ∧ L2.Perm L ∧ (L2.map fun p => khash P w p.2) = order.toList.map fun i => (es.map (·.1)).getD i 0 := by
  have ent : ∀ i (h : i < L.length), es[i]? = some (Row P w L[i]) := fun i h => by
    rw [← Array.getElem?_toList, hr, List.getElem?_map, List.getElem?_eq_getElem h]
    rfl
  have key : ∀ l : List Nat, (∀ i ∈ l, i < L.length) → l.filterMap (fun i => es[i]?) = (l.filterMap (fun i => L[i]?)).map (Row P w) ∧ ((l.filterMap (fun i => L[i]?)).map fun p => khash P w p.2) = l.map fun i => (es.map (·.1)).getD i 0 := by
    intro l
    induction l with
    | nil => exact fun _ => ⟨rfl, rfl⟩
    | cons i l ih =>
      intro hl
      have hi := hl i List.mem_cons_self
      obtain ⟨e1, e3⟩ := ih fun j hj => hl j (List.mem_cons_of_mem _ hj)
      rw [List.filterMap_cons_some (ent i hi), List.filterMap_cons_some (List.getElem?_eq_getElem hi), List.map_cons, List.map_cons, List.map_cons, e1, e3]
      refine ⟨rfl, ?_⟩
      have e5 : (es.map (·.1))[i]? = some (khash P w (L[i]).2) := by rw [Array.getElem?_map, ent i hi]; rfl
      rw [Array.getD_eq_getD_getElem?, e5]
      rfl
  obtain ⟨e1, e3⟩ := key order.toList fun i hi => List.mem_range.mp (hp.mem_iff.mp hi)
  refine ⟨_, by first | (rw [Array.toList_filterMap]; exact e1) | simpa using e1, ?_, e3⟩
  have h2 : (List.range L.length).filterMap (fun i => L[i]?) = L := by
    have key2 : ∀ n, n ≤ L.length → (List.range n).filterMap (fun i => L[i]?) = L.take n := by
      intro n
      induction n with
      | zero => exact fun _ => rfl
      | succ n ih =>
        intro hn
        rw [List.range_succ, List.filterMap_append, ih (Nat.le_of_lt hn), List.take_succ, List.getElem?_eq_getElem hn, List.filterMap_cons_some (List.getElem?_eq_getElem hn)]
        rfl
    rw [key2 L.length (Nat.le_refl _), List.take_length]
  have h1 := hp.filterMap (fun i => L[i]?)
  rw [h2] at h1
  exact h1
/-- laid anew, larger -/
theorem relay_set {o : Obj} (ho : s.heap.get? a = some o) (hex : o.ExactSet) (hd : o.data = .set es ep t) (hrows : es.toList = L.map (Row P w)) (hsz : t.place.size = es.size) (hdm : t.dummies = #[]) (hfl : es.size ≤ t.mask)
    (nd : (L.map (·.2)).Nodup) (ld : w.params.followText "set-order" = true ∨ t.led = true) {wanted M : Nat} (hw : SetTable.sizeAbove wanted - 1 = M) (hM : MOk M) (hw2 : SetTable.sizeAbove wanted ≤ 2048) (hn : L.length * 5 < M * 3) {Q : Unit → Shared → Prop}
    (hQ : ∀ h' L' es' ep' t', Heap.SameBut a s.heap h' → SetM P w h' a L' es' ep' t' → L'.Perm L → Q () { s with heap := h' }) : wpAny (model P w) A (setRelay a wanted) Q E s := by
  have hsl : es.size = L.length := by
    have h := congrArg List.length hrows
    rw [Array.length_toList, List.length_map] at h
    exact h
  have hMl := hM.le
  have hfits : t.fits es.size = true := by
    unfold SetTable.fits SetTable.fill
    rw [hdm, Bool.and_eq_true, beq_iff_eq, decide_eq_true_eq]
    show t.place.size = es.size ∧ t.place.size + 0 ≤ t.mask
    omega
  obtain ⟨t', order, e, rl⟩ := relaid_all t (hs := es.map (·.1)) (wanted := wanted) hw hM (by rw [Array.size_map, hsl]; omega)
  have hp := rl.perm
  rw [Array.size_map, hsl] at hp
  obtain ⟨L2, r1, r2, r3⟩ := order_new L es order hrows hp
  have T := rl.tab
  rw [← r3] at T
  have hs2 : (order.filterMap (es[·]?)).size = es.size := by
    have h := congrArg List.length r1
    rw [Array.length_toList, List.length_map, r2.length_eq] at h
    rw [h, hsl]
  rw [setRelay_eq]
  refine wpAny_bind (wpAny_setState_of ho hd hfits ?_)
  dsimp only
  refine wp_if_neg (by rw [sizeLine_eq]; omega) ?_
  rw [e]
  dsimp only
  refine wpAny_bind ?_
  refine wp_if_neg (by rw [hs2]; simp) ?_
  refine wpAny_pure ?_
  dsimp only
  refine wpAny_storeSet_of ho hd ?_ (by rw [hs2, hsl, sizeLine_eq]; omega)
  have sb : Heap.SameBut a s.heap (s.heap.update a (Obj.putSet (order.filterMap (es[·]?)) t')) := Heap.SameBut.update ..
  refine hQ _ L2 (order.filterMap (es[·]?)) (ep + 1) t' sb ⟨⟨_, store_at ho hd, ⟨hex.1, hex.2.1, hex.2.2⟩, rfl⟩, r1, T, (r2.map (·.2)).nodup_iff.mpr nd, by rw [rl.led]; exact ld, ?_⟩ r2
  rw [r2.length_eq, rl.mask]
  exact hn
theorem Tab.off {t t' : SetTable} {hs : List Int} (T : Tab t hs) (h1 : t'.mask = t.mask) (h2 : t'.place = t.place) (h3 : t'.dummies = t.dummies) : Tab t' hs := by
  obtain ⟨a1, a2, a3, a4, a5, a6⟩ := T
  rw [← h2] at a1 a3 a5 a6
  rw [← h1] at a4 a5 a6
  rw [← h3] at a2
  exact ⟨a1, a2, a3, a4, a5, a6⟩
/-- adding -/
theorem add_set (R : SetM P w s.heap a L es ep t) (ht : ∀ p ∈ L, IsK P w s.heap p.2 p.1) {x : Addr} {k : List Key} (hx : IsK P w s.heap k x) (hu : A.units < cLine) (hfew : L.length + 1 ≤ 1228) {Q : Bool → Shared → Prop}
    (hQ : ∀ b h' L' es' ep' t', Heap.SameBut a s.heap h' → SetM P w h' a L' es' ep' t' → (k ∈ L.map (·.2) → L' = L) → (k ∉ L.map (·.2) → L'.Perm ((x, k) :: L)) → Q b { s with heap := h' }) :
    wpAny (model P w) A (setAddHashed a (.ref x) (khash P w k)) Q E s := by
  obtain ⟨o, ho, hex, hd⟩ := R.ob
  have hsl := R.size
  have hroom := R.room
  have hle := R.tab.mok.le
  unfold setAddHashed
  refine wpAny_holding ?_
  rw [show (100000 : Nat) = 99999 + 1 from rfl, setAddHashedIn_succ]
  refine wpAny_bind (wpAny_setState_of ho hd R.fits ?_)
  dsimp only
  refine wp_if_neg (by simp [byScan, Value.scannable]) ?_
  refine wpAny_bind (look_in R ht hx hu (fun hm => ?_) fun K hm hK hb => ?_)
  · dsimp only
    exact wpAny_pure (hQ false s.heap L es ep t (Heap.SameBut.refl a s.heap) R (fun _ => rfl) fun z => absurd hm z)
  dsimp only
  refine wpAny_bind (wpAny_setState_of ho hd R.fits ?_)
  dsimp only
  have pk := R.tab.put hK hb
  obtain ⟨q1, q2, q3, q4, q5, q9⟩ := pk
  generalize hpt : t.put (way t.mask (khash P w k) K) = pt at q1 q3 q4 q5 q9 ⊢
  obtain ⟨t1, p⟩ := pt
  dsimp only at q1 q3 q4 q5 q9 ⊢
  subst q1
  -- what follows, whatever becomes of «plain»
  have go : ∀ t2 : SetTable, t2.mask = t1.mask → t2.place = t1.place → t2.dummies = t1.dummies → t2.led = t1.led →
      wpAny (model P w) A (do
        storeSet a (SetTable.insertAt es (SetTable.below t.place (way t.mask (khash P w k) K)) (khash P w k, Value.ref x)) t2
        if (!false && t2.tooFull) = true then setRelay a (SetTable.grown (es.size + 1))
        return true) Q E s := by
    intro t2 m1 m2 m3 m4
    have T2 := q3.off m1 m2 m3
    have f2 : t2.fill = (L.map fun p => khash P w p.2).length + 1 := by
      have : t2.fill = t1.fill := by
        unfold SetTable.fill
        rw [m2, m3]
      rw [this, q9]
    have hin : (SetTable.insertAt es (SetTable.below t.place (way t.mask (khash P w k) K)) (khash P w k, Value.ref x)).toList = (L.take (SetTable.below t.place (way t.mask (khash P w k) K)) ++ (x, k) :: L.drop (SetTable.below t.place (way t.mask (khash P w k) K))).map (Row P w) := by
      rw [SetTable.toList_insertAt, R.rows, List.map_append, List.map_cons, List.map_take, List.map_drop]
    generalize hpp : SetTable.below t.place (way t.mask (khash P w k) K) = p at q2 T2 hin ⊢
    have pm := put_perm L p (x, k)
    have hlen : (L.take p ++ (x, k) :: L.drop p).length = L.length + 1 := pm.length_eq
    have hhs : (L.take p ++ (x, k) :: L.drop p).map (fun p => khash P w p.2) = (L.map fun p => khash P w p.2).take p ++ khash P w k :: (L.map fun p => khash P w p.2).drop p := by
      rw [List.map_append, List.map_cons, List.map_take, List.map_drop]
    rw [← hhs] at T2
    have nd1 : ((L.take p ++ (x, k) :: L.drop p).map (·.2)).Nodup := by
      refine (pm.map (·.2)).nodup_iff.mpr ?_
      rw [List.map_cons]
      exact List.nodup_cons.mpr ⟨hm, R.nd⟩
    have hes : (SetTable.insertAt es p (khash P w k, Value.ref x)).size = L.length + 1 := by
      have h := congrArg List.length hin
      rw [Array.length_toList, List.length_map, hlen] at h
      exact h
    generalize SetTable.insertAt es p (khash P w k, Value.ref x) = es1 at hin hes ⊢
    generalize L.take p ++ (x, k) :: L.drop p = L1 at pm hlen T2 nd1 hin
    refine wpAny_bind (wpAny_storeSet_of ho hd ?_ (by rw [hes, sizeLine_eq]; omega))
    have sb : Heap.SameBut a s.heap (s.heap.update a (Obj.putSet es1 t2)) := Heap.SameBut.update ..
    have ho1 := store_at (es' := es1) (t' := t2) ho hd
    generalize s.heap.update a (Obj.putSet es1 t2) = h1 at sb ho1 ⊢
    have ld1 : w.params.followText "set-order" = true ∨ t2.led = true := by rw [m4, q5]; exact R.led
    have mk : t2.mask = t.mask := m1.trans q4
    rw [List.length_map] at f2
    have full : t2.tooFull = decide ((L.length + 1) * 5 ≥ t.mask * 3) := by
      unfold SetTable.tooFull
      rw [f2, mk]
    by_cases hf : (L.length + 1) * 5 ≥ t.mask * 3
    · have hfb : (!false && t2.tooFull) = true := by rw [full, decide_eq_true hf]; rfl
      first
        | (refine wpAny_bind ?_; refine wp_if_pos hfb ?_)
        | (refine wp_if_pos hfb ?_; refine wpAny_bind ?_)
      rw [hsl]
      have hsz1 : t2.place.size = es1.size := by
        have h := T2.sz
        rw [List.length_map, hlen] at h
        rw [h, hes]
      have cases2 : (t.mask = 7 ∧ L.length = 4) ∨ (t.mask = 31 ∧ L.length = 18) ∨ (t.mask = 127 ∧ L.length = 76) ∨ (t.mask = 511 ∧ L.length = 306) := by
        rcases R.tab.mok with (e | e | e) | e | e <;> rw [e] at hf hroom <;> omega
      have go2 : ∀ M, SetTable.sizeAbove (SetTable.grown (L.length + 1)) - 1 = M → MOk M → SetTable.sizeAbove (SetTable.grown (L.length + 1)) ≤ 2048 → (L.length + 1) * 5 < M * 3 →
          wpAny (model P w) A (setRelay a (SetTable.grown (L.length + 1))) (fun _ s' => wpAny (model P w) A (pure true) Q E s') E { s with heap := h1 } := fun M h1' h2' h3' h4' => by
        refine relay_set (s := { s with heap := h1 }) ho1 ⟨hex.1, hex.2.1, hex.2.2⟩ rfl hin hsz1 T2.dm (by rw [hes, mk]; omega) nd1 ld1 h1' h2' h3' (by rw [hlen]; exact h4') ?_
        intro h2 L2 es2 ep2 t3 sb2 R2 pm2
        exact wpAny_pure (hQ true h2 L2 es2 ep2 t3 (sb.trans sb2) R2 (fun z => absurd z hm) fun _ => pm2.trans pm)
      rcases cases2 with ⟨_, e2⟩ | ⟨_, e2⟩ | ⟨_, e2⟩ | ⟨_, e2⟩
      · exact go2 31 (by rw [e2, grow5]) (.inl (.inr (.inl rfl))) (by rw [e2, grow5]; decide) (by omega)
      · exact go2 127 (by rw [e2, grow19]) (.inl (.inr (.inr rfl))) (by rw [e2, grow19]; decide) (by omega)
      · exact go2 511 (by rw [e2, grow77]) (.inr (.inl rfl)) (by rw [e2, grow77]; decide) (by omega)
      · exact go2 2047 (by rw [e2, grow307]) (.inr (.inr rfl)) (by rw [e2, grow307]; decide) (by omega)
    · have hfb : ¬ (!false && t2.tooFull) = true := by rw [full, decide_eq_false hf]; decide
      have done : Q true { s with heap := h1 } := hQ true h1 L1 es1 (ep + 1) t2 sb ⟨⟨_, ho1, ⟨hex.1, hex.2.1, hex.2.2⟩, rfl⟩, hin, T2, nd1, ld1, by rw [hlen, mk]; omega⟩ (fun z => absurd z hm) fun _ => pm
      first
        | exact wp_if_neg hfb (wpAny_pure done)
        | (refine wpAny_bind ?_; refine wp_if_neg hfb ?_; exact wpAny_pure (wpAny_pure done))
  by_cases hpl : t1.plain = true
  · refine wp_if_pos hpl (wpAny_bind (hashBy_any hx fun c => ?_))
    cases c with
    | true => exact go t1 rfl rfl rfl rfl
    | false => exact go { t1 with plain := false } rfl rfl rfl rfl
  · refine wp_if_neg hpl (wpAny_bind (wpAny_pure ?_))
    exact go t1 rfl rfl rfl rfl
/-! ### set(xs) -/
theorem isK_keep {h h' : Heap} {k : List Key} {b : Addr} (x : IsK P w h k b) (hk : Kept h h') : IsK P w h' k b := by
  obtain ⟨o, items, n, ho, r⟩ := x
  exact ⟨o, items, n, hk b o ho, r⟩
/-- the set at S holds just these of the tuples ks -/
structure GotM (P : Program) (w : World) (S : Addr) (h : Heap) (ks : List (Addr × List Key)) (i : Nat) : Prop where
  ex : ∃ L es ep t, SetM P w h S L es ep t ∧ (∀ p ∈ L, p ∈ ks) ∧ (∀ k, k ∈ L.map (·.2) ↔ k ∈ (ks.take i).map (·.2)) ∧ L.length ≤ i
theorem gotM_leans {S : Addr} {h0 : Heap} {ks : List (Addr × List Key)} : Leans S h0 (fun i h => GotM P w S h ks i) := fun i h h' ⟨L, es, ep, t, R, r⟩ k _ => by
  obtain ⟨o, ho, q⟩ := R.ob
  exact ⟨L, es, ep, t, ⟨⟨o, k o ho, q⟩, R.rows, R.tab, R.nd, R.led, R.room⟩, r⟩
theorem gotM_fresh {S : Addr} {h : Heap} {ks : List (Addr × List Key)} (e : h.get? S = some (freshSet w)) : GotM P w S h ks 0 :=
  ⟨[], #[], 0, _, ⟨⟨_, e, ⟨rfl, rfl, rfl⟩, rfl⟩, rfl, ⟨List.Pairwise.nil, rfl, rfl, .inl (.inl rfl), fun x hx => (by cases hx), fun i h j hi => (by simp at hi)⟩, List.nodup_nil, by
    show _ ∨ (!w.params.followText "set-order") = true
    cases w.params.followText "set-order"
    · exact .inr rfl
    · exact .inl rfl, by show 0 * 5 < 7 * 3; decide⟩, fun p h => (by cases h), fun k => by simp, Nat.le_refl _⟩
theorem gotM_adds {S : Addr} {h0 : Heap} {vs : List Value} {ks : List (Addr × List Key)} (hI : vs = ks.map fun p => Value.ref p.1) (hk : ∀ p ∈ ks, IsK P w h0 p.2 p.1) (hz : ks.length ≤ 1228) {A : Around} (hu : A.units < cLine) :
    Adds P w A S h0 (fun i h => GotM P w S h ks i) (fun i v => vs.toArray[i]? = some v) vs.toArray.size := by
  intro i v s hi hv ⟨L, es, ep, t, R, sub, mem, len⟩ kp E Q hQ
  have hi' : i < ks.length := by
    rw [hI] at hi
    simpa using hi
  have hp : ks[i]? = some ks[i] := List.getElem?_eq_getElem hi'
  obtain rfl : v = .ref (ks[i]).1 := by
    have hv' : vs[i]? = some v := by simpa using hv
    rw [hI, List.getElem?_map, hp] at hv'
    exact (Option.some.inj hv').symm
  generalize ks[i] = p at hp
  have hm : p ∈ ks := List.mem_of_getElem? hp
  have hx : IsK P w s.heap p.2 p.1 := isK_keep (hk p hm) kp
  have e : ks.take (i + 1) = ks.take i ++ [p] := by
    rw [List.take_succ, hp]
    rfl
  have me : ∀ k, k ∈ (ks.take (i + 1)).map (·.2) ↔ k ∈ (ks.take i).map (·.2) ∨ k = p.2 := fun k => by
    rw [e, List.map_append, List.mem_append, List.map_cons, List.map_nil, List.mem_singleton]
  unfold setAdd
  refine wpAny_holding ?_
  refine wpAny_bind (wpAny_pyHash_tuple hu hx ?_)
  refine add_set (s := { s with toks := s.toks + (p.2.length + 1) }) R (fun q hq => isK_keep (hk q (sub q hq)) kp) hx hu (by omega) fun b h' L' es' ep' t' sb R' c1 c2 => ?_
  refine hQ b h' _ sb (Nat.le_add_right _ _) ?_
  by_cases c : p.2 ∈ L.map (·.2)
  · refine ⟨L', es', ep', t', R', fun q hq => sub q (by rw [← c1 c]; exact hq), fun k => ?_, by rw [c1 c]; omega⟩
    rw [me, c1 c, mem]
    exact ⟨.inl, fun z => z.elim id fun z => by rw [z]; exact (mem _).mp c⟩
  · have pm := c2 c
    refine ⟨L', es', ep', t', R', fun q hq => ?_, fun k => ?_, by rw [pm.length_eq, List.length_cons]; omega⟩
    · rcases List.mem_cons.mp (pm.mem_iff.mp hq) with z | z
      · rw [z]; exact hm
      · exact sub q z
    · rw [me, (pm.map (·.2)).mem_iff, List.map_cons, List.mem_cons, mem]
      exact Or.comm
end
/-! ### as rules of the layer -/
def encK (k : Key) : PyData := match k with
  | .inl i => .int i
  | .inr x => .str x
def encT (k : List Key) : PyData := .tuple (k.map encK)
theorem encK_is {H : Hp} {v : V} {k : Key} (h : Is H v (encK k)) : v = kV k := by
  cases k with
  | inl i => exact Is.int_inv h
  | inr x => exact Is.str_inv h
theorem encK_all {H : Hp} : ∀ {vs : List V} {k : List Key}, IsAll H vs (k.map encK) → vs = k.map kV
  | vs, [], h => by rw [h.nil_inv]; rfl
  | vs, x :: k, h => by
    obtain ⟨v, r, rfl, a, b⟩ := IsAll.cons_inv (d := encK x) (ds := k.map encK) h
    rw [encK_is a, encK_all b]
    rfl
theorem items_of_keys {P : Program} {w : World} : ∀ {k : List Key} {us : List Value}, Vals (k.map kV) us → ItemsAre (mixKind P w) k us
  | [], _, .nil => .nil
  | .inl i :: k, _, .cons r t => by
    obtain ⟨tk, rfl⟩ := r
    exact .cons (keyIs_int i tk) (items_of_keys t)
  | .inr x :: k, _, .cons r t => by
    obtain ⟨tk, rfl⟩ := r
    exact .cons (keyIs_str x tk) (items_of_keys t)
section
variable {X : Cx} {pins : List (Addr × Obj)} {σ : L2.St} {H : Hp} {s : Shared}
theorem isK_of (I : L2.Inv X pins σ H s) {b : Addr} {k : List Key} (h : Is H (.ref b) (encT k)) : IsK X.prog X.w s.heap k b := by
  obtain ⟨a, xs, e, ha, hx⟩ := h.tup_inv
  cases e
  obtain ⟨its, r, ⟨o, ho, hc, n, hd⟩, _⟩ := I.tuple (SqT.of ha)
  rw [encK_all hx] at r
  exact ⟨o, its.toArray, n, ho, hc, hd, by simpa using items_of_keys r⟩
theorem keys_of : ∀ {xs : List V} {ks : List (List Key)}, IsAll H xs (ks.map encT) → ∃ ps : List (Addr × List Key), xs = (ps.map fun p => V.ref p.1) ∧ ps.map (·.2) = ks ∧ ∀ p ∈ ps, Is H (.ref p.1) (encT p.2)
  | xs, [], h => ⟨[], by rw [h.nil_inv]; rfl, rfl, fun _ h => absurd h (by simp)⟩
  | xs, k :: ks, h => by
    obtain ⟨v, r, rfl, a, b⟩ := IsAll.cons_inv (d := encT k) (ds := ks.map encT) h
    obtain ⟨ps, e1, e2, e3⟩ := keys_of b
    obtain ⟨c, ys, rfl, _, _⟩ := Is.tup_inv (ds := k.map encK) a
    refine ⟨(c, k) :: ps, by rw [e1]; rfl, by rw [← e2]; rfl, fun p hp => ?_⟩
    rcases List.mem_cons.mp hp with z | z
    · rw [z]; exact a
    · exact e3 p z
theorem refs_are {ps : List (Addr × List Key)} : ∀ {us : List Value}, Vals (ps.map fun p => V.ref p.1) us → us = ps.map fun p => Value.ref p.1 := by
  induction ps with
  | nil => intro us r; cases r; rfl
  | cons p ps ih =>
    intro us r
    cases r with
    | cons a b =>
      cases a
      rw [ih b]
      rfl
/-- the set of the tuples ks, as the layer tracks it -/
def SetMO (P : Program) (w : World) (a : Addr) (ks : List (Addr × List Key)) : HO := .ext fun h => GotM P w a h ks ks.length
theorem setMO_new {P : Program} {w : World} {H : Hp} {h : Heap} {a : Addr} {ks : List (Addr × List Key)} (R : GotM P w a h ks ks.length) : ObjOk P w H h a (SetMO P w a ks) := by
  have ⟨L, es, ep, t, R', _⟩ := R
  obtain ⟨o, ho, _⟩ := R'.ob
  exact ⟨R, ⟨o, ho⟩, fun h1 h2 p k => gotM_leans (h0 := { objs := #[] }) _ _ _ p k (fun b o e => by simp [Heap.get?] at e)⟩
/-- set(xs), xs a list of tuples -/
def rSetM (P : Program) (w : World) : List V → Hp → VK → Prop := fun xs H Q => ∃ (l : Addr) (ks : List (List Key)), xs = [V.ref l] ∧ IsL H l (ks.map encT) ∧ ks.length ≤ 1228 ∧
  ∀ a ps, H a = none → ps.map (·.2) = ks → (∀ p ∈ ps, Is H (.ref p.1) (encT p.2)) → Q (.ref a) (upd H a (SetMO P w a ps))
theorem cr_setM (hc : X.calm = true) (hu : X.A.units + 64 < cLine) : CallR X (.type "set") (rSetM X.prog X.w) := by
  intro pins s σ H xs us Q I r h
  obtain ⟨l, ks, rfl, ⟨ys, hl, hy⟩, hz, q⟩ := h
  obtain ⟨u, rfl, ru⟩ := vals1 r
  obtain rfl : u = Value.ref l := ru
  obtain ⟨ps, e1, e2, e3⟩ := keys_of hy
  subst e1 e2
  obtain ⟨its, rv, pl, hzz⟩ := I.list (SqL.of hl)
  have hn : H s.heap.objs.size = none := I.hok.fresh (Nat.le_refl _)
  have ei := refs_are rv
  rw [List.length_map] at hz
  have hlen : its.toArray.size = ps.length := by rw [List.size_toArray, ei, List.length_map]
  refine set_of_list (P := X.prog) (w := X.w) (J := fun i h => GotM X.prog X.w s.heap.objs.size h ps i) (I.ok.hd hc) pl.isList gotM_leans (fun h' _ e => gotM_fresh e) (fun A' hA' => gotM_adds ei (fun p hp => isK_of I (e3 p hp)) hz (by omega)) fun h' tk R k => ?_
  rw [hlen] at R
  exact ⟨.ref s.heap.objs.size, upd H s.heap.objs.size (SetMO X.prog X.w s.heap.objs.size ps), I.laid (t' := tk) k (Nat.le_refl _) (setMO_new R), rfl, q _ ps hn rfl e3⟩
theorem alike_keys {k k' : List Key} (h : k.map (·.isLeft) = k'.map (·.isLeft)) : PySem.W.alike (encT k) (encT k') = true := by
  have key : ∀ (k k' : List Key), k.map (·.isLeft) = k'.map (·.isLeft) → PySem.W.alikeAll (k.map encK) (k'.map encK) = true := by
    intro k
    induction k with
    | nil => intro k' _; simp [PySem.W.alikeAll]
    | cons x k ih =>
      intro k' h
      cases k' with
      | nil => simp at h
      | cons y k' =>
        simp only [List.map_cons, List.cons.injEq] at h
        rw [List.map_cons, List.map_cons, PySem.W.alikeAll, ih k' h.2, Bool.and_true]
        cases x <;> cases y <;> first | rfl | (simp at h)
  show PySem.W.alikeAll _ _ = true
  exact key k k' h
theorem encT_depth (k : List Key) : (encT k).depth ≤ 8 := by
  have key : ∀ k : List Key, PyData.depthAll (k.map encK) = 0 := by
    intro k
    induction k with
    | nil => rfl
    | cons x k ih =>
      rw [List.map_cons, PyData.depthAll, ih]
      cases x <;> rfl
  show PyData.depthAll (k.map encK) + 1 ≤ 8
  rw [key]
  decide
theorem encT_plain (k : List Key) : plainD (encT k) = true := by
  show plainA (k.map encK) = true
  induction k with
  | nil => rfl
  | cons x k ih =>
    rw [List.map_cons, plainA, ih, Bool.and_true]
    cases x <;> rfl
/-- sorted(set of tuples): all of one shape sh, not empty ones -/
def rSortedM (P : Program) (w : World) : List V → Hp → VK → Prop := fun vs H Q => ∃ (a : Addr) (ps : List (Addr × List Key)) (sh : List Bool), vs = [V.ref a] ∧ H a = some (SetMO P w a ps) ∧ (∀ p ∈ ps, Is H (.ref p.1) (encT p.2)) ∧ ps.length ≤ 1228 ∧ sh ≠ [] ∧ (∀ p ∈ ps, p.2.map (·.isLeft) = sh) ∧
  ∀ (ks : List (List Key)) (xs : List V) (p : Addr), ks.Nodup → (∀ k, k ∈ ks ↔ k ∈ ps.map (·.2)) → H p = none → IsAll H xs ((ks.mergeSort (PySem.W.dataLe false encT)).map encT) → Q (.ref p) (upd H p (.lst xs))
theorem cr_sortedM (hc : X.calm = true) (hu : X.A.units + 64 < cLine) : CallR X (.builtin "sorted") (rSortedM X.prog X.w) := by
  intro pins s σ H vs us Q I r h
  obtain ⟨a, ps, sh, rfl, ha, ht, hz, hne, hsh, q⟩ := h
  rw [Vals.ref1 r]
  obtain ⟨L, es, ep, t, R, sub, mem, len⟩ : GotM X.prog X.w a s.heap ps ps.length := (I.hok a _ ha).1
  obtain ⟨o, ho, hex, hd⟩ := R.ob
  have hsz := R.size
  rw [List.take_length] at mem
  have e : PySem.W.EachIs (fun u b => ∃ x, Is H x (encT b) ∧ RelV x u) (es.toList.map (·.2)) (L.map (·.2)) := by
    rw [R.rows]
    have key : ∀ l : List (Addr × List Key), (∀ p ∈ l, p ∈ ps) → PySem.W.EachIs (fun u b => ∃ x, Is H x (encT b) ∧ RelV x u) ((l.map (Row X.prog X.w)).map (·.2)) (l.map (·.2)) := by
      intro l
      induction l with
      | nil => exact fun _ => .nil
      | cons p l ih => exact fun h => .cons ⟨.ref p.1, ht p (h p List.mem_cons_self), rfl⟩ (ih fun x hx => h x (List.mem_cons_of_mem _ hx))
    exact key L sub
  have shape : ∀ k ∈ L.map (·.2), k.map (·.isLeft) = sh := fun k hk => by
    obtain ⟨p, hp, e⟩ := List.mem_map.mp hk
    rw [← e]
    exact hsh p (sub p hp)
  refine sorted_set_layer (enc := encT) I hc hu ⟨o, ho, hex.1, hd⟩ R.fits (by unfold scanBound; omega) R.tab.ris R.led e (fun d hd d' hd' => ?_) (.inl fun d hd => ?_) (fun b _ => encT_depth b) (fun b _ => encT_plain b) fun p xs bs pb hp ix => ?_
  · obtain ⟨k, hk, rfl⟩ := List.mem_map.mp hd
    obtain ⟨k', hk', rfl⟩ := List.mem_map.mp hd'
    exact alike_keys ((shape k hk).trans (shape k' hk').symm)
  · obtain ⟨k, hk, rfl⟩ := List.mem_map.mp hd
    have := shape k hk
    cases k with
    | nil => exact absurd this.symm hne
    | cons x k => exact ⟨_, _, rfl⟩
  · exact q bs xs p (pb.nodup_iff.mpr R.nd) (fun k => by rw [pb.mem_iff, mem]) hp ix
end
end Mw
end
section
set_option maxRecDepth 100000
set_option maxHeartbeats 4000000
/-! zip of three lists in a for; a tuple reversed by a slice; a text by a number. -/
namespace Mw
open PySem PySem.Spec PyProof.Rows L2
/-! ### for a, b, c in zip(xs, ys, zs) -/
def Itz3 (K : PySem.W.Frag) (a b c : Addr) : It :=
  ⟨fun i H => ∃ (xs ys zs : List V) (x y z : V), SqL K H a xs ∧ SqL K H b ys ∧ SqL K H c zs ∧ xs[i]? = some x ∧ ys[i]? = some y ∧ zs[i]? = some z,
    fun i H v H' => ∃ T x y z, v = .ref T ∧ H T = none ∧ H' = upd H T (.tup [x, y, z]) ∧ (∀ xs, SqL K H a xs → xs[i]? = some x) ∧ (∀ ys, SqL K H b ys → ys[i]? = some y) ∧ ∀ zs, SqL K H c zs → zs[i]? = some z,
    fun i H => ∃ xs ys zs : List V, SqL K H a xs ∧ SqL K H b ys ∧ SqL K H c zs ∧ i ≤ xs.length ∧ i ≤ ys.length ∧ i ≤ zs.length ∧ (i = xs.length ∨ i = ys.length ∨ i = zs.length)⟩
/-- the list that an iterator walks is no cell of the zip's -/
structure Apart3 (z TI TO i1 i2 i3 a b c : Addr) : Prop where
  sep : ZipSep3 z TI TO i1 i2 i3 [i1, a] [i2, b] [i3, c]
  n1 : a ≠ i1
  n2 : b ≠ i2
  n3 : c ≠ i3
theorem turn_zip3 {P : Program} {w : World} {K : PySem.W.Frag} {elts : List Expr} {kk : Nat} {tpos : Pos} {a b c z TI TO i1 i2 i3 : Addr} (D : Apart3 z TI TO i1 i2 i3 a b c) :
    Turn P w K (.Tuple elts kk tpos) (Itz3 K a b c) [z, TI, TO, i1, i2, i3] z
      (fun i h => IsZip h z TI TO .none ∧ IsTupOf3 h TI (.ref i1) (.ref i2) (.ref i3) ∧ (∃ x y u, IsTupOf3 h TO x y u) ∧ h.IsListIter i1 a i ∧ h.IsListIter i2 b i ∧ h.IsListIter i3 c i) where
  mem := by simp
  obj := fun i h st d hd => by
    obtain ⟨hz, hTI, ⟨x, y, u, hTO⟩, ⟨o1, e1, _, d1⟩, ⟨o2, e2, _, d2⟩, ⟨o3, e3, _, d3⟩⟩ := st
    have e' : d = z ∨ d = TI ∨ d = TO ∨ d = i1 ∨ d = i2 ∨ d = i3 := by simpa using hd
    rcases e' with q | q | q | q | q | q <;> rw [q]
    · exact ⟨_, hz, fun v q => nomatch q⟩
    · exact ⟨_, hTI, fun v q => nomatch q⟩
    · exact ⟨_, hTO, fun v q => nomatch q⟩
    · exact ⟨o1, e1, fun v q => by rw [d1] at q; cases q⟩
    · exact ⟨o2, e2, fun v q => by rw [d2] at q; cases q⟩
    · exact ⟨o3, e3, fun v q => by rw [d3] at q; cases q⟩
  keep := fun i h h' st k => by
    obtain ⟨hz, hTI, ⟨x, y, u, hTO⟩, h1, h2, h3⟩ := st
    exact ⟨k z (by simp) _ hz, k TI (by simp) _ hTI, ⟨x, y, u, k TO (by simp) _ hTO⟩, h1.at fun o q => k i1 (by simp) o q, h2.at fun o q => k i2 (by simp) o q, h3.at fun o q => k i3 (by simp) o q⟩
  item := by
    intro X hP hw hK hc i pins s σ H E I hf st hg
    subst hP hw hK
    obtain ⟨hz, hTI, ⟨x0, y0, u0, hTO⟩, h1, h2, h3⟩ := st
    obtain ⟨xs, ys, zs, x, y, u, hqx, hqy, hqz, hx, hy, hu⟩ := hg
    obtain ⟨its, rv, p, _⟩ := I.list hqx
    obtain ⟨its2, rv2, p2, _⟩ := I.list hqy
    obtain ⟨its3, rv3, p3, _⟩ := I.list hqz
    have hh : X.A.in1.handled = none := by simp [I.ok.hd hc]
    have lt : ∀ {xs : List V} {its : List Value} {x : V}, Vals xs its → xs[i]? = some x → i < its.toArray.size := fun rv hx => by
      have := (List.getElem?_eq_some_iff.mp hx).1
      rw [List.size_toArray, ← rv.length]
      exact this
    have rel : ∀ {xs : List V} {its : List Value} {x : V} {v : Value}, Vals xs its → xs[i]? = some x → its.toArray[i]? = some v → RelV x v    := fun {xs its x v} rv hx hv => by
      obtain ⟨v', hv', r⟩ := rv.get hx
      have h2 : its[i]? = some v := by simpa using hv
      rw [hv'] at h2
      cases h2
      exact r
    have hzl : z < s.heap.objs.size := Heap.lt_size hz
    refine wpAny_pyNext_zipD3_item D.sep (Draws.list hh i1 a D.n1 its.toArray) (Draws.list hh i2 b D.n2 its2.toArray) (Draws.list hh i3 c D.n3 its3.toArray) hz hTI hTO ⟨h1, p.isList⟩ ⟨h2, p2.isList⟩ ⟨h3, p3.isList⟩ (lt rv hx) (lt rv2 hy) (lt rv3 hu)
      fun v1 v2 v3 h' tk y1 y2 y3 z' TO' st1 st2 st3 hT hsz hk => ?_
    refine ⟨_, rfl, wpAny_letOwnedTupleGo_zip (s := { s with heap := h', toks := tk }) z' fun h'' z'' sb => ?_⟩
    have hT2 : h''.get? s.heap.objs.size = some { cls := .type "tuple", data := .seq #[v1, v2, v3] } := (sb.2 _ (Nat.ne_of_gt hzl)).trans hT
    have new : ObjOk X.prog X.w (upd H s.heap.objs.size (.tup [x, y, u])) h'' s.heap.objs.size (.tup [x, y, u]) :=
      ⟨by show 3 ≤ sizeLine; decide, [v1, v2, v3], .cons (rel rv hx y1) (.cons (rel rv2 hy y2) (.cons (rel rv3 hu y3) .nil)), ⟨_, hT2, rfl, _, rfl⟩⟩
    have I1 : Inv X pins σ (upd H s.heap.objs.size (.tup [x, y, u])) { s with heap := h'', toks := tk } :=
      I.turnedNew (t' := tk) (ch := [z, TI, TO, i1, i2, i3]) (fun c o hb q => (sb.2 c (fun q' => hb (by simp [q']))).trans (hk c o (fun q' => hb (by simp [q'])) (fun q' => hb (by simp [q'])) (fun q' => hb (by simp [q'])) (fun q' => hb (by simp [q'])) (fun q' => hb (by simp [q'])) q)) hf (Nat.le_refl _) new
    refine ⟨.ref s.heap.objs.size, _, I1, rfl, ⟨_, x, y, u, rfl, I.hok.fresh (Nat.le_refl _), rfl, fun l hl => by rw [I.list_inj hl hqx]; exact hx, fun l hl => by rw [I.list_inj hl hqy]; exact hy, fun l hl => by rw [I.list_inj hl hqz]; exact hu⟩,
      ⟨z'', (sb.2 _ D.sep.TIz).trans (hk _ _ D.sep.TIz D.sep.TITO D.sep.TIi1 D.sep.TIi2 D.sep.TIi3 hTI), ⟨v1, v2, v3, (sb.2 _ D.sep.TOz).trans TO'⟩, st1.1.at fun o q => (sb.2 _ D.sep.zi1.symm).trans q, st2.1.at fun o q => (sb.2 _ D.sep.zi2.symm).trans q, st3.1.at fun o q => (sb.2 _ D.sep.zi3.symm).trans q⟩, fun d hd => ?_⟩
    have hlt : d < s.heap.objs.size := by
      have e' : d = z ∨ d = TI ∨ d = TO ∨ d = i1 ∨ d = i2 ∨ d = i3 := by simpa using hd
      rcases e' with q | q | q | q | q | q <;> rw [q]
      · exact hzl
      · exact Heap.lt_size hTI
      · exact Heap.lt_size hTO
      · obtain ⟨_, e1, _⟩ := h1; exact Heap.lt_size e1
      · obtain ⟨_, e2, _⟩ := h2; exact Heap.lt_size e2
      · obtain ⟨_, e3, _⟩ := h3; exact Heap.lt_size e3
    rw [upd_ne (Nat.ne_of_lt hlt)]
    exact (hf d hd).1
  done := by
    intro X hP hw hK hc i pins s σ H E I hf st hg
    subst hP hw hK
    obtain ⟨hz, hTI, ⟨x0, y0, u0, hTO⟩, h1, h2, h3⟩ := st
    obtain ⟨xs, ys, zs, hqx, hqy, hqz, l1, l2, l3, hend⟩ := hg
    obtain ⟨its, rv, p, _⟩ := I.list hqx
    obtain ⟨its2, rv2, p2, _⟩ := I.list hqy
    obtain ⟨its3, rv3, p3, _⟩ := I.list hqz
    have hh : X.A.in1.handled = none := by simp [I.ok.hd hc]
    have e1 := rv.length
    have e2 := rv2.length
    have e3 := rv3.length
    refine wpAny_pyNext_zipD3_end D.sep (Draws.list hh i1 a D.n1 its.toArray) (Draws.list hh i2 b D.n2 its2.toArray) (Draws.list hh i3 c D.n3 its3.toArray) hz hTI hTO ⟨h1, p.isList⟩ ⟨h2, p2.isList⟩ ⟨h3, p3.isList⟩
      (by rw [List.size_toArray]; omega) (by rw [List.size_toArray]; omega) (by rw [List.size_toArray]; omega) (by rw [List.size_toArray, List.size_toArray, List.size_toArray]; omega) fun h' tk hk => ⟨rfl, I.turnedL (t' := tk) (ch := [z, TI, TO, i1, i2, i3]) (fun c o hb q =>
      hk c o (fun q' => hb (by simp [q'])) (fun q' => hb (by simp [q'])) (fun q' => hb (by simp [q'])) (fun q' => hb (by simp [q'])) (fun q' => hb (by simp [q'])) q) hf⟩
  self := fun A i s Q E st h => wpAny_pyIter_zip st.1 h
def iZip3 (K : PySem.W.Frag) (ta : TA) : TI := fun σ H R => ta σ H fun vs H1 => ∃ a b c xs ys zs, vs = [.ref a, .ref b, .ref c] ∧ SqL K H1 a xs ∧ SqL K H1 b ys ∧ SqL K H1 c zs ∧ R (Itz3 K a b c) H1
theorem pi_zip3 {X : Cx} {e e2 e3 : Expr} {ta : TA} {p pos tpos : Pos} {elts : List Expr} {kk : Nat} (hg : Gl X "zip") (hm : X.mg "zip" = none) (ha : PA X [e, e2, e3] ta)
    (hs : starEach [e, e2, e3] X.env = (false, eval e X.env) :: starEach [e2, e3] X.env := by rfl) (hpl : (backTo pos (starEach [e2, e3] X.env)).any (·.1) = false := by rfl) :
    PI X (.Tuple elts kk tpos) (.Call (.Name "zip" p) [e, e2, e3] [] pos) (iZip3 X.K ta) := by
  refine ⟨fun pins s σ H R I h => ?_⟩
  refine Call_ (ld_blt I hg hm PyProof.Rows.boot_zip (PyProof.Rows.callWith_type1 (thn (ha.run pos pins s σ H _ I h) fun us s1 ⟨vs, H1, I1, r1, q1⟩ => ?_) hs hpl))
  obtain ⟨a, b, c, xs, ys, zs, ex, hqx, hqy, hqz, q⟩ := q1
  subst ex
  cases r1 with
  | cons r rr =>
    cases rr with
    | cons r' rr =>
      cases rr with
      | cons r'' rr =>
        cases rr
        cases r
        cases r'
        cases r''
        obtain ⟨its, rv, p1, _⟩ := I1.list hqx
        obtain ⟨its2, rv2, p2, _⟩ := I1.list hqy
        obtain ⟨its3, rv3, p3, _⟩ := I1.list hqz
        have la : a < s1.heap.objs.size := p1.lt
        have lb : b < s1.heap.objs.size := p2.lt
        have lc : c < s1.heap.objs.size := p3.lt
        refine zip_begins3 (begins_list a its.toArray) (begins_list b its2.toArray) (begins_list c its3.toArray) p1.isList p2.isList p3.isList fun h' hz hTI hTO h1 h2 h3 hsz hk => wpAny_pyIter_zip hz ?_
        have I2 : Inv X pins σ H1 { s1 with heap := h' } := I1.kept (t' := s1.toks) hk
        have D : Apart3 (s1.heap.objs.size + 5) (s1.heap.objs.size + 3) (s1.heap.objs.size + 4) s1.heap.objs.size (s1.heap.objs.size + 1) (s1.heap.objs.size + 2) a b c :=
          ⟨zip_sep3 (fun d hd => by rw [List.mem_singleton.mp hd]; exact la) (fun d hd => by rw [List.mem_singleton.mp hd]; exact lb) (fun d hd => by rw [List.mem_singleton.mp hd]; exact lc), Nat.ne_of_lt la, Nat.ne_of_lt (Nat.lt_succ_of_lt lb), Nat.ne_of_lt (Nat.lt_succ_of_lt (Nat.lt_succ_of_lt lc))⟩
        refine ⟨s1.heap.objs.size + 5, [s1.heap.objs.size + 5, s1.heap.objs.size + 3, s1.heap.objs.size + 4, s1.heap.objs.size, s1.heap.objs.size + 1, s1.heap.objs.size + 2], _, _, H1, rfl, I2, turn_zip3 D, ⟨hz, hTI, ⟨_, _, _, hTO⟩, ⟨_, h1, rfl, rfl⟩, ⟨_, h2, rfl, rfl⟩, ⟨_, h3, rfl, rfl⟩⟩, fun d hd => ?_, q⟩
        have e' : d = s1.heap.objs.size + 5 ∨ d = s1.heap.objs.size + 3 ∨ d = s1.heap.objs.size + 4 ∨ d = s1.heap.objs.size ∨ d = s1.heap.objs.size + 1 ∨ d = s1.heap.objs.size + 2 := by simpa using hd
        have hle : s1.heap.objs.size ≤ d := by
          rcases e' with z | z | z | z | z | z <;> rw [z] <;> first | exact Nat.le_add_right _ _ | exact Nat.le_refl _
        exact I1.fpOk hle (I1.hok.fresh hle)
/-- three lists walked together -/
theorem walk_zip3 {K : PySem.W.Frag} {a b c : Addr} {xs ys zs : List V} {n : Nat} (h1 : n ≤ xs.length) (h2 : n ≤ ys.length) (h3 : n ≤ zs.length) (hn : n = xs.length ∨ n = ys.length ∨ n = zs.length) :
    Walk (Itz3 K a b c) n (fun H => SqL K H a xs ∧ SqL K H b ys ∧ SqL K H c zs) (fun i H v H' => ∃ T x y z, v = .ref T ∧ H T = none ∧ H' = upd H T (.tup [x, y, z]) ∧ xs[i]? = some x ∧ ys[i]? = some y ∧ zs[i]? = some z) :=
  ⟨fun i _ hi q => ⟨xs, ys, zs, xs[i]'(by omega), ys[i]'(by omega), zs[i]'(by omega), q.1, q.2.1, q.2.2, List.getElem?_eq_getElem _, List.getElem?_eq_getElem _, List.getElem?_eq_getElem _⟩, fun _ q => ⟨xs, ys, zs, q.1, q.2.1, q.2.2, h1, h2, h3, hn⟩,
    fun _ _ _ _ _ q ⟨T, x, y, z, e1, e2, e3, f1, f2, f3⟩ => ⟨T, x, y, z, e1, e2, e3, f1 xs q.1, f2 ys q.2.1, f3 zs q.2.2⟩⟩

/-! ### t[::-1] -/
section
variable {prog : Program} {w : World} {A : Around} {E : Value → Shared → Prop} {s : Shared}
theorem fm_congr {α β : Type} {f g : α → Option β} : ∀ {l : List α}, (∀ a ∈ l, f a = g a) → l.filterMap f = l.filterMap g
  | [], _ => rfl
  | a :: l, h => by rw [List.filterMap_cons, List.filterMap_cons, h a (List.mem_cons_self ..), fm_congr fun b hb => h b (List.mem_cons_of_mem _ hb)]
theorem pick_back (xs : Array Value) : ((List.range xs.size).filterMap fun (k : Nat) => xs[(((xs.size : Int) - 1) + (k : Int) * -1).toNat]?).toArray = xs.toList.reverse.toArray := by
  have e : (List.range xs.size).filterMap (fun (k : Nat) => xs[(((xs.size : Int) - 1) + (k : Int) * -1).toNat]?) = ((List.range xs.size).map fun k => xs.size - 1 - k).filterMap (xs[·]?) := by
    rw [List.filterMap_map]
    refine fm_congr fun k hk => ?_
    have := List.mem_range.mp hk
    show xs[(((xs.size : Int) - 1) + (k : Int) * -1).toNat]? = xs[xs.size - 1 - k]?
    congr 1
    omega
  rw [e, PySem.W.krv_range, List.filterMap_reverse, PySem.W.krv_all]
theorem getItem_tuple_back {t sl : Addr} {items : Array Value} {vs : Value} {Q : Value → Shared → Prop} (ht : IsTup s.heap t items) (hs : s.heap.IsSliceOf sl .none .none vs) (ps : IsPart vs (some (-1)))
    (h : Q (.ref s.heap.objs.size) { s with heap := s.heap.push { cls := .type "tuple", data := .seq items.toList.reverse.toArray } }) (hsz : items.size ≤ sizeLine) : wpAny (model prog w) A (getItem (.ref t) (.ref sl)) Q E s := by
  have hrev : sizeOk (.seq items.toList.reverse.toArray) := by
    show items.toList.reverse.toArray.size ≤ sizeLine
    rw [List.size_toArray, List.length_reverse, Array.length_toList]
    exact hsz
  obtain ⟨os, hos, hcs, hds⟩ := id hs
  have hTs : s.TypeIs (.ref sl) "slice" := ⟨os, hos, hcs⟩
  unfold getItem
  try with_reducible refine wpAny_holding ?_
  first | refine wpAny_bind (wpAny_pure ?_) | skip
  refine wpAny_bind (wpAny_sequenceKey ht.typeIs (by decide) ?_)
  refine wpAny_bind (wpAny_callSpecial?_slot (name := Str.ofString "__getitem__") ht.typeIs PyProof.Rows.slot_tuple_getitem
    (wpAny_call_entry PyProof.Rows.slot_tuple_getitem ht.typeIs entry_tuple_getitem ?_ (args_tuple_getitem _ _)))
  show wpAny _ _ (Builtin.Tuple.tupleItemsOf (.ref t) >>= _) _ _ s
  refine wpAny_bind (tupleItemsOf_ ht ?_)
  refine wpAny_bind (wpAny_typeOf hTs ?_)
  rw [if_pos (by decide)]
  have app : ∀ {Q' : Int × Int × Nat → Shared → Prop}, Q' (((items.size : Int) - 1), -1, items.size) s → wpAny (model prog w) A.in1 (Builtin.Slice.sliceApplied (.ref sl) (pure (items.size : Int))) Q' E s := fun {Q'} q => by
    unfold Builtin.Slice.sliceApplied Builtin.Slice.sliceFields
    refine wpAny_bind (wpAny_bind (wpAny_field hos hds (x := .none) rfl (wpAny_bind (wpAny_field hos hds (x := .none) rfl (wpAny_bind (wpAny_field hos hds (x := vs) rfl (wpAny_pure ?_)))))))
    refine wpAny_bind (HT.slicePart_ ps ?_)
    show wpAny _ _ (if ((-1 : Int) == 0) = true then _ else _) _ _ s
    rw [if_neg (by decide)]
    refine wpAny_bind (slicePart_none (wpAny_bind (slicePart_none (wpAny_bind (wpAny_pure ?_)))))
    show wpAny _ _ (pure (((items.size : Int) - 1), (-1 : Int), Builtin.Slice.slicePlaces ((items.size : Int) - 1) (-1) (-1))) _ _ s
    have e : Builtin.Slice.slicePlaces ((items.size : Int) - 1) (-1) (-1) = items.size := by
      unfold Builtin.Slice.slicePlaces
      rw [if_neg (by decide)]
      by_cases c : (items.size : Int) - 1 > -1
      · rw [if_pos c, show (-(-1) : Int) = 1 by decide, Int.ediv_one]
        omega
      · rw [if_neg c]
        omega
    rw [e]
    exact wpAny_pure q
  refine wpAny_bind (app ?_)
  show wpAny _ _ (if (((items.size : Int) - 1) == 0 && (-1 : Int) == 1 && items.size == items.size) = true then _ else _) _ _ s
  rw [if_neg (by
    intro q
    rw [Bool.and_eq_true, Bool.and_eq_true] at q
    exact absurd q.1.2 (by decide)), pick_back]
  first
    | exact wpAny_bind (m := Builtin.Tuple.tupleExact _) (wpAny_newObj_type (wpAny_pure ⟨_, rfl, wpAny_pure h⟩) hrev)
    | exact wpAny_bind (m := Builtin.Tuple.tupleExact _) (wpAny_newObj_type (wpAny_bind (wpAny_pure (wpAny_pure ⟨_, rfl, wpAny_pure h⟩))) hrev)
    | exact wpAny_bind (wpAny_bind (m := Builtin.Tuple.tupleExact _) (wpAny_newObj_type (wpAny_pure (wpAny_pure ⟨_, rfl, wpAny_pure h⟩)) hrev))
    | exact wpAny_bind (wpAny_bind (m := Builtin.Tuple.tupleExact _) (wpAny_newObj_type (wpAny_pure ⟨_, rfl, wpAny_pure h⟩) hrev))
end
def tRevT (K : PySem.W.Frag) (te : TE) : TE := fun σ H Q => te σ H fun x H1 => ∃ a xs, x = .ref a ∧ SqT K H1 a xs ∧ ∀ p, H1 p = none → Q (.ref p) (upd H1 p (.tup xs.reverse))
section
variable {X : Cx}
theorem pe_revT {e : Expr} {te : TE} {k : Nat} {p1 p2 p3 pos : Pos} (he : PE X e te) : PE X (.Subscript e (.Slice none none (some (.UnaryOp .USub (.Constant (.int 1) k p1) p2)) p3) pos) (tRevT X.K te) := by
  refine ⟨fun pins s σ H Q I h => ?_⟩
  refine Subscript_ (thn (he.run pins s σ H _ I h) fun v s1 ⟨x, H1, I1, r1, q1⟩ => ?_)
  obtain ⟨a, xs, ex, hx, q⟩ := q1
  subst ex
  cases r1
  have hst : PO X (some (.UnaryOp .USub (.Constant (.int 1) k p1) p2)) (tPart (tUn (rU fun i => .int (-i)) (tC (.int 1)))) := po_some (pe_un un_neg pe_int)
  refine wpAny_Slice ?_
  rw [evalPart_none]
  refine wpAny_pure ?_
  refine wpAny_pure ?_
  refine thn (hst.run pins s1 σ H1 (fun o H4 => o = some (-1) ∧ H4 = H1) I1 ⟨1, rfl, -1, rfl, rfl, rfl⟩) fun vs s4 ⟨o, H4, I4, ps, eo, e4⟩ => ?_
  subst eo e4
  have I5 : L2.Inv X pins σ H4 { s4 with heap := s4.heap.push { cls := .type "slice", data := .fields #[.none, .none, vs] } } := I4.kept (t' := s4.toks) fun b ob q => Heap.get?_push_of_some _ q
  obtain ⟨its, r, ht, hz⟩ := I5.tuple hx
  have hlen := r.length
  show wpAny (model X.prog X.w) X.A (subscriptTail e (.Slice none none (some (.UnaryOp .USub (.Constant (.int 1) k p1) p2)) p3) (.ref a) (.ref s4.heap.objs.size)) (EP X pins σ Q) X.xe { s4 with heap := s4.heap.push { cls := .type "slice", data := .fields #[.none, .none, vs] } }
  refine tail_any (ops := [.ref a, .ref s4.heap.objs.size]) ht.typeIs (PyProof.Rows.slot_tuple_getitem.lookup) ?_ (by with_unfolding_all rfl)
  refine getItem_tuple_back ht (Heap.IsSliceOf.new _ .none .none vs) ps ?_ (by rw [List.size_toArray]; omega)
  refine ⟨.ref _, _, I5.laid (t' := s4.toks) (o := .tup xs.reverse) (fun b ob q => Heap.get?_push_of_some _ q) (Nat.le_refl _) ?_, rfl, q _ (I5.hok.fresh (Nat.le_refl _))⟩
  exact ⟨by rw [List.length_reverse]; exact hz, _, r.reverse, by
    have := IsTup.new { s4 with heap := s4.heap.push { cls := .type "slice", data := .fields #[.none, .none, vs] } }.heap its.toArray.toList.reverse.toArray
    simpa using this⟩
/-! ### text * int -/
def repS (z : Str) (n : Nat) : Str := ⟨(List.replicate n z.cps).foldl (· ++ ·) #[]⟩
theorem op_mulS : OpR X (binaryOp .Mult) (fun x y H Q => ∃ z n, x = .str z ∧ y = .int n ∧ z.length = 1 ∧ 1 ≤ n ∧ n ≤ 100 ∧ Q (.str (repS z n.toNat)) H) := by
  intro pins s σ H x y v u Q I rx ry h
  obtain ⟨z, n, rfl, rfl, hz, h1, h2, q⟩ := h
  obtain ⟨t, rfl⟩ := rx
  obtain ⟨t', rfl⟩ := ry
  have e1 : n = 1 → repS z n.toNat = z := fun e => by
    subst e
    unfold repS
    show (⟨(#[] : Array Nat) ++ z.cps⟩ : Str) = z
    rw [Array.empty_append]
  refine P.mul_str (by
    have a : ¬ n < -(2 ^ 63) := by omega
    have b : ¬ n ≥ 2 ^ 63 := by omega
    rw [decide_eq_false a, decide_eq_false b]; rfl) (fun _ _ => ?_) (fun _ _ => ?_) ?_
  · rw [hz]
    have : (1 : Int) ≤ (2 ^ 63 - 1) / n := (Int.le_ediv_iff_mul_le (by omega)).mpr (by omega)
    omega
  · rw [hz]
    unfold Builtin.Str.tooLong
    have : ¬ sizeLine < 1 * n.toNat := by rw [sizeLine_eq]; omega
    simpa using this
  · rw [if_neg (by omega)]
    by_cases c : n = 1
    · subst c
      rw [if_pos (by rfl)]
      refine ⟨.str (repS z 1), H, I, ⟨t, ?_⟩, q⟩
      rw [show repS z 1 = z from e1 rfl]
    · rw [if_neg (by
        rw [hz]
        simp [c])]
      refine ⟨?_, .str _, H, I.tok _, ⟨_, rfl⟩, q⟩
      have hl : ∀ (m : Nat) (a : Array Nat), ((List.replicate m z.cps).foldl (· ++ ·) a).size = a.size + m * z.cps.size := fun m => by
        induction m with
        | zero => intro a; simp
        | succ m ih =>
          intro a
          rw [List.replicate_succ, List.foldl_cons, ih, Array.size_append, Nat.succ_mul]
          omega
      have hz' : z.cps.size = 1 := hz
      show ((List.replicate n.toNat z.cps).foldl (· ++ ·) #[]).size ≤ sizeLine
      rw [hl, hz', sizeLine_eq]
      have : (#[] : Array Nat).size = 0 := rfl
      omega
end
end Mw
end
section
set_option maxRecDepth 100000
set_option maxHeartbeats 4000000
/-! The frame of the walk; the defs that turn. -/
namespace Mw
open PySem PySem.Spec PyProof.Rows L2
def top (i : Nat) : Stmt := PySem.Challenge.pw_maskwright_k17_whole_cells_and_sheets.main.body.getD i (.Pass ⟨0, 0, 0, 0⟩)
/-- a def of the program as a name that is called: it keeps its promise at level k -/
theorem seq_by {t u : TS} {D : Ends} {σ : L2.St} {H : Hp} (PRE : L2.St → Hp → Prop) (h2 : ∀ σ' H', PRE σ' H' → u D σ' H') (h1 : (∀ σ' H', PRE σ' H' → u D σ' H') → t { D with nx := u D } σ H) : tSeq t u D σ H := h1 h2
theorem seq_if {c : TT} {t t' u : TS} {D : Ends} {σ : L2.St} {H : Hp} (PRE : L2.St → Hp → Prop) (h2 : ∀ σ' H', PRE σ' H' → u D σ' H') (h1 : (∀ σ' H', PRE σ' H' → u D σ' H') → tIfS c t t' { D with nx := u D } σ H) : tSeq (tIfS c t t') u D σ H := h1 h2
theorem seq_for {wi : TI} {g : TG} {t u : TS} {D : Ends} {σ : L2.St} {H : Hp} (PRE : L2.St → Hp → Prop) (h2 : ∀ σ' H', PRE σ' H' → u D σ' H') (h1 : (∀ σ' H', PRE σ' H' → u D σ' H') → tFor wi g t { D with nx := u D } σ H) : tSeq (tFor wi g t) u D σ H := h1 h2
theorem seq_while {c : TT} {t u : TS} {D : Ends} {σ : L2.St} {H : Hp} (PRE : L2.St → Hp → Prop) (h2 : ∀ σ' H', PRE σ' H' → u D σ' H') (h1 : (∀ σ' H', PRE σ' H' → u D σ' H') → tWhile c t { D with nx := u D } σ H) : tSeq (tWhile c t) u D σ H := h1 h2
theorem asg {i : Nat} {v : V} {σ : L2.St} {H : Hp} {Q : L2.St → Hp → Prop} (h : Q (σ.set i (some v)) H) : gName i v σ H Q := h
structure Has (P : Program) (w : World) (K : PySem.W.Frag) (mg : Str → Option Value) (base : Heap) (x : Str) (k : Nat) (ps : List Str) (sp : Sp) : Prop where
  ex : ∃ (f : Addr) (fd : FuncData), FnOk P w K mg base CX0 k f fd ps sp ∧ Binds K fd ps [] ∧ PySem.W.keepIn K (.ref f) = true ∧ mg x = some (.ref f)
def tF (sp : Sp) (t : TA) : TE := fun σ H Q => t σ H fun vs H1 => sp vs H1 Q E0
section
variable {X : Cx} {x : Str} {j k : Nat} {ps : List Str} {sp : Sp} {e : Expr} {es : List Expr} {t : TA} {p pos : Pos}
theorem pe_f (J : Has X.prog X.w X.K X.mg X.base x j ps sp) (hr : Room k X.A) (ha : PA X (e :: es) t) (hg : Gl X x := by rfl) (hjk : j ≤ k := by decide) (hd : (x == ("__debug__" : Str)) = false := by decide)
    (he : starEach (e :: es) X.env = (false, eval e X.env) :: starEach es X.env := by rfl) (hpl : (backTo pos (starEach es X.env)).any (·.1) = false := by rfl) : PE X (.Call (.Name x p) (e :: es) [] pos) (tF sp t) := by
  obtain ⟨f, fd, F, hb, hk, hm⟩ := J.ex
  refine ⟨fun pins s σ H Q I h => (pe_call (dvs := []) (ds := []) F (hr.mono hjk) hg hm hk hb .nil pass0 ha (by assumption) he hpl).run pins s σ H Q I ?_⟩
  have e0 : (fun (vs : List V) (H1 : Hp) => sp (vs ++ []) H1 Q E0) = fun vs H1 => sp vs H1 Q E0 := by
    funext vs H1
    rw [List.append_nil]
  show t σ H (fun vs H1 => sp (vs ++ []) H1 Q E0)
  rw [e0]
  exact h
end
theorem nomk {op : CmpOp} {e : Expr} (h : behindInMarks op e = false := by first | rfl | exact nomark _) : behindInMarks op e = false := h
/-! ### how a region stands in the heap -/
def encR (r : Rect) : PyData := .tuple [.int r.1, .int r.2.1, .int r.2.2.1, .int r.2.2.2]
def encS (s : Int × Int) : PyData := .tuple [.int s.1, .int s.2]
def encLine (l : Line) : PyData := .tuple (l.map encS)
def encB (b : Band) : PyData := .tuple [.int b.1, .int b.2.1, encLine b.2.2]
def encReg (R : Reg) : PyData := .tuple (R.map encB)
theorem rect_inv {H : Hp} {v : V} {r : Rect} (h : Is H v (encR r)) : ∃ a, v = .ref a ∧ H a = some (.tup [.int r.1, .int r.2.1, .int r.2.2.1, .int r.2.2.2]) := by
  obtain ⟨a, xs, rfl, ha, hx⟩ := h.tup_inv
  obtain ⟨v1, v2, v3, v4, rfl, h1, h2, h3, h4⟩ := hx.four_inv
  rw [h1.int_inv, h2.int_inv, h3.int_inv, h4.int_inv] at ha
  exact ⟨a, rfl, ha⟩
theorem pair_inv {H : Hp} {v : V} {s : Int × Int} (h : Is H v (encS s)) : ∃ a, v = .ref a ∧ H a = some (.tup [.int s.1, .int s.2]) := by
  obtain ⟨a, xs, rfl, ha, hx⟩ := h.tup_inv
  obtain ⟨v1, v2, rfl, h1, h2⟩ := hx.two_inv
  rw [h1.int_inv, h2.int_inv] at ha
  exact ⟨a, rfl, ha⟩
theorem band_inv {H : Hp} {v : V} {b : Band} (h : Is H v (encB b)) : ∃ a u, v = .ref a ∧ H a = some (.tup [.int b.1, .int b.2.1, u]) ∧ Is H u (encLine b.2.2) := by
  obtain ⟨a, xs, rfl, ha, hx⟩ := h.tup_inv
  obtain ⟨v1, v2, v3, rfl, h1, h2, h3⟩ := hx.three_inv
  rw [h1.int_inv, h2.int_inv] at ha
  exact ⟨a, v3, rfl, ha, h3⟩
theorem ints4 {H : Hp} (a b c d : Int) : IsAll H [.int a, .int b, .int c, .int d] [.int a, .int b, .int c, .int d] := .cons (.int _) (.cons (.int _) (.cons (.int _) (.cons (.int _) .nil)))
theorem ints2 {H : Hp} (a b : Int) : IsAll H [.int a, .int b] [.int a, .int b] := .cons (.int _) (.cons (.int _) .nil)
theorem sq4 {H : Hp} {p : Addr} {a b c d : V} {ds : List PyData} (hn : H p = none) (h : IsAll H [a, b, c, d] ds) : Is (upd H p (.tup [a, b, c, d])) (.ref p) (.tuple ds) := is_new hn h
theorem sz (n : Nat) (h : n ≤ 1000 := by decide) : n ≤ sizeLine := Nat.le_of_lt (small1000 h)

/-! ### the built-ins and the constants -/
structure Txt (mg : Str → Option Value) : Prop where
  b_len : mg "len" = none
  b_range : mg "range" = none
  b_sorted : mg "sorted" = none
  b_set : mg "set" = none
  b_tuple : mg "tuple" = none
  b_zip : mg "zip" = none
  b_max : mg "max" = none
  b_min : mg "min" = none
  b_abs : mg "abs" = none
  b_sum : mg "sum" = none
  b_all : mg "all" = none
  b_isinstance : mg "isinstance" = none
  b_enumerate : mg "enumerate" = none
  b_int : mg "int" = none
  b_bool : mg "bool" = none
  b_str : mg "str" = none
section
variable {P : Program} {w : World} {K : PySem.W.Frag} {mg : Str → Option Value} {base : Heap} {f : Addr} {fd : FuncData}
/-! ### rects -/
def spRR (g : Rect → Rect) : Sp := fun vs H Q _ => ∃ v r, vs = [v] ∧ Is H v (encR r) ∧ ∀ v' H', Same H H' → Is H' v' (encR (g r)) → Q v' H'
abbrev s_mirrored : Stmt := top 14
abbrev n_mirrored : List Str := ["rect", "x0", "y0", "x1", "y1"]
abbrev p_mirrored : List Str := ["rect"]
theorem sc_mirrored : FnScope n_mirrored p_mirrored (defScope s_mirrored) := ⟨rfl, rfl, rfl, by decide +kernel, rfl, by decide +kernel, by decide +kernel⟩
theorem ok_mirrored (F : Fun K "mirrored" "mirrored" s_mirrored f fd) : FnOk P w K mg base CX0 1 f fd p_mirrored (spRR mirr) := by
  refine F.ok sc_mirrored (fun vs H Q E h => ?_) (fun cdv A outer s H vs Q E hr h => ?_)
  · obtain ⟨v, r, rfl, _⟩ := h
    rfl
  obtain ⟨v, r, rfl, hv, q⟩ := h
  have nd := (sc_mirrored).nd
  refine ⟨_, (pss_cons (ps_asg (pv 0) (pg_tup rfl (pgs_cons (pg_name (i := 1) nd rfl (Or.inl rfl)) (pgs_cons (pg_name (i := 2) nd rfl (Or.inl rfl)) (pgs_cons (pg_name (i := 3) nd rfl (Or.inl rfl)) (pgs_cons (pg_name (i := 4) nd rfl (Or.inl rfl)) pgs_nil))))))
  (pss_one (ps_ret (pe_tup (pa_cons (pe_un un_neg (pv 3)) (pa_cons (pv 2) (pa_cons (pe_un un_neg (pv 1)) (pa_cons (pv 4) pa_nil)))))))), ?_⟩
  obtain ⟨a, rfl, ha⟩ := rect_inv hv
  refine ⟨_, rfl, a, _, rfl, SqT.of ha, rfl, _, _, rfl, _, _, rfl, _, _, rfl, _, _, rfl, rfl, ?_⟩
  refine ⟨_, rfl, _, rfl, _, rfl, _, rfl, _, rfl, _, rfl, sz 4, fun t ht => ?_⟩
  exact q _ _ (same_new ht _) (sq4 ht (ints4 _ _ _ _))
abbrev s_quarter : Stmt := top 15
abbrev n_quarter : List Str := ["rect", "x0", "y0", "x1", "y1"]
abbrev p_quarter : List Str := ["rect"]
theorem sc_quarter : FnScope n_quarter p_quarter (defScope s_quarter) := ⟨rfl, rfl, rfl, by decide +kernel, rfl, by decide +kernel, by decide +kernel⟩
theorem ok_quarter (F : Fun K "quarter" "quarter" s_quarter f fd) : FnOk P w K mg base CX0 1 f fd p_quarter (spRR quart) := by
  refine F.ok sc_quarter (fun vs H Q E h => ?_) (fun cdv A outer s H vs Q E hr h => ?_)
  · obtain ⟨v, r, rfl, _⟩ := h
    rfl
  obtain ⟨v, r, rfl, hv, q⟩ := h
  have nd := (sc_quarter).nd
  refine ⟨_, (pss_cons (ps_asg (pv 0) (pg_tup rfl (pgs_cons (pg_name (i := 1) nd rfl (Or.inl rfl)) (pgs_cons (pg_name (i := 2) nd rfl (Or.inl rfl)) (pgs_cons (pg_name (i := 3) nd rfl (Or.inl rfl)) (pgs_cons (pg_name (i := 4) nd rfl (Or.inl rfl)) pgs_nil))))))
  (pss_one (ps_ret (pe_tup (pa_cons (pe_un un_neg (pv 4)) (pa_cons (pv 1) (pa_cons (pe_un un_neg (pv 2)) (pa_cons (pv 3) pa_nil)))))))), ?_⟩
  obtain ⟨a, rfl, ha⟩ := rect_inv hv
  refine ⟨_, rfl, a, _, rfl, SqT.of ha, rfl, _, _, rfl, _, _, rfl, _, _, rfl, _, _, rfl, rfl, ?_⟩
  refine ⟨_, rfl, _, rfl, _, rfl, _, rfl, _, rfl, _, rfl, sz 4, fun t ht => ?_⟩
  exact q _ _ (same_new ht _) (sq4 ht (ints4 _ _ _ _))
def spTurnR : Sp := fun vs H Q _ => ∃ v r t dx dy, vs = [v, .int t, .int dx, .int dy] ∧ Is H v (encR r) ∧ ∀ v' H', Same H H' → Is H' v' (encR (turnR t dx dy r)) → Q v' H'
abbrev s_turned_rect : Stmt := top 16
abbrev n_turned_rect : List Str := ["rect", "turn", "dx", "dy", "k", "x0", "y0", "x1", "y1"]
abbrev p_turned_rect : List Str := ["rect", "turn", "dx", "dy"]
theorem sc_turned_rect : FnScope n_turned_rect p_turned_rect (defScope s_turned_rect) := ⟨rfl, rfl, rfl, by decide +kernel, rfl, by decide +kernel, by decide +kernel⟩
theorem ok_turned_rect (F : Fun K "turned_rect" "turned_rect" s_turned_rect f fd) (T : Txt mg) (J_mirrored : Has P w K mg base "mirrored" 1 p_mirrored (spRR mirr)) (J_quarter : Has P w K mg base "quarter" 1 p_quarter (spRR quart)) : FnOk P w K mg base CX0 2 f fd p_turned_rect spTurnR := by
  refine F.ok sc_turned_rect (fun vs H Q E h => ?_) (fun cdv A outer s H vs Q E hr h => ?_)
  · obtain ⟨v, r, t, dx, dy, rfl, _⟩ := h
    rfl
  obtain ⟨v, r, t, dx, dy, rfl, hv, q⟩ := h
  have nd := (sc_turned_rect).nd
  refine ⟨_, (pss_cons (ps_if (pt_cmpR op_gt (pv 1) pe_int nomk) (pss_one (ps_set (i := 0) nd rfl (Or.inl rfl) (pe_f J_mirrored hr (pa_cons (pv 0) pa_nil)))) pss_nil)
  (pss_cons (ps_for PassesOwn.never rfl (pi_range1 (by rfl) T.b_range (pa_cons (pe_op op_mod (pv 1) pe_int) pa_nil)) (pg_name (i := 4) nd rfl (Or.inl rfl))
  (pss_one (ps_set (i := 0) nd rfl (Or.inl rfl) (pe_f J_quarter hr (pa_cons (pv 0) pa_nil)))))
  (pss_cons (ps_asg (pv 0) (pg_tup rfl (pgs_cons (pg_name (i := 5) nd rfl (Or.inl rfl)) (pgs_cons (pg_name (i := 6) nd rfl (Or.inl rfl)) (pgs_cons (pg_name (i := 7) nd rfl (Or.inl rfl)) (pgs_cons (pg_name (i := 8) nd rfl (Or.inl rfl)) pgs_nil))))))
  (pss_one (ps_ret (pe_tup (pa_cons (pe_op op_add (pv 5) (pv 2)) (pa_cons (pe_op op_add (pv 6) (pv 3)) (pa_cons (pe_op op_add (pv 7) (pv 2)) (pa_cons (pe_op op_add (pv 8) (pv 3)) pa_nil)))))))))), ?_⟩
  refine seq_by (fun σ' H' => ∃ v1, σ' = [some v1, some (.int t), some (.int dx), some (.int dy), none, none, none, none, none] ∧ Same H H' ∧ Is H' v1 (encR (if 3 < t then mirr r else r))) (fun σ' H1 hp => ?_) (fun go => ?_)
  · obtain ⟨v1, rfl, s1, h1⟩ := hp
    refine seq_by (fun σ' H' => ∃ v2 k, σ' = [some v2, some (.int t), some (.int dx), some (.int dy), k, none, none, none, none] ∧ Same H H' ∧ Is H' v2 (encR (quarts (t % 4).toNat (if 3 < t then mirr r else r)))) (fun σ' H2 hp => ?_) (fun go => ?_)
    · obtain ⟨v2, k, rfl, s2, h2⟩ := hp
      obtain ⟨a, rfl, ha⟩ := rect_inv h2
      refine ⟨_, rfl, a, _, rfl, SqT.of ha, rfl, _, _, rfl, _, _, rfl, _, _, rfl, _, _, rfl, rfl, ?_⟩
      refine ⟨_, rfl, _, rfl, _, _, rfl, rfl, _, rfl, _, rfl, _, _, rfl, rfl, _, rfl, _, rfl, _, _, rfl, rfl, _, rfl, _, rfl, _, _, rfl, rfl, sz 4, fun p hp => ?_⟩
      exact q _ _ (s2.trans (same_new hp _)) (sq4 hp (ints4 _ _ _ _))
    · refine ⟨_, rfl, _, _, rfl, rfl, (by show (0 : Int) < 4; decide), (t % 4), rfl, by omega, by omega, for_range (lo := 0) (n := (t % 4).toNat) (fun i σ H' => ∃ v2 k, σ = [some v2, some (.int t), some (.int dx), some (.int dy), k, none, none, none, none] ∧ Same H H' ∧ Is H' v2 (encR (quarts i (if 3 < t then mirr r else r)))) ⟨v1, _, rfl, s1, h1⟩ (fun i σ H2 hi hp => ?_) (fun σ H2 hp => go _ _ hp)⟩
      obtain ⟨v2, k, rfl, s2, h2⟩ := hp
      refine ⟨_, rfl, v2, _, rfl, h2, fun v3 H3 s3 h3 => ?_⟩
      exact ⟨v3, _, rfl, s2.trans s3, h3⟩
  · refine ⟨_, rfl, _, _, rfl, rfl, _, rfl, ite2 (fun c => ?_) (fun c => ?_)⟩
    · have c' : 3 < t := of_decide_eq_true c
      refine ⟨_, rfl, v, r, rfl, hv, fun v1 H1 s1 h1 => ?_⟩
      exact go _ _ ⟨v1, rfl, s1, by rw [if_pos c']; exact h1⟩
    · have c' : ¬ 3 < t := of_decide_eq_false (Bool.eq_false_iff.mpr c)
      exact go _ _ ⟨v, rfl, fun _ _ z => z, by rw [if_neg c']; exact hv⟩
def spTurnP : Sp := fun vs H Q _ => ∃ x y t dx dy, vs = [.int x, .int y, .int t, .int dx, .int dy] ∧ ∀ v' H', Same H H' → Is H' v' (encS (turnP t dx dy (x, y))) → Q v' H'
abbrev s_turned_place : Stmt := top 17
abbrev n_turned_place : List Str := ["x", "y", "turn", "dx", "dy", "rect"]
abbrev p_turned_place : List Str := ["x", "y", "turn", "dx", "dy"]
theorem sc_turned_place : FnScope n_turned_place p_turned_place (defScope s_turned_place) := ⟨rfl, rfl, rfl, by decide +kernel, rfl, by decide +kernel, by decide +kernel⟩
theorem ok_turned_place (F : Fun K "turned_place" "turned_place" s_turned_place f fd) (T : Txt mg) (J_turned_rect : Has P w K mg base "turned_rect" 2 p_turned_rect spTurnR) : FnOk P w K mg base CX0 3 f fd p_turned_place spTurnP := by
  refine F.ok sc_turned_place (fun vs H Q E h => ?_) (fun cdv A outer s H vs Q E hr h => ?_)
  · obtain ⟨x, y, t, dx, dy, rfl, _⟩ := h
    rfl
  obtain ⟨x, y, t, dx, dy, rfl, q⟩ := h
  have nd := (sc_turned_place).nd
  refine ⟨_, (pss_cons (ps_set (i := 5) nd rfl (Or.inl rfl) (pe_f J_turned_rect hr (pa_cons (pe_tup (pa_cons (pv 0) (pa_cons (pv 1) (pa_cons (pe_op op_add (pv 0) pe_int) (pa_cons (pe_op op_add (pv 1) pe_int) pa_nil))))) (pa_cons (pv 2) (pa_cons (pv 3) (pa_cons (pv 4) pa_nil))))))
  (pss_one (ps_ret (pe_tup (pa_cons (pe_ix ix_tup (pv 5) pe_int (fun _ _ => rfl)) (pa_cons (pe_ix ix_tup (pv 5) pe_int (fun _ _ => rfl)) pa_nil)))))), ?_⟩
  refine ⟨_, rfl, _, rfl, _, rfl, _, _, rfl, rfl, _, rfl, _, _, rfl, rfl, sz 4, fun p hp => ?_⟩
  refine ⟨_, rfl, _, rfl, _, rfl, _, (x, y, x + 1, y + 1), _, _, _, rfl, sq4 hp (ints4 _ _ _ _), fun v H1 s1 h1 => ?_⟩
  obtain ⟨a, rfl, ha⟩ := rect_inv h1
  refine ⟨_, rfl, a, _, _, _, rfl, rfl, SqT.of ha, rfl, _, rfl, a, _, _, _, rfl, rfl, SqT.of ha, rfl, sz 2, fun p2 hp2 => ?_⟩
  exact q _ _ ((same_new hp _).trans (s1.trans (same_new hp2 _))) (is_new hp2 (ints2 _ _))
def spTurnC : Sp := fun vs H Q _ => ∃ x y t dx dy, vs = [.int x, .int y, .int t, .int dx, .int dy] ∧ ∀ v' H', Same H H' → Is H' v' (encS (turnC t dx dy (x, y))) → Q v' H'
abbrev s_turned_point : Stmt := top 18
abbrev n_turned_point : List Str := ["x", "y", "turn", "dx", "dy", "k"]
abbrev p_turned_point : List Str := ["x", "y", "turn", "dx", "dy"]
theorem sc_turned_point : FnScope n_turned_point p_turned_point (defScope s_turned_point) := ⟨rfl, rfl, rfl, by decide +kernel, rfl, by decide +kernel, by decide +kernel⟩
theorem ok_turned_point (F : Fun K "turned_point" "turned_point" s_turned_point f fd) (T : Txt mg) : FnOk P w K mg base CX0 1 f fd p_turned_point spTurnC := by
  refine F.ok sc_turned_point (fun vs H Q E h => ?_) (fun cdv A outer s H vs Q E hr h => ?_)
  · obtain ⟨x, y, t, dx, dy, rfl, _⟩ := h
    rfl
  obtain ⟨x, y, t, dx, dy, rfl, q⟩ := h
  have nd := (sc_turned_point).nd
  refine ⟨_, (pss_cons (ps_if (pt_cmpR op_gt (pv 2) pe_int nomk) (pss_one (ps_set (i := 0) nd rfl (Or.inl rfl) (pe_un un_neg (pv 0)))) pss_nil)
  (pss_cons (ps_for PassesOwn.never rfl (pi_range1 (by rfl) T.b_range (pa_cons (pe_op op_mod (pv 2) pe_int) pa_nil)) (pg_name (i := 5) nd rfl (Or.inl rfl))
  (pss_one (ps_par (i := 0) (j := 1) (by rfl) nd rfl rfl (by decide) rfl rfl (pa_cons (pe_un un_neg (pv 1)) (pa_cons (pv 0) pa_nil)) (by rfl))))
  (pss_one (ps_ret (pe_tup (pa_cons (pe_op op_add (pv 0) (pv 3)) (pa_cons (pe_op op_add (pv 1) (pv 4)) pa_nil))))))), ?_⟩
  refine seq_by (fun σ' H' => σ' = [some (.int (if 3 < t then (-x, y) else (x, y)).1), some (.int (if 3 < t then (-x, y) else (x, y)).2), some (.int t), some (.int dx), some (.int dy), none] ∧ H' = H) (fun σ' H1 hp => ?_) (fun go => ?_)
  · obtain ⟨rfl, rfl⟩ := hp
    refine ⟨_, rfl, _, _, rfl, rfl, (by show (0 : Int) < 4; decide), (t % 4), rfl, by omega, by omega, for_range (lo := 0) (n := (t % 4).toNat) (fun i σ H' => ∃ k, σ = [some (.int (swaps i (if 3 < t then (-x, y) else (x, y))).1), some (.int (swaps i (if 3 < t then (-x, y) else (x, y))).2), some (.int t), some (.int dx), some (.int dy), k] ∧ H' = H1) ⟨_, rfl, rfl⟩ (fun i σ H2 hi hp => ?_) (fun σ H2 hp => ?_)⟩
    · obtain ⟨k, rfl, rfl⟩ := hp
      refine ⟨_, rfl, _, rfl, _, rfl, _, _, rfl, ?_⟩
      exact ⟨_, rfl, rfl⟩
    · obtain ⟨k, rfl, rfl⟩ := hp
      refine ⟨_, rfl, _, rfl, _, _, rfl, rfl, _, rfl, _, rfl, _, _, rfl, rfl, sz 2, fun p hp => ?_⟩
      exact q _ _ (same_new hp _) (is_new hp (ints2 _ _))
  · refine ⟨_, rfl, _, _, rfl, rfl, _, rfl, ite2 (fun c => ?_) (fun c => ?_)⟩
    · have c' : 3 < t := of_decide_eq_true c
      refine ⟨_, rfl, _, rfl, ?_⟩
      exact go _ _ ⟨by rw [if_pos c']; rfl, rfl⟩
    · have c' : ¬ 3 < t := of_decide_eq_false (Bool.eq_false_iff.mpr c)
      exact go _ _ ⟨by rw [if_neg c']; rfl, rfl⟩
def spAfter : Sp := fun vs H Q _ => ∃ a b, vs = [.int a, .int b] ∧ Q (.int (afterT a b)) H
abbrev s_after : Stmt := top 20
abbrev n_after : List Str := ["one", "other", "by"]
abbrev p_after : List Str := ["one", "other"]
theorem sc_after : FnScope n_after p_after (defScope s_after) := ⟨rfl, rfl, rfl, by decide +kernel, rfl, by decide +kernel, by decide +kernel⟩
theorem ok_after (F : Fun K "after" "after" s_after f fd) : FnOk P w K mg base CX0 1 f fd p_after spAfter := by
  refine F.ok sc_after (fun vs H Q E h => ?_) (fun cdv A outer s H vs Q E hr h => ?_)
  · obtain ⟨x, y, rfl, _⟩ := h
    rfl
  obtain ⟨a, b, rfl, q⟩ := h
  have nd := (sc_after).nd
  refine ⟨_, (pss_cons (ps_set (i := 2) nd rfl (Or.inl rfl) (pe_op op_mod (pv 0) pe_int))
  (pss_cons (ps_if (pt_cmpR op_gt (pv 1) pe_int nomk) (pss_one (ps_set (i := 2) nd rfl (Or.inl rfl) (pe_un un_neg (pv 2)))) pss_nil)
  (pss_one (ps_ret (pe_op op_add (pe_op op_mod (pe_op op_add (pv 1) (pv 2)) pe_int) (pe_op op_mul pe_int (pe_op op_mod (pe_op op_add (pe_op op_fdiv (pv 0) pe_int) (pe_op op_fdiv (pv 1) pe_int)) pe_int))))))), ?_⟩
  have d4 : (0 : Int) < 4 := by decide
  refine ⟨_, rfl, _, _, rfl, rfl, d4, ?_⟩
  refine asg ?_
  dsimp only
  refine seq_if (fun σ' H' => σ' = [some (.int a), some (.int b), some (.int (if 3 < b then -(a % 4) else a % 4))] ∧ H' = H) (fun σ' H1 hp => ?_) (fun go => ?_)
  · obtain ⟨rfl, rfl⟩ := hp
    exact ⟨_, rfl, _, rfl, _, _, rfl, rfl, _, _, rfl, rfl, d4, _, rfl, _, _, rfl, rfl, ⟨by decide, by decide⟩, _, rfl, _, _, rfl, rfl, ⟨by decide, by decide⟩, _, _, rfl, rfl, _, _, rfl, rfl, (by show (0 : Int) < 2; decide), _, _, rfl, rfl, .inl ⟨by decide, by decide⟩, _, _, rfl, rfl, q⟩
  · refine ⟨_, rfl, _, _, rfl, rfl, _, rfl, ite2 (fun c => ?_) (fun c => ?_)⟩
    · have c' : 3 < b := of_decide_eq_true c
      refine ⟨_, rfl, _, rfl, ?_⟩
      exact go _ _ ⟨by rw [if_pos c']; rfl, rfl⟩
    · have c' : ¬ 3 < b := of_decide_eq_false (Bool.eq_false_iff.mpr c)
      exact go _ _ ⟨by rw [if_neg c']; rfl, rfl⟩
def spBack : Sp := fun vs H Q _ => ∃ a, vs = [.int a] ∧ Q (.int (backT a)) H
abbrev s_back : Stmt := top 21
abbrev n_back : List Str := ["turn"]
abbrev p_back : List Str := ["turn"]
theorem sc_back : FnScope n_back p_back (defScope s_back) := ⟨rfl, rfl, rfl, by decide +kernel, rfl, by decide +kernel, by decide +kernel⟩
theorem ok_back (F : Fun K "back" "back" s_back f fd) : FnOk P w K mg base CX0 1 f fd p_back spBack := by
  refine F.ok sc_back (fun vs H Q E h => ?_) (fun cdv A outer s H vs Q E hr h => ?_)
  · obtain ⟨x, rfl, _⟩ := h
    rfl
  obtain ⟨a, rfl, q⟩ := h
  have nd := (sc_back).nd
  refine ⟨_, (pss_cons (ps_if (pt_cmpR op_gt (pv 0) pe_int nomk) (pss_one (ps_ret (pv 0))) pss_nil)
  (pss_one (ps_ret (pe_op op_mod (pe_un un_neg (pv 0)) pe_int)))), ?_⟩
  refine ⟨_, rfl, _, _, rfl, rfl, _, rfl, ite2 (fun c => ?_) (fun c => ?_)⟩
  · have c' : 3 < a := of_decide_eq_true c
    unfold backT at q
    rw [if_pos c'] at q
    exact ⟨_, rfl, q⟩
  · have c' : ¬ 3 < a := of_decide_eq_false (Bool.eq_false_iff.mpr c)
    unfold backT at q
    rw [if_neg c'] at q
    exact ⟨_, rfl, _, rfl, _, _, rfl, rfl, (by show (0 : Int) < 4; decide), q⟩
end
end Mw
end
section
set_option maxRecDepth 100000
set_option maxHeartbeats 4000000
/-! Comprehensions whose items are data. -/
namespace Mw
open PySem PySem.Spec PyProof.Rows L2
section
variable {J : It} {n : Nat} {G : Hp → Prop} {Y : Nat → Hp → V → Hp → Prop} {g : TG} {tt : TT} {te : TE} {vs : List Nat} {σ : L2.St} {H1 : Hp} {D : Addr} {Qd : Hp → Prop}
theorem fm_snoc {es : List (Option PyData)} {i : Nat} {e : Option PyData} (h : es[i]? = some e) : (es.take (i + 1)).filterMap id = (es.take i).filterMap id ++ e.toList := by
  rw [List.take_add_one, h, List.filterMap_append]
  cases e <;> rfl
/-- the items are told by es: none where the turn is left out -/
theorem lc_gen (w : Walk J n G Y) (I : Hp → Prop) (es : List (Option PyData)) (hn : es.length = n) (hsz : n ≤ sizeLine) (h0 : I (upd H1 D (.lst []))) (hI : ∀ H o, I H → I (upd H D (.lst o))) (hG : ∀ H, I H → G H)
    (hs : ∀ i x H H' e acc (Qk : V → Hp → Prop) (Qs : Hp → Prop), es[i]? = some e → I H → H D = some (.lst acc) → Y i H x H' → (∀ d y H4, e = some d → I H4 → KT H H4 → H4 D = some (.lst acc) → Is H4 y d → Qk y H4) →
      (∀ H3, e = none → I H3 → KT H H3 → H3 D = some (.lst acc) → Qs H3) → g x (wipe σ vs) H' fun σ2 H2 => wipe σ2 vs = wipe σ vs ∧ tt σ2 H2 fun b H3 => if b = true then te σ2 H3 Qk else Qs H3)
    (hd : ∀ H xs, I H → H D = some (.lst xs) → IsAll H xs (es.filterMap id) → Qd H) :
    ∃ W : Nat → Nat → Hp → Prop, (∃ m, W 0 m (upd H1 D (.lst []))) ∧ ∀ i m H, W i m H →
      (J.stop i H ∧ Qd H) ∨ (J.go i H ∧ ∃ Nx : Hp → Prop, (∀ H', Nx H' → ∃ m', m' < m ∧ W (i + 1) m' H') ∧ ∀ x H', J.yld i H x H' → g x (wipe σ vs) H' fun σ2 H2 => wipe σ2 vs = wipe σ vs ∧ tt σ2 H2 fun b H3 =>
        if b = true then te σ2 H3 fun y H4 => ∃ acc, H4 D = some (.lst acc) ∧ acc.length < sizeLine ∧ Nx (upd H4 D (.lst (acc ++ [y]))) else Nx H3) := by
  refine lc_it w (fun i H => I H ∧ ∃ xs, H D = some (.lst xs) ∧ xs.length ≤ i ∧ IsAll H xs ((es.take i).filterMap id)) ⟨h0, [], upd_same, Nat.le_refl _, .nil⟩ (fun i H _ p => hG H p.1) (fun i x H H' hi p y => ?_) (fun H p => ?_)
  · obtain ⟨iH, xs, hD, hl, hx⟩ := p
    have he : es[i]? = some (es[i]'(by omega)) := List.getElem?_eq_getElem _
    refine hs i x H H' _ xs _ _ he iH hD y (fun d z H4 e1 i4 k4 d4 hz => ?_) (fun H3 e1 i3 k3 d3 => ?_)
    · refine ⟨xs, d4, by omega, hI _ _ i4, _, upd_same, by rw [List.length_append, List.length_singleton]; omega, ?_⟩
      rw [fm_snoc he, e1]
      have kk := kt_lst d4 (.lst (xs ++ [z]))
      exact (hx.mono (k4.trans kk)).snoc (hz.mono kk)
    · refine ⟨i3, xs, d3, by omega, ?_⟩
      rw [fm_snoc he, e1]
      show IsAll H3 xs (_ ++ [])
      rw [List.append_nil]
      exact hx.mono k3
  · obtain ⟨iH, xs, hD, hl, hx⟩ := p
    refine hd H xs iH hD ?_
    rw [← hn, List.take_length] at hx
    exact hx
/-- nothing but the new list changes -/
theorem lc_opt (w : Walk J n G Y) (es : List (Option PyData)) (hn : es.length = n) (hsz : n ≤ sizeLine) (hD : H1 D = none) (hG : ∀ H, Same H1 H → G H)
    (hs : ∀ i x H H' e (Qk : V → Hp → Prop) (Qs : Hp → Prop), es[i]? = some e → Same H1 H → Y i H x H' → (∀ d y H4, e = some d → Same H H4 → Is H4 y d → Qk y H4) →
      (∀ H3, e = none → Same H H3 → Qs H3) → g x (wipe σ vs) H' fun σ2 H2 => wipe σ2 vs = wipe σ vs ∧ tt σ2 H2 fun b H3 => if b = true then te σ2 H3 Qk else Qs H3)
    (hd : ∀ H xs, Same H1 H → H D = some (.lst xs) → IsAll H xs (es.filterMap id) → Qd H) :
    ∃ W : Nat → Nat → Hp → Prop, (∃ m, W 0 m (upd H1 D (.lst []))) ∧ ∀ i m H, W i m H →
      (J.stop i H ∧ Qd H) ∨ (J.go i H ∧ ∃ Nx : Hp → Prop, (∀ H', Nx H' → ∃ m', m' < m ∧ W (i + 1) m' H') ∧ ∀ x H', J.yld i H x H' → g x (wipe σ vs) H' fun σ2 H2 => wipe σ2 vs = wipe σ vs ∧ tt σ2 H2 fun b H3 =>
        if b = true then te σ2 H3 fun y H4 => ∃ acc, H4 D = some (.lst acc) ∧ acc.length < sizeLine ∧ Nx (upd H4 D (.lst (acc ++ [y]))) else Nx H3) :=
  lc_gen w (fun H => Same H1 H) es hn hsz (same_new hD _) (fun H o s => same_upd s hD _) hG
    (fun i x H H' e acc Qk Qs he s hDa y k1 k2 => hs i x H H' e Qk Qs he s y (fun d z H4 e1 s4 hz => k1 d z H4 e1 (s.trans s4) (kt s4) (s4 _ _ hDa) hz) fun H3 e1 s3 => k2 H3 e1 (s.trans s3) (kt s3) (s3 _ _ hDa)) hd
theorem fm_some (ds : List PyData) : (ds.map some).filterMap id = ds := by
  induction ds with
  | nil => rfl
  | cons d ds ih => rw [List.map_cons, List.filterMap_cons]; simp only [id]; rw [ih]
/-- every turn gives its item -/
theorem lc_map (w : Walk J n G Y) (ds : List PyData) (hn : ds.length = n) (hsz : n ≤ sizeLine) (hD : H1 D = none) (hG : ∀ H, Same H1 H → G H)
    (hs : ∀ i x H H' d (Qk : V → Hp → Prop) (Qs : Hp → Prop), ds[i]? = some d → Same H1 H → Y i H x H' → (∀ y H4, Same H H4 → Is H4 y d → Qk y H4) →
      g x (wipe σ vs) H' fun σ2 H2 => wipe σ2 vs = wipe σ vs ∧ tt σ2 H2 fun b H3 => if b = true then te σ2 H3 Qk else Qs H3)
    (hd : ∀ H xs, Same H1 H → H D = some (.lst xs) → IsAll H xs ds → Qd H) :
    ∃ W : Nat → Nat → Hp → Prop, (∃ m, W 0 m (upd H1 D (.lst []))) ∧ ∀ i m H, W i m H →
      (J.stop i H ∧ Qd H) ∨ (J.go i H ∧ ∃ Nx : Hp → Prop, (∀ H', Nx H' → ∃ m', m' < m ∧ W (i + 1) m' H') ∧ ∀ x H', J.yld i H x H' → g x (wipe σ vs) H' fun σ2 H2 => wipe σ2 vs = wipe σ vs ∧ tt σ2 H2 fun b H3 =>
        if b = true then te σ2 H3 fun y H4 => ∃ acc, H4 D = some (.lst acc) ∧ acc.length < sizeLine ∧ Nx (upd H4 D (.lst (acc ++ [y]))) else Nx H3) :=
  lc_opt w (ds.map some) (by rw [List.length_map]; exact hn) hsz hD hG (fun i x H H' e Qk Qs he s y k1 k2 => by
    rw [List.getElem?_map] at he
    cases hd : ds[i]? with
    | none => rw [hd] at he; cases he
    | some d =>
      rw [hd] at he
      exact hs i x H H' d Qk Qs hd s y fun z H4 s4 hz => k1 d z H4 (Option.some.inj he).symm s4 hz) (fun H xs s h hx => hd H xs s h (by rw [fm_some] at hx; exact hx))
/-- the items are data with Pd; I is what stays -/
theorem lc_all (w : Walk J n G Y) (I : Hp → Prop) (Pd : PyData → Prop) (hsz : n ≤ sizeLine) (h0 : I (upd H1 D (.lst []))) (hI : ∀ H o, I H → I (upd H D (.lst o))) (hG : ∀ H, I H → G H)
    (hs : ∀ i x H H' acc (Qk : V → Hp → Prop) (Qs : Hp → Prop), i < n → I H → H D = some (.lst acc) → Y i H x H' → (∀ d y H4, Pd d → I H4 → KT H H4 → H4 D = some (.lst acc) → Is H4 y d → Qk y H4) →
      g x (wipe σ vs) H' fun σ2 H2 => wipe σ2 vs = wipe σ vs ∧ tt σ2 H2 fun b H3 => if b = true then te σ2 H3 Qk else Qs H3)
    (hd : ∀ H xs ds, I H → H D = some (.lst xs) → ds.length = n → (∀ d ∈ ds, Pd d) → IsAll H xs ds → Qd H) :
    ∃ W : Nat → Nat → Hp → Prop, (∃ m, W 0 m (upd H1 D (.lst []))) ∧ ∀ i m H, W i m H →
      (J.stop i H ∧ Qd H) ∨ (J.go i H ∧ ∃ Nx : Hp → Prop, (∀ H', Nx H' → ∃ m', m' < m ∧ W (i + 1) m' H') ∧ ∀ x H', J.yld i H x H' → g x (wipe σ vs) H' fun σ2 H2 => wipe σ2 vs = wipe σ vs ∧ tt σ2 H2 fun b H3 =>
        if b = true then te σ2 H3 fun y H4 => ∃ acc, H4 D = some (.lst acc) ∧ acc.length < sizeLine ∧ Nx (upd H4 D (.lst (acc ++ [y]))) else Nx H3) := by
  refine lc_it w (fun i H => I H ∧ ∃ xs ds, H D = some (.lst xs) ∧ ds.length = i ∧ (∀ d ∈ ds, Pd d) ∧ IsAll H xs ds) ⟨h0, [], [], upd_same, rfl, fun _ h => (by cases h), .nil⟩ (fun i H _ p => hG H p.1) (fun i x H H' hi p y => ?_) (fun H p => ?_)
  · obtain ⟨iH, xs, ds, hD, hl, hp, hx⟩ := p
    refine hs i x H H' xs _ _ hi iH hD y (fun d z H4 e1 i4 k4 d4 hz => ?_)
    have hlx := hx.length
    refine ⟨xs, d4, by omega, hI _ _ i4, _, ds ++ [d], upd_same, by rw [List.length_append, List.length_singleton, hl], fun e he => ?_, ?_⟩
    · rcases List.mem_append.mp he with z | z
      · exact hp e z
      · rw [List.mem_singleton.mp z]; exact e1
    · have kk := kt_lst d4 (.lst (xs ++ [z]))
      exact (hx.mono (k4.trans kk)).snoc (hz.mono kk)
  · obtain ⟨iH, xs, ds, hD, hl, hp, hx⟩ := p
    exact hd H xs ds iH hD hl hp hx
end
/-- what a walk over data gives at a turn -/
theorem at_map {α : Type} {H : Hp} {xs : List V} {l : List α} {enc : α → PyData} {i : Nat} {x : V} (h : IsAll H xs (l.map enc)) (hx : xs[i]? = some x) : ∃ a, l[i]? = some a ∧ Is H x (enc a) := by
  obtain ⟨d, hd, hi⟩ := h.get hx
  rw [List.getElem?_map] at hd
  cases e : l[i]? with
  | none => rw [e] at hd; cases hd
  | some a => rw [e] at hd; cases hd; exact ⟨a, rfl, hi⟩
theorem map_at {α β : Type} {l : List α} {f : α → β} {i : Nat} {a : α} {d : β} (h : l[i]? = some a) (hd : (l.map f)[i]? = some d) : d = f a := by
  rw [List.getElem?_map, h] at hd
  exact (Option.some.inj hd).symm
end Mw
end
section
set_option maxRecDepth 100000
set_option maxHeartbeats 4000000
/-! joined and banded. -/
namespace Mw
open PySem PySem.Spec PyProof.Rows L2
/-! ### the heap but for one list -/
def SB (l : Addr) (H H' : Hp) : Prop := ∀ c o, H c = some o → c ≠ l → H' c = some o
theorem SB.refl {l : Addr} {H : Hp} : SB l H H := fun _ _ h _ => h
theorem SB.trans {l : Addr} {H H1 H2 : Hp} (a : SB l H H1) (b : SB l H1 H2) : SB l H H2 := fun c o h n => b c o (a c o h n) n
theorem sb_same {l : Addr} {H H' : Hp} (s : Same H H') : SB l H H' := fun c o h _ => s c o h
theorem sb_upd {l : Addr} {H : Hp} (o : HO) : SB l H (upd H l o) := fun c u h n => by rw [upd_ne n]; exact h
theorem same_of {l : Addr} {H0 H H' : Hp} (hl : H0 l = none) (s : Same H0 H) (b : SB l H H') : Same H0 H' := fun c o h => b c o (s c o h) (ne_of_none h hl)
theorem kt_sb {l : Addr} {H H' : Hp} {us : List V} (hl : H l = some (.lst us)) (b : SB l H H') : KT H H' := fun c xs h => b c _ h (by
  rintro rfl
  rw [hl] at h
  cases h)
theorem len_snoc {α : Type} (xs : List α) (v : α) : (xs ++ [v]).length = xs.length + 1 := by rw [List.length_append, List.length_singleton]
theorem ixN_last {α : Type} (xs : List α) (v : α) : ixN (xs ++ [v]).length (-1) = some xs.length := by
  unfold ixN
  rw [len_snoc, if_neg (by decide), if_pos (by omega)]
  congr 1
  omega
theorem set_last {α : Type} (xs : List α) (v u : α) : (xs ++ [v]).set xs.length u = xs ++ [u] := by
  rw [List.set_append_right _ _ (Nat.le_refl _), Nat.sub_self]
  rfl
theorem snoc_inv {α : Type} {H : Hp} {fs : List V} {p : α} {t : List α} {enc : α → PyData} (h : IsAll H fs ((p :: t).reverse.map enc)) : ∃ fs' v, fs = fs' ++ [v] ∧ IsAll H fs' (t.reverse.map enc) ∧ Is H v (enc p) := by
  rw [List.reverse_cons, List.map_append] at h
  have hl := h.length
  rw [List.length_append, List.length_map] at hl
  have h1 := h.take t.reverse.length
  have h2 := h.drop t.reverse.length
  rw [show t.reverse.length = (t.reverse.map enc).length from (List.length_map _).symm, List.take_left] at h1
  rw [show t.reverse.length = (t.reverse.map enc).length from (List.length_map _).symm, List.drop_left] at h2
  obtain ⟨v, e, hv⟩ := IsAll.one_inv (d := enc p) h2
  exact ⟨_, v, by rw [← e, List.take_append_drop], h1, hv⟩
theorem sm {n : Nat} (h : n ≤ 8000000) : n < sizeLine := by rw [sizeLine_eq]; omega
theorem smL {n : Nat} (h : n ≤ 8000000) : n ≤ sizeLine := Nat.le_of_lt (sm h)
/-- an item is put behind -/
theorem snoc_at {l : Addr} {H1 H2 : Hp} {fs : List V} {ds : List PyData} {v : V} {d : PyData} (hf : H1 l = some (.lst fs)) (hfs : IsAll H1 fs ds) (k : SB l H1 H2) (hf2 : H2 l = some (.lst fs)) (hv : Is H2 v d) :
    IsAll (upd H2 l (.lst (fs ++ [v]))) (fs ++ [v]) (ds ++ [d]) := ((hfs.mono (kt_sb hf k)).snoc hv).mono (kt_lst hf2 _)
/-- the last item is another -/
theorem last_at {l : Addr} {H1 H2 : Hp} {fs us : List V} {ds : List PyData} {v : V} {d : PyData} (hf : H1 l = some (.lst us)) (hfs : IsAll H1 fs ds) (k : SB l H1 H2) (hf2 : H2 l = some (.lst us)) (hv : Is H2 v d) :
    IsAll (upd H2 l (.lst (fs ++ [v]))) (fs ++ [v]) (ds ++ [d]) := ((hfs.mono (kt_sb hf k)).snoc hv).mono (kt_lst hf2 _)
/-! ### the order of pairs -/
def srt (l : List (Int × Int)) : List (Int × Int) := l.mergeSort (PySem.W.dataLe false encS)
theorem leS : PySem.W.dataLe false encS = fun p q => decide (p.1 < q.1 ∨ (p.1 = q.1 ∧ p.2 ≤ q.2)) := PySem.W.dataLe_ii (fun p : Int × Int => p.1) (fun p => p.2)
theorem srt_ord (l : List (Int × Int)) : (srt l).Pairwise fun a b => a.1 ≤ b.1 := by
  unfold srt
  rw [leS]
  refine (List.pairwise_mergeSort (le := fun p q : Int × Int => decide (p.1 < q.1 ∨ (p.1 = q.1 ∧ p.2 ≤ q.2))) (fun a b c h1 h2 => ?_) (fun a b => ?_) l).imp fun h => ?_
  · simp only [decide_eq_true_eq] at *
    omega
  · simp only [Bool.or_eq_true, decide_eq_true_eq]
    omega
  · simp only [decide_eq_true_eq] at h
    omega
theorem srt_sorts : Sorts srt := ⟨fun l => List.mergeSort_perm .., srt_ord⟩
theorem alS (l : List (Int × Int)) : PySem.W.AllAlike (l.map encS) := PySem.W.AllAlike.of fun b b' => by simp [PySem.W.alike, PySem.W.alikeAll, encS]
theorem soS (l : List (Int × Int)) : PySem.W.Sortable (l.map encS) := PySem.W.Sortable.tuples fun b => ⟨_, _, rfl⟩
section
variable {P : Program} {w : World} {K : PySem.W.Frag} {mg : Str → Option Value} {base : Heap} {f : Addr} {fd : FuncData}
def spJoined : Sp := fun vs H Q _ => ∃ a l, vs = [.ref a] ∧ IsL H a (l.map encS) ∧ l.length ≤ 2000000 ∧ ∀ v' H', Same H H' → Is H' v' (encLine (joinedS (srt l))) → Q v' H'
abbrev s_joined : Stmt := top 8
abbrev n_joined : List Str := ["stretches", "found", "start", "end"]
abbrev p_joined : List Str := ["stretches"]
theorem sc_joined : FnScope n_joined p_joined (defScope s_joined) := ⟨rfl, rfl, rfl, by decide +kernel, rfl, by decide +kernel, by decide +kernel⟩
theorem ok_joined (F : Fun K "joined" "joined" s_joined f fd) (T : Txt mg) : FnOk P w K mg base CX0 1 f fd p_joined spJoined := by
  refine F.ok sc_joined (fun vs H Q E h => ?_) (fun cdv A outer s H vs Q E hr h => ?_)
  · obtain ⟨v, r, rfl, _⟩ := h
    rfl
  obtain ⟨a, l, rfl, ha, hl, q⟩ := h
  have nd := (sc_joined).nd
  refine ⟨_, (pss_cons (ps_set (i := 1) nd rfl (Or.inl rfl) (pe_lst pa_nil))
  (pss_cons (ps_for PassesOwn.never rfl (pi_list (pe_callB (cr_sortedD (Int × Int) encS hr.units) (by rfl) T.b_sorted (by decide +kernel) (pa_cons (pv 0) pa_nil))) (pg_tup rfl (pgs_cons (pg_name (i := 2) nd rfl (Or.inl rfl)) (pgs_cons (pg_name (i := 3) nd rfl (Or.inl rfl)) pgs_nil)))
  (pss_one (ps_if (PW.pt (pw_and (pt_cmpR op_gt (pe_callB call_len_seq (by rfl) T.b_len (by decide +kernel) (pa_cons (pv 1) pa_nil)) pe_int nomk) (pw_and1 (pt_cmpR op_le (pv 2) (pe_ix ix_tup (pe_ix ix_list (pv 1) (pe_un un_neg pe_int) (fun _ _ => rfl)) pe_int (fun _ _ => rfl)) nomk)))) (pss_one (ps_asg (pe_tup (pa_cons (pe_ix ix_tup (pe_ix ix_list (pv 1) (pe_un un_neg pe_int) (fun _ _ => rfl)) pe_int (fun _ _ => rfl)) (pa_cons (pe_callB (call_max2 rfl) (by rfl) T.b_max (by decide +kernel) (pa_cons (pe_ix ix_tup (pe_ix ix_list (pv 1) (pe_un un_neg pe_int) (fun _ _ => rfl)) pe_int (fun _ _ => rfl)) (pa_cons (pv 3) pa_nil))) pa_nil))) (pg_sub (pv 1) (pe_un un_neg pe_int) set_list))) (pss_one (ps_expr (pe_bm PySem.F.plainAttrs_list PySem.F.slot_list_append PySem.F.type_list_append mt_append (pv 1) (pa_cons (pe_tup (pa_cons (pv 2) (pa_cons (pv 3) pa_nil))) pa_nil)))))))
  (pss_one (ps_ret (pe_callTy call_tuple_of (by rfl) T.b_tuple (by decide +kernel) (pa_cons (pv 1) pa_nil)))))), ?_⟩
  refine ⟨sz 0, fun fo hfo => ?_⟩
  refine ⟨_, rfl, a, l, rfl, ha.mono (same_new hfo _), alS l, soS l, fun b _ => by simp [encS, PyData.depth, PyData.depthAll], fun p xs hp hxl hx => ?_⟩
  have hsl : (srt l).length = l.length := (List.mergeSort_perm ..).length_eq
  have nfo : fo ≠ p := ne_of_none upd_same hp
  have s0 : Same H (upd (upd H fo (.lst [])) p (.lst xs)) := (same_new hfo _).trans (same_new hp _)
  have hx' := hx.mono (kt_new hp (.lst xs))
  refine ⟨p, rfl, ⟨xs, SqL.of upd_same⟩, for_it (walk_list (K := K) (a := p) (xs := xs)) (fun i σ H' => ∃ fs x1 x2, σ = [some (.ref a), some (.ref fo), x1, x2] ∧ SB fo (upd (upd H fo (.lst [])) p (.lst xs)) H' ∧ H' fo = some (.lst fs) ∧ IsAll H' fs ((((srt l).take i).foldl joinStep []).reverse.map encS) ∧ fs.length ≤ i) ?_ (fun i σ H' _ hp => ?_) (fun i x σ H1 H2 hi hp hy => ?_) (fun σ H1 hp => ?_)⟩
  · exact ⟨[], _, _, rfl, SB.refl, by rw [upd_ne nfo, upd_same], .nil, Nat.le_refl _⟩
  · obtain ⟨fs, x1, x2, rfl, sb, _⟩ := hp
    exact SqL.of (sb p _ upd_same nfo.symm)
  · obtain ⟨fs, x1, x2, rfl, sb, hf, hfs, hfl⟩ := hp
    obtain ⟨rfl, hxi⟩ := hy
    obtain ⟨st, hst, hv⟩ := at_map hx' hxi
    have hv1 := hv.mono (kt_sb (by rw [upd_ne nfo, upd_same]) sb)
    have hst' : (srt l)[i]? = some st := hst
    have etk : ((srt l).take (i + 1)).foldl joinStep [] = joinStep (((srt l).take i).foldl joinStep []) st := by
      rw [List.take_add_one, hst', List.foldl_append]
      rfl
    obtain ⟨t, rfl, ht⟩ := pair_inv hv1
    refine ⟨t, _, rfl, SqT.of ht, rfl, _, _, rfl, _, _, rfl, rfl, ?_⟩
    have hsz : fs.length < sizeLine := sm (by omega)
    generalize hacc : ((srt l).take i).foldl joinStep [] = acc at hfs etk
    refine ⟨_, rfl, fo, _, rfl, .inl (SqL.of hf), _, _, rfl, rfl, _, rfl, ?_⟩
    cases acc with
    | nil =>
      have e0 : fs = [] := hfs.nil_inv
      subst e0
      refine iteF (iteF ?_)
      refine ⟨_, rfl, .inl ⟨rfl, _, SqL.of hf⟩, _, rfl, _, rfl, sz 2, fun p2 hp2 => ?_⟩
      have n2 : fo ≠ p2 := ne_of_none hf hp2
      refine ⟨fo, [], _, rfl, rfl, by rw [upd_ne n2]; exact hf, hsz, ?_⟩
      refine ⟨_, _, _, rfl, sb.trans ((sb_same (same_new hp2 _)).trans (sb_upd _)), upd_same, ?_, by simp⟩
      rw [etk]
      exact snoc_at (ds := []) hf .nil (sb_same (same_new hp2 _)) (by rw [upd_ne n2]; exact hf) (is_new hp2 (ints2 _ _))
    | cons p0 tl =>
      obtain ⟨fs', v0, rfl, h1, h2⟩ := snoc_inv hfs
      obtain ⟨t0, rfl, ht0⟩ := pair_inv h2
      have hlen : ((fs' ++ [V.ref t0]).length : Int) > 0 := by rw [len_snoc]; omega
      rw [decide_eq_true hlen]
      refine iteT ?_
      refine ⟨_, rfl, _, rfl, _, rfl, fo, _, _, _, rfl, rfl, SqL.of hf, atI_last _ _, t0, _, _, _, rfl, rfl, SqT.of ht0, rfl, _, _, rfl, rfl, _, rfl, ?_⟩
      refine ite2 (fun c => ?_) (fun c => ?_)
      · have c' : st.1 ≤ p0.2 := of_decide_eq_true c
        refine ⟨_, rfl, _, rfl, fo, _, _, _, rfl, rfl, SqL.of hf, atI_last _ _, t0, _, _, _, rfl, rfl, SqT.of ht0, rfl, ?_⟩
        refine ⟨_, rfl, _, rfl, fo, _, _, _, rfl, rfl, SqL.of hf, atI_last _ _, t0, _, _, _, rfl, rfl, SqT.of ht0, rfl, _, rfl, _, _, rfl, sz 2, fun p2 hp2 => ?_⟩
        have n2 : fo ≠ p2 := ne_of_none hf hp2
        refine ⟨_, rfl, _, rfl, fo, _, _, _, rfl, rfl, by rw [upd_ne n2]; exact hf, ixN_last _ _, ?_⟩
        rw [set_last]
        refine ⟨_, _, _, rfl, sb.trans ((sb_same (same_new hp2 _)).trans (sb_upd _)), upd_same, ?_, by rw [len_snoc] at hfl ⊢; omega⟩
        rw [etk, joinStep, if_pos c', List.reverse_cons, List.map_append]
        exact last_at hf h1 (sb_same (same_new hp2 _)) (by rw [upd_ne n2]; exact hf) (is_new hp2 (ints2 _ _))
      · have c' : ¬ st.1 ≤ p0.2 := of_decide_eq_false (Bool.eq_false_iff.mpr c)
        refine ⟨_, rfl, .inl ⟨rfl, _, SqL.of hf⟩, _, rfl, _, rfl, sz 2, fun p2 hp2 => ?_⟩
        have n2 : fo ≠ p2 := ne_of_none hf hp2
        refine ⟨fo, _, _, rfl, rfl, by rw [upd_ne n2]; exact hf, hsz, ?_⟩
        refine ⟨_, _, _, rfl, sb.trans ((sb_same (same_new hp2 _)).trans (sb_upd _)), upd_same, ?_, by rw [len_snoc]; omega⟩
        rw [etk, joinStep, if_neg c', List.reverse_cons, List.map_append]
        exact snoc_at hf hfs (sb_same (same_new hp2 _)) (by rw [upd_ne n2]; exact hf) (is_new hp2 (ints2 _ _))
  · obtain ⟨fs, x1, x2, rfl, sb, hf, hfs, hfl⟩ := hp
    refine ⟨_, rfl, fo, _, rfl, .inl ⟨SqL.of hf, fun p2 hp2 => ?_⟩⟩
    have sA : Same H H1 := same_of hfo s0 sb
    refine q _ _ (sA.trans (same_new hp2 _)) ?_
    rw [hxl, ← hsl, List.take_length] at hfs
    exact is_new hp2 hfs
end
end Mw
end
section
set_option maxRecDepth 100000
set_option maxHeartbeats 4000000
/-! banded. -/
namespace Mw
open PySem PySem.Spec PyProof.Rows L2
/-! ### data that can be compared -/
structure Okd (n : Nat) (d : PyData) : Prop where
  lay : d.canLay0 = true
  deep : d.depth ≤ n
  plain : plainD d = true
theorem okd_int {n : Nat} (i : Int) : Okd n (.int i) := ⟨by simp [PyData.canLay0], by simp [PyData.depth], by simp [plainD]⟩
theorem okd_non {n : Nat} : Okd n .none := ⟨by simp [PyData.canLay0], by simp [PyData.depth], by simp [plainD]⟩
theorem okd_str {n : Nat} {x : Str} (h : PyData.strOk x = true) : Okd n (.str x) := ⟨by simp [PyData.canLay0, h], by simp [PyData.depth], by simp [plainD]⟩
theorem okd_all {n : Nat} : ∀ {xs : List PyData}, (∀ x ∈ xs, Okd n x) → PyData.canLayAll0 xs = true ∧ PyData.depthAll xs ≤ n ∧ plainA xs = true
  | [], _ => ⟨by simp [PyData.canLayAll0], by simp [PyData.depthAll], by simp [plainA]⟩
  | x :: xs, h => by
    have h1 := h x List.mem_cons_self
    have h2 := okd_all (n := n) (xs := xs) fun y hy => h y (List.mem_cons_of_mem _ hy)
    refine ⟨by simp [PyData.canLayAll0, h1.lay, h2.1], ?_, by simp [plainA, h1.plain, h2.2.2]⟩
    have a := h1.deep
    have b := h2.2.1
    rw [PyData.depthAll]
    omega
theorem okd_tup {n : Nat} {xs : List PyData} (h : ∀ x ∈ xs, Okd n x) : Okd (n + 1) (.tuple xs) := by
  obtain ⟨a, b, c⟩ := okd_all h
  exact ⟨by simp [PyData.canLay0, a], by rw [PyData.depth]; omega, by simp [plainD, c]⟩
theorem okd_map {α : Type} {n : Nat} {l : List α} {enc : α → PyData} (h : ∀ x ∈ l, Okd n (enc x)) : Okd (n + 1) (.tuple (l.map enc)) := okd_tup fun d hd => by
  obtain ⟨x, hx, rfl⟩ := List.mem_map.mp hd
  exact h x hx
theorem Okd.shaped {n : Nat} {d : PyData} (h : Okd n d) (hn : n ≤ 64 := by decide) : SeqAt.shaped d = true := by
  have := h.deep
  unfold SeqAt.shaped
  rw [h.lay, Bool.true_and, decide_eq_true_eq]
  omega
theorem okd_mem {n : Nat} {x : PyData} {xs : List PyData} (h1 : Okd n x) (h2 : ∀ y ∈ xs, Okd n y) : ∀ y ∈ x :: xs, Okd n y := fun y hy => by
  rcases List.mem_cons.mp hy with z | z
  · rw [z]; exact h1
  · exact h2 y z
theorem okd_no {n : Nat} : ∀ y ∈ ([] : List PyData), Okd n y := fun _ h => by cases h
theorem okS (s : Int × Int) : Okd 1 (encS s) := okd_tup (okd_mem (okd_int _) (okd_mem (okd_int _) okd_no))
theorem okLine (l : Line) : Okd 2 (encLine l) := okd_map fun s _ => okS s
theorem encS_inj {s t : Int × Int} (h : encS s = encS t) : s = t := by
  unfold encS at h
  simp only [PyData.tuple.injEq, List.cons.injEq, PyData.int.injEq, and_true] at h
  exact Prod.ext h.1 h.2
theorem map_inj {α : Type} {enc : α → PyData} (hi : ∀ a b, enc a = enc b → a = b) : ∀ {l m : List α}, l.map enc = m.map enc → l = m
  | [], [], _ => rfl
  | [], _ :: _, h => by simp at h
  | _ :: _, [], h => by simp at h
  | a :: l, b :: m, h => by
    rw [List.map_cons, List.map_cons, List.cons.injEq] at h
    rw [hi a b h.1, map_inj hi h.2]
theorem encLine_inj {l m : Line} (h : encLine l = encLine m) : l = m := map_inj (fun _ _ => encS_inj) (PyData.tuple.inj h)
theorem eqv_line (l m : Line) : PyData.eqv (encLine l) (encLine m) = decide (l = m) := by
  have q := eqv_plain _ _ (okLine l).plain (okLine m).plain
  by_cases c : l = m
  · subst c
    rw [q.mpr rfl, decide_eq_true rfl]
  · rw [decide_eq_false c]
    cases z : PyData.eqv (encLine l) (encLine m) with
    | false => rfl
    | true => exact absurd (encLine_inj (q.mp z)) c
/-! ### the bands one by one -/
theorem trips_len' : ∀ (cs : List Int) (ls : List Line), ls.length = cs.length - 1 → (trips cs ls).length = ls.length
  | [], ls, h => by
    have : ls = [] := List.eq_nil_of_length_eq_zero (by simpa using h)
    subst this
    rfl
  | [c], ls, h => by
    have : ls = [] := List.eq_nil_of_length_eq_zero (by simpa using h)
    subst this
    rfl
  | a :: b :: cs, [], h => by simp at h
  | a :: b :: cs, l :: ls, h => by
    have := trips_len' (b :: cs) ls (by simpa using h)
    show (trips (b :: cs) ls).length + 1 = ls.length + 1
    omega
theorem trips_get : ∀ (cs : List Int) (ls : List Line) (i : Nat) (l : Line), ls.length = cs.length - 1 → ls[i]? = some l → ∃ a b, cs[i]? = some a ∧ (cs.drop 1)[i]? = some b ∧ (trips cs ls)[i]? = some (a, b, l)
  | [], ls, i, l, h, hl => by
    have : ls = [] := List.eq_nil_of_length_eq_zero (by simpa using h)
    subst this
    simp at hl
  | [c], ls, i, l, h, hl => by
    have : ls = [] := List.eq_nil_of_length_eq_zero (by simpa using h)
    subst this
    simp at hl
  | a :: b :: cs, [], i, l, h, hl => by simp at hl
  | a :: b :: cs, l0 :: ls, 0, l, h, hl => by
    cases hl
    exact ⟨a, b, rfl, rfl, rfl⟩
  | a :: b :: cs, l0 :: ls, i + 1, l, h, hl => by
    obtain ⟨x, y, h1, h2, h3⟩ := trips_get (b :: cs) ls i l (by simpa using h) (by simpa using hl)
    refine ⟨x, y, h1, ?_, h3⟩
    simpa using h2
theorem bandStep_cons {t : Trip} (h : ¬ t.2.2 = []) (p0 : Band) (tl : Reg) : bandStep (p0 :: tl) t = if p0.2.1 = t.1 ∧ p0.2.2 = t.2.2 then (p0.1, t.2.1, t.2.2) :: tl else t :: p0 :: tl := by
  obtain ⟨a, b, l⟩ := p0
  unfold bandStep
  rw [if_neg h]
theorem cut_tail (xs : List V) : cutV xs (some 1) none = xs.drop 1 := by
  have e1 : HT.sIx xs.length xs.length none = xs.length := rfl
  unfold cutV
  rw [e1]
  by_cases h : xs = []
  · subst h; rfl
  have hp := List.length_pos_iff.mpr h
  have e2 : HT.sIx xs.length 0 (some 1) = 1 := by
    unfold HT.sIx
    simp
    try omega
  rw [e2]
  rw [List.take_of_length_le (by rw [List.length_drop]; exact Nat.le_refl _)]
section
variable {P : Program} {w : World} {K : PySem.W.Frag} {mg : Str → Option Value} {base : Heap} {f : Addr} {fd : FuncData}
def spBanded : Sp := fun vs H Q _ => ∃ a b cs ls, vs = [.ref a, .ref b] ∧ H a = some (.lst (cs.map V.int)) ∧ IsL H b (ls.map encLine) ∧ ls.length = cs.length - 1 ∧ cs.length ≤ 5000 ∧ ∀ v' H', Same H H' → Is H' v' (encReg (bandedT (trips cs ls))) → Q v' H'
abbrev s_banded : Stmt := top 9
abbrev n_banded : List Str := ["cuts", "lines", "found", "low", "high", "line"]
abbrev p_banded : List Str := ["cuts", "lines"]
theorem sc_banded : FnScope n_banded p_banded (defScope s_banded) := ⟨rfl, rfl, rfl, by decide +kernel, rfl, by decide +kernel, by decide +kernel⟩
theorem ok_banded (F : Fun K "banded" "banded" s_banded f fd) (T : Txt mg) : FnOk P w K mg base CX0 1 f fd p_banded spBanded := by
  refine F.ok sc_banded (fun vs H Q E h => ?_) (fun cdv A outer s H vs Q E hr h => ?_)
  · obtain ⟨a, b, cs, ls, rfl, _⟩ := h
    rfl
  obtain ⟨a, b, cs, ls, rfl, ha, ⟨us, hb, hus⟩, hll, hcl, q⟩ := h
  have nd := (sc_banded).nd
  refine ⟨_, (pss_cons (ps_set (i := 2) nd rfl (Or.inl rfl) (pe_lst pa_nil))
  (pss_cons (ps_for PassesOwn.never rfl (pi_zip3 (by rfl) T.b_zip (pa_cons (pv 0) (pa_cons (pe_slice sl_list (pv 0) (po_some pe_int) po_none) (pa_cons (pv 1) pa_nil)))) (pg_tup rfl (pgs_cons (pg_name (i := 3) nd rfl (Or.inl rfl)) (pgs_cons (pg_name (i := 4) nd rfl (Or.inl rfl)) (pgs_cons (pg_name (i := 5) nd rfl (Or.inl rfl)) pgs_nil))))
  (pss_one (ps_if (pt_cmpR op_gt (pe_callB call_len_seq (by rfl) T.b_len (by decide +kernel) (pa_cons (pv 5) pa_nil)) pe_int nomk) (pss_one (ps_if (PW.pt (pw_and (pt_cmpR op_gt (pe_callB call_len_seq (by rfl) T.b_len (by decide +kernel) (pa_cons (pv 2) pa_nil)) pe_int nomk) (pw_and (pt_cmpR op_eq (pe_ix ix_tup (pe_ix ix_list (pv 2) (pe_un un_neg pe_int) (fun _ _ => rfl)) pe_int (fun _ _ => rfl)) (pv 3) nomk) (pw_and1 (pt_cmpR (op_eqD hr.units) (pe_ix ix_tup (pe_ix ix_list (pv 2) (pe_un un_neg pe_int) (fun _ _ => rfl)) pe_int (fun _ _ => rfl)) (pv 5) nomk))))) (pss_one (ps_asg (pe_tup (pa_cons (pe_ix ix_tup (pe_ix ix_list (pv 2) (pe_un un_neg pe_int) (fun _ _ => rfl)) pe_int (fun _ _ => rfl)) (pa_cons (pv 4) (pa_cons (pv 5) pa_nil)))) (pg_sub (pv 2) (pe_un un_neg pe_int) set_list))) (pss_one (ps_expr (pe_bm PySem.F.plainAttrs_list PySem.F.slot_list_append PySem.F.type_list_append mt_append (pv 2) (pa_cons (pe_tup (pa_cons (pv 3) (pa_cons (pv 4) (pa_cons (pv 5) pa_nil)))) pa_nil)))))) pss_nil)))
  (pss_one (ps_ret (pe_callTy call_tuple_of (by rfl) T.b_tuple (by decide +kernel) (pa_cons (pv 2) pa_nil)))))), ?_⟩
  refine ⟨sz 0, fun fo hfo => ?_⟩
  have ha1 := same_new hfo (.lst []) _ _ ha
  refine ⟨_, rfl, _, rfl, _, rfl, a, _, rfl, SqL.of ha1, fun p hp => ?_⟩
  rw [cut_tail]
  have nfo : fo ≠ p := ne_of_none upd_same hp
  have s1 := same_new hp (.lst ((cs.map V.int).drop 1))
  have s0 : Same H _ := (same_new hfo _).trans s1
  refine ⟨_, rfl, a, p, b, cs.map V.int, (cs.map V.int).drop 1, us, rfl, SqL.of (s1 _ _ ha1), SqL.of upd_same, SqL.of (s0 _ _ hb), ?_⟩
  have hul : us.length = ls.length := by rw [hus.length, List.length_map]
  have hzl : ls.length ≤ (cs.map V.int).length := by rw [List.length_map]; omega
  have hzl2 : ls.length = ((cs.map V.int).drop 1).length := by rw [List.length_drop, List.length_map]; omega
  refine for_it (walk_zip3 (n := ls.length) hzl (Nat.le_of_eq hzl2) (Nat.le_of_eq hul.symm) (.inr (.inr hul.symm)))
    (fun i σ H' => ∃ fs x1 x2 x3, σ = [some (.ref a), some (.ref b), some (.ref fo), x1, x2, x3] ∧ SB fo (upd (upd H fo (.lst [])) p (.lst ((cs.map V.int).drop 1))) H' ∧ H' fo = some (.lst fs) ∧ IsAll H' fs ((((trips cs ls).take i).foldl bandStep []).reverse.map encB) ∧ fs.length ≤ i) ?_ (fun i σ H' _ hp => ?_) (fun i x σ H1 H2 hi hp hy => ?_) (fun σ H1 hp => ?_)
  · exact ⟨[], _, _, _, rfl, SB.refl, by rw [upd_ne nfo, upd_same], .nil, Nat.le_refl _⟩
  · obtain ⟨fs, x1, x2, x3, rfl, sb, _⟩ := hp
    have na : a ≠ fo := ne_of_none ha hfo
    have nb : b ≠ fo := ne_of_none hb hfo
    exact ⟨SqL.of (sb _ _ (s1 _ _ ha1) na), SqL.of (sb _ _ upd_same nfo.symm), SqL.of (sb _ _ (s0 _ _ hb) nb)⟩
  · obtain ⟨fs, x1, x2, x3, rfl, sb, hf, hfs, hfl⟩ := hp
    obtain ⟨T1, u1, u2, u3, rfl, hT, rfl, g1, g2, g3⟩ := hy
    obtain ⟨ln, hln, hv⟩ := at_map hus g3
    obtain ⟨lo, hg, e1, e2, e3⟩ := trips_get cs ls i ln hll hln
    have eu1 : u1 = .int lo := by
      rw [List.getElem?_map, e1] at g1
      exact (Option.some.inj g1).symm
    have eu2 : u2 = .int hg := by
      rw [← List.map_drop, List.getElem?_map, e2] at g2
      exact (Option.some.inj g2).symm
    subst eu1 eu2
    have nT : fo ≠ T1 := ne_of_none hf hT
    have sb2 : SB fo (upd (upd H fo (.lst [])) p (.lst ((cs.map V.int).drop 1))) (upd H1 T1 (.tup [.int lo, .int hg, u3])) := sb.trans (sb_same (same_new hT _))
    have hf2 : (upd H1 T1 (.tup [.int lo, .int hg, u3])) fo = some (.lst fs) := by rw [upd_ne nT]; exact hf
    have hfs2 := hfs.mono (kt_new hT (.tup [.int lo, .int hg, u3]))
    have hv1 : Is H1 u3 (encLine ln) := (hv.mono ((kt s0).trans (kt_sb (by rw [upd_ne nfo, upd_same]) sb)))
    have hv2 := hv1.mono (kt_new hT (.tup [.int lo, .int hg, u3]))
    refine ⟨T1, _, rfl, SqT.of upd_same, rfl, _, _, rfl, _, _, rfl, _, _, rfl, rfl, ?_⟩
    have etk : ((trips cs ls).take (i + 1)).foldl bandStep [] = bandStep (((trips cs ls).take i).foldl bandStep []) (lo, hg, ln) := by
      rw [List.take_add_one, e3, List.foldl_append]
      rfl
    generalize hacc : ((trips cs ls).take i).foldl bandStep [] = acc at hfs2 etk
    generalize hH : upd H1 T1 (.tup [.int lo, .int hg, u3]) = H2 at sb2 hf2 hfs2 hv2
    have hsz : fs.length < sizeLine := sm (by omega)
    obtain ⟨la, ys, rfl, hla, hys⟩ := hv2.tup_inv
    have hyl : ys.length = ln.length := by rw [hys.length, List.length_map]
    refine ⟨_, rfl, la, ys, rfl, .inr (SqT.of hla), _, _, rfl, rfl, _, rfl, ?_⟩
    have bands : ∀ p2, IsAll (upd H2 p2 (.tup [.int lo, .int hg, .ref la])) [.int lo, .int hg, .ref la] [.int lo, .int hg, encLine ln] → True := fun _ _ => trivial
    have mk : ∀ (x : Int) (p2 : Addr), H2 p2 = none → Is (upd H2 p2 (.tup [.int x, .int hg, .ref la])) (.ref p2) (encB (x, hg, ln)) := fun x p2 hp2 => is_new hp2 (.cons (.int _) (.cons (.int _) (.cons hv2 .nil)))
    by_cases cl : ln = []
    · have c0 : ¬ ((ys.length : Int) > 0) := by rw [hyl, cl]; decide
      rw [decide_eq_false c0]
      refine iteF ?_
      refine ⟨fs, _, _, _, rfl, sb2, hf2, ?_, by omega⟩
      have eb : bandStep acc (lo, hg, ln) = acc := by
        cases acc <;> (unfold bandStep; rw [if_pos cl])
      rw [etk, eb]
      exact hfs2
    have c1 : (ys.length : Int) > 0 := by
      rw [hyl]
      have := List.length_pos_iff.mpr cl
      omega
    rw [decide_eq_true c1]
    refine iteT ?_
    refine ⟨_, rfl, fo, _, rfl, .inl (SqL.of hf2), _, _, rfl, rfl, _, rfl, ?_⟩
    cases acc with
    | nil =>
      have e0 : fs = [] := hfs2.nil_inv
      subst e0
      refine iteF (iteF ?_)
      refine ⟨_, rfl, .inl ⟨rfl, _, SqL.of hf2⟩, _, rfl, _, rfl, _, rfl, sz 3, fun p2 hp2 => ?_⟩
      have n2 : fo ≠ p2 := ne_of_none hf2 hp2
      refine ⟨fo, [], _, rfl, rfl, by rw [upd_ne n2]; exact hf2, hsz, ?_⟩
      refine ⟨_, _, _, _, rfl, sb2.trans ((sb_same (same_new hp2 _)).trans (sb_upd _)), upd_same, ?_, by simp⟩
      have eb : bandStep [] (lo, hg, ln) = [(lo, hg, ln)] := by unfold bandStep; rw [if_neg cl]
      rw [etk, eb]
      exact snoc_at (ds := []) hf2 .nil (sb_same (same_new hp2 _)) (by rw [upd_ne n2]; exact hf2) (mk _ _ hp2)
    | cons p0 tl =>
      obtain ⟨fs', v0, rfl, h1, h2⟩ := snoc_inv hfs2
      obtain ⟨t0, l0, rfl, ht0, hl0⟩ := band_inv h2
      have hlen : ((fs' ++ [V.ref t0]).length : Int) > 0 := by rw [len_snoc]; omega
      rw [decide_eq_true hlen]
      refine iteT ?_
      have app : ¬ (p0.2.1 = lo ∧ p0.2.2 = ln) → ∀ p2, H2 p2 = none → IsAll (upd (upd H2 p2 (.tup [.int lo, .int hg, .ref la])) fo (.lst ((fs' ++ [.ref t0]) ++ [.ref p2]))) ((fs' ++ [.ref t0]) ++ [.ref p2]) ((bandStep (p0 :: tl) (lo, hg, ln)).reverse.map encB) := fun c p2 hp2 => by
        have n2 : fo ≠ p2 := ne_of_none hf2 hp2
        rw [bandStep_cons (t := (lo, hg, ln)) cl]
        show IsAll _ _ ((if p0.2.1 = lo ∧ p0.2.2 = ln then _ else _ : Reg).reverse.map encB)
        rw [if_neg c, List.reverse_cons, List.map_append]
        exact snoc_at hf2 hfs2 (sb_same (same_new hp2 _)) (by rw [upd_ne n2]; exact hf2) (mk _ _ hp2)
      refine ⟨_, rfl, _, rfl, fo, _, _, _, rfl, rfl, SqL.of hf2, atI_last _ _, t0, _, _, _, rfl, rfl, SqT.of ht0, rfl, _, rfl, rfl, _, rfl, ?_⟩
      by_cases cb : p0.2.1 = lo
      · have cb' : V.int p0.2.1 = V.int lo := by rw [cb]
        rw [decide_eq_true cb']
        refine iteT ?_
        refine ⟨_, rfl, _, rfl, fo, _, _, _, rfl, rfl, SqL.of hf2, atI_last _ _, t0, _, _, _, rfl, rfl, SqT.of ht0, rfl, _, rfl, _, _, hl0.dp, hv2.dp, (okLine _).shaped, (okLine _).shaped, _, rfl, ?_⟩
        rw [eqv_line]
        refine ite2 (fun c => ?_) (fun c => ?_)
        · have c' : p0.2.2 = ln := of_decide_eq_true c
          refine ⟨_, rfl, _, rfl, fo, _, _, _, rfl, rfl, SqL.of hf2, atI_last _ _, t0, _, _, _, rfl, rfl, SqT.of ht0, rfl, ?_⟩
          refine ⟨_, rfl, _, rfl, sz 3, fun p2 hp2 => ?_⟩
          have n2 : fo ≠ p2 := ne_of_none hf2 hp2
          refine ⟨_, rfl, _, rfl, fo, _, _, _, rfl, rfl, by rw [upd_ne n2]; exact hf2, ixN_last _ _, ?_⟩
          rw [set_last]
          refine ⟨_, _, _, _, rfl, sb2.trans ((sb_same (same_new hp2 _)).trans (sb_upd _)), upd_same, ?_, by rw [len_snoc] at hfl ⊢; omega⟩
          rw [etk, bandStep_cons (t := (lo, hg, ln)) cl]
          show IsAll _ _ ((if p0.2.1 = lo ∧ p0.2.2 = ln then _ else _ : Reg).reverse.map encB)
          rw [if_pos ⟨cb, c'⟩, List.reverse_cons, List.map_append]
          exact last_at hf2 h1 (sb_same (same_new hp2 _)) (by rw [upd_ne n2]; exact hf2) (mk _ _ hp2)
        · have c' : ¬ p0.2.2 = ln := of_decide_eq_false (Bool.eq_false_iff.mpr c)
          refine ⟨_, rfl, .inl ⟨rfl, _, SqL.of hf2⟩, _, rfl, _, rfl, _, rfl, sz 3, fun p2 hp2 => ?_⟩
          have n2 : fo ≠ p2 := ne_of_none hf2 hp2
          refine ⟨fo, _, _, rfl, rfl, by rw [upd_ne n2]; exact hf2, hsz, ?_⟩
          refine ⟨_, _, _, _, rfl, sb2.trans ((sb_same (same_new hp2 _)).trans (sb_upd _)), upd_same, ?_, by rw [len_snoc]; omega⟩
          rw [etk]
          exact app (fun z => c' z.2) p2 hp2
      · have cb' : ¬ (V.int p0.2.1 = V.int lo) := fun z => cb (by cases z; rfl)
        rw [decide_eq_false cb']
        refine iteF (iteF ?_)
        refine ⟨_, rfl, .inl ⟨rfl, _, SqL.of hf2⟩, _, rfl, _, rfl, _, rfl, sz 3, fun p2 hp2 => ?_⟩
        have n2 : fo ≠ p2 := ne_of_none hf2 hp2
        refine ⟨fo, _, _, rfl, rfl, by rw [upd_ne n2]; exact hf2, hsz, ?_⟩
        refine ⟨_, _, _, _, rfl, sb2.trans ((sb_same (same_new hp2 _)).trans (sb_upd _)), upd_same, ?_, by rw [len_snoc]; omega⟩
        rw [etk]
        exact app (fun z => cb z.1) p2 hp2
  · obtain ⟨fs, x1, x2, x3, rfl, sb, hf, hfs, hfl⟩ := hp
    refine ⟨_, rfl, fo, _, rfl, .inl ⟨SqL.of hf, fun p2 hp2 => ?_⟩⟩
    have sA : Same H H1 := same_of hfo s0 sb
    refine q _ _ (sA.trans (same_new hp2 _)) ?_
    rw [← trips_len' cs ls hll, List.take_length] at hfs
    exact is_new hp2 hfs
end
end Mw
end
section
set_option maxRecDepth 100000
set_option maxHeartbeats 4000000
/-! cuts_of, rects_of, edges, ends_of. -/
namespace Mw
open PySem PySem.Spec PyProof.Rows L2
/-! ### the same rules with the fragment named (within a comprehension) -/
theorem ix_tupK {X : Cx} {K : PySem.W.Frag} (h : X.K = K := by rfl) : IxR X (rIxT K) := h ▸ ix_tup
theorem ix_listK {X : Cx} {K : PySem.W.Frag} (h : X.K = K := by rfl) : IxR X (rIxL K) := h ▸ ix_list
theorem pg_tupK {X : Cx} {K : PySem.W.Frag} {es : List Expr} {k : Nat} {t : TGs} {n : Nat} {pos : Pos} (hc : X.calm = true) (h : PGs X es t) (hK : X.K = K := by rfl)
    (hn : (assignEach es X.env).length = n := by rfl) (hst : (assignEach es X.env).findIdx? (·.1) = none := by rfl) : PG X (.Tuple es k pos) (gTup K n t) := hK ▸ pg_tup hc h hn hst
theorem while_go {c : TT} {tb : TS} {D : Ends} {σ : L2.St} {H : Hp} (Pv : Nat → L2.St → Hp → Prop) (m : Nat) (h0 : Pv m σ H)
    (hs : ∀ m σ H, Pv m σ H → c σ H fun b H1 => if b = true then ∃ N : L2.St → Hp → Prop, (∀ σ' H', N σ' H' → ∃ m', m' < m ∧ Pv m' σ' H') ∧ tb { D with nx := N, ct := N, bk := D.nx } σ H1 else D.nx σ H1) : tWhile c tb D σ H :=
  ⟨Pv, ⟨m, h0⟩, hs⟩
/-- few different rows of the grid -/
def FewY (rs : List Rect) : Prop := ∃ D : List Int, D.length < 4095 ∧ ∀ c ∈ ysOf rs, c ∈ D
theorem same_refl (H : Hp) : Same H H := fun _ _ h => h
theorem map_intd (rs : List Rect) (k : Rect → Int) : rs.map (fun r => PyData.int (k r)) = (rs.map k).map PyData.int := by rw [List.map_map]; rfl
section
variable {P : Program} {w : World} {K : PySem.W.Frag} {mg : Str → Option Value} {base : Heap} {f : Addr} {fd : FuncData}
def spCuts : Sp := fun vs H Q _ => ∃ a rs, vs = [.ref a] ∧ IsL H a (rs.map encR) ∧ rs.length ≤ 2000000 ∧ FewY rs ∧ ∀ p us H', Same H H' → H' p = some (.lst (us.map V.int)) → H p = none → Up us → (∀ c, c ∈ us ↔ c ∈ ysOf rs) → Q (.ref p) H'
abbrev s_cuts_of : Stmt := top 10
abbrev n_cuts_of : List Str := ["rects", "rect"]
abbrev p_cuts_of : List Str := ["rects"]
theorem sc_cuts_of : FnScope n_cuts_of p_cuts_of (defScope s_cuts_of) := ⟨rfl, rfl, rfl, by decide +kernel, rfl, by decide +kernel, by decide +kernel⟩
theorem ok_cuts_of (F : Fun K "cuts_of" "cuts_of" s_cuts_of f fd) (T : Txt mg) : FnOk P w K mg base CX0 1 f fd p_cuts_of spCuts := by
  refine F.ok sc_cuts_of (fun vs H Q E h => ?_) (fun cdv A outer s H vs Q E hr h => ?_)
  · obtain ⟨v, r, rfl, _⟩ := h
    rfl
  obtain ⟨a, rs, rfl, ⟨xs, ha, hx⟩, hl, ⟨D0, hD0, hD1⟩, q⟩ := h
  have nd := (sc_cuts_of).nd
  refine ⟨_, (pss_one (ps_ret (pe_callB (Mw.cr_sortedI rfl hr.units) (by rfl) T.b_sorted (by decide +kernel) (pa_cons (pe_callTy (cr_setI rfl) (by rfl) T.b_set (by decide +kernel) (pa_cons (pe_op op_cat (pe_lc (own := [("rect", 1)]) rfl nd (pi_list (pv 0)) (blkOk_by (own := [("rect", 1)]) (N := n_cuts_of) (sc := defScope s_cuts_of) (by decide +kernel)) (fun _ _ _ _ _ => (pg_name (i := 1) nd rfl (Or.inl rfl))) (fun _ _ _ _ _ => pts_nil) (fun _ _ _ _ _ => (pe_ix (ix_tupK (K := K)) (pv 1) pe_int (fun _ _ => rfl)))) (pe_lc (own := [("rect", 1)]) rfl nd (pi_list (pv 0)) (blkOk_by (own := [("rect", 1)]) (N := n_cuts_of) (sc := defScope s_cuts_of) (by decide +kernel)) (fun _ _ _ _ _ => (pg_name (i := 1) nd rfl (Or.inl rfl))) (fun _ _ _ _ _ => pts_nil) (fun _ _ _ _ _ => (pe_ix (ix_tupK (K := K)) (pv 1) pe_int (fun _ _ => rfl))))) pa_nil)) pa_nil)))), ?_⟩
  have hxl : xs.length = rs.length := by rw [hx.length, List.length_map]
  have turn : ∀ {α : Type} (k : Rect → Int) (i : Nat) (x : V) (H1 H2 : Hp) (d : PyData), Same H H1 → (rs.map (fun r => PyData.int (k r)))[i]? = some d → YAt xs i H1 x H2 → ∃ r t, d = .int (k r) ∧ x = .ref t ∧ H2 = H1 ∧ H1 t = some (.tup [.int r.1, .int r.2.1, .int r.2.2.1, .int r.2.2.2]) := fun k i x H1 H2 d s1 hd hy => by
    obtain ⟨rfl, hxi⟩ := hy
    obtain ⟨r, hr, hv⟩ := at_map hx hxi
    obtain ⟨t, rfl, ht⟩ := rect_inv (hv.mono (kt s1))
    exact ⟨r, t, map_at (f := fun r => PyData.int (k r)) hr hd, rfl, rfl, ht⟩
  refine ⟨_, rfl, a, rfl, ⟨_, SqL.of ha⟩, fun D1 hD1' => lc_map (walk_list (K := K) (a := a) (xs := xs)) (rs.map fun r => PyData.int r.2.1) (by rw [List.length_map, hxl]) (smL (by omega)) hD1' (fun H1 s1 => SqL.of (s1 _ _ ha)) (fun i x H1 H2 d Qk Qs hd s1 hy k => ?_) (fun H1 ys s1 hys hyd => ?_)⟩
  · obtain ⟨r, t, rfl, rfl, rfl, ht⟩ := turn (α := Unit) (fun r => r.2.1) i x H1 H2 d s1 hd hy
    exact ⟨rfl, _, rfl, t, _, _, _, rfl, rfl, SqT.of ht, rfl, k _ _ (same_refl _) (.int _)⟩
  refine ⟨_, rfl, a, rfl, ⟨_, SqL.of (s1 _ _ ha)⟩, fun D2 hD2 => lc_map (walk_list (K := K) (a := a) (xs := xs)) (rs.map fun r => PyData.int r.2.2.2) (by rw [List.length_map, hxl]) (smL (by omega)) hD2 (fun H2 s2 => SqL.of (s2 _ _ (s1 _ _ ha))) (fun i x H2 H3 d Qk Qs hd s2 hy k => ?_) (fun H2 zs s2 hzs hzd => ?_)⟩
  · obtain ⟨r, t, rfl, rfl, rfl, ht⟩ := turn (α := Unit) (fun r => r.2.2.2) i x H2 H3 d (s1.trans s2) hd hy
    exact ⟨rfl, _, rfl, t, _, _, _, rfl, rfl, SqT.of ht, rfl, k _ _ (same_refl _) (.int _)⟩
  rw [map_intd] at hyd hzd
  have e1 := ints_inv hyd
  have e2 := ints_inv hzd
  subst e1 e2
  refine ⟨D1, D2, _, _, rfl, rfl, s2 _ _ hys, hzs, smL (by simp only [List.length_map]; omega), fun p hp => ?_⟩
  refine ⟨p, ysOf rs, D0, rfl, SqL.of (by rw [upd_same, ysOf, List.map_append]), hD1, hD0, fun b hb => ?_⟩
  refine ⟨b, ysOf rs, rfl, upd_same, fun us p2 hup hmem hp2 => ?_⟩
  refine q p2 us _ ?_ upd_same ?_ hup hmem
  · exact (s1.trans s2).trans ((same_new hp _).trans ((same_new hb _).trans (same_new hp2 _)))
  · exact ((s1.trans s2).trans ((same_new hp _).trans (same_new hb _))).free hp2
def spRectsOf : Sp := fun vs H Q _ => ∃ v R, vs = [v] ∧ Is H v (encReg R) ∧ (rectsOf R).length ≤ 2000000 ∧ ∀ p H', H p = none → Same H H' → IsL H' p ((rectsOf R).map encR) → Q (.ref p) H'
theorem same_lst {l : Addr} {H0 H H' : Hp} (hl : H0 l = none) (s : Same H0 H) (b : SB l H H') : Same H0 H' := same_of hl s b
abbrev s_rects_of : Stmt := top 12
abbrev n_rects_of : List Str := ["some", "found", "low", "high", "line", "start", "end"]
abbrev p_rects_of : List Str := ["some"]
theorem sc_rects_of : FnScope n_rects_of p_rects_of (defScope s_rects_of) := ⟨rfl, rfl, rfl, by decide +kernel, rfl, by decide +kernel, by decide +kernel⟩
theorem ok_rects_of (F : Fun K "rects_of" "rects_of" s_rects_of f fd) (T : Txt mg) : FnOk P w K mg base CX0 1 f fd p_rects_of spRectsOf := by
  refine F.ok sc_rects_of (fun vs H Q E h => ?_) (fun cdv A outer s H vs Q E hr h => ?_)
  · obtain ⟨v, r, rfl, _⟩ := h
    rfl
  obtain ⟨v, R, rfl, hv, hl, q⟩ := h
  have nd := (sc_rects_of).nd
  refine ⟨_, (pss_cons (ps_set (i := 1) nd rfl (Or.inl rfl) (pe_lst pa_nil))
  (pss_cons (ps_for PassesOwn.never rfl (pi_tup (pv 0)) (pg_tup rfl (pgs_cons (pg_name (i := 2) nd rfl (Or.inr rfl)) (pgs_cons (pg_name (i := 3) nd rfl (Or.inr rfl)) (pgs_cons (pg_name (i := 4) nd rfl (Or.inl rfl)) pgs_nil))))
  (pss_one (ps_expr (pe_bm PySem.F.plainAttrs_list PySem.F.slot_list_extend PySem.F.type_list_extend mt_extend (pv 1) (pa_cons (pe_lc (own := [("start", 5), ("end", 6)]) rfl nd (pi_tup (pv 4)) (blkOk_by (own := [("start", 5), ("end", 6)]) (N := n_rects_of) (sc := defScope s_rects_of) (by decide +kernel)) (fun _ _ _ _ _ => (pg_tupK (K := K) (n := 2) rfl (pgs_cons (pg_name (i := 5) nd rfl (Or.inl rfl)) (pgs_cons (pg_name (i := 6) nd rfl (Or.inl rfl)) pgs_nil)))) (fun _ _ _ _ _ => pts_nil) (fun _ _ _ _ _ => (pe_tup (pa_cons (pv 5) (pa_cons (pv 2) (pa_cons (pv 6) (pa_cons (pv 3) pa_nil))))))) pa_nil)))))
  (pss_one (ps_ret (pv 1))))), ?_⟩
  obtain ⟨ra, xs, rfl, hra, hx⟩ := hv.tup_inv
  refine ⟨sz 0, fun fo hfo => ?_⟩
  have s0 : Same H (upd H fo (.lst [])) := same_new hfo _
  have hxl : xs.length = R.length := by rw [hx.length, List.length_map]
  have nra : ra ≠ fo := ne_of_none hra hfo
  refine ⟨_, rfl, ra, rfl, ⟨_, SqT.of (s0 _ _ hra)⟩, for_it (walk_tup (K := K) (a := ra) (xs := xs)) (fun i σ H' => ∃ fs x1 x2 x3, σ = [some (.ref ra), some (.ref fo), x1, x2, x3, none, none] ∧ SB fo (upd H fo (.lst [])) H' ∧ H' fo = some (.lst fs) ∧ IsAll H' fs ((rectsOf (R.take i)).map encR)) ?_ (fun i σ H' _ hp => ?_) (fun i x σ H1 H2 hi hp hy => ?_) (fun σ H1 hp => ?_)⟩
  · exact ⟨[], _, _, _, rfl, SB.refl, upd_same, .nil⟩
  · obtain ⟨fs, x1, x2, x3, rfl, sb, _⟩ := hp
    exact SqT.of (sb _ _ (s0 _ _ hra) nra)
  · obtain ⟨fs, x1, x2, x3, rfl, sb, hf, hfs⟩ := hp
    obtain ⟨rfl, hxi⟩ := hy
    obtain ⟨b, hb, hv⟩ := at_map hx hxi
    have sH2 : Same H H2 := same_of hfo s0 sb
    obtain ⟨t, u, rfl, ht, hu⟩ := band_inv (hv.mono (kt sH2))
    obtain ⟨la, ys, rfl, hla, hys⟩ := hu.tup_inv
    have hyl : ys.length = b.2.2.length := by rw [hys.length, List.length_map]
    refine ⟨t, _, rfl, SqT.of ht, rfl, _, _, rfl, _, _, rfl, _, _, rfl, rfl, ?_⟩
    have epre : rectsOf (R.take (i + 1)) = rectsOf (R.take i) ++ b.2.2.map fun s => (s.1, b.1, s.2, b.2.1) := by
      rw [List.take_add_one, hb]
      unfold rectsOf
      rw [List.flatMap_append]
      show _ ++ ([b].flatMap _) = _
      rw [List.flatMap_cons, List.flatMap_nil, List.append_nil]
    have hsub : (rectsOf (R.take (i + 1))).length ≤ (rectsOf R).length := by
      have : rectsOf R = rectsOf (R.take (i + 1)) ++ rectsOf (R.drop (i + 1)) := by
        unfold rectsOf
        rw [← List.flatMap_append, List.take_append_drop]
      rw [this, List.length_append]
      omega
    have hfl : fs.length = (rectsOf (R.take i)).length := by rw [hfs.length, List.length_map]
    rw [epre, List.length_append, List.length_map] at hsub
    refine ⟨_, rfl, .inl ⟨rfl, _, SqL.of hf⟩, ?_⟩
    refine ⟨_, rfl, la, rfl, ⟨_, SqT.of hla⟩, fun D hD => lc_map (walk_tup (K := K) (a := la) (xs := ys)) ((b.2.2.map fun s => (s.1, b.1, s.2, b.2.1)).map encR) (by rw [List.length_map, List.length_map, hyl]) (smL (by omega)) hD (fun H3 s3 => SqT.of (s3 _ _ hla)) (fun j y H3 H4 d Qk Qs hd s3 hy k => ?_) (fun H3 zs s3 hzs hzd => ?_)⟩
    · obtain ⟨rfl, hyj⟩ := hy
      obtain ⟨st, hst, hw⟩ := at_map hys hyj
      obtain ⟨t2, rfl, ht2⟩ := pair_inv (hw.mono (kt s3))
      rw [List.map_map] at hd
      have ed := map_at (f := encR ∘ fun s : Int × Int => (s.1, b.1, s.2, b.2.1)) hst hd
      subst ed
      refine ⟨t2, _, rfl, SqT.of ht2, rfl, _, _, rfl, _, _, rfl, rfl, ?_⟩
      exact ⟨rfl, _, rfl, _, rfl, _, rfl, _, rfl, sz 4, fun p4 hp4 => k _ _ (same_new hp4 _) (is_new hp4 (ints4 _ _ _ _))⟩
    · have hzl : zs.length = b.2.2.length := by rw [hzd.length, List.length_map, List.length_map]
      have nfo : fo ≠ D := ne_of_none hf hD
      refine ⟨fo, D, fs, zs, rfl, rfl, s3 _ _ hf, hzs, smL (by omega), ?_⟩
      refine ⟨_, _, _, _, rfl, sb.trans ((sb_same s3).trans (sb_upd _)), upd_same, ?_⟩
      rw [epre, List.map_append]
      exact ((hfs.mono (kt s3)).append hzd).mono (kt_lst (s3 _ _ hf) _)
  · obtain ⟨fs, x1, x2, x3, rfl, sb, hf, hfs⟩ := hp
    rw [hxl, List.take_length] at hfs
    exact ⟨_, rfl, q fo H1 hfo (same_of hfo s0 sb) ⟨fs, hf, hfs⟩⟩
end
end Mw
end
section
set_option maxRecDepth 100000
set_option maxHeartbeats 8000000
/-! region. -/
namespace Mw
open PySem PySem.Spec PyProof.Rows L2
def enc4 (r : Row4) : PyData := .tuple [.int r.1, .int r.2.1, .int r.2.2.1, .int r.2.2.2]
theorem row_inv {H : Hp} {v : V} {r : Row4} (h : Is H v (enc4 r)) : ∃ a, v = .ref a ∧ H a = some (.tup [.int r.1, .int r.2.1, .int r.2.2.1, .int r.2.2.2]) := rect_inv (r := r) h
theorem al4 (l : List Row4) : PySem.W.AllAlike (l.map enc4) := PySem.W.AllAlike.of fun b b' => by simp [PySem.W.alike, PySem.W.alikeAll, enc4]
theorem so4 (l : List Row4) : PySem.W.Sortable (l.map enc4) := PySem.W.Sortable.tuples fun b => ⟨_, _, rfl⟩
theorem le4 (a b : Row4) (h : PySem.W.dataLe false enc4 a b = true) : a.1 ≤ b.1 := by
  have e : PySem.W.dataLe false enc4 a b = !PySem.W.dataLt (enc4 b) (enc4 a) := by rw [PySem.W.dataLe_eq]; rfl
  rw [e] at h
  unfold enc4 at h
  rw [PySem.W.dataLt_tuple, PySem.W.dataLt_cons (by simp [PySem.W.alike]), PySem.W.dataLt_int] at h
  by_cases c : b.1 = a.1
  · omega
  · have : ¬ PyData.eqv (.int b.1) (.int a.1) = true := by simp [PyData.eqv, c]
    rw [if_neg this] at h
    simp at h
    exact h
theorem tot4 : PySem.W.TotalLe (PySem.W.dataLe false enc4) := PySem.W.sortLe_total _ _ _
def rowsOf4 (rs : List Rect) : List Row4 := (rs.map rowOf).mergeSort (PySem.W.dataLe false enc4)
theorem rowsOf4_ord (rs : List Rect) : (rowsOf4 rs).Pairwise fun a b => a.1 ≤ b.1 := by
  unfold rowsOf4
  refine (List.pairwise_mergeSort (le := PySem.W.dataLe false enc4) (fun a b c h1 h2 => tot4.trans a b c h1 h2) (fun a b => ?_) _).imp fun h => le4 _ _ h
  have := tot4.total a b
  simpa using this
theorem newOnes_cons {low : Int} {r : Row4} {l : List Row4} (h : r.1 = low) : newOnes low (r :: l) = r :: newOnes low l ∧ leftOnes low (r :: l) = leftOnes low l := by
  unfold newOnes leftOnes
  have : (r.1 == low) = true := by rw [h]; exact beq_self_eq_true _
  rw [List.takeWhile_cons, List.dropWhile_cons, this]
  exact ⟨rfl, rfl⟩
theorem newOnes_stop {low : Int} {r : Row4} {l : List Row4} (h : ¬ r.1 = low) : newOnes low (r :: l) = [] ∧ leftOnes low (r :: l) = r :: l := by
  unfold newOnes leftOnes
  have : (r.1 == low) = false := by simpa using h
  rw [List.takeWhile_cons, List.dropWhile_cons, this]
  exact ⟨rfl, rfl⟩
theorem cut_init (xs : List V) : cutV xs none (some (-1)) = xs.dropLast := by
  have e1 : HT.sIx xs.length 0 none = 0 := rfl
  have e2 : HT.sIx xs.length xs.length (some (-1)) = xs.length - 1 := by
    unfold HT.sIx
    simp
    try omega
  unfold cutV
  rw [e1, e2, List.drop_zero, Nat.sub_zero, List.dropLast_eq_take]
theorem alive_fm (low : Int) (al : List Row4) : (al.map fun r => if low < r.2.1 then some (enc4 r) else none).filterMap id = (alive1 low al).map enc4 := by
  unfold alive1
  induction al with
  | nil => rfl
  | cons r al ih =>
    rw [List.map_cons, List.filterMap_cons, List.filter_cons]
    by_cases c : low < r.2.1
    · rw [if_pos c, decide_eq_true c]
      simp only [id, if_true, List.map_cons]
      rw [ih]
    · rw [if_neg c, decide_eq_false c]
      simp only [id]
      rw [ih]
      rfl
theorem sweep_one (S : Line → Line) {cs : List Int} {i : Nat} {low : Int} (h : cs[i]? = some low) (hi : i + 1 < cs.length) (pend alive : List Row4) :
    sweep S (cs.drop i) pend alive = lineOf S (alive1 low alive ++ newOnes low pend) :: sweep S (cs.drop (i + 1)) (leftOnes low pend) (alive1 low alive ++ newOnes low pend) := by
  have hi0 : i < cs.length := by omega
  have e1 : cs.drop i = cs[i] :: cs.drop (i + 1) := List.drop_eq_getElem_cons hi0
  have e2 : cs.drop (i + 1) = cs[i + 1] :: cs.drop (i + 2) := List.drop_eq_getElem_cons hi
  have e3 : cs[i] = low := by
    rw [List.getElem?_eq_getElem hi0] at h
    exact Option.some.inj h
  rw [e1, e2, e3]
  rfl
theorem sweep_end (S : Line → Line) {cs : List Int} {i : Nat} (hi : cs.length ≤ i + 1) (pend alive : List Row4) : sweep S (cs.drop i) pend alive = [] := by
  apply List.eq_nil_of_length_eq_zero
  rw [sweep_len, List.length_drop]
  omega
theorem alive1_len (low : Int) (al : List Row4) : (alive1 low al).length ≤ al.length := List.length_filter_le ..
section
variable {P : Program} {w : World} {K : PySem.W.Frag} {mg : Str → Option Value} {base : Heap} {f : Addr} {fd : FuncData}
def spRegion : Sp := fun vs H Q _ => ∃ a rs, vs = [.ref a] ∧ IsL H a (rs.map encR) ∧ Valid rs ∧ rs.length ≤ 1000000 ∧ FewY rs ∧ ∀ v' H', Same H H' → Is H' v' (encReg (regOf rs)) → Q v' H'
/-- what the loop keeps: ls made so far, al alive, at the place in the rows -/
structure RegI (H : Hp) (rs : List Rect) (cuts : List Int) (lo ao ro : Addr) (i : Nat) (at' : Nat) (H' : Hp) : Prop where
  ex : ∃ (ls : List Line) (al : List Row4), IsL H' lo (ls.map encLine) ∧ IsL H' ao (al.map enc4) ∧ sweep srt cuts (rowsOf4 rs) [] = ls ++ sweep srt (cuts.drop i) ((rowsOf4 rs).drop at') al ∧ ls.length = i ∧ al.length ≤ at'
  rows : IsL H' ro ((rowsOf4 rs).map enc4)
  same : Same H H'
  hat : at' ≤ (rowsOf4 rs).length
  ne : lo ≠ ao ∧ ro ≠ ao ∧ ro ≠ lo
abbrev s_region : Stmt := top 11
abbrev n_region : List Str := ["rects", "cuts", "rest", "lines", "alive", "at", "low", "rect", "one"]
abbrev p_region : List Str := ["rects"]
theorem sc_region : FnScope n_region p_region (defScope s_region) := ⟨rfl, rfl, rfl, by decide +kernel, rfl, by decide +kernel, by decide +kernel⟩
theorem ok_region (F : Fun K "region" "region" s_region f fd) (T : Txt mg) (J_cuts_of : Has P w K mg base "cuts_of" 1 p_cuts_of spCuts) (J_joined : Has P w K mg base "joined" 1 p_joined spJoined) (J_banded : Has P w K mg base "banded" 1 p_banded spBanded) :
    FnOk P w K mg base CX0 2 f fd p_region spRegion := by
  refine F.ok sc_region (fun vs H Q E h => ?_) (fun cdv A outer s H vs Q E hr h => ?_)
  · obtain ⟨v, r, rfl, _⟩ := h
    rfl
  obtain ⟨a, rs, rfl, hA, hV, hl, hF, q⟩ := h
  have nd := (sc_region).nd
  refine ⟨_, (pss_cons (ps_set (i := 1) nd rfl (Or.inl rfl) (pe_f J_cuts_of hr (pa_cons (pv 0) pa_nil)))
  (pss_cons (ps_set (i := 2) nd rfl (Or.inl rfl) (pe_callB (cr_sortedD Row4 enc4 hr.units) (by rfl) T.b_sorted (by decide +kernel) (pa_cons (pe_lc (own := [("rect", 7)]) rfl nd (pi_list (pv 0)) (blkOk_by (own := [("rect", 7)]) (N := n_region) (sc := defScope s_region) (by decide +kernel)) (fun _ _ _ _ _ => (pg_name (i := 7) nd rfl (Or.inl rfl))) (fun _ _ _ _ _ => pts_nil) (fun _ _ _ _ _ => (pe_tup (pa_cons (pe_ix (ix_tupK (K := K)) (pv 7) pe_int (fun _ _ => rfl)) (pa_cons (pe_ix (ix_tupK (K := K)) (pv 7) pe_int (fun _ _ => rfl)) (pa_cons (pe_ix (ix_tupK (K := K)) (pv 7) pe_int (fun _ _ => rfl)) (pa_cons (pe_ix (ix_tupK (K := K)) (pv 7) pe_int (fun _ _ => rfl)) pa_nil))))))) pa_nil)))
  (pss_cons (ps_set (i := 3) nd rfl (Or.inl rfl) (pe_lst pa_nil))
  (pss_cons (ps_set (i := 4) nd rfl (Or.inl rfl) (pe_lst pa_nil))
  (pss_cons (ps_set (i := 5) nd rfl (Or.inl rfl) pe_int)
  (pss_cons (ps_for PassesOwn.never rfl (pi_list (pe_slice sl_list (pv 1) po_none (po_some (pe_un un_neg pe_int)))) (pg_name (i := 6) nd rfl (Or.inr rfl))
  (pss_cons (ps_setLc (i := 4) (own := [("one", 8)]) rfl nd rfl rfl (sw_true rfl rfl rfl (by decide +kernel)) (pi_list (pv 4)) (blkOk_by (own := [("one", 8)]) (N := n_region) (sc := defScope s_region) (by decide +kernel)) (fun _ _ _ _ _ => (pg_name (i := 8) nd rfl (Or.inl rfl))) (fun _ _ _ _ _ => (pts_one (pt_cmpR op_gt (pe_ix (ix_tupK (K := K)) (pv 8) pe_int (fun _ _ => rfl)) (pv 6) nomk))) (fun _ _ _ _ _ => (pv 8)))
  (pss_cons (ps_while PassesOwn.never (PW.pt (pw_and (pt_cmpR op_lt (pv 5) (pe_callB call_len_seq (by rfl) T.b_len (by decide +kernel) (pa_cons (pv 2) pa_nil)) nomk) (pw_and1 (pt_cmpR op_eq (pe_ix ix_tup (pe_ix ix_list (pv 2) (pv 5) (fun _ _ => rfl)) pe_int (fun _ _ => rfl)) (pv 6) nomk))))
  (pss_cons (ps_expr (pe_bm PySem.F.plainAttrs_list PySem.F.slot_list_append PySem.F.type_list_append mt_append (pv 4) (pa_cons (pe_ix ix_list (pv 2) (pv 5) (fun _ _ => rfl)) pa_nil)))
  (pss_one (ps_aug (i := 5) nd rfl (.inl rfl) pe_int ip_add))))
  (pss_one (ps_expr (pe_bm PySem.F.plainAttrs_list PySem.F.slot_list_append PySem.F.type_list_append mt_append (pv 3) (pa_cons (pe_f J_joined hr (pa_cons (pe_lc (own := [("one", 8)]) rfl nd (pi_list (pv 4)) (blkOk_by (own := [("one", 8)]) (N := n_region) (sc := defScope s_region) (by decide +kernel)) (fun _ _ _ _ _ => (pg_name (i := 8) nd rfl (Or.inl rfl))) (fun _ _ _ _ _ => pts_nil) (fun _ _ _ _ _ => (pe_tup (pa_cons (pe_ix (ix_tupK (K := K)) (pv 8) pe_int (fun _ _ => rfl)) (pa_cons (pe_ix (ix_tupK (K := K)) (pv 8) pe_int (fun _ _ => rfl)) pa_nil))))) pa_nil)) pa_nil)))))))
  (pss_one (ps_ret (pe_f J_banded hr (pa_cons (pv 1) (pa_cons (pv 3) pa_nil))))))))))), ?_⟩
  obtain ⟨xs, ha, hx⟩ := hA
  -- cuts
  refine ⟨_, rfl, a, rs, rfl, ⟨xs, ha, hx⟩, by omega, hF, fun co cuts H1 s1 hc hcn hup hmem => ?_⟩
  -- rest
  have hxl : xs.length = rs.length := by rw [hx.length, List.length_map]
  refine ⟨_, rfl, a, rfl, ⟨_, SqL.of (s1 _ _ ha)⟩, fun D hD => lc_map (walk_list (K := K) (a := a) (xs := xs)) ((rs.map rowOf).map enc4) (by rw [List.length_map, List.length_map, hxl]) (smL (by omega)) hD (fun H2 s2 => SqL.of (s2 _ _ (s1 _ _ ha))) (fun i x H2 H3 d Qk Qs hd s2 hy k => ?_) (fun H2 ys s2 hys hyd => ?_)⟩
  · obtain ⟨rfl, hxi⟩ := hy
    obtain ⟨r, hr, hv⟩ := at_map hx hxi
    obtain ⟨t, rfl, ht⟩ := rect_inv (hv.mono (kt (s1.trans s2)))
    rw [List.map_map] at hd
    have ed := map_at (f := enc4 ∘ rowOf) hr hd
    subst ed
    exact ⟨rfl, _, rfl, t, _, _, _, rfl, rfl, SqT.of ht, rfl, _, rfl, t, _, _, _, rfl, rfl, SqT.of ht, rfl, _, rfl, t, _, _, _, rfl, rfl, SqT.of ht, rfl, _, rfl, t, _, _, _, rfl, rfl, SqT.of ht, rfl, sz 4, fun p4 hp4 => k _ _ (same_new hp4 _) (is_new hp4 (ints4 _ _ _ _))⟩
  refine ⟨D, rs.map rowOf, rfl, ⟨ys, hys, hyd⟩, al4 _, so4 _, fun b _ => by simp [enc4, PyData.depth, PyData.depthAll], fun ro rv hro hrvl hrv => ?_⟩
  have hrl : (rowsOf4 rs).length = rs.length := by
    unfold rowsOf4
    rw [(List.mergeSort_perm ..).length_eq, List.length_map]
  -- lines, alive
  refine ⟨sz 0, fun lo hlo => ?_⟩
  refine ⟨sz 0, fun ao hao => ?_⟩
  have sr := (s1.trans s2).trans (same_new hro (.lst rv))
  have sl := sr.trans (same_new hlo (.lst []))
  have sa := sl.trans (same_new hao (.lst []))
  have nlc : lo ≠ co := (ne_of_none (((s2.trans (same_new hro (.lst rv))) _ _ hc)) hlo).symm
  have nac : ao ≠ co := (ne_of_none ((same_new hlo (.lst [])) _ _ (((s2.trans (same_new hro (.lst rv))) _ _ hc))) hao).symm
  have nrl : ro ≠ lo := ne_of_none upd_same hlo
  have nra : ro ≠ ao := ne_of_none ((same_new hlo (.lst [])) _ _ upd_same) hao
  have nla : lo ≠ ao := ne_of_none upd_same hao
  have hlo0 : H lo = none := sr.free hlo
  have hcl : cuts.length < 4095 := by
    obtain ⟨D0, h1, h2⟩ := hF
    have := up_len hup fun x hx => h2 x ((hmem x).mp hx)
    omega
  have hcH : (upd (upd (upd H2 ro (.lst rv)) lo (.lst [])) ao (.lst [])) co = some (.lst (cuts.map V.int)) := by
    rw [upd_ne nac.symm, upd_ne nlc.symm]
    exact (s2.trans (same_new hro (.lst rv))) _ _ hc
  -- at = 0; the loop
  refine asg (i := 4) ?_
  dsimp only
  refine asg (i := 5) ?_
  dsimp only
  refine seq_for (fun σ' H' => ∃ (ao at' : Addr) (x6 : Option V), σ' = [some (.ref a), some (.ref co), some (.ref ro), some (.ref lo), some (.ref ao), some (.int (at' : Nat)), x6, none, none] ∧ RegI H rs cuts lo ao ro (cuts.length - 1) at' H' ∧ H' co = some (.lst (cuts.map V.int))) (fun σ' H' hp => ?_) (fun go => ?_)
  · obtain ⟨ao', at', x6, rfl, R, hco⟩ := hp
    obtain ⟨ls, al, hls, hal, hsw, hln, _⟩ := R.ex
    rw [sweep_end srt (by omega), List.append_nil] at hsw
    refine ⟨_, rfl, _, rfl, co, lo, cuts, ls, rfl, hco, hls, hln, by omega, fun v' H3 s3 h3 => ?_⟩
    have reg := region_ok srt_sorts hV hup (fun c => by rw [hmem, ysOf_mem]) (rows := rowsOf4 rs) (List.mergeSort_perm ..) (rowsOf4_ord rs)
    have er : sweepReg srt cuts (rowsOf4 rs) = regOf rs := is_regOf hV reg.can reg.cov
    refine q v' H3 (R.same.trans s3) ?_
    rw [← er, sweepReg, hsw]
    exact h3
  · refine ⟨_, rfl, _, rfl, _, rfl, co, _, rfl, SqL.of hcH, fun cp hcp => ?_⟩
    rw [cut_init]
    have sc0 := same_new hcp (.lst (cuts.map V.int).dropLast)
    have hdl : (cuts.map V.int).dropLast = cuts.dropLast.map V.int := by rw [List.map_dropLast]
    refine ⟨cp, rfl, ⟨_, SqL.of upd_same⟩, for_it (walk_list (K := K) (a := cp) (xs := (cuts.map V.int).dropLast)) (fun i σ' H' => ∃ (ao at' : Addr) (x6 : Option V), σ' = [some (.ref a), some (.ref co), some (.ref ro), some (.ref lo), some (.ref ao), some (.int (at' : Nat)), x6, none, none] ∧ RegI H rs cuts lo ao ro i at' H' ∧ H' co = some (.lst (cuts.map V.int)) ∧ H' cp = some (.lst (cuts.map V.int).dropLast) ∧ cp ≠ lo ∧ cp ≠ ao ∧ ao ≠ co) ?_ (fun i σ H' _ hp => ?_) (fun i x σ H3 H4 hi hp hy => ?_) (fun σ H3 hp => ?_)⟩
    · refine ⟨ao, 0, none, rfl, ⟨⟨[], [], ⟨[], ?_, .nil⟩, ⟨[], ?_, .nil⟩, rfl, rfl, Nat.le_refl _⟩, ?_, sa.trans sc0, Nat.zero_le _, nla, nra, nrl⟩, sc0 _ _ hcH, upd_same, ?_, ?_, nac⟩
      · exact sc0 _ _ (by rw [upd_ne nla]; exact upd_same)
      · exact sc0 _ _ upd_same
      · exact ⟨rv, sc0 _ _ (by rw [upd_ne nra, upd_ne nrl]; exact upd_same), hrv.mono (kt ((same_new hro (.lst rv)).trans ((same_new hlo (.lst [])).trans ((same_new hao (.lst [])).trans sc0))))⟩
      · exact (ne_of_none (show (upd (upd (upd H2 ro (.lst rv)) lo (.lst [])) ao (.lst [])) lo = some _ by rw [upd_ne nla]; exact upd_same) hcp).symm
      · exact (ne_of_none (show (upd (upd (upd H2 ro (.lst rv)) lo (.lst [])) ao (.lst [])) ao = some _ from upd_same) hcp).symm
    · obtain ⟨ao', at', x6, rfl, R, hco, hcp', _⟩ := hp
      exact SqL.of hcp'
    · obtain ⟨ao', at', x6, rfl, R, hco, hcp', n1, n2, n3⟩ := hp
      obtain ⟨rfl, hxi⟩ := hy
      have hi' : i < cuts.length - 1 := by simpa using hi
      obtain ⟨low, hlow, rfl⟩ : ∃ low, cuts[i]? = some low ∧ x = .int low := by
        rw [hdl, List.getElem?_map, List.getElem?_dropLast, if_pos hi'] at hxi
        cases e : cuts[i]? with
        | none => rw [e] at hxi; cases hxi
        | some low => rw [e] at hxi; exact ⟨low, rfl, (Option.some.inj hxi).symm⟩
      obtain ⟨ls, al, hls, hal, hsw, hln, hall⟩ := R.ex
      obtain ⟨as, has, hasd⟩ := hal
      have hasl : as.length = al.length := by rw [hasd.length, List.length_map]
      have hatl := R.hat
      -- alive = [..]
      refine ⟨_, rfl, ao', rfl, ⟨_, SqL.of has⟩, fun D hD => lc_opt (walk_list (K := K) (a := ao') (xs := as)) (al.map fun r => if low < r.2.1 then some (enc4 r) else none) (by rw [List.length_map, hasl]) (smL (by omega)) hD (fun H5 s5 => SqL.of (s5 _ _ has)) (fun j y H5 H6 e Qk Qs he s5 hy k1 k2 => ?_) (fun H5 bs s5 hbs hbd => ?_)⟩
      · obtain ⟨rfl, hyj⟩ := hy
        obtain ⟨r, hr, hv⟩ := at_map hasd hyj
        have hv6 := hv.mono (kt s5)
        have ee := map_at (f := fun r => if low < r.2.1 then some (enc4 r) else none) hr he
        obtain ⟨t, rfl, ht⟩ := row_inv hv6
        refine ⟨rfl, _, rfl, t, _, _, _, rfl, rfl, SqT.of ht, rfl, _, rfl, _, _, rfl, rfl, _, rfl, ?_⟩
        refine ite2 (fun c => ?_) (fun c => ?_)
        · have c' : low < r.2.1 := of_decide_eq_true c
          rw [if_pos c'] at ee
          exact ⟨_, rfl, k1 _ _ _ ee (same_refl _) hv6⟩
        · have c' : ¬ low < r.2.1 := of_decide_eq_false (Bool.eq_false_iff.mpr c)
          rw [if_neg c'] at ee
          exact k2 _ ee (same_refl _)
      rw [alive_fm] at hbd
      refine asg (i := 4) ?_
      dsimp only
      have nDl : lo ≠ D := by
        obtain ⟨_, z, _⟩ := hls
        exact ne_of_none z hD
      have nDr : ro ≠ D := by
        obtain ⟨_, z, _⟩ := R.rows
        exact ne_of_none z hD
      have nDc : D ≠ co := (ne_of_none hco hD).symm
      have nDp : cp ≠ D := ne_of_none hcp' hD
      have hbl : bs.length = (alive1 low al).length := by rw [hbd.length, List.length_map]
      have hale := alive1_len low al
      have sH5 : Same H H5 := R.same.trans s5
      obtain ⟨rv5, hr5, hrd5⟩ := R.rows.mono s5
      have hrvl5 : rv5.length = (rowsOf4 rs).length := by rw [hrd5.length, List.length_map]
      have hD0 : H D = none := R.same.free hD
      refine seq_while (fun σ' H' => ∃ (at2 : Nat) (bs' : List V), σ' = [some (.ref a), some (.ref co), some (.ref ro), some (.ref lo), some (.ref D), some (.int at2), some (.int low), none, none] ∧ SB D H5 H' ∧ H' D = some (.lst bs') ∧
        IsAll H' bs' ((alive1 low al ++ newOnes low ((rowsOf4 rs).drop at')).map enc4) ∧ (rowsOf4 rs).drop at2 = leftOnes low ((rowsOf4 rs).drop at') ∧ at2 ≤ (rowsOf4 rs).length ∧ bs'.length ≤ at2) (fun σ' H6 hp => ?_) (fun go => ?_)
      · obtain ⟨at2, bs', rfl, sb6, hD6, hb6, hleft, hat2, hbat⟩ := hp
        obtain ⟨lv, hlv, hlvd⟩ := hls.mono s5
        have hlv6 := sb6 _ _ hlv nDl
        have kt6 := kt_sb hbs sb6
        have hlv6d := hlvd.mono kt6
        have hlvl : lv.length = ls.length := by rw [hlvd.length, List.length_map]
        generalize hal2 : alive1 low al ++ newOnes low ((rowsOf4 rs).drop at') = al2 at hb6
        have hbl6 : bs'.length = al2.length := by rw [hb6.length, List.length_map]
        -- lines.append(joined([..]))
        refine ⟨_, rfl, .inl ⟨rfl, _, SqL.of hlv6⟩, ?_⟩
        refine ⟨_, rfl, D, rfl, ⟨_, SqL.of hD6⟩, fun D2 hD2 => lc_map (walk_list (K := K) (a := D) (xs := bs')) ((al2.map fun r => (r.2.2.1, r.2.2.2)).map encS) (by rw [List.length_map, List.length_map, hbl6]) (smL (by omega)) hD2 (fun H7 s7 => SqL.of (s7 _ _ hD6)) (fun j y H7 H8 d Qk Qs hd s7 hy k => ?_) (fun H7 cs7 s7 hcs hcsd => ?_)⟩
        · obtain ⟨rfl, hyj⟩ := hy
          obtain ⟨r, hr, hv⟩ := at_map hb6 hyj
          obtain ⟨t, rfl, ht⟩ := row_inv (hv.mono (kt s7))
          rw [List.map_map] at hd
          have ed := map_at (f := encS ∘ fun r : Row4 => (r.2.2.1, r.2.2.2)) hr hd
          subst ed
          exact ⟨rfl, _, rfl, t, _, _, _, rfl, rfl, SqT.of ht, rfl, _, rfl, t, _, _, _, rfl, rfl, SqT.of ht, rfl, sz 2, fun p4 hp4 => k _ _ (same_new hp4 _) (is_new hp4 (ints2 _ _))⟩
        refine ⟨D2, al2.map fun r => (r.2.2.1, r.2.2.2), rfl, ⟨cs7, hcs, hcsd⟩, by rw [List.length_map]; omega, fun v8 H8 s8 h8 => ?_⟩
        have s68 := s7.trans s8
        have hlv8 := s68 _ _ hlv6
        refine ⟨lo, lv, _, rfl, rfl, hlv8, sm (by omega), ?_⟩
        have kl : KT H8 (upd H8 lo (.lst (lv ++ [v8]))) := kt_lst hlv8 _
        refine ⟨D, at2, _, rfl, ⟨⟨ls ++ [lineOf srt al2], al2, ⟨_, upd_same, ?_⟩, ⟨bs', ?_, ?_⟩, ?_, ?_, ?_⟩, ⟨rv5, ?_, ?_⟩, ?_, hat2, nDl, nDr, R.ne.2.2⟩, ?_, ?_, n1, nDp, nDc⟩
        · rw [List.map_append]
          exact ((hlv6d.mono (kt s68)).snoc h8).mono kl
        · rw [upd_ne nDl.symm]
          exact s68 _ _ hD6
        · exact (hb6.mono (kt s68)).mono kl
        · rw [hsw, sweep_one srt hlow (by omega), hal2, hleft, List.append_assoc]
          rfl
        · rw [len_snoc, hln]
        · omega
        · rw [upd_ne R.ne.2.2]
          exact s68 _ _ (sb6 _ _ hr5 nDr)
        · exact ((hrd5.mono kt6).mono (kt s68)).mono kl
        · exact same_of hlo0 ((same_of hD0 sH5 sb6).trans s68) (sb_upd _)
        · rw [upd_ne nlc.symm]
          exact s68 _ _ (sb6 _ _ (s5 _ _ hco) nDc.symm)
        · rw [upd_ne n1]
          exact s68 _ _ (sb6 _ _ (s5 _ _ hcp') nDp)
      · refine while_go (fun m σ' H' => ∃ (at2 : Nat) (bs' : List V) (al2 : List Row4), m = (rowsOf4 rs).length - at2 ∧ σ' = [some (.ref a), some (.ref co), some (.ref ro), some (.ref lo), some (.ref D), some (.int at2), some (.int low), none, none] ∧ SB D H5 H' ∧ H' D = some (.lst bs') ∧
          IsAll H' bs' (al2.map enc4) ∧ al2 ++ newOnes low ((rowsOf4 rs).drop at2) = alive1 low al ++ newOnes low ((rowsOf4 rs).drop at') ∧ leftOnes low ((rowsOf4 rs).drop at2) = leftOnes low ((rowsOf4 rs).drop at') ∧ at2 ≤ (rowsOf4 rs).length ∧ bs'.length ≤ at2) _ ⟨at', bs, alive1 low al, rfl, rfl, SB.refl, hbs, hbd, rfl, rfl, R.hat, by omega⟩ (fun m σ' H6 hp => ?_)
        obtain ⟨at2, bs', al2, rfl, rfl, sb6, hD6, hb6, hnew, hleft, hat2, hbat⟩ := hp
        have kt6 := kt_sb hbs sb6
        have hr6 := sb6 _ _ hr5 nDr
        refine ⟨_, rfl, _, rfl, ro, _, rfl, .inl (SqL.of hr6), _, _, rfl, rfl, _, rfl, ?_⟩
        refine ite2 (fun c => ?_) (fun c => ?_)
        · have c1 : (at2 : Int) < (rv5.length : Int) := of_decide_eq_true c
          have c' : at2 < (rowsOf4 rs).length := by omega
          have ex : rv5[at2]? = some (rv5[at2]'(by omega)) := List.getElem?_eq_getElem _
          generalize hv0 : rv5[at2]'(by omega) = v0 at ex
          obtain ⟨r, hr, hv⟩ := at_map hrd5 ex
          obtain ⟨t, rfl, ht⟩ := row_inv (hv.mono kt6)
          have edrop : (rowsOf4 rs).drop at2 = r :: (rowsOf4 rs).drop (at2 + 1) := by
            rw [List.drop_eq_getElem_cons c']
            rw [List.getElem?_eq_getElem c'] at hr
            rw [Option.some.inj hr]
          refine ⟨_, rfl, _, rfl, ro, _, _, _, rfl, rfl, SqL.of hr6, atI_nat ex, t, _, _, _, rfl, rfl, SqT.of ht, rfl, _, rfl, rfl, _, rfl, ?_⟩
          by_cases ce : r.1 = low
          · have ce' : V.int r.1 = V.int low := by rw [ce]
            rw [decide_eq_true ce']
            refine iteT ?_
            obtain ⟨e1, e2⟩ := newOnes_cons ce (l := (rowsOf4 rs).drop (at2 + 1))
            refine ⟨fun σ'' H'' => ∃ m', m' < (rowsOf4 rs).length - at2 ∧ _, fun _ _ z => z, ?_⟩
            refine ⟨_, rfl, .inl ⟨rfl, _, SqL.of hD6⟩, _, rfl, _, rfl, ro, _, _, _, rfl, rfl, SqL.of hr6, atI_nat ex, D, bs', _, rfl, rfl, hD6, sm (by omega), ?_⟩
            refine ⟨_, rfl, _, _, rfl, rfl, ?_⟩
            refine ⟨(rowsOf4 rs).length - (at2 + 1), by omega, at2 + 1, bs' ++ [.ref t], al2 ++ [r], rfl, ?_, sb6.trans (sb_upd _), upd_same, ?_, ?_, ?_, c', ?_⟩
            · rfl
            · rw [List.map_append]
              exact snoc_at hD6 hb6 SB.refl hD6 (hv.mono kt6)
            · rw [← hnew, edrop, e1, List.append_assoc]
              rfl
            · rw [← hleft, edrop, e2]
            · rw [len_snoc]; omega
          · have ce' : ¬ (V.int r.1 = V.int low) := fun z => ce (by cases z; rfl)
            rw [decide_eq_false ce']
            refine iteF ?_
            obtain ⟨e1, e2⟩ := newOnes_stop ce (l := (rowsOf4 rs).drop (at2 + 1))
            rw [edrop, e1, List.append_nil] at hnew
            rw [edrop, e2] at hleft
            exact go _ _ ⟨at2, bs', rfl, sb6, hD6, by rw [← hnew]; exact hb6, by rw [edrop]; exact hleft, hat2, hbat⟩
        · have c1 : ¬ (at2 : Int) < (rv5.length : Int) := of_decide_eq_false (Bool.eq_false_iff.mpr c)
          have e0 : (rowsOf4 rs).drop at2 = [] := List.drop_eq_nil_of_le (by omega)
          rw [e0] at hnew hleft
          have hnew' : al2 = alive1 low al ++ newOnes low ((rowsOf4 rs).drop at') := by
            rw [← hnew]
            show _ = al2 ++ []
            rw [List.append_nil]
          refine iteF ?_
          exact go _ _ ⟨at2, bs', rfl, sb6, hD6, by rw [← hnew']; exact hb6, by rw [e0]; exact hleft, hat2, hbat⟩
    · obtain ⟨ao', at', x6, rfl, R, hco, hcp', n1, n2, n3⟩ := hp
      have e : (cuts.map V.int).dropLast.length = cuts.length - 1 := by rw [List.length_dropLast, List.length_map]
      rw [e] at R
      exact go _ _ ⟨ao', at', x6, rfl, R, hco⟩
end
end Mw
end
section
set_option maxRecDepth 100000
set_option maxHeartbeats 8000000
/-! turned, edges, ends_of, in_either, lines_at. -/
namespace Mw
open PySem PySem.Spec PyProof.Rows L2
/-- the rows that a turned region's rects need are few -/
theorem turned_ys {t : Int} (h : Tn t) (dx dy : Int) {rs : List Rect} (hv : Valid rs) : ∀ c ∈ ysOf ((rectsOf (regOf rs)).map (turnR t dx dy)), c ∈ ysOf (rs.map (turnR t dx dy)) := by
  intro c hc
  obtain ⟨r', hr', e⟩ := ysOf_mem.mp hc
  obtain ⟨r, hr, rfl⟩ := List.mem_map.mp hr'
  obtain ⟨⟨q1, m1, h1⟩, ⟨q2, m2, h2⟩, ⟨q3, m3, h3⟩, ⟨q4, m4, h4⟩⟩ := rectsOf_ends (regOf_is hv) r hr
  have mem : ∀ q ∈ rs, turnR t dx dy q ∈ rs.map (turnR t dx dy) := fun q hq => List.mem_map_of_mem hq
  refine ysOf_mem.mpr ?_
  rcases tn_cases h with z | z | z | z | z | z | z | z <;> subst z <;> simp only [turnR_0, turnR_1, turnR_2, turnR_3, turnR_4, turnR_5, turnR_6, turnR_7] at e mem
  · rcases e with e | e
    · rcases h1 with h1 | h1
      · exact ⟨_, mem q1 m1, .inl (by simp only; omega)⟩
      · exact ⟨_, mem q1 m1, .inr (by simp only; omega)⟩
    · rcases h2 with h2 | h2
      · exact ⟨_, mem q2 m2, .inl (by simp only; omega)⟩
      · exact ⟨_, mem q2 m2, .inr (by simp only; omega)⟩
  · rcases e with e | e
    · exact ⟨_, mem q3 m3, .inl (by simp only; omega)⟩
    · exact ⟨_, mem q4 m4, .inr (by simp only; omega)⟩
  · rcases e with e | e
    · rcases h2 with h2 | h2
      · exact ⟨_, mem q2 m2, .inr (by simp only; omega)⟩
      · exact ⟨_, mem q2 m2, .inl (by simp only; omega)⟩
    · rcases h1 with h1 | h1
      · exact ⟨_, mem q1 m1, .inr (by simp only; omega)⟩
      · exact ⟨_, mem q1 m1, .inl (by simp only; omega)⟩
  · rcases e with e | e
    · exact ⟨_, mem q4 m4, .inl (by simp only; omega)⟩
    · exact ⟨_, mem q3 m3, .inr (by simp only; omega)⟩
  · rcases e with e | e
    · rcases h1 with h1 | h1
      · exact ⟨_, mem q1 m1, .inl (by simp only; omega)⟩
      · exact ⟨_, mem q1 m1, .inr (by simp only; omega)⟩
    · rcases h2 with h2 | h2
      · exact ⟨_, mem q2 m2, .inl (by simp only; omega)⟩
      · exact ⟨_, mem q2 m2, .inr (by simp only; omega)⟩
  · rcases e with e | e
    · exact ⟨_, mem q4 m4, .inl (by simp only; omega)⟩
    · exact ⟨_, mem q3 m3, .inr (by simp only; omega)⟩
  · rcases e with e | e
    · rcases h2 with h2 | h2
      · exact ⟨_, mem q2 m2, .inr (by simp only; omega)⟩
      · exact ⟨_, mem q2 m2, .inl (by simp only; omega)⟩
    · rcases h1 with h1 | h1
      · exact ⟨_, mem q1 m1, .inr (by simp only; omega)⟩
      · exact ⟨_, mem q1 m1, .inl (by simp only; omega)⟩
  · rcases e with e | e
    · exact ⟨_, mem q3 m3, .inl (by simp only; omega)⟩
    · exact ⟨_, mem q4 m4, .inr (by simp only; omega)⟩
section
variable {P : Program} {w : World} {K : PySem.W.Frag} {mg : Str → Option Value} {base : Heap} {f : Addr} {fd : FuncData}
/-- a region of few rects, turned: the turned rects' region -/
def spTurned : Sp := fun vs H Q _ => ∃ v rs t dx dy, vs = [v, .int t, .int dx, .int dy] ∧ Is H v (encReg (regOf rs)) ∧ Valid rs ∧ rs.length ≤ 600 ∧ Tn t ∧ ∀ v' H', Same H H' → Is H' v' (encReg (regOf (rs.map (turnR t dx dy)))) → Q v' H'
abbrev s_turned : Stmt := top 19
abbrev n_turned : List Str := ["some", "turn", "dx", "dy", "rect"]
abbrev p_turned : List Str := ["some", "turn", "dx", "dy"]
theorem sc_turned : FnScope n_turned p_turned (defScope s_turned) := ⟨rfl, rfl, rfl, by decide +kernel, rfl, by decide +kernel, by decide +kernel⟩
theorem ok_turned (F : Fun K "turned" "turned" s_turned f fd) (T : Txt mg) (J_rects_of : Has P w K mg base "rects_of" 1 p_rects_of spRectsOf) (J_region : Has P w K mg base "region" 2 p_region spRegion) (J_turned_rect : Has P w K mg base "turned_rect" 2 p_turned_rect spTurnR) :
    FnOk P w K mg base CX0 3 f fd p_turned spTurned := by
  refine F.ok sc_turned (fun vs H Q E h => ?_) (fun cdv A outer s H vs Q E hr h => ?_)
  · obtain ⟨x, y, t, dx, dy, rfl, _⟩ := h
    rfl
  obtain ⟨v, rs, t, dx, dy, rfl, hv, hV, hl, ht, q⟩ := h
  have nd := (sc_turned).nd
  refine ⟨_, (pss_one (ps_ret (pe_f J_region hr (pa_cons (pe_lc (own := [("rect", 4)]) rfl nd (pi_list (pe_f J_rects_of hr (pa_cons (pv 0) pa_nil))) (blkOk_by (own := [("rect", 4)]) (N := n_turned) (sc := defScope s_turned) (by decide +kernel)) (fun _ _ _ _ _ => (pg_name (i := 4) nd rfl (Or.inl rfl))) (fun _ _ _ _ _ => pts_nil) (fun _ _ _ _ _ => (pe_f J_turned_rect hr (pa_cons (pv 4) (pa_cons (pv 1) (pa_cons (pv 2) (pa_cons (pv 3) pa_nil))))))) pa_nil)))), ?_⟩
  have hrl := rectsOf_len (regOf_is hV)
  have hrl2 : (rectsOf (regOf rs)).length ≤ 720000 := by
    have : 2 * rs.length * rs.length ≤ 2 * 600 * 600 := Nat.mul_le_mul (by omega) hl
    omega
  refine ⟨_, rfl, v, regOf rs, rfl, hv, by omega, fun p H1 hp s1 h1 => ?_⟩
  obtain ⟨xs, hxs, hx⟩ := h1
  have hxl : xs.length = (rectsOf (regOf rs)).length := by rw [hx.length, List.length_map]
  refine ⟨p, rfl, ⟨_, SqL.of hxs⟩, fun D hD => lc_map (walk_list (K := K) (a := p) (xs := xs)) (((rectsOf (regOf rs)).map (turnR t dx dy)).map encR) (by rw [List.length_map, List.length_map, hxl]) (smL (by omega)) hD (fun H2 s2 => SqL.of (s2 _ _ hxs)) (fun i x H2 H3 d Qk Qs hd s2 hy k => ?_) (fun H2 ys s2 hys hyd => ?_)⟩
  · obtain ⟨rfl, hxi⟩ := hy
    obtain ⟨r, hr, hv⟩ := at_map hx hxi
    rw [List.map_map] at hd
    have ed := map_at (f := encR ∘ turnR t dx dy) hr hd
    subst ed
    exact ⟨rfl, _, rfl, _, rfl, _, rfl, _, rfl, x, r, t, dx, dy, rfl, hv.mono (kt s2), fun v4 H4 s4 h4 => k _ _ s4 h4⟩
  · refine ⟨D, (rectsOf (regOf rs)).map (turnR t dx dy), rfl, ⟨ys, hys, hyd⟩, valid_map ht (rectsOf_valid (regOf_is hV).can), by rw [List.length_map]; omega, ⟨ysOf (rs.map (turnR t dx dy)), ?_, turned_ys ht dx dy hV⟩, fun v4 H4 s4 h4 => ?_⟩
    · unfold ysOf
      simp only [List.length_append, List.length_map]
      omega
    · rw [turned_regOf ht dx dy hV] at h4
      exact q v4 H4 ((s1.trans s2).trans s4) h4
def spEdges : Sp := fun vs H Q _ => ∃ v l side, vs = [v, .int side] ∧ Is H v (encLine l) ∧ l.length ≤ 1000000 ∧ ∀ p H', H p = none → Same H H' → IsL H' p ((edges l side).map encS) → Q (.ref p) H'
abbrev s_edges : Stmt := top 46
abbrev n_edges : List Str := ["line", "side", "found", "start", "end"]
abbrev p_edges : List Str := ["line", "side"]
theorem sc_edges : FnScope n_edges p_edges (defScope s_edges) := ⟨rfl, rfl, rfl, by decide +kernel, rfl, by decide +kernel, by decide +kernel⟩
theorem ok_edges (F : Fun K "edges" "edges" s_edges f fd) (T : Txt mg) : FnOk P w K mg base CX0 1 f fd p_edges spEdges := by
  refine F.ok sc_edges (fun vs H Q E h => ?_) (fun cdv A outer s H vs Q E hr h => ?_)
  · obtain ⟨v, r, sd, rfl, _⟩ := h
    rfl
  obtain ⟨v, l, side, rfl, hv, hl, q⟩ := h
  have nd := (sc_edges).nd
  refine ⟨_, (pss_cons (ps_set (i := 2) nd rfl (Or.inl rfl) (pe_lst pa_nil))
  (pss_cons (ps_for PassesOwn.never rfl (pi_tup (pv 0)) (pg_tup rfl (pgs_cons (pg_name (i := 3) nd rfl (Or.inl rfl)) (pgs_cons (pg_name (i := 4) nd rfl (Or.inl rfl)) pgs_nil)))
  (pss_cons (ps_expr (pe_bm PySem.F.plainAttrs_list PySem.F.slot_list_append PySem.F.type_list_append mt_append (pv 2) (pa_cons (pe_tup (pa_cons (pv 3) (pa_cons (pv 1) pa_nil))) pa_nil)))
  (pss_one (ps_expr (pe_bm PySem.F.plainAttrs_list PySem.F.slot_list_append PySem.F.type_list_append mt_append (pv 2) (pa_cons (pe_tup (pa_cons (pv 4) (pa_cons (pv 1) pa_nil))) pa_nil))))))
  (pss_one (ps_ret (pv 2))))), ?_⟩
  obtain ⟨la, xs, rfl, hla, hx⟩ := hv.tup_inv
  refine ⟨sz 0, fun fo hfo => ?_⟩
  have s0 : Same H (upd H fo (.lst [])) := same_new hfo _
  have hxl : xs.length = l.length := by rw [hx.length, List.length_map]
  have nla : la ≠ fo := ne_of_none hla hfo
  refine ⟨_, rfl, la, rfl, ⟨_, SqT.of (s0 _ _ hla)⟩, for_it (walk_tup (K := K) (a := la) (xs := xs)) (fun i σ H' => ∃ fs x1 x2, σ = [some (.ref la), some (.int side), some (.ref fo), x1, x2] ∧ SB fo (upd H fo (.lst [])) H' ∧ H' fo = some (.lst fs) ∧ IsAll H' fs ((edges (l.take i) side).map encS) ∧ fs.length ≤ 2 * i) ?_ (fun i σ H' _ hp => ?_) (fun i x σ H1 H2 hi hp hy => ?_) (fun σ H1 hp => ?_)⟩
  · exact ⟨[], _, _, rfl, SB.refl, upd_same, .nil, Nat.le_refl _⟩
  · obtain ⟨fs, x1, x2, rfl, sb, _⟩ := hp
    exact SqT.of (sb _ _ (s0 _ _ hla) nla)
  · obtain ⟨fs, x1, x2, rfl, sb, hf, hfs, hfl⟩ := hp
    obtain ⟨rfl, hxi⟩ := hy
    obtain ⟨st, hst, hv⟩ := at_map hx hxi
    have sH2 : Same H H2 := same_of hfo s0 sb
    obtain ⟨t, rfl, ht⟩ := pair_inv (hv.mono (kt sH2))
    refine ⟨t, _, rfl, SqT.of ht, rfl, _, _, rfl, _, _, rfl, rfl, ?_⟩
    have epre : (edges (l.take (i + 1)) side).map encS = ((edges (l.take i) side).map encS ++ [encS (st.1, side)]) ++ [encS (st.2, side)] := by
      rw [List.take_add_one, hst]
      unfold edges
      rw [List.flatMap_append, List.map_append]
      show _ ++ ([st].flatMap _).map encS = _
      rw [List.flatMap_cons, List.flatMap_nil, List.append_nil, List.append_assoc]
      rfl
    refine ⟨_, rfl, .inl ⟨rfl, _, SqL.of hf⟩, _, rfl, _, rfl, sz 2, fun p2 hp2 => ?_⟩
    have n2 : fo ≠ p2 := ne_of_none hf hp2
    refine ⟨fo, fs, _, rfl, rfl, by rw [upd_ne n2]; exact hf, sm (by omega), ?_⟩
    have k2 : SB fo H2 (upd (upd H2 p2 (.tup [.int st.1, .int side])) fo (.lst (fs ++ [.ref p2]))) := (sb_same (same_new hp2 _)).trans (sb_upd _)
    have i2 := snoc_at hf hfs (sb_same (same_new hp2 (.tup [.int st.1, .int side]))) (by rw [upd_ne n2]; exact hf) (d := encS (st.1, side)) (is_new hp2 (ints2 st.1 side))
    generalize hH3 : upd (upd H2 p2 (.tup [.int st.1, .int side])) fo (.lst (fs ++ [.ref p2])) = H3 at k2 i2
    have hf3 : H3 fo = some (.lst (fs ++ [.ref p2])) := by rw [← hH3, upd_same]
    refine ⟨_, rfl, .inl ⟨rfl, _, SqL.of hf3⟩, _, rfl, _, rfl, sz 2, fun p3 hp3 => ?_⟩
    have n3 : fo ≠ p3 := ne_of_none hf3 hp3
    refine ⟨fo, _, _, rfl, rfl, by rw [upd_ne n3]; exact hf3, sm (by rw [len_snoc]; omega), ?_⟩
    refine ⟨_, _, _, rfl, sb.trans (k2.trans ((sb_same (same_new hp3 _)).trans (sb_upd _))), upd_same, ?_, by rw [len_snoc, len_snoc]; omega⟩
    rw [epre]
    exact snoc_at hf3 i2 (sb_same (same_new hp3 _)) (by rw [upd_ne n3]; exact hf3) (is_new hp3 (ints2 _ _))
  · obtain ⟨fs, x1, x2, rfl, sb, hf, hfs, _⟩ := hp
    rw [hxl, List.take_length] at hfs
    exact ⟨_, rfl, q fo H1 hfo (same_of hfo s0 sb) ⟨fs, hf, hfs⟩⟩
def spEnds : Sp := fun vs H Q _ => ∃ v R, vs = [v] ∧ Is H v (encReg R) ∧ R.length ≤ 100000 ∧ ∀ p H', H p = none → Same H H' → H' p = some (.lst ((endsOf R).map V.int)) → Q (.ref p) H'
abbrev s_ends_of : Stmt := top 49
abbrev n_ends_of : List Str := ["some", "band"]
abbrev p_ends_of : List Str := ["some"]
theorem sc_ends_of : FnScope n_ends_of p_ends_of (defScope s_ends_of) := ⟨rfl, rfl, rfl, by decide +kernel, rfl, by decide +kernel, by decide +kernel⟩
theorem ok_ends_of (F : Fun K "ends_of" "ends_of" s_ends_of f fd) (T : Txt mg) : FnOk P w K mg base CX0 1 f fd p_ends_of spEnds := by
  refine F.ok sc_ends_of (fun vs H Q E h => ?_) (fun cdv A outer s H vs Q E hr h => ?_)
  · obtain ⟨v, r, rfl, _⟩ := h
    rfl
  obtain ⟨v, R, rfl, hv, hl, q⟩ := h
  have nd := (sc_ends_of).nd
  refine ⟨_, (pss_one (ps_ret (pe_op op_cat (pe_lc (own := [("band", 1)]) rfl nd (pi_tup (pv 0)) (blkOk_by (own := [("band", 1)]) (N := n_ends_of) (sc := defScope s_ends_of) (by decide +kernel)) (fun _ _ _ _ _ => (pg_name (i := 1) nd rfl (Or.inl rfl))) (fun _ _ _ _ _ => pts_nil) (fun _ _ _ _ _ => (pe_ix (ix_tupK (K := K)) (pv 1) pe_int (fun _ _ => rfl)))) (pe_lc (own := [("band", 1)]) rfl nd (pi_tup (pv 0)) (blkOk_by (own := [("band", 1)]) (N := n_ends_of) (sc := defScope s_ends_of) (by decide +kernel)) (fun _ _ _ _ _ => (pg_name (i := 1) nd rfl (Or.inl rfl))) (fun _ _ _ _ _ => pts_nil) (fun _ _ _ _ _ => (pe_ix (ix_tupK (K := K)) (pv 1) pe_int (fun _ _ => rfl))))))), ?_⟩
  obtain ⟨a, xs, rfl, ha, hx⟩ := hv.tup_inv
  have hxl : xs.length = R.length := by rw [hx.length, List.length_map]
  refine ⟨_, rfl, a, rfl, ⟨_, SqT.of ha⟩, fun D1 hD1' => lc_map (walk_tup (K := K) (a := a) (xs := xs)) ((R.map fun b => b.1).map PyData.int) (by rw [List.length_map, List.length_map, hxl]) (smL (by omega)) hD1' (fun H1 s1 => SqT.of (s1 _ _ ha)) (fun i x H1 H2 d Qk Qs hd s1 hy k => ?_) (fun H1 ys s1 hys hyd => ?_)⟩
  · obtain ⟨rfl, hxi⟩ := hy
    obtain ⟨r, hr, hv⟩ := at_map hx hxi
    obtain ⟨t, u, rfl, ht, hu⟩ := band_inv (hv.mono (kt s1))
    rw [List.map_map] at hd
    have ed := map_at (f := PyData.int ∘ fun b : Band => b.1) hr hd
    subst ed
    exact ⟨rfl, _, rfl, t, _, _, _, rfl, rfl, SqT.of ht, rfl, k _ _ (same_refl _) (.int _)⟩
  refine ⟨_, rfl, a, rfl, ⟨_, SqT.of (s1 _ _ ha)⟩, fun D2 hD2 => lc_map (walk_tup (K := K) (a := a) (xs := xs)) ((R.map fun b => b.2.1).map PyData.int) (by rw [List.length_map, List.length_map, hxl]) (smL (by omega)) hD2 (fun H2 s2 => SqT.of (s2 _ _ (s1 _ _ ha))) (fun i x H2 H3 d Qk Qs hd s2 hy k => ?_) (fun H2 zs s2 hzs hzd => ?_)⟩
  · obtain ⟨rfl, hxi⟩ := hy
    obtain ⟨r, hr, hv⟩ := at_map hx hxi
    obtain ⟨t, u, rfl, ht, hu⟩ := band_inv (hv.mono (kt (s1.trans s2)))
    rw [List.map_map] at hd
    have ed := map_at (f := PyData.int ∘ fun b : Band => b.2.1) hr hd
    subst ed
    exact ⟨rfl, _, rfl, t, _, _, _, rfl, rfl, SqT.of ht, rfl, k _ _ (same_refl _) (.int _)⟩
  have e1 := ints_inv hyd
  have e2 := ints_inv hzd
  subst e1 e2
  refine ⟨D1, D2, _, _, rfl, rfl, s2 _ _ hys, hzs, smL (by simp only [List.length_map]; omega), fun p hp => ?_⟩
  refine q p _ ((s1.trans s2).free hp) ((s1.trans s2).trans (same_new hp _)) ?_
  rw [upd_same, endsOf, List.map_append]
def spEither1 : Sp := fun vs H Q _ => ∃ a b, vs = [.bl a, .bl b] ∧ Q (.bl (a || b)) H
abbrev s_in_either : Stmt := top 45
abbrev n_in_either : List Str := ["one", "other"]
abbrev p_in_either : List Str := ["one", "other"]
theorem sc_in_either : FnScope n_in_either p_in_either (defScope s_in_either) := ⟨rfl, rfl, rfl, by decide +kernel, rfl, by decide +kernel, by decide +kernel⟩
theorem ok_in_either (F : Fun K "in_either" "in_either" s_in_either f fd) : FnOk P w K mg base CX0 1 f fd p_in_either spEither1 := by
  refine F.ok sc_in_either (fun vs H Q E h => ?_) (fun cdv A outer s H vs Q E hr h => ?_)
  · obtain ⟨a, b, rfl, _⟩ := h
    rfl
  obtain ⟨a, b, rfl, q⟩ := h
  have nd := (sc_in_either).nd
  refine ⟨_, (pss_one (ps_ret (pe_or (pv 0) (pe_one (pv 1))))), ?_⟩
  cases a with
  | true => exact ⟨_, rfl, true, rfl, q⟩
  | false => exact ⟨_, rfl, false, rfl, _, rfl, q⟩
end
end Mw
end
section
set_option maxRecDepth 100000
set_option maxHeartbeats 8000000
/-! lines_at, mixed_line. -/
namespace Mw
open PySem PySem.Spec PyProof.Rows L2
theorem linesAt_one {cs : List Int} {i : Nat} {low : Int} (h : cs[i]? = some low) (hi : i + 1 < cs.length) (pend : Reg) :
    linesAt (cs.drop i) pend = secOf low (dropLow low pend) :: linesAt (cs.drop (i + 1)) (dropLow low pend) := by
  have hi0 : i < cs.length := by omega
  have e1 : cs.drop i = cs[i] :: cs.drop (i + 1) := List.drop_eq_getElem_cons hi0
  have e2 : cs.drop (i + 1) = cs[i + 1] :: cs.drop (i + 2) := List.drop_eq_getElem_cons hi
  have e3 : cs[i] = low := by
    rw [List.getElem?_eq_getElem hi0] at h
    exact Option.some.inj h
  rw [e1, e2, e3]
  rfl
theorem linesAt_end {cs : List Int} {i : Nat} (hi : cs.length ≤ i + 1) (pend : Reg) : linesAt (cs.drop i) pend = [] := by
  apply List.eq_nil_of_length_eq_zero
  rw [linesAt_len, List.length_drop]
  omega
section
variable {P : Program} {w : World} {K : PySem.W.Frag} {mg : Str → Option Value} {base : Heap} {f : Addr} {fd : FuncData}
def spLinesAt : Sp := fun vs H Q _ => ∃ v a R cuts, vs = [v, .ref a] ∧ Is H v (encReg R) ∧ H a = some (.lst (cuts.map V.int)) ∧ cuts.length ≤ 5000 ∧ ∀ p H', H p = none → Same H H' → IsL H' p ((linesAt cuts R).map encLine) → Q (.ref p) H'
def LinesI (ra co fo : Addr) (R : Reg) (cuts : List Int) (H0 : Hp) (i : Nat) (σ : L2.St) (H' : Hp) : Prop := ∃ (fs : List V) (ls : List Line) (at' : Nat) (x4 : Option V), σ = [some (.ref ra), some (.ref co), some (.ref fo), some (.int at'), x4] ∧
    SB fo H0 H' ∧ H' fo = some (.lst fs) ∧ IsAll H' fs (ls.map encLine) ∧ linesAt cuts R = ls ++ linesAt (cuts.drop i) (R.drop at') ∧ ls.length = i ∧ at' ≤ R.length
abbrev s_lines_at : Stmt := top 48
abbrev n_lines_at : List Str := ["some", "cuts", "found", "at", "low"]
abbrev p_lines_at : List Str := ["some", "cuts"]
theorem sc_lines_at : FnScope n_lines_at p_lines_at (defScope s_lines_at) := ⟨rfl, rfl, rfl, by decide +kernel, rfl, by decide +kernel, by decide +kernel⟩
theorem ok_lines_at (F : Fun K "lines_at" "lines_at" s_lines_at f fd) (T : Txt mg) : FnOk P w K mg base CX0 1 f fd p_lines_at spLinesAt := by
  refine F.ok sc_lines_at (fun vs H Q E h => ?_) (fun cdv A outer s H vs Q E hr h => ?_)
  · obtain ⟨v, r, sd, ct, rfl, _⟩ := h
    rfl
  obtain ⟨v, co, R, cuts, rfl, hv, hco, hcl, q⟩ := h
  have nd := (sc_lines_at).nd
  refine ⟨_, (pss_cons (ps_set (i := 2) nd rfl (Or.inl rfl) (pe_lst pa_nil))
  (pss_cons (ps_set (i := 3) nd rfl (Or.inl rfl) pe_int)
  (pss_cons (ps_for PassesOwn.never rfl (pi_list (pe_slice sl_list (pv 1) po_none (po_some (pe_un un_neg pe_int)))) (pg_name (i := 4) nd rfl (Or.inl rfl))
  (pss_cons (ps_while PassesOwn.never (PW.pt (pw_and (pt_cmpR op_lt (pv 3) (pe_callB call_len_seq (by rfl) T.b_len (by decide +kernel) (pa_cons (pv 0) pa_nil)) nomk) (pw_and1 (pt_cmpR op_le (pe_ix ix_tup (pe_ix ix_tup (pv 0) (pv 3) (fun _ _ => rfl)) pe_int (fun _ _ => rfl)) (pv 4) nomk))))
  (pss_one (ps_aug (i := 3) nd rfl (.inl rfl) pe_int ip_add)))
  (pss_one (ps_expr (pe_bm PySem.F.plainAttrs_list PySem.F.slot_list_append PySem.F.type_list_append mt_append (pv 2) (pa_cons (pe_ifExp (PW.pt (pw_and (pt_cmpR op_lt (pv 3) (pe_callB call_len_seq (by rfl) T.b_len (by decide +kernel) (pa_cons (pv 0) pa_nil)) nomk) (pw_and1 (pt_cmpR op_le (pe_ix ix_tup (pe_ix ix_tup (pv 0) (pv 3) (fun _ _ => rfl)) pe_int (fun _ _ => rfl)) (pv 4) nomk)))) (pe_ix ix_tup (pe_ix ix_tup (pv 0) (pv 3) (fun _ _ => rfl)) pe_int (fun _ _ => rfl)) (pe_tup pa_nil)) pa_nil))))))
  (pss_one (ps_ret (pv 2)))))), ?_⟩
  obtain ⟨ra, xs, rfl, hra, hx⟩ := hv.tup_inv
  have hxl : xs.length = R.length := by rw [hx.length, List.length_map]
  refine ⟨sz 0, fun fo hfo => ?_⟩
  have s0 : Same H (upd H fo (.lst [])) := same_new hfo _
  refine ⟨_, rfl, _, rfl, _, rfl, co, _, rfl, SqL.of (s0 _ _ hco), fun cp hcp => ?_⟩
  rw [cut_init]
  have s1 := same_new hcp (.lst (cuts.map V.int).dropLast)
  have nfc : fo ≠ cp := ne_of_none upd_same hcp
  have hdl : (cuts.map V.int).dropLast = cuts.dropLast.map V.int := by rw [List.map_dropLast]
  refine ⟨cp, rfl, ⟨_, SqL.of upd_same⟩, for_it (walk_list (K := K) (a := cp) (xs := (cuts.map V.int).dropLast)) (LinesI ra co fo R cuts (upd (upd H fo (.lst [])) cp (.lst (cuts.map V.int).dropLast))) ?_ (fun i σ H' _ hp => ?_) (fun i x σ H1 H2 hi hp hy => ?_) (fun σ H1 hp => ?_)⟩
  · exact ⟨[], [], 0, _, rfl, SB.refl, by rw [upd_ne nfc]; exact upd_same, .nil, rfl, rfl, Nat.zero_le _⟩
  · obtain ⟨fs, ls, at', x4, rfl, sb, _⟩ := hp
    exact SqL.of (sb _ _ upd_same nfc.symm)
  · obtain ⟨fs, ls, at', x4, rfl, sb, hf, hfs, hmir, hln, hat⟩ := hp
    obtain ⟨rfl, hxi⟩ := hy
    have hi' : i < cuts.length - 1 := by simpa using hi
    obtain ⟨low, hlow, rfl⟩ : ∃ low, cuts[i]? = some low ∧ x = .int low := by
      rw [hdl, List.getElem?_map, List.getElem?_dropLast, if_pos hi'] at hxi
      cases e : cuts[i]? with
      | none => rw [e] at hxi; cases hxi
      | some low => rw [e] at hxi; exact ⟨low, rfl, (Option.some.inj hxi).symm⟩
    have sH2 : Same H H2 := same_of hfo (s0.trans s1) sb
    have hra2 := sH2 _ _ hra
    have hx2 := hx.mono (kt sH2)
    have hfl : fs.length = ls.length := by rw [hfs.length, List.length_map]
    refine asg (i := 4) ?_
    dsimp only
    refine seq_while (fun σ' H' => ∃ (at2 : Nat), σ' = [some (.ref ra), some (.ref co), some (.ref fo), some (.int at2), some (.int low)] ∧ H' = H2 ∧ R.drop at2 = dropLow low (R.drop at') ∧ at2 ≤ R.length) (fun σ' H' hp => ?_) (fun go => ?_)
    · obtain ⟨at2, rfl, rfl, hdr, hat2⟩ := hp
      have app : ∀ (v : V) (H3 : Hp), SB fo H' H3 → H3 fo = some (.lst fs) → Is H3 v (encLine (secOf low (dropLow low (R.drop at')))) → LinesI ra co fo R cuts (upd (upd H fo (.lst [])) cp (.lst (cuts.map V.int).dropLast)) (i + 1) [some (.ref ra), some (.ref co), some (.ref fo), some (.int at2), some (.int low)] (upd H3 fo (.lst (fs ++ [v]))) := fun v H3 sb3 hf3 hv3 => by
        refine ⟨_, ls ++ [secOf low (dropLow low (R.drop at'))], at2, _, rfl, sb.trans (sb3.trans (sb_upd _)), upd_same, ?_, ?_, by rw [len_snoc, hln], hat2⟩
        · rw [List.map_append]
          exact snoc_at hf hfs sb3 hf3 hv3
        · rw [hmir, linesAt_one hlow (by omega), hdr, List.append_assoc]
          rfl
      have hsz : fs.length < sizeLine := sm (by omega)
      refine ⟨_, rfl, .inl ⟨rfl, _, SqL.of hf⟩, _, rfl, _, rfl, ra, _, rfl, .inr (SqT.of hra2), _, _, rfl, rfl, _, rfl, ?_⟩
      refine ite2 (fun c => ?_) (fun c => ?_)
      · have c1 : (at2 : Int) < (xs.length : Int) := of_decide_eq_true c
        have c' : at2 < R.length := by omega
        have ex : xs[at2]? = some (xs[at2]'(by omega)) := List.getElem?_eq_getElem _
        generalize hv0 : xs[at2]'(by omega) = v0 at ex
        obtain ⟨b, hb, hvb⟩ := at_map hx2 ex
        obtain ⟨t, u, rfl, ht, hu⟩ := band_inv hvb
        have edrop : R.drop at2 = b :: R.drop (at2 + 1) := by
          rw [List.drop_eq_getElem_cons c']
          rw [List.getElem?_eq_getElem c'] at hb
          rw [Option.some.inj hb]
        refine ⟨_, rfl, _, rfl, ra, _, _, _, rfl, rfl, SqT.of hra2, atI_nat ex, t, _, _, _, rfl, rfl, SqT.of ht, rfl, _, rfl, _, _, rfl, rfl, _, rfl, ?_⟩
        refine ite2 (fun c2 => ?_) (fun c2 => ?_)
        · have ce : b.1 ≤ low := of_decide_eq_true c2
          refine ⟨_, rfl, _, rfl, ra, _, _, _, rfl, rfl, SqT.of hra2, atI_nat ex, t, _, _, _, rfl, rfl, SqT.of ht, rfl, fo, fs, _, rfl, rfl, hf, hsz, app u _ SB.refl hf ?_⟩
          rw [← hdr, edrop, secOf, if_pos ce]
          exact hu
        · have ce : ¬ b.1 ≤ low := of_decide_eq_false (Bool.eq_false_iff.mpr c2)
          refine ⟨sz 0, fun p2 hp2 => ?_⟩
          have n2 : fo ≠ p2 := ne_of_none hf hp2
          refine ⟨fo, fs, _, rfl, rfl, by rw [upd_ne n2]; exact hf, hsz, app _ _ (sb_same (same_new hp2 _)) (by rw [upd_ne n2]; exact hf) ?_⟩
          rw [← hdr, edrop, secOf, if_neg ce]
          exact is_new hp2 .nil
      · have c1 : ¬ (at2 : Int) < (xs.length : Int) := of_decide_eq_false (Bool.eq_false_iff.mpr c)
        have e0 : R.drop at2 = [] := List.drop_eq_nil_of_le (by omega)
        refine iteF ⟨sz 0, fun p2 hp2 => ?_⟩
        have n2 : fo ≠ p2 := ne_of_none hf hp2
        refine ⟨fo, fs, _, rfl, rfl, by rw [upd_ne n2]; exact hf, hsz, app _ _ (sb_same (same_new hp2 _)) (by rw [upd_ne n2]; exact hf) ?_⟩
        rw [← hdr, e0]
        exact is_new hp2 .nil
    · refine while_go (fun m σ' H' => ∃ (at2 : Nat), m = R.length - at2 ∧ σ' = [some (.ref ra), some (.ref co), some (.ref fo), some (.int at2), some (.int low)] ∧ H' = H2 ∧ dropLow low (R.drop at2) = dropLow low (R.drop at') ∧ at2 ≤ R.length) _ ⟨at', rfl, rfl, rfl, rfl, hat⟩ (fun m σ' H6 hp => ?_)
      obtain ⟨at2, rfl, rfl, rfl, hdr, hat2⟩ := hp
      refine ⟨_, rfl, _, rfl, ra, _, rfl, .inr (SqT.of hra2), _, _, rfl, rfl, _, rfl, ?_⟩
      refine ite2 (fun c => ?_) (fun c => ?_)
      · have c1 : (at2 : Int) < (xs.length : Int) := of_decide_eq_true c
        have c' : at2 < R.length := by omega
        have ex : xs[at2]? = some (xs[at2]'(by omega)) := List.getElem?_eq_getElem _
        generalize hv0 : xs[at2]'(by omega) = v0 at ex
        obtain ⟨b, hb, hvb⟩ := at_map hx2 ex
        obtain ⟨t, u, rfl, ht, hu⟩ := band_inv hvb
        have edrop : R.drop at2 = b :: R.drop (at2 + 1) := by
          rw [List.drop_eq_getElem_cons c']
          rw [List.getElem?_eq_getElem c'] at hb
          rw [Option.some.inj hb]
        refine ⟨_, rfl, _, rfl, ra, _, _, _, rfl, rfl, SqT.of hra2, atI_nat ex, t, _, _, _, rfl, rfl, SqT.of ht, rfl, _, rfl, _, _, rfl, rfl, _, rfl, ?_⟩
        refine ite2 (fun c2 => ?_) (fun c2 => ?_)
        · have ce : b.2.1 ≤ low := of_decide_eq_true c2
          refine ⟨fun σ'' H'' => ∃ m', m' < R.length - at2 ∧ _, fun _ _ z => z, ?_⟩
          refine ⟨_, rfl, _, _, rfl, rfl, ?_⟩
          refine ⟨R.length - (at2 + 1), by omega, at2 + 1, rfl, rfl, rfl, ?_, c'⟩
          rw [← hdr, edrop, dropLow, dropLow, List.dropWhile_cons, decide_eq_true ce]
          rfl
        · have ce : ¬ b.2.1 ≤ low := of_decide_eq_false (Bool.eq_false_iff.mpr c2)
          refine go _ _ ⟨at2, rfl, rfl, ?_, hat2⟩
          rw [← hdr, edrop, dropLow, List.dropWhile_cons, decide_eq_false ce]
          rfl
      · have c1 : ¬ (at2 : Int) < (xs.length : Int) := of_decide_eq_false (Bool.eq_false_iff.mpr c)
        have e0 : R.drop at2 = [] := List.drop_eq_nil_of_le (by omega)
        refine iteF ?_
        refine go _ _ ⟨at2, rfl, rfl, ?_, hat2⟩
        rw [← hdr, e0]
        rfl
  · obtain ⟨fs, ls, at', x4, rfl, sb, hf, hfs, hmir, hln, hat⟩ := hp
    have e : (cuts.map V.int).dropLast.length = cuts.length - 1 := by rw [List.length_dropLast, List.length_map]
    rw [e, linesAt_end (by omega), List.append_nil] at hmir
    rw [← hmir] at hfs
    exact ⟨_, rfl, q fo H1 hfo (same_of hfo (s0.trans s1) sb) ⟨fs, hf, hfs⟩⟩
end
end Mw
end
section
set_option maxRecDepth 100000
set_option maxHeartbeats 8000000
/-! mixed_line. -/
namespace Mw
open PySem PySem.Spec PyProof.Rows L2
theorem ifS_by {c : TT} {t u : TS} {D : Ends} {σ : L2.St} {H : Hp} (b : Bool) (h : ∀ Q : Bool → Hp → Prop, Q b H → c σ H Q) (ht : b = true → t D σ H) (hu : b = false → u D σ H) : tIfS c t u D σ H := h _ (by
  cases b
  · exact iteF (hu rfl)
  · exact iteT (ht rfl))
def bV : Option Int → V
  | none => .non
  | some b => .int b
theorem bV_none (b : Option Int) : decide (bV b = .non) = b.isNone := by cases b <;> simp [bV]
/-- the line that either holds -/
def mixM (l m : Line) : Line := mixL (srt (edges l 0 ++ edges m 1)) false false none
section
variable {P : Program} {w : World} {K : PySem.W.Frag} {mg : Str → Option Value} {base : Heap} {f g : Addr} {fd gd : FuncData}
def spMixLine (g : Addr) : Sp := fun vs H Q _ => ∃ v1 v2 l m, vs = [v1, v2, .ref g] ∧ Is H v1 (encLine l) ∧ Is H v2 (encLine m) ∧ l.length ≤ 100000 ∧ m.length ≤ 100000 ∧ ∀ v' H', Same H H' → Is H' v' (encLine (mixM l m)) → Q v' H'
structure MixI (H H0 : Hp) (to io fo : Addr) (tv : List V) (ts : List (Int × Int)) (i : Nat) (i0 i1 : Bool) (begun : Option Int) (H' : Hp) : Prop where
  same : Same H H'
  keep : KT H0 H'
  hto : H' to = some (.lst tv)
  hio : H' io = some (.lst [.bl i0, .bl i1])
  ex : ∃ fs found, H' fo = some (.lst fs) ∧ IsAll H' fs (found.map encS) ∧ mixL ts false false none = found ++ mixL (ts.drop i) i0 i1 begun ∧ fs.length ≤ i
theorem side_in (i0 i1 : Bool) {sd : Int} (h : sd = 0 ∨ sd = 1) : ∃ k, atI [V.bl i0, V.bl i1] sd = some (.bl (if sd = 0 then i0 else i1)) ∧ ixN [V.bl i0, V.bl i1].length sd = some k ∧
    [V.bl i0, V.bl i1].set k (.bl (!(if sd = 0 then i0 else i1))) = [.bl (if sd = 0 then !i0 else i0), .bl (if sd = 0 then i1 else !i1)] := by
  rcases h with e | e <;> subst e
  · exact ⟨0, rfl, rfl, rfl⟩
  · exact ⟨1, rfl, rfl, rfl⟩
abbrev s_mixed_line : Stmt := top 47
abbrev n_mixed_line : List Str := ["one", "other", "keep", "turns", "inside", "found", "begun", "at", "x", "side", "kept"]
abbrev p_mixed_line : List Str := ["one", "other", "keep"]
theorem sc_mixed_line : FnScope n_mixed_line p_mixed_line (defScope s_mixed_line) := ⟨rfl, rfl, rfl, by decide +kernel, rfl, by decide +kernel, by decide +kernel⟩
theorem ok_mixed_line (F : Fun K "mixed_line" "mixed_line" s_mixed_line f fd) (T : Txt mg) (J_edges : Has P w K mg base "edges" 1 p_edges spEdges) (FK : FnOk P w K mg base CX0 1 g gd p_in_either spEither1) (bK : Binds K gd p_in_either []) (kK : PySem.W.keepIn K (.ref g) = true) :
    FnOk P w K mg base CX0 2 f fd p_mixed_line (spMixLine g) := by
  refine F.ok sc_mixed_line (fun vs H Q E h => ?_) (fun cdv A outer s H vs Q E hr h => ?_)
  · obtain ⟨x, y, l, m, rfl, _⟩ := h
    rfl
  obtain ⟨v1, v2, l, m, rfl, h1, h2, hl1, hl2, q⟩ := h
  have nd := (sc_mixed_line).nd
  refine ⟨_, (pss_cons (ps_set (i := 3) nd rfl (Or.inl rfl) (pe_callB (cr_sortedD (Int × Int) encS hr.units) (by rfl) T.b_sorted (by decide +kernel) (pa_cons (pe_op op_cat (pe_f J_edges hr (pa_cons (pv 0) (pa_cons pe_int pa_nil))) (pe_f J_edges hr (pa_cons (pv 1) (pa_cons pe_int pa_nil)))) pa_nil)))
  (pss_cons (ps_set (i := 4) nd rfl (Or.inl rfl) (pe_lst (pa_cons pe_bl (pa_cons pe_bl pa_nil))))
  (pss_cons (ps_set (i := 5) nd rfl (Or.inl rfl) (pe_lst pa_nil))
  (pss_cons (ps_set (i := 6) nd rfl (Or.inl rfl) pe_non)
  (pss_cons (ps_for PassesOwn.never rfl (pi_enum (by rfl) T.b_enumerate (pa_cons (pv 3) pa_nil)) (pg_tup rfl (pgs_cons (pg_name (i := 7) nd rfl (Or.inl rfl)) (pgs_cons (pg_tup rfl (pgs_cons (pg_name (i := 8) nd rfl (Or.inl rfl)) (pgs_cons (pg_name (i := 9) nd rfl (Or.inl rfl)) pgs_nil))) pgs_nil)))
  (pss_cons (ps_asg (pe_not (pe_ix ix_list (pv 4) (pv 9) (fun _ _ => rfl))) (pg_sub (pv 4) (pv 9) set_list))
  (pss_one (ps_if (PW.pt (pw_or (pt_cmpR op_eq (pe_op op_add (pv 7) pe_int) (pe_callB call_len_seq (by rfl) T.b_len (by decide +kernel) (pa_cons (pv 3) pa_nil)) nomk) (pw_or1 (pt_cmpR op_gt (pe_ix ix_tup (pe_ix ix_list (pv 3) (pe_op op_add (pv 7) pe_int) (fun _ _ => rfl)) pe_int (fun _ _ => rfl)) (pv 8) nomk)))) (pss_cons (ps_set (i := 10) nd rfl (Or.inl rfl) (pe_callL (i := 2) FK hr rfl (Or.inl rfl) kK bK .nil pass0 (pa_cons (pe_ix ix_list (pv 4) pe_int (fun _ _ => rfl)) (pa_cons (pe_ix ix_list (pv 4) pe_int (fun _ _ => rfl)) pa_nil))))
  (pss_cons (ps_if (PW.pt (pw_and (pt_val (pv 10)) (pw_and1 (pt_cmpR op_isN (pv 6) pe_non nomk)))) (pss_one (ps_set (i := 6) nd rfl (Or.inl rfl) (pv 8))) pss_nil)
  (pss_one (ps_if (PW.pt (pw_and (pt_not (pt_val (pv 10))) (pw_and1 (pt_cmpR op_notN (pv 6) pe_non nomk)))) (pss_cons (ps_expr (pe_bm PySem.F.plainAttrs_list PySem.F.slot_list_append PySem.F.type_list_append mt_append (pv 5) (pa_cons (pe_tup (pa_cons (pv 6) (pa_cons (pv 8) pa_nil))) pa_nil)))
  (pss_one (ps_set (i := 6) nd rfl (Or.inl rfl) pe_non))) pss_nil)))) pss_nil))))
  (pss_one (ps_ret (pe_callTy call_tuple_of (by rfl) T.b_tuple (by decide +kernel) (pa_cons (pv 5) pa_nil))))))))), ?_⟩
  -- turns
  refine ⟨_, rfl, v1, l, 0, rfl, h1, by omega, fun p1 Ha hp1 s1 ha => ?_⟩
  refine ⟨_, rfl, v2, m, 1, rfl, h2.mono (kt s1), by omega, fun p2 Hb hp2 s2 hb => ?_⟩
  obtain ⟨xs1, hx1, hd1⟩ := ha.mono s2
  obtain ⟨xs2, hx2, hd2⟩ := hb
  have len : ∀ (l : Line) (sd : Int), (edges l sd).length = 2 * l.length := fun l sd => by
    induction l with
    | nil => rfl
    | cons a l ih => rw [edges, List.flatMap_cons, List.length_append, ← edges, ih]; simp only [List.length_cons, List.length_nil]; omega
  have z1 : xs1.length = 2 * l.length := by rw [hd1.length, List.length_map, len]
  have z2 : xs2.length = 2 * m.length := by rw [hd2.length, List.length_map, len]
  refine ⟨p1, p2, xs1, xs2, rfl, rfl, hx1, hx2, smL (by omega), fun p3 hp3 => ?_⟩
  have s12 := s1.trans s2
  have s3 := same_new hp3 (.lst (xs1 ++ xs2))
  refine ⟨p3, edges l 0 ++ edges m 1, rfl, ⟨xs1 ++ xs2, upd_same, ?_⟩, alS _, soS _, fun b _ => by simp [encS, PyData.depth, PyData.depthAll], fun to tv hto htvl htv => ?_⟩
  · rw [List.map_append]
    exact (hd1.append hd2).mono (kt s3)
  have s4 := same_new hto (.lst tv)
  have htv' := htv.mono (kt s4)
  have hperm : (srt (edges l 0 ++ edges m 1)).Perm (edges l 0 ++ edges m 1) := List.mergeSort_perm ..
  have hside : ∀ t ∈ srt (edges l 0 ++ edges m 1), t.2 = 0 ∨ t.2 = 1 := fun t ht => by
    rcases List.mem_append.mp (hperm.mem_iff.mp ht) with z | z
    · obtain ⟨s, _, hs⟩ := List.mem_flatMap.mp z
      simp only [List.mem_cons, List.not_mem_nil, or_false] at hs
      rcases hs with e | e <;> rw [e] <;> exact .inl rfl
    · obtain ⟨s, _, hs⟩ := List.mem_flatMap.mp z
      simp only [List.mem_cons, List.not_mem_nil, or_false] at hs
      rcases hs with e | e <;> rw [e] <;> exact .inr rfl
  have htl : tv.length = (srt (edges l 0 ++ edges m 1)).length := by rw [htv.length, List.length_map]; rfl
  have htl2 : tv.length ≤ 400000 := by rw [htvl, List.length_append, len, len]; omega
  change IsAll _ tv ((srt (edges l 0 ++ edges m 1)).map encS) at htv'
  generalize hts : srt (edges l 0 ++ edges m 1) = ts at htv' htl hside
  refine ⟨sz 2, fun io hio => ?_⟩
  refine ⟨sz 0, fun fo hfo => ?_⟩
  have s5 := same_new hio (.lst [.bl false, .bl false])
  have s6 := same_new hfo (.lst [])
  have n1 : to ≠ io := ne_of_none upd_same hio
  have n2 : to ≠ fo := ne_of_none (s5 _ _ upd_same) hfo
  have n3 : io ≠ fo := ne_of_none upd_same hfo
  have sT := (s12.trans s3).trans s4
  have hio0 : H io = none := sT.free hio
  have hfo0 : H fo = none := (sT.trans s5).free hfo
  refine ⟨_, rfl, to, tv, rfl, SqL.of ((s5.trans s6) _ _ upd_same), for_it (walk_enum (K := K) (a := to) (xs := tv)) (fun i σ H' => ∃ i0 i1 begun x7 x8 x9 x10, σ = [some v1, some v2, some (.ref g), some (.ref to), some (.ref io), some (.ref fo), some (bV begun), x7, x8, x9, x10] ∧ MixI H (upd (upd Hb p3 (.lst (xs1 ++ xs2))) to (.lst tv)) to io fo tv ts i i0 i1 begun H') ?_ (fun i σ H' _ hp => ?_) (fun i x σ H1 H2 hi hp hy => ?_) (fun σ H1 hp => ?_)⟩
  · exact ⟨false, false, none, _, _, _, _, rfl, sT.trans (s5.trans s6), kt (s5.trans s6), (s5.trans s6) _ _ upd_same, s6 _ _ upd_same, [], [], upd_same, .nil, rfl, Nat.zero_le _⟩
  · obtain ⟨i0, i1, begun, x7, x8, x9, x10, rfl, M⟩ := hp
    exact SqL.of M.hto
  · obtain ⟨i0, i1, begun, x7, x8, x9, x10, rfl, M⟩ := hp
    obtain ⟨T1, u1, u2, rfl, hT, rfl, g1, g2⟩ := hy
    cases g1
    obtain ⟨st, hst, hv⟩ := at_map htv' g2
    obtain ⟨xx, sd⟩ := st
    have sN := same_new hT (.tup [.int (i : Nat), u2])
    obtain ⟨t, rfl, ht⟩ := pair_inv (hv.mono (M.keep.trans (kt sN)))
    have hi' : i < ts.length := by omega
    have edrop : ts.drop i = (xx, sd) :: ts.drop (i + 1) := by
      rw [List.drop_eq_getElem_cons hi']
      rw [List.getElem?_eq_getElem hi'] at hst
      rw [Option.some.inj hst]
    have hsd : sd = 0 ∨ sd = 1 := hside (xx, sd) (by
      have := List.mem_of_getElem? hst
      exact this)
    obtain ⟨fs, found, hfs, hfd, hmir, hfl⟩ := M.ex
    rw [edrop, mixL_cons] at hmir
    have hio2 := sN _ _ M.hio
    have hto2 := sN _ _ M.hto
    have hfs2 := sN _ _ hfs
    have hfd2 := hfd.mono (kt sN)
    have sH2 := M.same.trans sN
    have kH2 := M.keep.trans (kt sN)
    refine ⟨T1, _, rfl, SqT.of upd_same, rfl, _, _, rfl, _, _, rfl, t, _, rfl, SqT.of ht, rfl, _, _, rfl, _, _, rfl, rfl, rfl, ?_⟩
    generalize hH2 : upd H1 T1 (.tup [.int (i : Nat), .ref t]) = H2 at sN hio2 hto2 hfs2 hfd2 sH2 kH2
    obtain ⟨k, hk1, hk2, hk3⟩ := side_in i0 i1 hsd
    generalize hj0 : (if sd = 0 then !i0 else i0) = j0 at hk3 hmir
    generalize hj1 : (if sd = 0 then i1 else !i1) = j1 at hk3 hmir
    refine ⟨_, rfl, _, rfl, io, _, _, _, rfl, rfl, SqL.of hio2, hk1, _, rfl, ?_⟩
    refine ⟨_, rfl, _, rfl, io, _, _, k, rfl, rfl, hio2, hk2, ?_⟩
    rw [hk3]
    dsimp only
    -- behind inside[side] = ..
    have sb3 : SB io H2 (upd H2 io (.lst [.bl j0, .bl j1])) := sb_upd _
    have hio3 : upd H2 io (.lst [.bl j0, .bl j1]) io = some (.lst [.bl j0, .bl j1]) := upd_same
    have kt3 := kt_sb hio2 sb3
    have hto3 := sb3 _ _ hto2 n1
    have hfs3 := sb3 _ _ hfs2 n3.symm
    have hfd3 := hfd2.mono kt3
    have sH3 := same_of hio0 sH2 sb3
    have kH3 := kH2.trans kt3
    generalize hH3 : upd H2 io (.lst [.bl j0, .bl j1]) = H3 at sb3 hio3 kt3 hto3 hfs3 hfd3 sH3 kH3
    have fin0 : ∀ (b : Option Int) (x10 : Option V), mixL ts false false none = found ++ mixL (ts.drop (i + 1)) j0 j1 b → ∃ i0 i1 begun x7 x8 x9 x10', [some v1, some v2, some (.ref g), some (.ref to), some (.ref io), some (.ref fo), some (bV b), some (.int (i : Nat)), some (.int xx), some (.int sd), x10] = [some v1, some v2, some (.ref g), some (.ref to), some (.ref io), some (.ref fo), some (bV begun), x7, x8, x9, x10'] ∧ MixI H (upd (upd Hb p3 (.lst (xs1 ++ xs2))) to (.lst tv)) to io fo tv ts (i + 1) i0 i1 begun H3 := fun b x10 e =>
      ⟨j0, j1, b, _, _, _, _, rfl, sH3, kH3, hto3, hio3, fs, found, hfs3, hfd3, e, by omega⟩
    refine ifS_by (lastOf xx (ts.drop (i + 1))) (fun Qt hq => ?_) (fun hl => ?_) (fun hl => ?_)
    · refine ⟨_, rfl, _, _, rfl, rfl, _, rfl, to, _, rfl, .inl (SqL.of hto3), rfl, _, rfl, ?_⟩
      refine ite2 (fun c => ?_) (fun c => ?_)
      · have c' : V.int ((i : Int) + 1) = V.int (tv.length : Nat) := of_decide_eq_true c
        injection c' with c'
        have e0 : ts.drop (i + 1) = [] := List.drop_eq_nil_of_le (by omega)
        rw [e0] at hq
        exact hq
      · have c' : ¬ V.int ((i : Int) + 1) = V.int (tv.length : Nat) := of_decide_eq_false (Bool.eq_false_iff.mpr c)
        have c2 : i + 1 < tv.length := by
          rcases Nat.lt_or_ge (i + 1) tv.length with z | z
          · exact z
          · exact absurd (congrArg V.int (by omega)) c'
        have ex : tv[i + 1]? = some (tv[i + 1]'c2) := List.getElem?_eq_getElem _
        generalize hv0 : tv[i + 1]'c2 = v0 at ex
        obtain ⟨b, hb, hvb⟩ := at_map htv' ex
        obtain ⟨t2, rfl, ht2⟩ := pair_inv (hvb.mono kH3)
        have edrop2 : ts.drop (i + 1) = b :: ts.drop (i + 1 + 1) := by
          have h9 : i + 1 < ts.length := by omega
          rw [List.drop_eq_getElem_cons h9]
          rw [List.getElem?_eq_getElem h9] at hb
          rw [Option.some.inj hb]
        rw [edrop2] at hq
        refine ⟨_, rfl, _, rfl, _, _, rfl, rfl, to, _, _, _, rfl, rfl, SqL.of hto3, atI_nat (j := i + 1) ex, t2, _, _, _, rfl, rfl, SqT.of ht2, rfl, _, rfl, _, _, rfl, rfl, _, rfl, hq⟩
    · rw [if_pos hl] at hmir
      refine ⟨rfl, _, rfl, io, _, _, _, rfl, rfl, SqL.of hio3, rfl, _, rfl, io, _, _, _, rfl, rfl, SqL.of hio3, rfl, j0, j1, rfl, ?_⟩
      refine asg (i := 10) ?_
      dsimp only
      refine seq_if (fun σ' H' => σ' = [some v1, some v2, some (.ref g), some (.ref to), some (.ref io), some (.ref fo), some (bV (if (j0 || j1) = true then begunOf xx begun else begun)), some (.int (i : Nat)), some (.int xx), some (.int sd), some (.bl (j0 || j1))] ∧ H' = H3) (fun σ' H' hp => ?_) (fun go => ?_)
      · obtain ⟨rfl, rfl⟩ := hp
        generalize hbg : (if (j0 || j1) = true then begunOf xx begun else begun) = bg
        refine ifS_by (!(j0 || j1) && !bg.isNone) (fun Qt hq => ?_) (fun hc => ?_) (fun hc => ?_)
        · refine ⟨_, rfl, _, rfl, ?_⟩
          cases hk : (j0 || j1) with
          | true => rw [hk] at hq; exact iteF hq
          | false =>
            rw [hk] at hq
            refine iteT ⟨_, rfl, rfl, _, rfl, ?_⟩
            rw [bV_none]
            simpa using hq
        · rw [Bool.and_eq_true] at hc
          obtain ⟨hc1, hc2⟩ := hc
          have hk : ¬ (j0 || j1) = true := by
            intro z
            rw [z] at hc1
            cases hc1
          rw [if_neg hk] at hmir hbg
          subst hbg
          cases begun with
          | none => cases hc2
          | some b =>
            refine ⟨_, rfl, .inl ⟨rfl, _, SqL.of hfs3⟩, _, rfl, _, rfl, sz 2, fun p9 hp9 => ?_⟩
            have n9 : fo ≠ p9 := ne_of_none hfs3 hp9
            have s9 := same_new hp9 (.tup [.int b, .int xx])
            have hfs9 := s9 _ _ hfs3
            refine ⟨fo, fs, _, rfl, rfl, hfs9, sm (by omega), ?_⟩
            refine ⟨j0, j1, none, _, _, _, _, rfl, ?_, ?_, ?_, ?_, fs ++ [.ref p9], found ++ [(b, xx)], upd_same, ?_, ?_, by rw [len_snoc]; omega⟩
            · exact same_of hfo0 (sH3.trans s9) (sb_upd _)
            · exact (kH3.trans (kt s9)).trans (kt_lst hfs9 _)
            · rw [upd_ne n2]
              exact s9 _ _ hto3
            · rw [upd_ne n3]
              exact s9 _ _ hio3
            · rw [List.map_append]
              exact snoc_at hfs3 hfd3 (sb_same s9) hfs9 (is_new hp9 (ints2 _ _))
            · rw [hmir, List.append_assoc]
              rfl
        · refine fin0 bg _ ?_
          rw [hmir]
          by_cases hk : (j0 || j1) = true
          · rw [if_pos hk] at hbg ⊢
            rw [hbg]
          · rw [if_neg hk] at hbg ⊢
            have hk' : (j0 || j1) = false := Bool.eq_false_iff.mpr hk
            rw [hk'] at hc
            subst hbg
            cases begun with
            | none => rfl
            | some b => cases hc
      · refine ifS_by ((j0 || j1) && begun.isNone) (fun Qt hq => ?_) (fun hc => ?_) (fun hc => ?_)
        · refine ⟨_, rfl, _, rfl, ?_⟩
          cases hk : (j0 || j1) with
          | false => rw [hk] at hq; exact iteF hq
          | true =>
            rw [hk] at hq
            refine iteT ⟨_, rfl, rfl, _, rfl, ?_⟩
            rw [bV_none]
            exact hq
        · rw [Bool.and_eq_true] at hc
          cases begun with
          | some b => cases hc.2
          | none =>
            refine ⟨_, rfl, go _ _ ⟨?_, rfl⟩⟩
            rw [if_pos hc.1]
            rfl
        · refine go _ _ ⟨?_, rfl⟩
          by_cases hk : (j0 || j1) = true
          · rw [if_pos hk]
            cases begun with
            | none => rw [hk] at hc; cases hc
            | some b => rfl
          · rw [if_neg hk]
            rfl
    · have e : ¬ lastOf xx (ts.drop (i + 1)) = true := by rw [hl]; exact Bool.false_ne_true
      rw [if_neg e] at hmir
      exact fin0 begun _ hmir
  · obtain ⟨i0, i1, begun, x7, x8, x9, x10, rfl, M⟩ := hp
    obtain ⟨fs, found, hfs, hfd, hmir, hfl⟩ := M.ex
    rw [htl, List.drop_length, mixL_nil, List.append_nil] at hmir
    refine ⟨_, rfl, fo, _, rfl, .inl ⟨SqL.of hfs, fun p9 hp9 => ?_⟩⟩
    refine q _ _ (M.same.trans (same_new hp9 _)) ?_
    unfold mixM
    rw [hts, hmir]
    exact is_new hp9 hfd
end
end Mw
end
section
set_option maxRecDepth 100000
set_option maxHeartbeats 8000000
/-! mixed, either. -/
namespace Mw
open PySem PySem.Spec PyProof.Rows L2
theorem mixM_ok (l m : Line) (h1 : NLine l) (h2 : NLine m) : NLine (mixM l m) ∧ ∀ x, inLine (mixM l m) x ↔ inLine l x ∨ inLine m x := by
  have q := mixed_ok (ts := srt (edges l 0 ++ edges m 1)) h1 h2 (List.mergeSort_perm ..) (srt_ord _)
  exact ⟨q.1, q.2.1⟩
theorem linesAt_lines {n : Nat} : ∀ (cs : List Int) (R : Reg), (∀ b ∈ R, b.2.2.length ≤ n) → ∀ l ∈ linesAt cs R, l.length ≤ n
  | [], _, _, l, h => by cases h
  | [_], _, _, l, h => by cases h
  | a :: b :: cs, R, hR, l, h => by
    have hd : ∀ x ∈ dropLow a R, x.2.2.length ≤ n := fun x hx => hR x (List.dropWhile_sublist _ |>.mem hx)
    rcases List.mem_cons.mp h with z | z
    · rw [z]
      unfold secOf
      cases hz : dropLow a R with
      | nil => exact Nat.zero_le _
      | cons c r =>
        dsimp only
        split
        · exact hd c (by rw [hz]; exact List.mem_cons_self)
        · exact Nat.zero_le _
    · exact linesAt_lines (b :: cs) _ hd l z
section
variable {P : Program} {w : World} {K : PySem.W.Frag} {mg : Str → Option Value} {base : Heap} {f g : Addr} {fd gd : FuncData}
def spMixed (g : Addr) : Sp := fun vs H Q _ => ∃ v1 v2 rs qs, vs = [v1, v2, .ref g] ∧ Is H v1 (encReg (regOf rs)) ∧ Is H v2 (encReg (regOf qs)) ∧ Valid rs ∧ Valid qs ∧ rs.length ≤ 600 ∧ qs.length ≤ 600 ∧ ∀ v' H', Same H H' → Is H' v' (encReg (regOf (rs ++ qs))) → Q v' H'
abbrev s_mixed : Stmt := top 50
abbrev n_mixed : List Str := ["one", "other", "keep", "cuts", "lines", "left", "right"]
abbrev p_mixed : List Str := ["one", "other", "keep"]
theorem sc_mixed : FnScope n_mixed p_mixed (defScope s_mixed) := ⟨rfl, rfl, rfl, by decide +kernel, rfl, by decide +kernel, by decide +kernel⟩
theorem ok_mixed (F : Fun K "mixed" "mixed" s_mixed f fd) (T : Txt mg) (J_ends_of : Has P w K mg base "ends_of" 1 p_ends_of spEnds) (J_lines_at : Has P w K mg base "lines_at" 1 p_lines_at spLinesAt) (J_mixed_line : Has P w K mg base "mixed_line" 2 p_mixed_line (spMixLine g)) (J_banded : Has P w K mg base "banded" 1 p_banded spBanded) :
    FnOk P w K mg base CX0 3 f fd p_mixed (spMixed g) := by
  refine F.ok sc_mixed (fun vs H Q E h => ?_) (fun cdv A outer s H vs Q E hr h => ?_)
  · obtain ⟨x, y, l, m, rfl, _⟩ := h
    rfl
  obtain ⟨v1, v2, rs, qs, rfl, h1, h2, hr1, hr2, hl1, hl2, q⟩ := h
  have nd := (sc_mixed).nd
  refine ⟨_, (pss_cons (ps_set (i := 3) nd rfl (Or.inl rfl) (pe_callB (Mw.cr_sortedI rfl hr.units) (by rfl) T.b_sorted (by decide +kernel) (pa_cons (pe_callTy (cr_setI rfl) (by rfl) T.b_set (by decide +kernel) (pa_cons (pe_op op_cat (pe_f J_ends_of hr (pa_cons (pv 0) pa_nil)) (pe_f J_ends_of hr (pa_cons (pv 1) pa_nil))) pa_nil)) pa_nil)))
  (pss_cons (ps_set (i := 4) nd rfl (Or.inl rfl) (pe_lst pa_nil))
  (pss_cons (ps_for PassesOwn.never rfl (RZ.pi_zipA (by rfl) T.b_zip (pa_cons (pe_f J_lines_at hr (pa_cons (pv 0) (pa_cons (pv 3) pa_nil))) (pa_cons (pe_f J_lines_at hr (pa_cons (pv 1) (pa_cons (pv 3) pa_nil))) pa_nil))) (pg_tup rfl (pgs_cons (pg_name (i := 5) nd rfl (Or.inl rfl)) (pgs_cons (pg_name (i := 6) nd rfl (Or.inl rfl)) pgs_nil)))
  (pss_one (ps_expr (pe_bm PySem.F.plainAttrs_list PySem.F.slot_list_append PySem.F.type_list_append mt_append (pv 4) (pa_cons (pe_f J_mixed_line hr (pa_cons (pv 5) (pa_cons (pv 6) (pa_cons (pv 2) pa_nil)))) pa_nil)))))
  (pss_one (ps_ret (pe_f J_banded hr (pa_cons (pv 3) (pa_cons (pv 4) pa_nil)))))))), ?_⟩
  have i1 := regOf_is hr1
  have i2 := regOf_is hr2
  have il1 := i1.len
  have il2 := i2.len
  -- cuts
  refine ⟨_, rfl, v1, regOf rs, rfl, h1, by omega, fun p1 Ha hp1 s1 ha => ?_⟩
  refine ⟨_, rfl, v2, regOf qs, rfl, h2.mono (kt s1), by omega, fun p2 Hb hp2 s2 hb => ?_⟩
  have e1 : (endsOf (regOf rs)).length ≤ 2400 := by unfold endsOf; rw [List.length_append, List.length_map, List.length_map]; omega
  have e2 : (endsOf (regOf qs)).length ≤ 2400 := by unfold endsOf; rw [List.length_append, List.length_map, List.length_map]; omega
  refine ⟨p1, p2, _, _, rfl, rfl, s2 _ _ ha, hb, smL (by rw [List.length_map, List.length_map]; omega), fun p3 hp3 => ?_⟩
  have s12 := s1.trans s2
  refine ⟨p3, endsOf (regOf rs) ++ endsOf (regOf qs), ysOf rs ++ ysOf qs, rfl, SqL.of (by rw [upd_same, List.map_append]), ?_, ?_, fun p4 hp4 => ?_⟩
  · intro x hx
    have key : ∀ {rs : List Rect}, Valid rs → ∀ x ∈ endsOf (regOf rs), x ∈ ysOf rs := fun {rs} hv x hx => by
      have ie := (regOf_is hv).ends
      rcases List.mem_append.mp hx with z | z
      · obtain ⟨b, hb, e⟩ := List.mem_map.mp z
        obtain ⟨r, hr, k⟩ := (ie b hb).1
        subst e
        exact ysOf_mem.mpr ⟨r, hr, k⟩
      · obtain ⟨b, hb, e⟩ := List.mem_map.mp z
        obtain ⟨r, hr, k⟩ := (ie b hb).2.1
        subst e
        exact ysOf_mem.mpr ⟨r, hr, k⟩
    rcases List.mem_append.mp hx with z | z
    · exact List.mem_append_left _ (key hr1 x z)
    · exact List.mem_append_right _ (key hr2 x z)
  · unfold ysOf
    simp only [List.length_append, List.length_map]
    omega
  refine ⟨p4, _, rfl, upd_same, fun cuts co hup hmem hco => ?_⟩
  have s4 : Same H (upd (upd (upd Hb p3 (.lst ((endsOf (regOf rs)).map V.int ++ (endsOf (regOf qs)).map V.int))) p4 (SetI (cxOf CX0 P w K mg base n_mixed "mixed" (defScope s_mixed) f cdv A outer s H E).nox.w p4 (endsOf (regOf rs) ++ endsOf (regOf qs)))) co (.lst (cuts.map V.int))) := s12.trans ((same_new hp3 _).trans ((same_new hp4 _).trans (same_new hco _)))
  have hcoE := @upd_same (upd (upd Hb p3 (.lst ((endsOf (regOf rs)).map V.int ++ (endsOf (regOf qs)).map V.int))) p4 (SetI (cxOf CX0 P w K mg base n_mixed "mixed" (defScope s_mixed) f cdv A outer s H E).nox.w p4 (endsOf (regOf rs) ++ endsOf (regOf qs)))) co (.lst (cuts.map V.int))
  generalize upd (upd (upd Hb p3 (.lst ((endsOf (regOf rs)).map V.int ++ (endsOf (regOf qs)).map V.int))) p4 (SetI (cxOf CX0 P w K mg base n_mixed "mixed" (defScope s_mixed) f cdv A outer s H E).nox.w p4 (endsOf (regOf rs) ++ endsOf (regOf qs)))) co (.lst (cuts.map V.int)) = Hc at s4 hcoE
  have hcl : cuts.length ≤ 4800 := by
    have := up_len hup fun x hx => (hmem x).mp hx
    rw [List.length_append] at this
    omega
  refine ⟨sz 0, fun lo hlo => ?_⟩
  have s5 := same_new hlo (.lst [])
  have s6 := s4.trans s5
  have hlo0 : H lo = none := s4.free hlo
  refine ⟨_, rfl, _, rfl, v1, co, regOf rs, cuts, rfl, h1.mono (kt s6), s5 _ _ hcoE, by omega, fun a1 Hd ha1 s7 hd1 => ?_⟩
  refine ⟨_, rfl, _, rfl, v2, co, regOf qs, cuts, rfl, h2.mono (kt (s6.trans s7)), s7 _ _ (s5 _ _ hcoE), by omega, fun a2 He ha2 s8 he2 => ?_⟩
  obtain ⟨xs, hxs, hxd⟩ := hd1.mono s8
  obtain ⟨ys, hys, hyd⟩ := he2
  have hxl : xs.length = cuts.length - 1 := by rw [hxd.length, List.length_map, linesAt_len]
  have hyl : ys.length = cuts.length - 1 := by rw [hyd.length, List.length_map, linesAt_len]
  have hloE := s8 _ _ (s7 _ _ (upd_same (H := Hc) (a := lo) (o := .lst [])))
  have sE := (s6.trans s7).trans s8
  have na1 : a1 ≠ lo := (ne_of_none upd_same ha1).symm
  have na2 : a2 ≠ lo := (ne_of_none (s7 _ _ upd_same) ha2).symm
  have hcoE2 := s8 _ _ (s7 _ _ (s5 _ _ hcoE))
  have nco : co ≠ lo := ne_of_none hcoE hlo
  have hml : (mixLines mixM (linesAt cuts (regOf rs)) (linesAt cuts (regOf qs))).length = cuts.length - 1 := by
    unfold mixLines
    rw [List.length_map, List.length_zip, linesAt_len, linesAt_len]
    omega
  refine ⟨a1, a2, xs, ys, rfl, .inl ⟨SqL.of hxs, SqL.of hys, for_it (walk_zip (K := K) (a := a1) (b := a2) (n := cuts.length - 1) (xs := xs) (ys := ys) (by omega)) (fun i σ H' => ∃ fs x5 x6, σ = [some v1, some v2, some (.ref g), some (.ref co), some (.ref lo), x5, x6] ∧ SB lo He H' ∧ H' lo = some (.lst fs) ∧
    IsAll H' fs (((mixLines mixM (linesAt cuts (regOf rs)) (linesAt cuts (regOf qs))).take i).map encLine)) ?_ (fun i σ H' _ hp => ?_) (fun i x σ H1 H2 hi hp hy => ?_) (fun σ H1 hp => ?_)⟩⟩
  · exact ⟨[], _, _, rfl, SB.refl, hloE, .nil⟩
  · obtain ⟨fs, x5, x6, rfl, sb, _⟩ := hp
    exact ⟨SqL.of (sb _ _ hxs na1), SqL.of (sb _ _ hys na2)⟩
  · obtain ⟨fs, x5, x6, rfl, sb, hf, hfs⟩ := hp
    obtain ⟨T1, u1, u2, rfl, hT, rfl, g1, g2⟩ := hy
    obtain ⟨l, hl, hv1⟩ := at_map hxd g1
    obtain ⟨m, hm, hv2⟩ := at_map hyd g2
    have sN := same_new hT (.tup [u1, u2])
    have k1 := kt_sb hloE sb
    have hf2 := sN _ _ hf
    refine ⟨T1, _, rfl, SqT.of upd_same, rfl, _, _, rfl, _, _, rfl, rfl, ?_⟩
    refine ⟨_, rfl, .inl ⟨rfl, _, SqL.of hf2⟩, _, rfl, _, rfl, _, rfl, u1, u2, l, m, rfl, hv1.mono (k1.trans (kt sN)), hv2.mono (k1.trans (kt sN)), ?_, ?_, fun v9 H9 s9 h9 => ?_⟩
    · have := linesAt_lines (n := 600) cuts (regOf rs) (fun b hb => Nat.le_trans (i1.line b hb) hl1) l (List.mem_of_getElem? hl)
      omega
    · have := linesAt_lines (n := 600) cuts (regOf qs) (fun b hb => Nat.le_trans (i2.line b hb) hl2) m (List.mem_of_getElem? hm)
      omega
    have hfl : fs.length ≤ i := by rw [hfs.length, List.length_map, List.length_take]; omega
    refine ⟨lo, fs, _, rfl, rfl, s9 _ _ hf2, sm (by omega), ?_⟩
    refine ⟨_, _, _, rfl, sb.trans ((sb_same (sN.trans s9)).trans (sb_upd _)), upd_same, ?_⟩
    have em : (mixLines mixM (linesAt cuts (regOf rs)) (linesAt cuts (regOf qs)))[i]? = some (mixM l m) := by
      unfold mixLines
      have ez : ((linesAt cuts (regOf rs)).zip (linesAt cuts (regOf qs)))[i]? = some (l, m) := List.getElem?_zip_eq_some.mpr ⟨hl, hm⟩
      rw [List.getElem?_map, ez]
      rfl
    rw [List.take_add_one, em, List.map_append]
    exact snoc_at hf hfs (sb_same (sN.trans s9)) (s9 _ _ hf2) h9
  · obtain ⟨fs, x5, x6, rfl, sb, hf, hfs⟩ := hp
    rw [← hml, List.take_length] at hfs
    refine ⟨_, rfl, _, rfl, co, lo, cuts, _, rfl, sb _ _ hcoE2 nco, ⟨fs, hf, hfs⟩, hml, by omega, fun v9 H9 s9 h9 => ?_⟩
    have e := either_regOf mixM_ok hr1 hr2 hup (fun z => by rw [hmem, List.mem_append])
    refine q v9 H9 ((same_of hlo0 sE sb).trans s9) ?_
    rw [← e]
    exact h9
def spEither : Sp := fun vs H Q _ => ∃ v1 v2 rs qs, vs = [v1, v2] ∧ Is H v1 (encReg (regOf rs)) ∧ Is H v2 (encReg (regOf qs)) ∧ Valid rs ∧ Valid qs ∧ rs.length ≤ 600 ∧ qs.length ≤ 600 ∧ ∀ v' H', Same H H' → Is H' v' (encReg (regOf (rs ++ qs))) → Q v' H'
abbrev s_either : Stmt := top 51
abbrev n_either : List Str := ["one", "other"]
abbrev p_either : List Str := ["one", "other"]
theorem sc_either : FnScope n_either p_either (defScope s_either) := ⟨rfl, rfl, rfl, by decide +kernel, rfl, by decide +kernel, by decide +kernel⟩
theorem ok_either (F : Fun K "either" "either" s_either f fd) (mK : mg "in_either" = some (.ref g)) (J_mixed : Has P w K mg base "mixed" 3 p_mixed (spMixed g)) : FnOk P w K mg base CX0 4 f fd p_either spEither := by
  refine F.ok sc_either (fun vs H Q E h => ?_) (fun cdv A outer s H vs Q E hr h => ?_)
  · obtain ⟨x, y, l, m, rfl, _⟩ := h
    rfl
  obtain ⟨v1, v2, rs, qs, rfl, h1, h2, hr1, hr2, hl1, hl2, q⟩ := h
  have nd := (sc_either).nd
  refine ⟨_, (pss_one (ps_ret (pe_f J_mixed hr (pa_cons (pv 0) (pa_cons (pv 1) (pa_cons (pe_glob (v := .ref g) rfl mK rfl) pa_nil)))))), ?_⟩
  exact ⟨_, rfl, _, rfl, v1, v2, rs, qs, rfl, h1, h2, hr1, hr2, hl1, hl2, q⟩
end
end Mw
end
section
set_option maxRecDepth 100000
set_option maxHeartbeats 6400000
/-! set(a tuple). -/
namespace Mw
open PySem PySem.Spec PyProof.Rows L2
section
variable {P : Program} {w : World} {A : Around} {E : Value → Shared → Prop}
/-- set(xs), xs a tuple at l -/
theorem set_of_tuple {s : Shared} {l : Addr} {items : Array Value} {J : Nat → Heap → Prop} {Q : Value → Shared → Prop} (hh : A.handled = none) (hl : s.heap.IsTuple l items)
    (hJ : Leans s.heap.objs.size s.heap J) (h0 : ∀ h' : Heap, Kept s.heap h' → h'.get? s.heap.objs.size = some (freshSet w) → J 0 h') (hA : ∀ A' : Around, A'.units ≤ A.units + 4 → Adds P w A' s.heap.objs.size s.heap J (fun i v => items[i]? = some v) items.size)
    (h : ∀ (h' : Heap) (tk : Nat), J items.size h' → Kept s.heap h' → Q (.ref s.heap.objs.size) { s with heap := h', toks := tk }) :
    wpAny (model P w) A (call (.type "set") [.ref l]) Q E s := by
  obtain ⟨c, tl, hmro⟩ := F.called_set.mro
  have hmade := F.called_set.made
  have hsub := F.called_set.sub
  refine wpAny_call (codeAny_of_tree ?_)
  show wpAny _ _ (callAny (.type "set") _) _ _ _
  refine wpAny_pure ⟨Code.quiet_builtin _ (by decide +kernel), codeAny_builtin F.entry_type_call ?_⟩
  rw [Around.under_plain (weight_type_call_type "set" [.ref l] []) rfl]
  have h1 := F.called_set.notType
  have h2 := F.called_set.canCreate
  have hct := F.typeCall_set_1 (.ref l)
  repeat (any_goals (first | assumption | wp_step))

  refine codeAny_mono (code_set_led1 (.ref l) (E := E) (Q₁ := fun obj s₁ => obj = .ref s.heap.objs.size ∧ s₁ = { s with heap := s.heap.push (freshSet w) }) ⟨rfl, rfl⟩) fun r s₁ hr => ?_
  cases r with
  | error e => exact hr
  | ok fl =>
    cases fl with
    | ret obj =>
      obtain ⟨rfl, rfl⟩ := hr
      have hS : (s.heap.push (freshSet w)).get? s.heap.objs.size = some (freshSet w) := Heap.get?_push_size _ rfl
      have hT : Shared.TypeIs { s with heap := s.heap.push (freshSet w) } (.ref s.heap.objs.size) "set" := ⟨_, hS, rfl⟩
      have hli := F.called_set.init.lookup
      have hbi := F.called_set.init.bind (.ref s.heap.objs.size)
      repeat (any_goals (first | assumption | wp_step))

      refine codeAny_mono (codeAny_call_builtin (R := wants (fun r s₂ => r = .none ∧ ∃ h' tk, s₂ = { s with heap := h', toks := tk } ∧ J items.size h' ∧ Kept s.heap h') E) F.called_set.init.plain F.entry_set_init (check_set_init_1 hT ?_)) fun r₂ s₂ hr₂ => ?_
      · obtain ⟨ol, hol, hcl, nl, hdl⟩ := hl
        obtain ⟨ocls, odict, odata, oslots⟩ := ol
        simp only at hcl hdl
        subst hcl; subst hdl
        have hol' : (s.heap.push (freshSet w)).get? l = some { cls := .type "tuple", dict := odict, data := .seq items nl, slots := oslots } := Heap.get?_push_of_some _ hol
        have hsls := F.sub_tuple_set
        have hslf := F.sub_tuple_frozenset
        have hne : (Value.type "tuple" == Value.type "dict") = false := by decide
        have hl1 : (s.heap.push (freshSet w)).IsTuple l items := ⟨_, hol', rfl, nl, rfl⟩
        unfold Builtin.«set.__init__» noKeywords Builtin.Frozenset.updateFrom
        generalize hPI : pyIter = PI
        wp_walk
        subst hPI

        refine wpAny_pyIter_tuple hl1 ?_
        refine wpAny_bind (wpAny_runValue ?_)
        have hlS : l < s.heap.objs.size := Heap.lt_size hol
        have hh3 : A.in1.in1.in1.handled = none := by simp [hh]
        have hneI : l ≠ (s.heap.push (freshSet w)).objs.size := by
          rw [Heap.size_push]; exact Nat.ne_of_lt (Nat.lt_succ_of_lt hlS)
        have hSf : s.heap.objs.size ∉ [(s.heap.push (freshSet w)).objs.size, l] := by
          rw [Heap.size_push]; simp only [List.mem_cons, List.mem_singleton, List.not_mem_nil, or_false, not_or]
          exact ⟨Nat.ne_of_lt (Nat.lt_succ_self _), Nat.ne_of_gt hlS⟩
        have none_of : ∀ b, s.heap.objs.size ≤ b → s.heap.get? b = none := fun b hb => by
          cases q : s.heap.get? b with
          | none => rfl
          | some o => exact absurd (Nat.lt_of_lt_of_le (Heap.lt_size q) hb) (Nat.lt_irrefl _)
        refine set_loop ((Walks.tuple hh3 _ l hneI items).toS) hSf hJ (hA _ ?hu) (none_of _ (Nat.le_refl _)) (fun b hb => none_of b (by
            rw [List.mem_singleton.mp hb, Heap.size_push]
            exact Nat.le_succ _)) (items.size - 0) 0 _ (by omega) (Nat.zero_le _)
          ⟨⟨_, Heap.get?_push_size _ rfl, rfl, rfl⟩, (hl1.push _)⟩ (fun b o e => Heap.get?_push_of_some _ (Heap.get?_push_of_some _ e)) ?hS0 ?hR
        case hu =>
          show A.units + 3 ≤ A.units + 4
          omega
        case hS0 =>
          exact h0 _ (fun b o e => Heap.get?_push_of_some _ (Heap.get?_push_of_some _ e)) (Heap.get?_push_of_some _ hS)
        case hR =>
          intro s' hm hj' hkp
          obtain ⟨h', g2, d', tk', os'⟩ := s'
          have eg : g2 = s.gens := hm.gens
          have ed : d' = s.drawn := hm.drawn
          have eo : os' = s.os := hm.os
          subst eg; subst ed; subst eo
          show wpAny _ _ _ _ _ _
          refine wpAny_pure ?_
          show wpAny _ _ (ret Value.none) _ _ _
          exact wpAny_pure ⟨rfl, h', tk', rfl, hj', hkp⟩

      · cases r₂ with
        | error e => exact hr₂
        | ok fl₂ =>
          cases fl₂ with
          | ret r =>
            obtain ⟨rfl, h', tk, rfl, hj', hk'⟩ := hr₂
            repeat (any_goals (first | assumption | wp_step))
            exact h _ _ hj' hk'
          | _ => exact hr₂.elim
    | _ => exact hr.elim
end
section
variable {X : Cx}
/-- set(t), t a tuple of tuples -/
def rSetMT (P : Program) (w : World) : List V → Hp → VK → Prop := fun xs H Q => ∃ (v : V) (ks : List (List Key)), xs = [v] ∧ Is H v (.tuple (ks.map encT)) ∧ ks.length ≤ 1228 ∧
  ∀ a ps, H a = none → ps.map (·.2) = ks → (∀ p ∈ ps, Is H (.ref p.1) (encT p.2)) → Q (.ref a) (upd H a (SetMO P w a ps))
theorem cr_setMT (hc : X.calm = true) (hu : X.A.units + 64 < cLine) : CallR X (.type "set") (rSetMT X.prog X.w) := by
  intro pins s σ H xs us Q I r h
  obtain ⟨v, ks, rfl, hv, hz, q⟩ := h
  obtain ⟨l, ys, rfl, hl, hy⟩ := hv.tup_inv
  obtain ⟨u, rfl, ru⟩ := vals1 r
  obtain rfl : u = Value.ref l := ru
  obtain ⟨ps, e1, e2, e3⟩ := keys_of hy
  subst e1 e2
  obtain ⟨its, rv, pl, hzz⟩ := I.tuple (SqT.of hl)
  have hn : H s.heap.objs.size = none := I.hok.fresh (Nat.le_refl _)
  have ei := refs_are rv
  rw [List.length_map] at hz
  have hlen : its.toArray.size = ps.length := by rw [List.size_toArray, ei, List.length_map]
  refine set_of_tuple (P := X.prog) (w := X.w) (J := fun i h => GotM X.prog X.w s.heap.objs.size h ps i) (I.ok.hd hc) (show s.heap.IsTuple l its.toArray from pl) gotM_leans (fun h' _ e => gotM_fresh e) (fun A' hA' => gotM_adds ei (fun p hp => isK_of I (e3 p hp)) hz (by omega)) fun h' tk R k => ?_
  rw [hlen] at R
  exact ⟨.ref s.heap.objs.size, upd H s.heap.objs.size (SetMO X.prog X.w s.heap.objs.size ps), I.laid (t' := tk) k (Nat.le_refl _) (setMO_new R), rfl, q _ ps hn rfl e3⟩
end
end Mw
end
section
set_option maxRecDepth 100000
set_option maxHeartbeats 8000000
/-! sheets. -/
namespace Mw
open PySem PySem.Spec PyProof.Rows L2
theorem op_catAK {X : Cx} {K : PySem.W.Frag} (h : X.K = K := by rfl) : OpR X (binaryOp .Add) (rCatA K) := h ▸ op_catA
/-! ### marks -/
abbrev MarkS := Mark Str
def encM (m : MarkS) : PyData := .tuple [.str m.1, .str m.2.1, .int m.2.2.1, .int m.2.2.2]
def mkey (m : MarkS) : List Key := [.inr m.1, .inr m.2.1, .inl m.2.2.1, .inl m.2.2.2]
theorem encT_mkey (m : MarkS) : encT (mkey m) = encM m := rfl
theorem mkey_inj {a b : MarkS} (h : mkey a = mkey b) : a = b := by
  unfold mkey at h
  injection h with h1 h
  injection h with h2 h
  injection h with h3 h
  injection h with h4 h
  exact Prod.ext (Sum.inr.inj h1) (Prod.ext (Sum.inr.inj h2) (Prod.ext (Sum.inl.inj h3) (Sum.inl.inj h4)))
theorem toks_inj : ∀ {k k' : List Key}, PySem.W.keyToksAll (k.map encK) = PySem.W.keyToksAll (k'.map encK) → k = k'
  | [], [], _ => rfl
  | [], x :: k', h => by simp [PySem.W.keyToksAll] at h
  | x :: k, [], h => by simp [PySem.W.keyToksAll] at h
  | x :: k, y :: k', h => by
    rw [List.map_cons, List.map_cons, PySem.W.keyToksAll, PySem.W.keyToksAll] at h
    injection h with _ h
    cases x with
    | inl i =>
      cases y with
      | inl j =>
        simp only [encK, PySem.W.keyToks, List.cons_append, List.nil_append, List.cons.injEq, Sum.inl.injEq] at h
        rw [h.1, toks_inj h.2]
      | inr z =>
        simp [encK, PySem.W.keyToks] at h
    | inr x =>
      cases y with
      | inl j =>
        simp [encK, PySem.W.keyToks] at h
      | inr z =>
        simp only [encK, PySem.W.keyToks, List.cons_append, List.nil_append, List.cons.injEq, Sum.inr.injEq] at h
        have e : x = z := by
          cases x with
          | mk cx =>
            cases z with
            | mk cz => exact congrArg Str.mk (Array.toList_inj.mp h.1)
        rw [e, toks_inj h.2]
theorem leM_antisymm {a b : MarkS} (h1 : PySem.W.dataLe false encM a b = true) (h2 : PySem.W.dataLe false encM b a = true) : a = b := by
  rw [PySem.W.dataLe_eq] at h1 h2
  have e1 : PySem.W.dataLt (encM b) (encM a) = false := by simpa using h1
  have e2 : PySem.W.dataLt (encM a) (encM b) = false := by simpa using h2
  have e : PySem.W.keyToks (encM a) = PySem.W.keyToks (encM b) := (PyProof.Rows.listOrd PyProof.Rows.itemOrd).total _ _ e2 e1
  rw [← encT_mkey, ← encT_mkey] at e
  exact mkey_inj (toks_inj (by simpa [encT, PySem.W.keyToks] using e))
theorem totM : PySem.W.TotalLe (PySem.W.dataLe false encM) := PySem.W.sortLe_total _ _ _
/-- a sheet's marks: each once, in order -/
structure SM (ms : List MarkS) : Prop where
  nd : ms.Nodup
  ord : ms.Pairwise fun a b => PySem.W.dataLe false encM a b = true
theorem sortM_sm {ms : List MarkS} (h : ms.Nodup) : SM (ms.mergeSort (PySem.W.dataLe false encM)) :=
  ⟨(List.mergeSort_perm _ _).nodup_iff.mpr h, List.pairwise_mergeSort (le := PySem.W.dataLe false encM) (fun a b c h1 h2 => totM.trans a b c h1 h2) (fun a b => by simpa using totM.total a b) _⟩
theorem sortM_mem {ms : List MarkS} {m : MarkS} : m ∈ ms.mergeSort (PySem.W.dataLe false encM) ↔ m ∈ ms := (List.mergeSort_perm _ _).mem_iff
theorem sm_uniq {a b : List MarkS} (ha : SM a) (hb : SM b) (h : ∀ m, m ∈ a ↔ m ∈ b) : a = b := by
  have p : a.Perm b := (List.perm_ext_iff_of_nodup ha.nd hb.nd).mpr h
  exact List.Perm.eq_of_pairwise (le := fun a b => PySem.W.dataLe false encM a b = true) (fun x y _ _ h1 h2 => leM_antisymm h1 h2) ha.ord hb.ord p
theorem alM (l : List MarkS) : PySem.W.AllAlike (l.map encM) := PySem.W.AllAlike.of fun b b' => by simp [PySem.W.alike, PySem.W.alikeAll, encM]
theorem soM (l : List MarkS) : PySem.W.Sortable (l.map encM) := PySem.W.Sortable.tuples fun b => ⟨_, _, rfl⟩
theorem mark_inv {H : Hp} {v : V} {m : MarkS} (h : Is H v (encM m)) : ∃ a, v = .ref a ∧ H a = some (.tup [.str m.1, .str m.2.1, .int m.2.2.1, .int m.2.2.2]) := by
  obtain ⟨a, xs, rfl, ha, hx⟩ := h.tup_inv
  obtain ⟨v1, v2, v3, v4, rfl, h1, h2, h3, h4⟩ := hx.four_inv
  rw [h1.str_inv, h2.str_inv, h3.int_inv, h4.int_inv] at ha
  exact ⟨a, rfl, ha⟩
theorem isMark {H : Hp} (m : MarkS) : IsAll H [.str m.1, .str m.2.1, .int m.2.2.1, .int m.2.2.2] [.str m.1, .str m.2.1, .int m.2.2.1, .int m.2.2.2] := .cons (.str _) (.cons (.str _) (.cons (.int _) (.cons (.int _) .nil)))
def encSheet (Rs : List Reg) (ms : List MarkS) : PyData := .tuple [.tuple (Rs.map encReg), .tuple (ms.map encM)]
theorem walk_zipT {K : PySem.W.Frag} {a b : Addr} {xs ys : List V} {n : Nat} (hn : n = min xs.length ys.length) : Walk (RZ.ItzT K a b) n (fun H => SqT K H a xs ∧ SqT K H b ys) (YPair (fun i => xs[i]?) (fun i => ys[i]?)) := by
  subst hn
  refine ⟨fun i _ hi q => ?_, fun _ q => ⟨xs, ys, q.1, q.2, by omega⟩, fun i H v H' _ q y => ?_⟩
  · have h1 : i < xs.length := by omega
    have h2 : i < ys.length := by omega
    exact ⟨xs, ys, xs[i], ys[i], q.1, q.2, by simp [h1], by simp [h2]⟩
  · obtain ⟨T, x, z, h1, h2, h3, h4, h5⟩ := y
    exact ⟨T, x, z, h1, h2, h3, h4 xs q.1, h5 ys q.2⟩
theorem turnM_inj {t dx dy : Int} (h : Tn t) {a b : MarkS} (e : turnM t dx dy a = turnM t dx dy b) : a = b := by
  unfold turnM at e
  injection e with e1 e
  injection e with e2 e
  refine Prod.ext e1 (Prod.ext e2 ?_)
  have key : ∀ p : Int × Int, turnP (backT t) 0 0 (turnP t 0 0 p) = p := fun p => turnP_back h p
  have sh : ∀ p : Int × Int, turnP t dx dy p = ((turnP t 0 0 p).1 + dx, (turnP t 0 0 p).2 + dy) := fun p => by
    unfold turnP
    rcases tn_cases h with z | z | z | z | z | z | z | z <;> subst z <;> simp only [turnR_0, turnR_1, turnR_2, turnR_3, turnR_4, turnR_5, turnR_6, turnR_7] <;> simp
  rw [sh, sh] at e
  have e3 : turnP t 0 0 a.2.2 = turnP t 0 0 b.2.2 := by
    injection e with x y
    exact Prod.ext (by omega) (by omega)
  rw [← key a.2.2, e3, key]
section
variable {P : Program} {w : World} {K : PySem.W.Frag} {mg : Str → Option Value} {base : Heap} {f g : Addr} {fd gd : FuncData}
/-- six regions of few rects each -/
abbrev Rss (rss : List (List Rect)) : Prop := ∀ rs ∈ rss, Valid rs ∧ rs.length ≤ 600
def spTurnedSheet : Sp := fun vs H Q _ => ∃ v rss ms t dx dy, vs = [v, .int t, .int dx, .int dy] ∧ Is H v (encSheet (rss.map regOf) ms) ∧ Rss rss ∧ rss.length ≤ 100 ∧ ms.length ≤ 100000 ∧ Tn t ∧
  ∀ v' H', Same H H' → Is H' v' (encSheet ((rss.map fun rs => rs.map (turnR t dx dy)).map regOf) ((ms.map (turnM t dx dy)).mergeSort (PySem.W.dataLe false encM))) → Q v' H'
abbrev s_turned_sheet : Stmt := top 53
abbrev n_turned_sheet : List Str := ["sheet", "turn", "dx", "dy", "regions", "marks", "some", "mark"]
abbrev p_turned_sheet : List Str := ["sheet", "turn", "dx", "dy"]
theorem sc_turned_sheet : FnScope n_turned_sheet p_turned_sheet (defScope s_turned_sheet) := ⟨rfl, rfl, rfl, by decide +kernel, rfl, by decide +kernel, by decide +kernel⟩
theorem ok_turned_sheet (F : Fun K "turned_sheet" "turned_sheet" s_turned_sheet f fd) (T : Txt mg) (J_turned : Has P w K mg base "turned" 3 p_turned spTurned) (J_turned_place : Has P w K mg base "turned_place" 3 p_turned_place spTurnP) :
    FnOk P w K mg base CX0 4 f fd p_turned_sheet spTurnedSheet := by
  refine F.ok sc_turned_sheet (fun vs H Q E h => ?_) (fun cdv A outer s H vs Q E hr h => ?_)
  · obtain ⟨x, y, l, m, dx, dy, rfl, _⟩ := h
    rfl
  obtain ⟨v, rss, ms, t, dx, dy, rfl, hv, hR, hl1, hl2, ht, q⟩ := h
  have nd := (sc_turned_sheet).nd
  refine ⟨_, (pss_cons (ps_set (i := 4) nd rfl (Or.inl rfl) (pe_callTy call_tuple_of (by rfl) T.b_tuple (by decide +kernel) (pa_cons (pe_lc (own := [("some", 6)]) rfl nd (pi_tup (pe_ix ix_tup (pv 0) pe_int (fun _ _ => rfl))) (blkOk_by (own := [("some", 6)]) (N := n_turned_sheet) (sc := defScope s_turned_sheet) (by decide +kernel)) (fun _ _ _ _ _ => (pg_name (i := 6) nd rfl (Or.inl rfl))) (fun _ _ _ _ _ => pts_nil) (fun _ _ _ _ _ => (pe_f J_turned hr (pa_cons (pv 6) (pa_cons (pv 1) (pa_cons (pv 2) (pa_cons (pv 3) pa_nil))))))) pa_nil)))
  (pss_cons (ps_setLc (i := 5) (own := [("mark", 7)]) rfl nd rfl rfl (sw_true rfl rfl rfl (by decide +kernel)) (pi_tup (pe_ix ix_tup (pv 0) pe_int (fun _ _ => rfl))) (blkOk_by (own := [("mark", 7)]) (N := n_turned_sheet) (sc := defScope s_turned_sheet) (by decide +kernel)) (fun _ _ _ _ _ => (pg_name (i := 7) nd rfl (Or.inl rfl))) (fun _ _ _ _ _ => pts_nil) (fun _ _ _ _ _ => (pe_op (op_catAK (K := K)) (pe_tup (pa_cons (pe_ix (ix_tupK (K := K)) (pv 7) pe_int (fun _ _ => rfl)) (pa_cons (pe_ix (ix_tupK (K := K)) (pv 7) pe_int (fun _ _ => rfl)) pa_nil))) (pe_f J_turned_place hr (pa_cons (pe_ix (ix_tupK (K := K)) (pv 7) pe_int (fun _ _ => rfl)) (pa_cons (pe_ix (ix_tupK (K := K)) (pv 7) pe_int (fun _ _ => rfl)) (pa_cons (pv 1) (pa_cons (pv 2) (pa_cons (pv 3) pa_nil)))))))))
  (pss_one (ps_ret (pe_tup (pa_cons (pv 4) (pa_cons (pe_callTy call_tuple_of (by rfl) T.b_tuple (by decide +kernel) (pa_cons (pe_callB (cr_sortedD (Mark Str) encM hr.units) (by rfl) T.b_sorted (by decide +kernel) (pa_cons (pv 5) pa_nil)) pa_nil)) pa_nil))))))), ?_⟩
  obtain ⟨va, vx, rfl, hva, hvx⟩ := hv.tup_inv
  obtain ⟨w1, w2, rfl, hw1, hw2⟩ := hvx.two_inv
  obtain ⟨ra, xs, rfl, hra, hx⟩ := hw1.tup_inv
  obtain ⟨ma, zs, rfl, hma, hz⟩ := hw2.tup_inv
  rw [List.map_map] at hx
  have hxl : xs.length = rss.length := by rw [hx.length, List.length_map]
  have hzl : zs.length = ms.length := by rw [hz.length, List.length_map]
  refine ⟨_, rfl, va, _, _, _, rfl, rfl, SqT.of hva, rfl, ra, rfl, ⟨_, SqT.of hra⟩, fun D hD => lc_map (walk_tup (K := K) (a := ra) (xs := xs)) (((rss.map fun rs => rs.map (turnR t dx dy)).map regOf).map encReg) (by simp only [List.length_map]; exact hxl.symm) (smL (by omega)) hD (fun H1 s1 => SqT.of (s1 _ _ hra)) (fun i x H1 H2 d Qk Qs hd s1 hy k => ?_) (fun H1 ys s1 hys hyd => ?_)⟩
  · obtain ⟨rfl, hxi⟩ := hy
    obtain ⟨rs, hrs, hvr⟩ := at_map hx hxi
    rw [List.map_map, List.map_map] at hd
    have ed := map_at hrs hd
    subst ed
    have hm := hR rs (List.mem_of_getElem? hrs)
    exact ⟨rfl, _, rfl, _, rfl, _, rfl, _, rfl, x, rs, t, dx, dy, rfl, hvr.mono (kt s1), hm.1, hm.2, ht, fun v4 H4 s4 h4 => k _ _ s4 h4⟩
  refine ⟨D, _, rfl, .inl ⟨SqL.of hys, fun p1 hp1 => ?_⟩⟩
  have sA := s1.trans (same_new hp1 (.tup ys))
  have hyd1 : Is (upd H1 p1 (.tup ys)) (.ref p1) _ := is_new hp1 hyd
  generalize upd H1 p1 (.tup ys) = H3 at sA hyd1
  refine asg (i := 4) ?_
  dsimp only
  refine ⟨_, rfl, va, _, _, _, rfl, rfl, SqT.of (sA _ _ hva), rfl, ma, rfl, ⟨_, SqT.of (sA _ _ hma)⟩, fun D2 hD2 => lc_map (walk_tup (K := K) (a := ma) (xs := zs)) ((ms.map (turnM t dx dy)).map encM) (by simp only [List.length_map]; exact hzl.symm) (smL (by omega)) hD2 (fun H4 s4 => SqT.of (s4 _ _ (sA _ _ hma))) (fun i x H4 H5 d Qk Qs hd s4 hy k => ?_) (fun H4 us s4 hus hud => ?_)⟩
  · obtain ⟨rfl, hxi⟩ := hy
    obtain ⟨m, hm, hvm⟩ := at_map hz hxi
    rw [List.map_map] at hd
    have ed := map_at hm hd
    subst ed
    obtain ⟨tt, rfl, htt⟩ := mark_inv (hvm.mono (kt (sA.trans s4)))
    refine ⟨rfl, _, rfl, tt, _, _, _, rfl, rfl, SqT.of htt, rfl, _, rfl, tt, _, _, _, rfl, rfl, SqT.of htt, rfl, sz 2, fun p5 hp5 => ?_⟩
    have s5 := same_new hp5 (.tup [.str m.1, .str m.2.1])
    have htt5 := s5 _ _ htt
    refine ⟨_, rfl, tt, _, _, _, rfl, rfl, SqT.of htt5, rfl, _, rfl, tt, _, _, _, rfl, rfl, SqT.of htt5, rfl, _, rfl, _, rfl, _, rfl, _, _, _, _, _, rfl, fun v6 H6 s6 h6 => ?_⟩
    obtain ⟨pa, rfl, hpa⟩ := pair_inv h6
    refine ⟨p5, pa, _, _, rfl, rfl, SqT.of (s6 _ _ upd_same), SqT.of hpa, sz 4, fun z => (by cases z), fun _ z => (by cases z), fun _ _ p7 hp7 => ?_⟩
    exact k _ _ ((s5.trans s6).trans (same_new hp7 _)) (is_new hp7 (isMark (turnM t dx dy m)))
  refine asg (i := 5) ?_
  dsimp only
  refine ⟨_, rfl, _, rfl, D2, ms.map (turnM t dx dy), rfl, ⟨us, hus, hud⟩, alM _, soM _, fun b _ => by simp [encM, PyData.depth, PyData.depthAll], fun p8 us8 hp8 hl8 hd8 => ?_⟩
  have s8 := same_new hp8 (.lst us8)
  refine ⟨p8, _, rfl, .inl ⟨SqL.of upd_same, fun p9 hp9 => ?_⟩⟩
  have s9 := same_new hp9 (.tup us8)
  refine ⟨sz 2, fun p10 hp10 => ?_⟩
  have sB := s4.trans (s8.trans s9)
  refine q _ _ ((sA.trans sB).trans (same_new hp10 _)) (is_new hp10 (.cons (hyd1.mono (kt sB)) (.cons ?_ .nil)))
  exact is_new hp9 (hd8.mono (kt s8))
end
end Mw
end
section
set_option maxRecDepth 100000
set_option maxHeartbeats 8000000
/-! laid_over. -/
namespace Mw
open PySem PySem.Spec PyProof.Rows L2
theorem keys_marks : ∀ {ks : List (List Key)}, (∀ k ∈ ks, ∃ m : MarkS, k = mkey m) → ∃ ms : List MarkS, ks = ms.map mkey
  | [], _ => ⟨[], rfl⟩
  | k :: ks, h => by
    obtain ⟨m, rfl⟩ := h k List.mem_cons_self
    obtain ⟨ms, rfl⟩ := keys_marks (ks := ks) fun x hx => h x (List.mem_cons_of_mem _ hx)
    exact ⟨m :: ms, rfl⟩
theorem nodup_of {α β : Type} {f : α → β} {l : List α} (h : (l.map f).Nodup) : l.Nodup := List.Pairwise.of_map f (fun _ _ hne e => hne (congrArg f e)) h
/-- what sorted(set(marks)) is -/
theorem set_marks {ks : List (List Key)} {ms0 : List MarkS} (nd : ks.Nodup) (h : ∀ k, k ∈ ks ↔ k ∈ ms0.map mkey) : ∃ ms, SM ms ∧ (∀ m, m ∈ ms ↔ m ∈ ms0) ∧ (ks.mergeSort (PySem.W.dataLe false encT)).map encT = ms.map encM := by
  obtain ⟨ms, rfl⟩ := keys_marks (ks := ks) fun k hk => by
    obtain ⟨m, _, e⟩ := List.mem_map.mp ((h k).mp hk)
    exact ⟨m, e.symm⟩
  have mem : ∀ m, m ∈ ms ↔ m ∈ ms0 := fun m => by
    constructor
    · intro hm
      obtain ⟨m', h1, e⟩ := List.mem_map.mp ((h (mkey m)).mp (List.mem_map_of_mem hm))
      rw [← mkey_inj e]
      exact h1
    · intro hm
      obtain ⟨m', h1, e⟩ := List.mem_map.mp ((h (mkey m)).mpr (List.mem_map_of_mem hm))
      rw [← mkey_inj e]
      exact h1
  refine ⟨ms.mergeSort (PySem.W.dataLe false encM), sortM_sm (nodup_of nd), fun m => by rw [sortM_mem, mem], ?_⟩
  have e : (ms.map mkey).mergeSort (PySem.W.dataLe false encT) = (ms.mergeSort (PySem.W.dataLe false encM)).map mkey := (List.map_mergeSort (f := mkey) (r := PySem.W.dataLe false encM) (s := PySem.W.dataLe false encT) fun a _ b _ => rfl).symm
  rw [e, List.map_map]
  rfl
theorem encM_keys (ms : List MarkS) : ms.map encM = (ms.map mkey).map encT := by rw [List.map_map]; rfl
section
variable {P : Program} {w : World} {K : PySem.W.Frag} {mg : Str → Option Value} {base : Heap} {f g : Addr} {fd gd : FuncData}
def spLaidOver : Sp := fun vs H Q _ => ∃ v1 v2 rss qss ms1 ms2, vs = [v1, v2] ∧ Is H v1 (encSheet (rss.map regOf) ms1) ∧ Is H v2 (encSheet (qss.map regOf) ms2) ∧ Rss rss ∧ Rss qss ∧ rss.length = qss.length ∧ rss.length ≤ 100 ∧ ms1.length + ms2.length ≤ 1228 ∧
  ∀ v' H' ms, Same H H' → SM ms → (∀ m, m ∈ ms ↔ m ∈ ms1 ∨ m ∈ ms2) → Is H' v' (encSheet ((rss.zip qss).map fun p => regOf (p.1 ++ p.2)) ms) → Q v' H'
abbrev s_laid_over : Stmt := top 54
abbrev n_laid_over : List Str := ["one", "other", "regions", "left", "right"]
abbrev p_laid_over : List Str := ["one", "other"]
theorem sc_laid_over : FnScope n_laid_over p_laid_over (defScope s_laid_over) := ⟨rfl, rfl, rfl, by decide +kernel, rfl, by decide +kernel, by decide +kernel⟩
theorem ok_laid_over (F : Fun K "laid_over" "laid_over" s_laid_over f fd) (T : Txt mg) (J_either : Has P w K mg base "either" 4 p_either spEither) :
    FnOk P w K mg base CX0 5 f fd p_laid_over spLaidOver := by
  refine F.ok sc_laid_over (fun vs H Q E h => ?_) (fun cdv A outer s H vs Q E hr h => ?_)
  · obtain ⟨x, y, l, m, dx, dy, rfl, _⟩ := h
    rfl
  obtain ⟨v1, v2, rss, qss, ms1, ms2, rfl, hv1, hv2, hR1, hR2, hll, hl1, hl2, q⟩ := h
  have nd := (sc_laid_over).nd
  refine ⟨_, (pss_cons (ps_set (i := 2) nd rfl (Or.inl rfl) (pe_callTy call_tuple_of (by rfl) T.b_tuple (by decide +kernel) (pa_cons (pe_lc (own := [("left", 3), ("right", 4)]) rfl nd (RZ.pi_zipA (by rfl) T.b_zip (pa_cons (pe_ix ix_tup (pv 0) pe_int (fun _ _ => rfl)) (pa_cons (pe_ix ix_tup (pv 1) pe_int (fun _ _ => rfl)) pa_nil))) (blkOk_by (own := [("left", 3), ("right", 4)]) (N := n_laid_over) (sc := defScope s_laid_over) (by decide +kernel)) (fun _ _ _ _ _ => (pg_tupK (K := K) (n := 2) rfl (pgs_cons (pg_name (i := 3) nd rfl (Or.inl rfl)) (pgs_cons (pg_name (i := 4) nd rfl (Or.inl rfl)) pgs_nil)))) (fun _ _ _ _ _ => pts_nil) (fun _ _ _ _ _ => (pe_f J_either hr (pa_cons (pv 3) (pa_cons (pv 4) pa_nil))))) pa_nil)))
  (pss_one (ps_ret (pe_tup (pa_cons (pv 2) (pa_cons (pe_callTy call_tuple_of (by rfl) T.b_tuple (by decide +kernel) (pa_cons (pe_callB (cr_sortedM rfl hr.units) (by rfl) T.b_sorted (by decide +kernel) (pa_cons (pe_callTy (cr_setMT rfl hr.units) (by rfl) T.b_set (by decide +kernel) (pa_cons (pe_op op_catA (pe_ix ix_tup (pv 0) pe_int (fun _ _ => rfl)) (pe_ix ix_tup (pv 1) pe_int (fun _ _ => rfl))) pa_nil)) pa_nil)) pa_nil)) pa_nil)))))), ?_⟩
  obtain ⟨va, vx, rfl, hva, hvx⟩ := hv1.tup_inv
  obtain ⟨w1, w2, rfl, hw1, hw2⟩ := hvx.two_inv
  obtain ⟨ra, xs, rfl, hra, hx⟩ := hw1.tup_inv
  obtain ⟨ma, zs, rfl, hma, hz⟩ := hw2.tup_inv
  obtain ⟨va', vx', rfl, hva', hvx'⟩ := hv2.tup_inv
  obtain ⟨w1', w2', rfl, hw1', hw2'⟩ := hvx'.two_inv
  obtain ⟨ra', xs', rfl, hra', hx'⟩ := hw1'.tup_inv
  obtain ⟨ma', zs', rfl, hma', hz'⟩ := hw2'.tup_inv
  rw [List.map_map] at hx hx'
  have hxl : xs.length = rss.length := by rw [hx.length, List.length_map]
  have hxl' : xs'.length = qss.length := by rw [hx'.length, List.length_map]
  have hzl : zs.length = ms1.length := by rw [hz.length, List.length_map]
  have hzl' : zs'.length = ms2.length := by rw [hz'.length, List.length_map]
  refine ⟨_, rfl, va, _, _, _, rfl, rfl, SqT.of hva, rfl, _, rfl, va', _, _, _, rfl, rfl, SqT.of hva', rfl, ra, ra', xs, xs', rfl, .inr ⟨SqT.of hra, SqT.of hra', fun D hD => lc_map (walk_zipT (K := K) (a := ra) (b := ra') (n := rss.length) (xs := xs) (ys := xs') (by omega)) (((rss.zip qss).map fun p => regOf (p.1 ++ p.2)).map encReg)
    (by simp only [List.length_map, List.length_zip]; omega) (smL (by omega)) hD (fun H1 s1 => ⟨SqT.of (s1 _ _ hra), SqT.of (s1 _ _ hra')⟩) (fun i x H1 H2 d Qk Qs hd s1 hy k => ?_) (fun H1 ys s1 hys hyd => ?_)⟩⟩
  · obtain ⟨T1, u1, u2, rfl, hT, rfl, g1, g2⟩ := hy
    obtain ⟨rs, hrs, hv⟩ := at_map hx g1
    obtain ⟨qs, hqs, hv'⟩ := at_map hx' g2
    have sN := same_new hT (.tup [u1, u2])
    have ez : (rss.zip qss)[i]? = some (rs, qs) := List.getElem?_zip_eq_some.mpr ⟨hrs, hqs⟩
    rw [List.map_map] at hd
    have ed := map_at ez hd
    subst ed
    have m1 := hR1 rs (List.mem_of_getElem? hrs)
    have m2 := hR2 qs (List.mem_of_getElem? hqs)
    refine ⟨T1, _, rfl, SqT.of upd_same, rfl, _, _, rfl, _, _, rfl, rfl, ?_⟩
    exact ⟨rfl, _, rfl, _, rfl, u1, u2, rs, qs, rfl, hv.mono (kt (s1.trans sN)), hv'.mono (kt (s1.trans sN)), m1.1, m2.1, m1.2, m2.2, fun v4 H4 s4 h4 => k _ _ (sN.trans s4) h4⟩
  refine ⟨D, _, rfl, .inl ⟨SqL.of hys, fun p1 hp1 => ?_⟩⟩
  have sA := s1.trans (same_new hp1 (.tup ys))
  have hyd1 : Is (upd H1 p1 (.tup ys)) (.ref p1) _ := is_new hp1 hyd
  generalize upd H1 p1 (.tup ys) = H3 at sA hyd1
  have fin : ∀ (v : V) (H4 : Hp) (Qf : V → Hp → Prop), Same H3 H4 → Is H4 v (.tuple ((ms1 ++ ms2).map encM)) → (∀ p xs ms H', SM ms → (∀ m, m ∈ ms ↔ m ∈ ms1 ∨ m ∈ ms2) → Same H3 H' → H' p = some (.lst xs) → IsAll H' xs (ms.map encM) → Qf (.ref p) H') →
      rSetMT P w [v] H4 fun x5 H5 => rSortedM P w [x5] H5 Qf := fun v H4 Qf s4 h4 hq => by
    refine ⟨v, (ms1 ++ ms2).map mkey, rfl, by rw [← encM_keys]; exact h4, by rw [List.length_map, List.length_append]; exact hl2, fun a ps ha eps hps => ?_⟩
    have s5 := same_new ha (SetMO P w a ps)
    refine ⟨a, ps, [false, false, true, true], rfl, upd_same, fun p hp => (hps p hp).mono (kt s5), by rw [← List.length_map (f := fun x : Addr × List Key => x.2), eps, List.length_map, List.length_append]; exact hl2, by simp, fun p hp => ?_, fun ks xs p nd hk hp hx => ?_⟩
    · have : p.2 ∈ (ms1 ++ ms2).map mkey := by rw [← eps]; exact List.mem_map_of_mem hp
      obtain ⟨m, _, e⟩ := List.mem_map.mp this
      rw [← e]
      rfl
    · obtain ⟨ms, h1, h2, h3⟩ := set_marks (ms0 := ms1 ++ ms2) nd (fun k => by rw [hk, eps])
      have s6 := same_new hp (.lst xs)
      refine hq p xs ms _ h1 (fun m => by rw [h2, List.mem_append]) (s4.trans (s5.trans s6)) upd_same ?_
      rw [← h3]
      exact hx.mono (kt s6)
  refine asg (i := 2) ?_
  dsimp only
  have hva3 := sA _ _ hva
  have hva3' := sA _ _ hva'
  have hz3 := hz.mono (kt sA)
  have hz3' := hz'.mono (kt sA)
  have cat := hz3.append hz3'
  rw [← List.map_append] at cat
  refine ⟨_, rfl, _, rfl, va, _, _, _, rfl, rfl, SqT.of hva3, rfl, _, rfl, va', _, _, _, rfl, rfl, SqT.of hva3', rfl, ma, ma', zs, zs', rfl, rfl, SqT.of (sA _ _ hma), SqT.of (sA _ _ hma'), smL (by omega), fun z => ?_, fun z z' => ?_, fun _ _ p9 hp9 => ?_⟩
  · dsimp only [tNil]
    refine fin _ _ _ (same_refl _) (.tup (sA _ _ hma') (by rw [z] at cat; exact cat)) fun p xs ms H' g1 g2 g3 g4 g5 => ?_
    refine ⟨p, xs, rfl, .inl ⟨SqL.of g4, fun p7 hp7 => ?_⟩⟩
    refine ⟨sz 2, fun p8 hp8 => ?_⟩
    have s7 := same_new hp7 (.tup xs)
    exact q _ _ ms ((sA.trans (g3.trans s7)).trans (same_new hp8 _)) g1 g2 (is_new hp8 (.cons (hyd1.mono (kt (g3.trans s7))) (.cons (is_new hp7 g5) .nil)))
  · dsimp only [tNil]
    refine fin _ _ _ (same_refl _) (.tup (sA _ _ hma) (by rw [z', List.append_nil] at cat; exact cat)) fun p xs ms H' g1 g2 g3 g4 g5 => ?_
    refine ⟨p, xs, rfl, .inl ⟨SqL.of g4, fun p7 hp7 => ?_⟩⟩
    refine ⟨sz 2, fun p8 hp8 => ?_⟩
    have s7 := same_new hp7 (.tup xs)
    exact q _ _ ms ((sA.trans (g3.trans s7)).trans (same_new hp8 _)) g1 g2 (is_new hp8 (.cons (hyd1.mono (kt (g3.trans s7))) (.cons (is_new hp7 g5) .nil)))
  · dsimp only [tNil]
    refine fin _ _ _ (same_new hp9 _) (is_new hp9 cat) fun p xs ms H' g1 g2 g3 g4 g5 => ?_
    refine ⟨p, xs, rfl, .inl ⟨SqL.of g4, fun p7 hp7 => ?_⟩⟩
    refine ⟨sz 2, fun p8 hp8 => ?_⟩
    have s7 := same_new hp7 (.tup xs)
    exact q _ _ ms ((sA.trans (g3.trans s7)).trans (same_new hp8 _)) g1 g2 (is_new hp8 (.cons (hyd1.mono (kt (g3.trans s7))) (.cons (is_new hp7 g5) .nil)))
end
end Mw
end
section
set_option maxRecDepth 100000
set_option maxHeartbeats 8000000
/-! what is a name, a layer, a rect, a mark, a use. -/
namespace Mw
open PySem PySem.Spec PyProof.Rows L2
section
variable {X : Cx} {x : Str} {pos : Pos}
theorem pe_gi {n : Int} (h : ∃ t, X.mg x = some (.int n t)) (hg : Gl X x := by rfl) (hd : (x == ("__debug__" : Str)) = false := by decide) : PE X (.Name x pos) (tC (.int n)) := by
  obtain ⟨t, e⟩ := h
  exact pe_glob hg e ⟨t, rfl⟩ hd
theorem pe_gs {z : Str} (h : ∃ t, X.mg x = some (.str z t)) (hg : Gl X x := by rfl) (hd : (x == ("__debug__" : Str)) = false := by decide) : PE X (.Name x pos) (tC (.str z)) := by
  obtain ⟨t, e⟩ := h
  exact pe_glob hg e ⟨t, rfl⟩ hd
theorem op_in_seqK {K : PySem.W.Frag} (h : X.K = K := by rfl) : OpR X (compareOp .In) (rIn K false) := h ▸ op_in_seq
end
/-! ### the constants -/
def layers : Str := "npgwvk"
def small : Str := "abcdefghijklmnopqrstuvwxyz"
structure Cst (mg : Str → Option Value) : Prop where
  c_MOST : ∃ t, mg "MOST" = some (.int 1048576 t)
  c_MOST_LETTERS : ∃ t, mg "MOST_LETTERS" = some (.int 8 t)
  c_MOST_CELLS : ∃ t, mg "MOST_CELLS" = some (.int 12 t)
  c_MOST_RECTS : ∃ t, mg "MOST_RECTS" = some (.int 200 t)
  c_MOST_MARKS : ∃ t, mg "MOST_MARKS" = some (.int 40 t)
  c_MOST_USES : ∃ t, mg "MOST_USES" = some (.int 20 t)
  c_MOST_MOVE : ∃ t, mg "MOST_MOVE" = some (.int 65536 t)
  c_MOST_LAID : ∃ t, mg "MOST_LAID" = some (.int 600 t)
  c_MOST_DEEP : ∃ t, mg "MOST_DEEP" = some (.int 6 t)
  c_LAYERS : ∃ t, mg "LAYERS" = some (.str layers t)
  c_SMALL : ∃ t, mg "SMALL" = some (.str small t)
/-! ### good data -/
structure NameOk (z : Str) : Prop where
  lo : 1 ≤ z.length
  hi : z.length ≤ 8
  sm : ∀ c ∈ z.cps.toList, c ∈ small.cps.toList
abbrev LayOk (z : Str) : Prop := ∃ c, z = ⟨#[c]⟩ ∧ c ∈ layers.cps.toList
abbrev Within (a b x : Int) : Prop := a ≤ x ∧ x ≤ b
abbrev LRectS := LRect Str
abbrev UseS := Use Str
abbrev CellS := Cell Str
abbrev HouseS := House Str
def encL (r : LRectS) : PyData := .tuple [.str r.1, .int r.2.1, .int r.2.2.1, .int r.2.2.2.1, .int r.2.2.2.2]
def encU (u : UseS) : PyData := .tuple [.str u.1, .int u.2.1, .int u.2.2.1, .int u.2.2.2]
structure RectOk (r : LRectS) : Prop where
  lay : LayOk r.1
  a : Within (-1048576) 1048576 r.2.1
  b : Within (-1048576) 1048576 r.2.2.1
  c : Within (-1048576) 1048576 r.2.2.2.1
  d : Within (-1048576) 1048576 r.2.2.2.2
  x : r.2.1 < r.2.2.2.1
  y : r.2.2.1 < r.2.2.2.2
structure MarkOk (m : MarkS) : Prop where
  name : NameOk m.1
  lay : LayOk m.2.1
  nk : m.2.1 ≠ "k"
  a : Within (-1048576) 1048576 m.2.2.1
  b : Within (-1048576) 1048576 m.2.2.2
structure UseOk (u : UseS) : Prop where
  name : NameOk u.1
  turn : Tn u.2.1
  a : Within (-65536) 65536 u.2.2.1
  b : Within (-65536) 65536 u.2.2.2
theorem lrect_inv {H : Hp} {v : V} {r : LRectS} (h : Is H v (encL r)) : ∃ a, v = .ref a ∧ H a = some (.tup [.str r.1, .int r.2.1, .int r.2.2.1, .int r.2.2.2.1, .int r.2.2.2.2]) := by
  obtain ⟨a, xs, rfl, ha, hx⟩ := h.tup_inv
  obtain ⟨v0, r', rfl, h0, hx'⟩ := hx.cons_inv
  obtain ⟨v1, v2, v3, v4, rfl, h1, h2, h3, h4⟩ := hx'.four_inv
  rw [h0.str_inv, h1.int_inv, h2.int_inv, h3.int_inv, h4.int_inv] at ha
  exact ⟨a, rfl, ha⟩
theorem use_inv {H : Hp} {v : V} {u : UseS} (h : Is H v (encU u)) : ∃ a, v = .ref a ∧ H a = some (.tup [.str u.1, .int u.2.1, .int u.2.2.1, .int u.2.2.2]) := by
  obtain ⟨a, xs, rfl, ha, hx⟩ := h.tup_inv
  obtain ⟨v1, v2, v3, v4, rfl, h1, h2, h3, h4⟩ := hx.four_inv
  rw [h1.str_inv, h2.int_inv, h3.int_inv, h4.int_inv] at ha
  exact ⟨a, rfl, ha⟩
theorem trues {n : Nat} {H : Hp} {xs : List V} (h : IsAll H xs ((List.replicate n true).map PyData.bool)) : xs = (List.replicate n true).map V.bl := bools_inv h
theorem all_trues (n : Nat) : (List.replicate n true).all id = true := by
  induction n with
  | zero => rfl
  | succ n ih => rw [List.replicate_succ, List.all_cons, ih]; rfl
theorem true_at {n i : Nat} {d : PyData} (h : ((List.replicate n true).map PyData.bool)[i]? = some d) : d = .bool true := by
  rw [List.map_replicate, List.getElem?_replicate] at h
  split at h
  · exact (Option.some.inj h).symm
  · cases h
theorem cut_from (xs : List V) (k : Nat) (h : k ≤ xs.length) : cutV xs (some (k : Int)) none = xs.drop k := by
  have e1 : HT.sIx xs.length xs.length none = xs.length := rfl
  have e2 : HT.sIx xs.length 0 (some (k : Int)) = k := by
    rw [HT.sIx_nat]
    omega
  unfold cutV
  rw [e1, e2, List.take_of_length_le (by rw [List.length_drop]; exact Nat.le_refl _)]
section
variable {P : Program} {w : World} {K : PySem.W.Frag} {mg : Str → Option Value} {base : Heap} {f g : Addr} {fd gd : FuncData}
def spIsWhole : Sp := fun vs H Q _ => ∃ n, vs = [.int n] ∧ Q (.bl true) H
abbrev s_is_whole : Stmt := top 6
abbrev n_is_whole : List Str := ["thing"]
abbrev p_is_whole : List Str := ["thing"]
theorem sc_is_whole : FnScope n_is_whole p_is_whole (defScope s_is_whole) := ⟨rfl, rfl, rfl, by decide +kernel, rfl, by decide +kernel, by decide +kernel⟩
theorem ok_is_whole (F : Fun K "is_whole" "is_whole" s_is_whole f fd) (T : Txt mg) : FnOk P w K mg base CX0 1 f fd p_is_whole spIsWhole := by
  refine F.ok sc_is_whole (fun vs H Q E h => ?_) (fun cdv A outer s H vs Q E hr h => ?_)
  · obtain ⟨x, rfl, _⟩ := h
    rfl
  obtain ⟨n, rfl, q⟩ := h
  have nd := (sc_is_whole).nd
  refine ⟨_, (pss_one (ps_ret (pe_and (pe_callB call_isi (by rfl) T.b_isinstance (by decide +kernel) (pa_cons (pv 0) (pa_cons (pe_bltn (v := .ty "int") rfl T.b_int rfl rfl) pa_nil))) (pe_one (pe_not (pe_callB call_isi (by rfl) T.b_isinstance (by decide +kernel) (pa_cons (pv 0) (pa_cons (pe_bltn (v := .ty "bool") rfl T.b_bool rfl rfl) pa_nil)))))))), ?_⟩
  refine ⟨_, rfl, .int n, .ty "int", .type "int", .type "int", true, rfl, .ty "int", .base (.int n), kit_ty (by decide +kernel), true, rfl, ?_⟩
  exact ⟨_, rfl, .int n, .ty "bool", .type "int", .type "bool", false, rfl, .ty "bool", .base (.int n), kit_ty (by decide +kernel), false, rfl, q⟩
def spIsWithin : Sp := fun vs H Q _ => ∃ n lo hi, vs = [.int n, .int lo, .int hi] ∧ Within lo hi n ∧ Q (.bl true) H
abbrev s_is_within : Stmt := top 7
abbrev n_is_within : List Str := ["thing", "low", "high"]
abbrev p_is_within : List Str := ["thing", "low", "high"]
theorem sc_is_within : FnScope n_is_within p_is_within (defScope s_is_within) := ⟨rfl, rfl, rfl, by decide +kernel, rfl, by decide +kernel, by decide +kernel⟩
theorem ok_is_within (F : Fun K "is_within" "is_within" s_is_within f fd) (T : Txt mg) (J_is_whole : Has P w K mg base "is_whole" 1 p_is_whole spIsWhole) : FnOk P w K mg base CX0 2 f fd p_is_within spIsWithin := by
  refine F.ok sc_is_within (fun vs H Q E h => ?_) (fun cdv A outer s H vs Q E hr h => ?_)
  · obtain ⟨x, y, z, rfl, _⟩ := h
    rfl
  obtain ⟨n, lo, hi, rfl, hw, q⟩ := h
  have nd := (sc_is_within).nd
  refine ⟨_, (pss_one (ps_ret (pe_and (pe_f J_is_whole hr (pa_cons (pv 0) pa_nil)) (pe_one (pe_chain op_le op_le (pv 1) (pv 0) (pv 2)))))), ?_⟩
  refine ⟨_, rfl, n, rfl, true, rfl, _, rfl, _, rfl, _, _, rfl, rfl, _, rfl, ?_⟩
  rw [decide_eq_true hw.1]
  refine iteT ⟨_, rfl, _, _, rfl, rfl, ?_⟩
  show Q (.bl (decide (n ≤ hi))) H
  rw [decide_eq_true hw.2]
  exact q
def spIsName : Sp := fun vs H Q _ => ∃ z, vs = [.str z] ∧ NameOk z ∧ ∀ H', Same H H' → Q (.bl true) H'
abbrev s_is_name : Stmt := top 33
abbrev n_is_name : List Str := ["thing", "sign"]
abbrev p_is_name : List Str := ["thing"]
theorem sc_is_name : FnScope n_is_name p_is_name (defScope s_is_name) := ⟨rfl, rfl, rfl, by decide +kernel, rfl, by decide +kernel, by decide +kernel⟩
theorem ok_is_name (F : Fun K "is_name" "is_name" s_is_name f fd) (T : Txt mg) (C : Cst mg) : FnOk P w K mg base CX0 1 f fd p_is_name spIsName := by
  refine F.ok sc_is_name (fun vs H Q E h => ?_) (fun cdv A outer s H vs Q E hr h => ?_)
  · obtain ⟨x, rfl, _⟩ := h
    rfl
  obtain ⟨z, rfl, hz, q⟩ := h
  have nd := (sc_is_name).nd
  refine ⟨_, (pss_cons (ps_if (PW.pt (pw_or (pt_not (pt_val (pe_callB call_isi (by rfl) T.b_isinstance (by decide +kernel) (pa_cons (pv 0) (pa_cons (pe_bltn (v := .ty "str") rfl T.b_str rfl rfl) pa_nil))))) (pw_or1 (pt_not (pt_chain op_le op_le pe_int (pe_callB call_len_str (by rfl) T.b_len (by decide +kernel) (pa_cons (pv 0) pa_nil)) (pe_gi C.c_MOST_LETTERS)))))) (pss_one (ps_ret pe_bl)) pss_nil)
  (pss_one (ps_ret (pe_callB (cr_all rfl) (by rfl) T.b_all (by decide +kernel) (pa_cons (pe_lc (own := [("sign", 1)]) rfl nd (pi_str (pv 0)) (blkOk_by (own := [("sign", 1)]) (N := n_is_name) (sc := defScope s_is_name) (by decide +kernel)) (fun _ _ _ _ _ => (pg_name (i := 1) nd rfl (Or.inl rfl))) (fun _ _ _ _ _ => pts_nil) (fun _ _ _ _ _ => (pe_cmpR op_in_sign (pv 1) (pe_gs C.c_SMALL) nomk))) pa_nil))))), ?_⟩
  have z1 := hz.lo
  have z2 := hz.hi
  refine ⟨_, rfl, .str z, .ty "str", .type "str", .type "str", true, rfl, .ty "str", .base (.str z), kit_ty (by decide +kernel), true, rfl, ?_⟩
  refine iteF ?_
  refine ⟨_, rfl, z, rfl, sz _ (by omega), _, _, rfl, rfl, _, rfl, ?_⟩
  have c1 : (1 : Int) ≤ (z.length : Nat) := by omega
  have c2 : (z.length : Int) ≤ 8 := by omega
  rw [decide_eq_true c1]
  refine iteT ⟨_, _, rfl, rfl, _, rfl, ?_⟩
  rw [decide_eq_true c2]
  refine iteF ?_
  refine ⟨_, rfl, z, rfl, fun D hD => lc_map walk_str ((List.replicate z.cps.size true).map PyData.bool) (by rw [List.length_map, List.length_replicate]) (smL (by have : z.cps.size = z.length := rfl; omega)) hD (fun _ _ => trivial) (fun i x H1 H2 d Qk Qs hd s1 hy k => ?_) (fun H1 xs s1 hxs hxd => ?_)⟩
  · obtain ⟨rfl, c, hc, rfl⟩ := hy
    have ed := true_at hd
    subst ed
    have hm : c ∈ small.cps.toList := hz.sm c (by rw [Array.mem_toList_iff]; exact Array.mem_of_getElem? hc)
    refine ⟨rfl, _, rfl, c, small, rfl, rfl, ?_⟩
    rw [decide_eq_true hm]
    exact k _ _ (same_refl _) (.bl true)
  · rw [trues hxd] at hxs
    refine ⟨D, _, rfl, SqL.of hxs, ?_⟩
    rw [all_trues]
    exact q H1 s1
def spIsLayer : Sp := fun vs H Q _ => ∃ z, vs = [.str z] ∧ LayOk z ∧ Q (.bl true) H
abbrev s_is_layer : Stmt := top 34
abbrev n_is_layer : List Str := ["thing"]
abbrev p_is_layer : List Str := ["thing"]
theorem sc_is_layer : FnScope n_is_layer p_is_layer (defScope s_is_layer) := ⟨rfl, rfl, rfl, by decide +kernel, rfl, by decide +kernel, by decide +kernel⟩
theorem ok_is_layer (F : Fun K "is_layer" "is_layer" s_is_layer f fd) (T : Txt mg) (C : Cst mg) : FnOk P w K mg base CX0 1 f fd p_is_layer spIsLayer := by
  refine F.ok sc_is_layer (fun vs H Q E h => ?_) (fun cdv A outer s H vs Q E hr h => ?_)
  · obtain ⟨x, rfl, _⟩ := h
    rfl
  obtain ⟨z, rfl, ⟨c, rfl, hc⟩, q⟩ := h
  have nd := (sc_is_layer).nd
  refine ⟨_, (pss_one (ps_ret (pe_and (pe_callB call_isi (by rfl) T.b_isinstance (by decide +kernel) (pa_cons (pv 0) (pa_cons (pe_bltn (v := .ty "str") rfl T.b_str rfl rfl) pa_nil))) (pe_and (pe_cmpR op_eq (pe_callB call_len_str (by rfl) T.b_len (by decide +kernel) (pa_cons (pv 0) pa_nil)) pe_int nomk) (pe_one (pe_cmpR op_in_sign (pv 0) (pe_gs C.c_LAYERS) nomk)))))), ?_⟩
  refine ⟨_, rfl, .str ⟨#[c]⟩, .ty "str", .type "str", .type "str", true, rfl, .ty "str", .base (.str _), kit_ty (by decide +kernel), true, rfl, ?_⟩
  refine ⟨_, rfl, _, rfl, sz 1, rfl, true, rfl, ?_⟩
  refine ⟨_, rfl, c, layers, rfl, rfl, ?_⟩
  rw [decide_eq_true hc]
  exact q
def spIsFew : Sp := fun vs H Q _ => ∃ a xs n, vs = [.ref a, .int n] ∧ H a = some (.tup xs) ∧ (xs.length : Int) ≤ n ∧ Q (.bl true) H
abbrev s_is_few : Stmt := top 38
abbrev n_is_few : List Str := ["thing", "most"]
abbrev p_is_few : List Str := ["thing", "most"]
theorem sc_is_few : FnScope n_is_few p_is_few (defScope s_is_few) := ⟨rfl, rfl, rfl, by decide +kernel, rfl, by decide +kernel, by decide +kernel⟩
theorem ok_is_few (F : Fun K "is_few" "is_few" s_is_few f fd) (T : Txt mg) : FnOk P w K mg base CX0 1 f fd p_is_few spIsFew := by
  refine F.ok sc_is_few (fun vs H Q E h => ?_) (fun cdv A outer s H vs Q E hr h => ?_)
  · obtain ⟨x, y, z, rfl, _⟩ := h
    rfl
  obtain ⟨a, xs, n, rfl, ha, hn, q⟩ := h
  have nd := (sc_is_few).nd
  refine ⟨_, (pss_one (ps_ret (pe_and (pe_callB call_isi (by rfl) T.b_isinstance (by decide +kernel) (pa_cons (pv 0) (pa_cons (pe_bltn (v := .ty "tuple") rfl T.b_tuple rfl rfl) pa_nil))) (pe_one (pe_cmpR op_le (pe_callB call_len_seq (by rfl) T.b_len (by decide +kernel) (pa_cons (pv 0) pa_nil)) (pv 1) nomk))))), ?_⟩
  refine ⟨_, rfl, .ref a, .ty "tuple", .type "tuple", .type "tuple", true, rfl, .ty "tuple", .base (.tup ha), kit_ty (by decide +kernel), true, rfl, ?_⟩
  refine ⟨_, rfl, a, xs, rfl, .inr (SqT.of ha), _, rfl, _, _, rfl, rfl, ?_⟩
  show Q (.bl (decide ((xs.length : Int) ≤ n))) H
  rw [decide_eq_true hn]
  exact q
/-- a comprehension that tells True of each item -/
theorem all_true {J : It} {n : Nat} {G : Hp → Prop} {Y : Nat → Hp → V → Hp → Prop} {g : TG} {tt : TT} {te : TE} {vs : List Nat} {σ : L2.St} {H1 : Hp} {D : Addr} {Qd : Hp → Prop} (w : Walk J n G Y) (hsz : n ≤ sizeLine) (hD : H1 D = none) (hG : ∀ H, Same H1 H → G H)
    (hs : ∀ i x H H' (Qk : V → Hp → Prop) (Qs : Hp → Prop), i < n → Same H1 H → Y i H x H' → (∀ H4, Same H H4 → Qk (.bl true) H4) →
      g x (wipe σ vs) H' fun σ2 H2 => wipe σ2 vs = wipe σ vs ∧ tt σ2 H2 fun b H3 => if b = true then te σ2 H3 Qk else Qs H3)
    (hd : ∀ H, Same H1 H → H D = some (.lst ((List.replicate n true).map V.bl)) → Qd H) :
    ∃ W : Nat → Nat → Hp → Prop, (∃ m, W 0 m (upd H1 D (.lst []))) ∧ ∀ i m H, W i m H →
      (J.stop i H ∧ Qd H) ∨ (J.go i H ∧ ∃ Nx : Hp → Prop, (∀ H', Nx H' → ∃ m', m' < m ∧ W (i + 1) m' H') ∧ ∀ x H', J.yld i H x H' → g x (wipe σ vs) H' fun σ2 H2 => wipe σ2 vs = wipe σ vs ∧ tt σ2 H2 fun b H3 =>
        if b = true then te σ2 H3 fun y H4 => ∃ acc, H4 D = some (.lst acc) ∧ acc.length < sizeLine ∧ Nx (upd H4 D (.lst (acc ++ [y]))) else Nx H3) :=
  lc_map w ((List.replicate n true).map PyData.bool) (by rw [List.length_map, List.length_replicate]) hsz hD hG (fun i x H H' d Qk Qs hd s y k => by
    have hi : i < n := by
      have := (List.getElem?_eq_some_iff.mp hd).1
      rw [List.length_map, List.length_replicate] at this
      exact this
    have ed := true_at hd
    subst ed
    exact hs i x H H' Qk Qs hi s y fun H4 s4 => k _ _ s4 (.bl true)) (fun H xs s h hx => hd H s (by rw [← trues hx]; exact h))
def spIsRect : Sp := fun vs H Q _ => ∃ v r, vs = [v] ∧ Is H v (encL r) ∧ RectOk r ∧ ∀ H', Same H H' → Q (.bl true) H'
abbrev s_is_rect : Stmt := top 35
abbrev n_is_rect : List Str := ["thing", "corner"]
abbrev p_is_rect : List Str := ["thing"]
theorem sc_is_rect : FnScope n_is_rect p_is_rect (defScope s_is_rect) := ⟨rfl, rfl, rfl, by decide +kernel, rfl, by decide +kernel, by decide +kernel⟩
theorem ok_is_rect (F : Fun K "is_rect" "is_rect" s_is_rect f fd) (T : Txt mg) (C : Cst mg) (J_is_layer : Has P w K mg base "is_layer" 1 p_is_layer spIsLayer) (J_is_within : Has P w K mg base "is_within" 2 p_is_within spIsWithin) : FnOk P w K mg base CX0 3 f fd p_is_rect spIsRect := by
  refine F.ok sc_is_rect (fun vs H Q E h => ?_) (fun cdv A outer s H vs Q E hr h => ?_)
  · obtain ⟨x, y, rfl, _⟩ := h
    rfl
  obtain ⟨v, r, rfl, hv, hr1, q⟩ := h
  have nd := (sc_is_rect).nd
  refine ⟨_, (pss_cons (ps_if (PW.pt (pw_or (pt_not (pt_val (pe_callB call_isi (by rfl) T.b_isinstance (by decide +kernel) (pa_cons (pv 0) (pa_cons (pe_bltn (v := .ty "tuple") rfl T.b_tuple rfl rfl) pa_nil))))) (pw_or (pt_cmpR op_ne (pe_callB call_len_seq (by rfl) T.b_len (by decide +kernel) (pa_cons (pv 0) pa_nil)) pe_int nomk) (pw_or1 (pt_not (pt_val (pe_f J_is_layer hr (pa_cons (pe_ix ix_tup (pv 0) pe_int (fun _ _ => rfl)) pa_nil)))))))) (pss_one (ps_ret pe_bl)) pss_nil)
  (pss_cons (ps_if (pt_not (pt_val (pe_callB (cr_all rfl) (by rfl) T.b_all (by decide +kernel) (pa_cons (pe_lc (own := [("corner", 1)]) rfl nd (pi_tup (pe_slice sl_tupA (pv 0) (po_some pe_int) po_none)) (blkOk_by (own := [("corner", 1)]) (N := n_is_rect) (sc := defScope s_is_rect) (by decide +kernel)) (fun _ _ _ _ _ => (pg_name (i := 1) nd rfl (Or.inl rfl))) (fun _ _ _ _ _ => pts_nil) (fun _ _ _ _ _ => (pe_f J_is_within hr (pa_cons (pv 1) (pa_cons (pe_un un_neg (pe_gi C.c_MOST)) (pa_cons (pe_gi C.c_MOST) pa_nil)))))) pa_nil)))) (pss_one (ps_ret pe_bl)) pss_nil)
  (pss_one (ps_ret (pe_and (pe_cmpR op_lt (pe_ix ix_tup (pv 0) pe_int (fun _ _ => rfl)) (pe_ix ix_tup (pv 0) pe_int (fun _ _ => rfl)) nomk) (pe_one (pe_cmpR op_lt (pe_ix ix_tup (pv 0) pe_int (fun _ _ => rfl)) (pe_ix ix_tup (pv 0) pe_int (fun _ _ => rfl)) nomk))))))), ?_⟩
  obtain ⟨a, rfl, ha⟩ := lrect_inv hv
  refine ⟨_, rfl, .ref a, .ty "tuple", .type "tuple", .type "tuple", true, rfl, .ty "tuple", .base (.tup ha), kit_ty (by decide +kernel), true, rfl, ?_⟩
  refine iteF ?_
  refine ⟨_, rfl, a, _, rfl, .inr (SqT.of ha), rfl, false, rfl, ?_⟩
  refine iteF ?_
  refine ⟨_, rfl, a, _, _, _, rfl, rfl, SqT.of ha, rfl, _, rfl, hr1.lay, true, rfl, ?_⟩
  refine iteF ?_
  refine ⟨_, rfl, _, rfl, a, _, rfl, SqT.of ha, fun z => ?_, fun _ p1 hp1 => ?_⟩
  · exact absurd z.1 (show ¬ (1 : Nat) = 0 by decide)
  refine ⟨p1, rfl, ⟨_, SqT.of upd_same⟩, fun D hD => all_true (walk_tup (K := K) (a := p1) (xs := [.int r.2.1, .int r.2.2.1, .int r.2.2.2.1, .int r.2.2.2.2])) (sz 4) hD (fun H1 s1 => SqT.of (s1 _ _ upd_same)) (fun i x H1 H2 Qk Qs hi s1 hy k => ?_) (fun H1 s1 hxs => ?_)⟩
  · obtain ⟨rfl, hx⟩ := hy
    obtain ⟨n, rfl, hw⟩ : ∃ n, x = .int n ∧ Within (-1048576) 1048576 n := by
      match i, hx with
      | 0, hx => exact ⟨_, (Option.some.inj hx).symm, hr1.a⟩
      | 1, hx => exact ⟨_, (Option.some.inj hx).symm, hr1.b⟩
      | 2, hx => exact ⟨_, (Option.some.inj hx).symm, hr1.c⟩
      | 3, hx => exact ⟨_, (Option.some.inj hx).symm, hr1.d⟩
    exact ⟨rfl, _, rfl, _, rfl, n, _, _, rfl, hw, k _ (same_refl _)⟩
  refine ⟨D, _, rfl, SqL.of hxs, _, rfl, ?_⟩
  rw [all_trues]
  refine iteF ?_
  have s2 := (same_new hp1 _).trans s1
  have ha2 := s2 _ _ ha
  refine ⟨_, rfl, a, _, _, _, rfl, rfl, SqT.of ha2, rfl, _, rfl, a, _, _, _, rfl, rfl, SqT.of ha2, rfl, _, _, rfl, rfl, _, rfl, ?_⟩
  rw [decide_eq_true hr1.x]
  refine iteT ⟨_, rfl, a, _, _, _, rfl, rfl, SqT.of ha2, rfl, _, rfl, a, _, _, _, rfl, rfl, SqT.of ha2, rfl, _, _, rfl, rfl, ?_⟩
  show Q (.bl (decide (r.2.2.1 < r.2.2.2.2))) H1
  rw [decide_eq_true hr1.y]
  exact q H1 s2
def spIsMark : Sp := fun vs H Q _ => ∃ v m, vs = [v] ∧ Is H v (encM m) ∧ MarkOk m ∧ ∀ H', Same H H' → Q (.bl true) H'
abbrev s_is_mark : Stmt := top 36
abbrev n_is_mark : List Str := ["thing", "at"]
abbrev p_is_mark : List Str := ["thing"]
theorem sc_is_mark : FnScope n_is_mark p_is_mark (defScope s_is_mark) := ⟨rfl, rfl, rfl, by decide +kernel, rfl, by decide +kernel, by decide +kernel⟩
theorem ok_is_mark (F : Fun K "is_mark" "is_mark" s_is_mark f fd) (T : Txt mg) (C : Cst mg) (J_is_name : Has P w K mg base "is_name" 1 p_is_name spIsName) (J_is_layer : Has P w K mg base "is_layer" 1 p_is_layer spIsLayer) (J_is_within : Has P w K mg base "is_within" 2 p_is_within spIsWithin) : FnOk P w K mg base CX0 3 f fd p_is_mark spIsMark := by
  refine F.ok sc_is_mark (fun vs H Q E h => ?_) (fun cdv A outer s H vs Q E hr h => ?_)
  · obtain ⟨x, y, rfl, _⟩ := h
    rfl
  obtain ⟨v, m, rfl, hv, hm1, q⟩ := h
  have nd := (sc_is_mark).nd
  refine ⟨_, (pss_cons (ps_if (PW.pt (pw_or (pt_not (pt_val (pe_callB call_isi (by rfl) T.b_isinstance (by decide +kernel) (pa_cons (pv 0) (pa_cons (pe_bltn (v := .ty "tuple") rfl T.b_tuple rfl rfl) pa_nil))))) (pw_or (pt_cmpR op_ne (pe_callB call_len_seq (by rfl) T.b_len (by decide +kernel) (pa_cons (pv 0) pa_nil)) pe_int nomk) (pw_or (pt_not (pt_val (pe_f J_is_name hr (pa_cons (pe_ix ix_tup (pv 0) pe_int (fun _ _ => rfl)) pa_nil)))) (pw_or1 (pt_not (pt_val (pe_f J_is_layer hr (pa_cons (pe_ix ix_tup (pv 0) pe_int (fun _ _ => rfl)) pa_nil))))))))) (pss_one (ps_ret pe_bl)) pss_nil)
  (pss_one (ps_ret (pe_and (pe_cmpR op_ne (pe_ix ix_tup (pv 0) pe_int (fun _ _ => rfl)) pe_str nomk) (pe_one (pe_callB (cr_all rfl) (by rfl) T.b_all (by decide +kernel) (pa_cons (pe_lc (own := [("at", 1)]) rfl nd (pi_tup (pe_slice sl_tupA (pv 0) (po_some pe_int) po_none)) (blkOk_by (own := [("at", 1)]) (N := n_is_mark) (sc := defScope s_is_mark) (by decide +kernel)) (fun _ _ _ _ _ => (pg_name (i := 1) nd rfl (Or.inl rfl))) (fun _ _ _ _ _ => pts_nil) (fun _ _ _ _ _ => (pe_f J_is_within hr (pa_cons (pv 1) (pa_cons (pe_un un_neg (pe_gi C.c_MOST)) (pa_cons (pe_gi C.c_MOST) pa_nil)))))) pa_nil))))))), ?_⟩
  obtain ⟨a, rfl, ha⟩ := mark_inv hv
  refine ⟨_, rfl, .ref a, .ty "tuple", .type "tuple", .type "tuple", true, rfl, .ty "tuple", .base (.tup ha), kit_ty (by decide +kernel), true, rfl, ?_⟩
  refine iteF ?_
  refine ⟨_, rfl, a, _, rfl, .inr (SqT.of ha), rfl, false, rfl, ?_⟩
  refine iteF ?_
  refine ⟨_, rfl, a, _, _, _, rfl, rfl, SqT.of ha, rfl, _, rfl, hm1.name, fun Ha sa => ⟨true, rfl, ?_⟩⟩
  refine iteF ?_
  have haa := sa _ _ ha
  refine ⟨_, rfl, a, _, _, _, rfl, rfl, SqT.of haa, rfl, _, rfl, hm1.lay, true, rfl, ?_⟩
  refine iteF ?_
  refine ⟨_, rfl, a, _, _, _, rfl, rfl, SqT.of haa, rfl, rfl, (!decide (V.str m.2.1 = V.str "k")), ?_, ?_⟩
  · first | rfl | simp
  have hk : ¬ (V.str m.2.1 = V.str "k") := fun z => hm1.nk (V.str.inj z)
  rw [decide_eq_false hk]
  refine iteT ?_
  refine ⟨_, rfl, _, rfl, a, _, rfl, SqT.of haa, fun z => ?_, fun _ p1 hp1 => ?_⟩
  · exact absurd z.1 (show ¬ (2 : Nat) = 0 by decide)
  refine ⟨p1, rfl, ⟨_, SqT.of upd_same⟩, fun D hD => all_true (walk_tup (K := K) (a := p1) (xs := [.int m.2.2.1, .int m.2.2.2])) (sz 2) hD (fun H1 s1 => SqT.of (s1 _ _ upd_same)) (fun i x H1 H2 Qk Qs hi s1 hy k => ?_) (fun H1 s1 hxs => ?_)⟩
  · obtain ⟨rfl, hx⟩ := hy
    obtain ⟨n, rfl, hw⟩ : ∃ n, x = .int n ∧ Within (-1048576) 1048576 n := by
      match i, hx with
      | 0, hx => exact ⟨_, (Option.some.inj hx).symm, hm1.a⟩
      | 1, hx => exact ⟨_, (Option.some.inj hx).symm, hm1.b⟩
    exact ⟨rfl, _, rfl, _, rfl, n, _, _, rfl, hw, k _ (same_refl _)⟩
  refine ⟨D, _, rfl, SqL.of hxs, ?_⟩
  rw [all_trues]
  exact q H1 (sa.trans ((same_new hp1 _).trans s1))
def spIsUse : Sp := fun vs H Q _ => ∃ v u, vs = [v] ∧ Is H v (encU u) ∧ UseOk u ∧ ∀ H', Same H H' → Q (.bl true) H'
abbrev s_is_use : Stmt := top 37
abbrev n_is_use : List Str := ["thing", "by"]
abbrev p_is_use : List Str := ["thing"]
theorem sc_is_use : FnScope n_is_use p_is_use (defScope s_is_use) := ⟨rfl, rfl, rfl, by decide +kernel, rfl, by decide +kernel, by decide +kernel⟩
theorem ok_is_use (F : Fun K "is_use" "is_use" s_is_use f fd) (T : Txt mg) (C : Cst mg) (J_is_name : Has P w K mg base "is_name" 1 p_is_name spIsName) (J_is_within : Has P w K mg base "is_within" 2 p_is_within spIsWithin) : FnOk P w K mg base CX0 3 f fd p_is_use spIsUse := by
  refine F.ok sc_is_use (fun vs H Q E h => ?_) (fun cdv A outer s H vs Q E hr h => ?_)
  · obtain ⟨x, y, rfl, _⟩ := h
    rfl
  obtain ⟨v, m, rfl, hv, hm1, q⟩ := h
  have nd := (sc_is_use).nd
  refine ⟨_, (pss_cons (ps_if (PW.pt (pw_or (pt_not (pt_val (pe_callB call_isi (by rfl) T.b_isinstance (by decide +kernel) (pa_cons (pv 0) (pa_cons (pe_bltn (v := .ty "tuple") rfl T.b_tuple rfl rfl) pa_nil))))) (pw_or (pt_cmpR op_ne (pe_callB call_len_seq (by rfl) T.b_len (by decide +kernel) (pa_cons (pv 0) pa_nil)) pe_int nomk) (pw_or (pt_not (pt_val (pe_f J_is_name hr (pa_cons (pe_ix ix_tup (pv 0) pe_int (fun _ _ => rfl)) pa_nil)))) (pw_or1 (pt_not (pt_val (pe_f J_is_within hr (pa_cons (pe_ix ix_tup (pv 0) pe_int (fun _ _ => rfl)) (pa_cons pe_int (pa_cons pe_int pa_nil))))))))))) (pss_one (ps_ret pe_bl)) pss_nil)
  (pss_one (ps_ret (pe_callB (cr_all rfl) (by rfl) T.b_all (by decide +kernel) (pa_cons (pe_lc (own := [("by", 1)]) rfl nd (pi_tup (pe_slice sl_tupA (pv 0) (po_some pe_int) po_none)) (blkOk_by (own := [("by", 1)]) (N := n_is_use) (sc := defScope s_is_use) (by decide +kernel)) (fun _ _ _ _ _ => (pg_name (i := 1) nd rfl (Or.inl rfl))) (fun _ _ _ _ _ => pts_nil) (fun _ _ _ _ _ => (pe_f J_is_within hr (pa_cons (pv 1) (pa_cons (pe_un un_neg (pe_gi C.c_MOST_MOVE)) (pa_cons (pe_gi C.c_MOST_MOVE) pa_nil)))))) pa_nil))))), ?_⟩
  obtain ⟨a, rfl, ha⟩ := use_inv hv
  refine ⟨_, rfl, .ref a, .ty "tuple", .type "tuple", .type "tuple", true, rfl, .ty "tuple", .base (.tup ha), kit_ty (by decide +kernel), true, rfl, ?_⟩
  refine iteF ?_
  refine ⟨_, rfl, a, _, rfl, .inr (SqT.of ha), rfl, false, rfl, ?_⟩
  refine iteF ?_
  refine ⟨_, rfl, a, _, _, _, rfl, rfl, SqT.of ha, rfl, _, rfl, hm1.name, fun Ha sa => ⟨true, rfl, ?_⟩⟩
  refine iteF ?_
  have haa := sa _ _ ha
  refine ⟨_, rfl, a, _, _, _, rfl, rfl, SqT.of haa, rfl, _, _, _, rfl, hm1.turn, true, rfl, ?_⟩
  refine iteF ?_
  refine ⟨_, rfl, _, rfl, a, _, rfl, SqT.of haa, fun z => ?_, fun _ p1 hp1 => ?_⟩
  · exact absurd z.1 (show ¬ (2 : Nat) = 0 by decide)
  refine ⟨p1, rfl, ⟨_, SqT.of upd_same⟩, fun D hD => all_true (walk_tup (K := K) (a := p1) (xs := [.int m.2.2.1, .int m.2.2.2])) (sz 2) hD (fun H1 s1 => SqT.of (s1 _ _ upd_same)) (fun i x H1 H2 Qk Qs hi s1 hy k => ?_) (fun H1 s1 hxs => ?_)⟩
  · obtain ⟨rfl, hx⟩ := hy
    obtain ⟨n, rfl, hw⟩ : ∃ n, x = .int n ∧ Within (-65536) 65536 n := by
      match i, hx with
      | 0, hx => exact ⟨_, (Option.some.inj hx).symm, hm1.a⟩
      | 1, hx => exact ⟨_, (Option.some.inj hx).symm, hm1.b⟩
    exact ⟨rfl, _, rfl, _, rfl, n, _, _, rfl, hw, k _ (same_refl _)⟩
  refine ⟨D, _, rfl, SqL.of hxs, ?_⟩
  rw [all_trues]
  exact q H1 (sa.trans ((same_new hp1 _).trans s1))
end
end Mw
end
section
set_option maxRecDepth 100000
set_option maxHeartbeats 8000000
/-! what is a cell, a house. -/
namespace Mw
open PySem PySem.Spec PyProof.Rows L2
def encCell (c : CellS) : PyData := .tuple [.str c.1, .tuple (c.2.1.map encL), .tuple (c.2.2.1.map encM), .tuple (c.2.2.2.map encU)]
def encHouse (h : HouseS) : PyData := .tuple (h.map encCell)
structure CellGood (ns : List Str) (c : CellS) : Prop where
  name : NameOk c.1
  new : c.1 ∉ ns
  nr : c.2.1.length ≤ 200
  nm : c.2.2.1.length ≤ 40
  nu : c.2.2.2.length ≤ 20
  rects : ∀ r ∈ c.2.1, RectOk r
  marks : ∀ m ∈ c.2.2.1, MarkOk m
  uses : ∀ u ∈ c.2.2.2, UseOk u ∧ u.1 ∈ ns
def HouseGood : List Str → HouseS → Prop
  | _, [] => True
  | ns, c :: h => CellGood ns c ∧ HouseGood (ns ++ [c.1]) h
structure CellAt (H : Hp) (a ra ma ua : Addr) (xs ys zs : List V) (c : CellS) : Prop where
  ob : H a = some (.tup [.str c.1, .ref ra, .ref ma, .ref ua])
  hr : H ra = some (.tup xs)
  hm : H ma = some (.tup ys)
  hu : H ua = some (.tup zs)
  dr : IsAll H xs (c.2.1.map encL)
  dm : IsAll H ys (c.2.2.1.map encM)
  du : IsAll H zs (c.2.2.2.map encU)
theorem cell_inv {H : Hp} {v : V} {c : CellS} (h : Is H v (encCell c)) : ∃ a ra ma ua xs ys zs, v = .ref a ∧ CellAt H a ra ma ua xs ys zs c := by
  obtain ⟨a, xs, rfl, ha, hx⟩ := h.tup_inv
  obtain ⟨v1, v2, v3, v4, rfl, h1, h2, h3, h4⟩ := hx.four_inv
  obtain ⟨ra, xs, rfl, h5, h6⟩ := h2.tup_inv
  obtain ⟨ma, ys, rfl, h7, h8⟩ := h3.tup_inv
  obtain ⟨ua, zs, rfl, h9, h10⟩ := h4.tup_inv
  rw [h1.str_inv] at ha
  exact ⟨a, ra, ma, ua, xs, ys, zs, rfl, ha, h5, h7, h9, h6, h8, h10⟩
theorem CellAt.is {H : Hp} {a ra ma ua : Addr} {xs ys zs : List V} {c : CellS} (C : CellAt H a ra ma ua xs ys zs c) : Is H (.ref a) (encCell c) :=
  .tup C.ob (.cons (.str _) (.cons (.tup C.hr C.dr) (.cons (.tup C.hm C.dm) (.cons (.tup C.hu C.du) .nil))))
theorem CellAt.mono {H H' : Hp} {a ra ma ua : Addr} {xs ys zs : List V} {c : CellS} (k : KT H H') (C : CellAt H a ra ma ua xs ys zs c) : CellAt H' a ra ma ua xs ys zs c :=
  ⟨k _ _ C.ob, k _ _ C.hr, k _ _ C.hm, k _ _ C.hu, C.dr.mono k, C.dm.mono k, C.du.mono k⟩
theorem inV_strs (z : Str) (ns : List Str) : inV (.str z) (ns.map V.str) = decide (z ∈ ns) := by
  unfold inV
  rw [List.any_map]
  induction ns with
  | nil => rfl
  | cons n ns ih =>
    rw [List.any_cons, ih]
    by_cases e : n = z
    · subst e
      simp [eqV]
    · have e' : ¬ z = n := fun q => e q.symm
      simp [eqV, e, e']
theorem flat_strs' (ns : List Str) : (ns.map V.str).all flatV = true := by
  rw [List.all_map, List.all_eq_true]
  intro x _
  rfl
section
variable {P : Program} {w : World} {K : PySem.W.Frag} {mg : Str → Option Value} {base : Heap} {f g : Addr} {fd gd : FuncData}
def spIsCell : Sp := fun vs H Q _ => ∃ v p c ns, vs = [v, .ref p] ∧ Is H v (encCell c) ∧ H p = some (.lst (ns.map V.str)) ∧ CellGood ns c ∧ ∀ H', Same H H' → Q (.bl true) H'
abbrev s_is_cell : Stmt := top 39
abbrev n_is_cell : List Str := ["thing", "names", "rect", "mark", "use"]
abbrev p_is_cell : List Str := ["thing", "names"]
theorem sc_is_cell : FnScope n_is_cell p_is_cell (defScope s_is_cell) := ⟨rfl, rfl, rfl, by decide +kernel, rfl, by decide +kernel, by decide +kernel⟩
theorem ok_is_cell (F : Fun K "is_cell" "is_cell" s_is_cell f fd) (T : Txt mg) (C : Cst mg) (J_is_name : Has P w K mg base "is_name" 1 p_is_name spIsName) (J_is_few : Has P w K mg base "is_few" 1 p_is_few spIsFew) (J_is_rect : Has P w K mg base "is_rect" 3 p_is_rect spIsRect)
    (J_is_mark : Has P w K mg base "is_mark" 3 p_is_mark spIsMark) (J_is_use : Has P w K mg base "is_use" 3 p_is_use spIsUse) : FnOk P w K mg base CX0 4 f fd p_is_cell spIsCell := by
  refine F.ok sc_is_cell (fun vs H Q E h => ?_) (fun cdv A outer s H vs Q E hr h => ?_)
  · obtain ⟨x, y, z, t, rfl, _⟩ := h
    rfl
  obtain ⟨v, p, c, ns, rfl, hv, hp, hg, q⟩ := h
  have nd := (sc_is_cell).nd
  refine ⟨_, (pss_cons (ps_if (PW.pt (pw_or (pt_not (pt_val (pe_callB call_isi (by rfl) T.b_isinstance (by decide +kernel) (pa_cons (pv 0) (pa_cons (pe_bltn (v := .ty "tuple") rfl T.b_tuple rfl rfl) pa_nil))))) (pw_or (pt_cmpR op_ne (pe_callB call_len_seq (by rfl) T.b_len (by decide +kernel) (pa_cons (pv 0) pa_nil)) pe_int nomk) (pw_or (pt_not (pt_val (pe_f J_is_name hr (pa_cons (pe_ix ix_tup (pv 0) pe_int (fun _ _ => rfl)) pa_nil)))) (pw_or1 (pt_cmpR op_in_seq (pe_ix ix_tup (pv 0) pe_int (fun _ _ => rfl)) (pv 1) nomk)))))) (pss_one (ps_ret pe_bl)) pss_nil)
  (pss_cons (ps_if (PW.pt (pw_or (pt_not (pt_val (pe_f J_is_few hr (pa_cons (pe_ix ix_tup (pv 0) pe_int (fun _ _ => rfl)) (pa_cons (pe_gi C.c_MOST_RECTS) pa_nil))))) (pw_or (pt_not (pt_val (pe_f J_is_few hr (pa_cons (pe_ix ix_tup (pv 0) pe_int (fun _ _ => rfl)) (pa_cons (pe_gi C.c_MOST_MARKS) pa_nil))))) (pw_or1 (pt_not (pt_val (pe_f J_is_few hr (pa_cons (pe_ix ix_tup (pv 0) pe_int (fun _ _ => rfl)) (pa_cons (pe_gi C.c_MOST_USES) pa_nil))))))))) (pss_one (ps_ret pe_bl)) pss_nil)
  (pss_cons (ps_if (PW.pt (pw_or (pt_not (pt_val (pe_callB (cr_all rfl) (by rfl) T.b_all (by decide +kernel) (pa_cons (pe_lc (own := [("rect", 2)]) rfl nd (pi_tup (pe_ix ix_tup (pv 0) pe_int (fun _ _ => rfl))) (blkOk_by (own := [("rect", 2)]) (N := n_is_cell) (sc := defScope s_is_cell) (by decide +kernel)) (fun _ _ _ _ _ => (pg_name (i := 2) nd rfl (Or.inl rfl))) (fun _ _ _ _ _ => pts_nil) (fun _ _ _ _ _ => (pe_f J_is_rect hr (pa_cons (pv 2) pa_nil)))) pa_nil)))) (pw_or1 (pt_not (pt_val (pe_callB (cr_all rfl) (by rfl) T.b_all (by decide +kernel) (pa_cons (pe_lc (own := [("mark", 3)]) rfl nd (pi_tup (pe_ix ix_tup (pv 0) pe_int (fun _ _ => rfl))) (blkOk_by (own := [("mark", 3)]) (N := n_is_cell) (sc := defScope s_is_cell) (by decide +kernel)) (fun _ _ _ _ _ => (pg_name (i := 3) nd rfl (Or.inl rfl))) (fun _ _ _ _ _ => pts_nil) (fun _ _ _ _ _ => (pe_f J_is_mark hr (pa_cons (pv 3) pa_nil)))) pa_nil))))))) (pss_one (ps_ret pe_bl)) pss_nil)
  (pss_one (ps_ret (pe_callB (cr_all rfl) (by rfl) T.b_all (by decide +kernel) (pa_cons (pe_lc (own := [("use", 4)]) rfl nd (pi_tup (pe_ix ix_tup (pv 0) pe_int (fun _ _ => rfl))) (blkOk_by (own := [("use", 4)]) (N := n_is_cell) (sc := defScope s_is_cell) (by decide +kernel)) (fun _ _ _ _ _ => (pg_name (i := 4) nd rfl (Or.inl rfl))) (fun _ _ _ _ _ => pts_nil) (fun _ _ _ _ _ => (pe_and (pe_f J_is_use hr (pa_cons (pv 4) pa_nil)) (pe_one (pe_cmpR (op_in_seqK (K := K)) (pe_ix (ix_tupK (K := K)) (pv 4) pe_int (fun _ _ => rfl)) (pv 1) nomk))))) pa_nil))))))), ?_⟩
  obtain ⟨a, ra, ma, ua, xs, ys, zs, rfl, A0⟩ := cell_inv hv
  have hxl : xs.length = c.2.1.length := by rw [A0.dr.length, List.length_map]
  have hyl : ys.length = c.2.2.1.length := by rw [A0.dm.length, List.length_map]
  have hzl : zs.length = c.2.2.2.length := by rw [A0.du.length, List.length_map]
  have g1 := hg.nr
  have g2 := hg.nm
  have g3 := hg.nu
  refine ⟨_, rfl, .ref a, .ty "tuple", .type "tuple", .type "tuple", true, rfl, .ty "tuple", .base (.tup A0.ob), kit_ty (by decide +kernel), true, rfl, ?_⟩
  refine iteF ?_
  refine ⟨_, rfl, a, _, rfl, .inr (SqT.of A0.ob), rfl, false, rfl, ?_⟩
  refine iteF ?_
  refine ⟨_, rfl, a, _, _, _, rfl, rfl, SqT.of A0.ob, rfl, _, rfl, hg.name, fun H1 s1 => ⟨true, rfl, ?_⟩⟩
  refine iteF ?_
  have A1 := A0.mono (kt s1)
  have hp1 := s1 _ _ hp
  refine ⟨_, rfl, a, _, _, _, rfl, rfl, SqT.of A1.ob, rfl, _, rfl, p, _, rfl, .inl (SqL.of hp1), rfl, flat_strs' ns, inV (.str c.1) (ns.map V.str), rfl, ?_⟩
  rw [inV_strs, decide_eq_false hg.new]
  refine iteF ?_
  refine ⟨_, rfl, a, _, _, _, rfl, rfl, SqT.of A1.ob, rfl, ra, xs, _, rfl, A1.hr, by omega, true, rfl, ?_⟩
  refine iteF ?_
  refine ⟨_, rfl, a, _, _, _, rfl, rfl, SqT.of A1.ob, rfl, ma, ys, _, rfl, A1.hm, by omega, true, rfl, ?_⟩
  refine iteF ?_
  refine ⟨_, rfl, a, _, _, _, rfl, rfl, SqT.of A1.ob, rfl, ua, zs, _, rfl, A1.hu, by omega, true, rfl, ?_⟩
  refine iteF ?_
  -- rects
  refine ⟨_, rfl, a, _, _, _, rfl, rfl, SqT.of A1.ob, rfl, ra, rfl, ⟨_, SqT.of A1.hr⟩, fun D1 hD1 => all_true (walk_tup (K := K) (a := ra) (xs := xs)) (smL (by omega)) hD1 (fun H2 s2 => SqT.of (s2 _ _ A1.hr)) (fun i x H2 H3 Qk Qs hi s2 hy k => ?_) (fun H2 s2 hD1' => ?_)⟩
  · obtain ⟨rfl, hx⟩ := hy
    obtain ⟨r, hr, hv⟩ := at_map A1.dr hx
    exact ⟨rfl, _, rfl, x, r, rfl, hv.mono (kt s2), hg.rects r (List.mem_of_getElem? hr), fun H4 s4 => k _ s4⟩
  refine ⟨D1, _, rfl, SqL.of hD1', _, rfl, ?_⟩
  rw [all_trues]
  refine iteF ?_
  have A2 := A1.mono (kt s2)
  -- marks
  refine ⟨_, rfl, a, _, _, _, rfl, rfl, SqT.of A2.ob, rfl, ma, rfl, ⟨_, SqT.of A2.hm⟩, fun D2 hD2 => all_true (walk_tup (K := K) (a := ma) (xs := ys)) (smL (by omega)) hD2 (fun H3 s3 => SqT.of (s3 _ _ A2.hm)) (fun i x H3 H4 Qk Qs hi s3 hy k => ?_) (fun H3 s3 hD2' => ?_)⟩
  · obtain ⟨rfl, hx⟩ := hy
    obtain ⟨r, hr, hv⟩ := at_map A2.dm hx
    exact ⟨rfl, _, rfl, x, r, rfl, hv.mono (kt s3), hg.marks r (List.mem_of_getElem? hr), fun H4 s4 => k _ s4⟩
  refine ⟨D2, _, rfl, SqL.of hD2', _, rfl, ?_⟩
  rw [all_trues]
  refine iteF ?_
  have A3 := A2.mono (kt s3)
  have hp3 := s3 _ _ (s2 _ _ hp1)
  -- uses
  refine ⟨_, rfl, a, _, _, _, rfl, rfl, SqT.of A3.ob, rfl, ua, rfl, ⟨_, SqT.of A3.hu⟩, fun D3 hD3 => all_true (walk_tup (K := K) (a := ua) (xs := zs)) (smL (by omega)) hD3 (fun H4 s4 => SqT.of (s4 _ _ A3.hu)) (fun i x H4 H5 Qk Qs hi s4 hy k => ?_) (fun H4 s4 hD3' => ?_)⟩
  · obtain ⟨rfl, hx⟩ := hy
    obtain ⟨u, hu, hv⟩ := at_map A3.du hx
    have hu2 := hg.uses u (List.mem_of_getElem? hu)
    obtain ⟨t, rfl, ht⟩ := use_inv (hv.mono (kt s4))
    refine ⟨rfl, _, rfl, .ref t, u, rfl, hv.mono (kt s4), hu2.1, fun H6 s6 => ⟨true, rfl, ?_⟩⟩
    refine ⟨_, rfl, t, _, _, _, rfl, rfl, SqT.of (s6 _ _ ht), rfl, _, rfl, p, _, rfl, .inl (SqL.of (s6 _ _ (s4 _ _ hp3))), rfl, flat_strs' ns, ?_⟩
    show Qk (.bl (inV (.str u.1) (ns.map V.str))) H6
    rw [inV_strs, decide_eq_true hu2.2]
    exact k _ s6
  · refine ⟨D3, _, rfl, SqL.of hD3', ?_⟩
    rw [all_trues]
    exact q H4 (s1.trans (s2.trans (s3.trans s4)))
def spIsHouse : Sp := fun vs H Q _ => ∃ v h, vs = [v] ∧ Is H v (encHouse h) ∧ HouseGood [] h ∧ h.length ≤ 12 ∧ ∀ H', Same H H' → Q (.bl true) H'
theorem HouseGood.at : ∀ {h : HouseS} {ns : List Str} {i : Nat} {c : CellS}, HouseGood ns h → h[i]? = some c → CellGood (ns ++ (h.take i).map (·.1)) c
  | [], _, i, c, _, e => by simp at e
  | d :: h, ns, 0, c, k, e => by
    cases e
    simpa using k.1
  | d :: h, ns, i + 1, c, k, e => by
    have := HouseGood.at (i := i) (c := c) k.2 (by simpa using e)
    rw [List.take_succ_cons, List.map_cons]
    rw [List.append_assoc] at this
    exact this
abbrev s_is_house : Stmt := top 40
abbrev n_is_house : List Str := ["thing", "names", "cell"]
abbrev p_is_house : List Str := ["thing"]
theorem sc_is_house : FnScope n_is_house p_is_house (defScope s_is_house) := ⟨rfl, rfl, rfl, by decide +kernel, rfl, by decide +kernel, by decide +kernel⟩
theorem ok_is_house (F : Fun K "is_house" "is_house" s_is_house f fd) (T : Txt mg) (C : Cst mg) (J_is_few : Has P w K mg base "is_few" 1 p_is_few spIsFew) (J_is_cell : Has P w K mg base "is_cell" 4 p_is_cell spIsCell) : FnOk P w K mg base CX0 5 f fd p_is_house spIsHouse := by
  refine F.ok sc_is_house (fun vs H Q E h => ?_) (fun cdv A outer s H vs Q E hr h => ?_)
  · obtain ⟨x, y, rfl, _⟩ := h
    rfl
  obtain ⟨v, h, rfl, hv, hg, hl, q⟩ := h
  have nd := (sc_is_house).nd
  refine ⟨_, (pss_cons (ps_if (pt_not (pt_val (pe_f J_is_few hr (pa_cons (pv 0) (pa_cons (pe_gi C.c_MOST_CELLS) pa_nil))))) (pss_one (ps_ret pe_bl)) pss_nil)
  (pss_cons (ps_set (i := 1) nd rfl (Or.inl rfl) (pe_lst pa_nil))
  (pss_cons (ps_for PassesOwn.never rfl (pi_tup (pv 0)) (pg_name (i := 2) nd rfl (Or.inl rfl))
  (pss_cons (ps_if (pt_not (pt_val (pe_f J_is_cell hr (pa_cons (pv 2) (pa_cons (pv 1) pa_nil))))) (pss_one (ps_ret pe_bl)) pss_nil)
  (pss_one (ps_expr (pe_bm PySem.F.plainAttrs_list PySem.F.slot_list_append PySem.F.type_list_append mt_append (pv 1) (pa_cons (pe_ix ix_tup (pv 2) pe_int (fun _ _ => rfl)) pa_nil))))))
  (pss_one (ps_ret pe_bl))))), ?_⟩
  obtain ⟨ha, xs, rfl, hha, hx⟩ := hv.tup_inv
  have hxl : xs.length = h.length := by rw [hx.length, List.length_map]
  refine ⟨_, rfl, ha, xs, _, rfl, hha, by omega, true, rfl, ?_⟩
  refine iteF ?_
  refine ⟨sz 0, fun no hno => ?_⟩
  have s0 := same_new hno (.lst [])
  have nha : ha ≠ no := ne_of_none hha hno
  refine ⟨_, rfl, ha, rfl, ⟨_, SqT.of (s0 _ _ hha)⟩, for_it (walk_tup (K := K) (a := ha) (xs := xs)) (fun i σ H' => ∃ x2, σ = [some (.ref ha), some (.ref no), x2] ∧ SB no (upd H no (.lst [])) H' ∧ H' no = some (.lst (((h.take i).map (·.1)).map V.str))) ?_ (fun i σ H' _ hp => ?_) (fun i x σ H1 H2 hi hp hy => ?_) (fun σ H1 hp => ?_)⟩
  · exact ⟨_, rfl, SB.refl, upd_same⟩
  · obtain ⟨x2, rfl, sb, _⟩ := hp
    exact SqT.of (sb _ _ (s0 _ _ hha) nha)
  · obtain ⟨x2, rfl, sb, hn⟩ := hp
    obtain ⟨rfl, hxi⟩ := hy
    obtain ⟨c, hc, hv⟩ := at_map hx hxi
    have sH := same_of hno s0 sb
    have cg := hg.at hc
    rw [List.nil_append] at cg
    have hv2 := hv.mono (kt sH)
    refine ⟨_, rfl, _, rfl, x, no, c, _, rfl, hv2, hn, cg, fun H3 s3 => ⟨true, rfl, ?_⟩⟩
    refine iteF ?_
    obtain ⟨a, ra, ma, ua, xs', ys, zs, rfl, A0⟩ := cell_inv (hv2.mono (kt s3))
    have hn3 := s3 _ _ hn
    refine ⟨_, rfl, .inl ⟨rfl, _, SqL.of hn3⟩, _, rfl, a, _, _, _, rfl, rfl, SqT.of A0.ob, rfl, no, _, _, rfl, rfl, hn3, sm (by simp only [List.length_map, List.length_take]; omega), ?_⟩
    refine ⟨_, rfl, sb.trans ((sb_same s3).trans (sb_upd _)), ?_⟩
    rw [upd_same, List.take_add_one, hc, List.map_append, List.map_append]
    rfl
  · obtain ⟨x2, rfl, sb, hn⟩ := hp
    exact q H1 (same_of hno s0 sb)
end
end Mw
end
section
set_option maxRecDepth 100000
set_option maxHeartbeats 8000000
/-! sizes. -/
namespace Mw
open PySem PySem.Spec PyProof.Rows L2
/-! ### a dict from names to data -/
structure DAll {α : Type} (enc : α → PyData) (H : Hp) (kvs : List (Key × V)) (l : List (Str × α)) : Prop where
  keys : kvs.map (·.1) = l.map fun p => (Sum.inr p.1 : Key)
  vals : IsAll H (kvs.map (·.2)) (l.map fun p => enc p.2)
section
variable {α : Type} {enc : α → PyData} {H H' : Hp} {kvs : List (Key × V)} {l : List (Str × α)}
theorem DAll.mono (k : KT H H') (D : DAll enc H kvs l) : DAll enc H' kvs l := ⟨D.keys, D.vals.mono k⟩
theorem DAll.length (D : DAll enc H kvs l) : kvs.length = l.length := by
  have := congrArg List.length D.keys
  rwa [List.length_map, List.length_map] at this
theorem DAll.nil : DAll enc H [] [] := ⟨rfl, .nil⟩
theorem DAll.snoc (D : DAll enc H kvs l) {n : Str} {v : V} {a : α} (h : Is H v (enc a)) : DAll enc H (kvs ++ [((.inr n : Key), v)]) (l ++ [(n, a)]) := by
  refine ⟨by rw [List.map_append, List.map_append, D.keys]; rfl, ?_⟩
  rw [List.map_append, List.map_append]
  exact D.vals.snoc h
theorem DAll.look : ∀ {kvs : List (Key × V)} {l : List (Str × α)}, DAll enc H kvs l → ∀ n : Str, (look l n = none ∧ valV kvs (.inr n : Key) = none) ∨ ∃ a v, look l n = some a ∧ valV kvs (.inr n : Key) = some v ∧ Is H v (enc a)
  | [], [], _, n => .inl ⟨rfl, rfl⟩
  | [], _ :: _, D, _ => by have := D.length; simp at this
  | _ :: _, [], D, _ => by have := D.length; simp at this
  | (k, v) :: kvs, (m, a) :: l, D, n => by
    have hk := D.keys
    rw [List.map_cons, List.map_cons] at hk
    injection hk with hk1 hk2
    have hv := D.vals
    rw [List.map_cons, List.map_cons] at hv
    obtain ⟨v', r, e, h1, h2⟩ := hv.cons_inv
    injection e with e1 e2
    subst e1 e2
    dsimp only at hk1
    subst hk1
    by_cases c : m = n
    · subst c
      refine .inr ⟨a, v, ?_, ?_, h1⟩
      · show (if m = m then some a else _) = _
        rw [if_pos rfl]
      · unfold valV
        rw [List.find?_cons, decide_eq_true rfl]
        rfl
    · have c' : ¬ ((Sum.inr m : Key) = Sum.inr n) := fun z => c (Sum.inr.inj z)
      have e1 : Mw.look ((m, a) :: l) n = Mw.look l n := by
        show (if m = n then some a else _) = _
        rw [if_neg c]
      have e2 : valV (((Sum.inr m : Key), v) :: kvs) (.inr n : Key) = valV kvs (.inr n : Key) := by
        unfold valV
        rw [List.find?_cons, decide_eq_false c']
      rw [e1, e2]
      exact DAll.look ⟨hk2, h2⟩ n
end
theorem look_none {α : Type} : ∀ {l : List (Str × α)} {n : Str}, n ∉ l.map (·.1) → look l n = none
  | [], _, _ => rfl
  | c :: l, n, h => by
    show (if c.1 = n then some c.2 else look l n) = none
    rw [if_neg (fun e => h (by rw [← e]; exact List.mem_cons_self)), look_none fun z => h (List.mem_cons_of_mem _ z)]
def encSz (s : Size) : PyData := .tuple [.int s.1, .int s.2]
theorem good_ok : ∀ {h : HouseS} {ns : List Str}, HouseGood ns h → HouseOk ns h
  | [], _, _ => trivial
  | c :: h, ns, g => ⟨⟨g.1.new, fun u hu => ⟨(g.1.uses u hu).2, (g.1.uses u hu).1.turn⟩, fun r hr => ⟨(g.1.rects r hr).x, (g.1.rects r hr).y⟩⟩, good_ok g.2⟩
section
variable {P : Program} {w : World} {K : PySem.W.Frag} {mg : Str → Option Value} {base : Heap} {f g : Addr} {fd gd : FuncData}
/-- a house that stands in the heap -/
structure HouseIn (H : Hp) (v : V) (h : HouseS) : Prop where
  is : Is H v (encHouse h)
  ok : HouseOk [] h
  few : h.length ≤ 20
  fewU : ∀ c ∈ h, c.2.2.2.length ≤ 1000 ∧ c.2.1.length ≤ 1000 ∧ c.2.2.1.length ≤ 1000
def spSizes : Sp := fun vs H Q _ => ∃ v h, vs = [v] ∧ HouseIn H v h ∧ ∀ d H' kvs, H d = none → Same H H' → H' d = some (.dK kvs) → DAll encSz H' kvs (sizesL h) → Q (.ref d) H'
theorem ok_at {h : HouseS} {i : Nat} {c : CellS} (H : HouseOk [] h) (hc : h[i]? = some c) : CellOk ((h.take i).map (·.1)) c := by
  have e : h = h.take i ++ c :: h.drop (i + 1) := by
    have hi := (List.getElem?_eq_some_iff.mp hc).1
    have e1 : h.drop i = h[i] :: h.drop (i + 1) := List.drop_eq_getElem_cons hi
    rw [List.getElem?_eq_getElem hi] at hc
    rw [Option.some.inj hc] at e1
    rw [← e1, List.take_append_drop]
  rw [e, HouseOk.append] at H
  exact H.2.1
abbrev s_sizes : Stmt := top 41
abbrev n_sizes : List Str := ["house", "found", "name", "rects", "marks", "uses", "much", "use"]
abbrev p_sizes : List Str := ["house"]
theorem sc_sizes : FnScope n_sizes p_sizes (defScope s_sizes) := ⟨rfl, rfl, rfl, by decide +kernel, rfl, by decide +kernel, by decide +kernel⟩
theorem ok_sizes (F : Fun K "sizes" "sizes" s_sizes f fd) (T : Txt mg) : FnOk P w K mg base CX0 1 f fd p_sizes spSizes := by
  refine F.ok sc_sizes (fun vs H Q E h => ?_) (fun cdv A outer s H vs Q E hr h => ?_)
  · obtain ⟨x, y, rfl, _⟩ := h
    rfl
  obtain ⟨v, h, rfl, hI, q⟩ := h
  have nd := (sc_sizes).nd
  have hu := hu_of hr
  refine ⟨_, (pss_cons (ps_set (i := 1) nd rfl (Or.inr rfl) pe_dnewK)
  (pss_cons (ps_for PassesOwn.never rfl (pi_tup (pv 0)) (pg_tup rfl (pgs_cons (pg_name (i := 2) nd rfl (Or.inl rfl)) (pgs_cons (pg_name (i := 3) nd rfl (Or.inl rfl)) (pgs_cons (pg_name (i := 4) nd rfl (Or.inl rfl)) (pgs_cons (pg_name (i := 5) nd rfl (Or.inl rfl)) pgs_nil)))))
  (pss_cons (ps_set (i := 6) nd rfl (Or.inl rfl) (pe_op op_add (pe_op op_add (pe_op op_add (pe_callB call_len_seq (by rfl) T.b_len (by decide +kernel) (pa_cons (pv 3) pa_nil)) (pe_callB call_len_seq (by rfl) T.b_len (by decide +kernel) (pa_cons (pv 4) pa_nil))) (pe_callB call_len_seq (by rfl) T.b_len (by decide +kernel) (pa_cons (pv 5) pa_nil))) (pe_callB (cr_sum rfl) (by rfl) T.b_sum (by decide +kernel) (pa_cons (pe_lc (own := [("use", 7)]) rfl nd (pi_tup (pv 5)) (blkOk_by (own := [("use", 7)]) (N := n_sizes) (sc := defScope s_sizes) (by decide +kernel)) (fun _ _ _ _ _ => (pg_name (i := 7) nd rfl (Or.inl rfl))) (fun _ _ _ _ _ => pts_nil) (fun _ _ _ _ _ => (pe_ix (ix_tupK (K := K)) (pe_dget hu (pv 1) (pe_ix (ix_tupK (K := K)) (pv 7) pe_int (fun _ _ => rfl)) (fun _ _ => rfl)) pe_int (fun _ _ => rfl)))) pa_nil))))
  (pss_one (ps_dput hu (pv 1) (pv 2) (pe_tup (pa_cons (pv 6) (pa_cons (pe_op op_add pe_int (pe_callB (cr_max rfl) (by rfl) T.b_max (by decide +kernel) (pa_cons (pe_op op_cat (pe_lst (pa_cons pe_int pa_nil)) (pe_lc (own := [("use", 7)]) rfl nd (pi_tup (pv 5)) (blkOk_by (own := [("use", 7)]) (N := n_sizes) (sc := defScope s_sizes) (by decide +kernel)) (fun _ _ _ _ _ => (pg_name (i := 7) nd rfl (Or.inl rfl))) (fun _ _ _ _ _ => pts_nil) (fun _ _ _ _ _ => (pe_ix (ix_tupK (K := K)) (pe_dget hu (pv 1) (pe_ix (ix_tupK (K := K)) (pv 7) pe_int (fun _ _ => rfl)) (fun _ _ => rfl)) pe_int (fun _ _ => rfl))))) pa_nil))) pa_nil))) rfl))))
  (pss_one (ps_ret (pv 1))))), ?_⟩
  obtain ⟨ha, xs, rfl, hha, hx⟩ := hI.is.tup_inv
  have hxl : xs.length = h.length := by rw [hx.length, List.length_map]
  have hfew := hI.few
  intro d hd
  have s0 := same_new hd (.dK [])
  have nha : ha ≠ d := ne_of_none hha hd
  refine ⟨_, rfl, ha, rfl, ⟨_, SqT.of (s0 _ _ hha)⟩, for_it (walk_tup (K := K) (a := ha) (xs := xs)) (fun i σ H' => ∃ kvs x2 x3 x4 x5 x6, σ = [some (.ref ha), some (.ref d), x2, x3, x4, x5, x6, none] ∧ SB d (upd H d (.dK [])) H' ∧ H' d = some (.dK kvs) ∧ DAll encSz H' kvs ((h.take i).foldl szStep [])) ?_ (fun i σ H' _ hp => ?_) (fun i x σ H1 H2 hi hp hy => ?_) (fun σ H1 hp => ?_)⟩
  · exact ⟨[], _, _, _, _, _, rfl, SB.refl, upd_same, DAll.nil⟩
  · obtain ⟨kvs, x2, x3, x4, x5, x6, rfl, sb, _⟩ := hp
    exact SqT.of (sb _ _ (s0 _ _ hha) nha)
  · obtain ⟨kvs, x2, x3, x4, x5, x6, rfl, sb, hdk, hD⟩ := hp
    obtain ⟨rfl, hxi⟩ := hy
    obtain ⟨c, hc, hv⟩ := at_map hx hxi
    have sH := same_of hd s0 sb
    obtain ⟨a, ra, ma, ua, rs, ms, us, rfl, A0⟩ := cell_inv (hv.mono (kt sH))
    have hrl : rs.length = c.2.1.length := by rw [A0.dr.length, List.length_map]
    have hml : ms.length = c.2.2.1.length := by rw [A0.dm.length, List.length_map]
    have hul : us.length = c.2.2.2.length := by rw [A0.du.length, List.length_map]
    have hco := ok_at hI.ok hc
    have hfu := (hI.fewU c (List.mem_of_getElem? hc)).1
    generalize hfound : (h.take i).foldl szStep [] = found at hD
    have hnames : found.map (·.1) = (h.take i).map (·.1) := by
      rw [← hfound]
      have := sz_names (h.take i) ([] : List (Str × Size))
      simpa using this
    refine ⟨a, _, rfl, SqT.of A0.ob, rfl, _, _, rfl, _, _, rfl, _, _, rfl, _, _, rfl, rfl, ?_⟩
    -- a use's size
    have one : ∀ (i : Nat) (u : UseS) (H3 : Hp) (t : V), c.2.2.2[i]? = some u → Same H2 H3 → Is H3 t (encU u) → ∃ ta, t = .ref ta ∧ H3 ta = some (.tup [.str u.1, .int u.2.1, .int u.2.2.1, .int u.2.2.2]) ∧ ∃ va, valV kvs (.inr u.1 : Key) = some (.ref va) ∧ H3 va = some (.tup [.int ((look found u.1).getD (0, 0)).1, .int ((look found u.1).getD (0, 0)).2]) ∧ H3 d = some (.dK kvs) := fun i u H3 t hu s3 ht => by
      obtain ⟨ta, rfl, hta⟩ := use_inv ht
      have hm := (hco.uses u (List.mem_of_getElem? hu)).1
      rw [← hnames] at hm
      obtain ⟨sz0, e1, _⟩ := look_some hm
      rcases hD.look u.1 with ⟨e, _⟩ | ⟨sz1, v1, e2, e3, e4⟩
      · rw [e] at e1; cases e1
      · rw [e1] at e2
        cases e2
        obtain ⟨va, rfl, hva⟩ := pair_inv (s := sz0) (e4.mono (kt s3))
        exact ⟨ta, rfl, hta, va, e3, by rw [e1]; exact hva, s3 _ _ hdk⟩
    refine ⟨_, rfl, ra, rs, rfl, .inr (SqT.of A0.hr), _, rfl, ma, ms, rfl, .inr (SqT.of A0.hm), _, _, rfl, rfl, _, rfl, ua, us, rfl, .inr (SqT.of A0.hu), _, _, rfl, rfl, ?_⟩
    refine ⟨_, rfl, ua, rfl, ⟨_, SqT.of A0.hu⟩, fun D1 hD1 => lc_map (walk_tup (K := K) (a := ua) (xs := us)) ((c.2.2.2.map fun u => ((look found u.1).getD (0, 0)).1).map PyData.int) (by rw [List.length_map, List.length_map, hul]) (smL (by omega)) hD1 (fun H3 s3 => SqT.of (s3 _ _ A0.hu)) (fun j y H3 H4 e Qk Qs he s3 hy k => ?_) (fun H3 ys s3 hys hyd => ?_)⟩
    · obtain ⟨rfl, hyj⟩ := hy
      obtain ⟨u, hu', hvu⟩ := at_map A0.du hyj
      rw [List.map_map] at he
      have ee := map_at hu' he
      subst ee
      obtain ⟨ta, rfl, hta, va, e1, hva, hd3⟩ := one j u _ y hu' s3 (hvu.mono (kt s3))
      refine ⟨rfl, _, rfl, _, rfl, ta, _, _, _, rfl, rfl, SqT.of hta, rfl, d, .ref va, rfl, ?_, va, _, _, _, rfl, rfl, SqT.of hva, rfl, k _ _ (same_refl _) (.int _)⟩
      rw [← e1]
      exact DGet.k (k := (.inr u.1 : Key)) hd3
    have e1 := ints_inv hyd
    subst e1
    refine ⟨D1, _, rfl, SqL.of hys, _, _, rfl, rfl, ?_⟩
    refine asg (i := 6) ?_
    dsimp only
    have A3 := A0.mono (kt s3)
    -- the deepest of the used ones
    refine ⟨_, rfl, sz 1, fun p1 hp1 => ?_⟩
    have s4 := same_new hp1 (.lst [.int 0])
    have s34 := s3.trans s4
    have A4 := A3.mono (kt s4)
    refine ⟨_, rfl, ua, rfl, ⟨_, SqT.of A4.hu⟩, fun D2 hD2 => lc_map (walk_tup (K := K) (a := ua) (xs := us)) ((c.2.2.2.map fun u => ((look found u.1).getD (0, 0)).2).map PyData.int) (by rw [List.length_map, List.length_map, hul]) (smL (by omega)) hD2 (fun H5 s5 => SqT.of (s5 _ _ A4.hu)) (fun j y H5 H6 e Qk Qs he s5 hy k => ?_) (fun H5 zs s5 hzs hzd => ?_)⟩
    · obtain ⟨rfl, hyj⟩ := hy
      obtain ⟨u, hu', hvu⟩ := at_map A4.du hyj
      rw [List.map_map] at he
      have ee := map_at hu' he
      subst ee
      obtain ⟨ta, rfl, hta, va, e1, hva, hd3⟩ := one j u _ y hu' (s34.trans s5) (hvu.mono (kt s5))
      refine ⟨rfl, _, rfl, _, rfl, ta, _, _, _, rfl, rfl, SqT.of hta, rfl, d, .ref va, rfl, ?_, va, _, _, _, rfl, rfl, SqT.of hva, rfl, k _ _ (same_refl _) (.int _)⟩
      rw [← e1]
      exact DGet.k (k := (.inr u.1 : Key)) hd3
    have e2 := ints_inv hzd
    subst e2
    have hp15 := s5 _ _ (upd_same (H := H3) (a := p1) (o := .lst [.int 0]))
    refine ⟨p1, D2, _, _, rfl, rfl, hp15, hzs, smL (by simp only [List.length_map, List.length_cons, List.length_nil]; omega), fun p2 hp2 => ?_⟩
    have s6 := same_new hp2 (.lst ([V.int 0] ++ (c.2.2.2.map fun u => ((look found u.1).getD (0, 0)).2).map V.int))
    refine ⟨p2, 0 :: c.2.2.2.map fun u => ((look found u.1).getD (0, 0)).2, rfl, SqL.of upd_same, by simp, fun m hm hle => ?_⟩
    have em : m = deepOf found c.2.2.2 := by
      unfold deepOf
      have h1 := hle 0 List.mem_cons_self
      rcases maxZ_mem (c.2.2.2.map fun u => ((look found u.1).getD (0, 0)).2) with e | e
      · rcases List.mem_cons.mp hm with z | z
        · omega
        · have := maxZ_le z
          omega
      · have h2 := hle _ (List.mem_cons_of_mem _ e)
        rcases List.mem_cons.mp hm with z | z
        · have := maxZ_nn (c.2.2.2.map fun u => ((look found u.1).getD (0, 0)).2)
          omega
        · have := maxZ_le z
          omega
    refine ⟨_, _, rfl, rfl, sz 2, fun p3 hp3 => ?_⟩
    have s7 := same_new hp3 (.tup [.int ((c.2.1.length : Int) + c.2.2.1.length + c.2.2.2.length + (c.2.2.2.map fun u => ((look found u.1).getD (0, 0)).1).sum), .int (1 + m)])
    have sAll := (s34.trans s5).trans s6
    have hd7 := s7 _ _ (sAll _ _ hdk)
    rw [hrl, hml, hul] at *
    have hnone : valV kvs (.inr c.1 : Key) = none := by
      rcases hD.look c.1 with ⟨_, e⟩ | ⟨sz1, v1, e2, _⟩
      · exact e
      · rw [look_none (by rw [hnames]; exact hco.new)] at e2
        cases e2
    have hkl : kvs.length ≤ i := by
      rw [hD.length, ← List.length_map (f := fun x : Str × Size => x.1), hnames, List.length_map, List.length_take]
      omega
    refine ⟨_, rfl, _, rfl, d, _, rfl, DPut.k (k := (.inr c.1 : Key)) hd7 (sm (by omega)), ?_⟩
    rw [putK_new _ hnone]
    refine ⟨_, _, _, _, _, _, rfl, sb.trans ((sb_same (sAll.trans s7)).trans (sb_upd _)), upd_same, ?_⟩
    rw [List.take_add_one, hc, List.foldl_append, hfound]
    show DAll encSz _ _ (found ++ [(c.1, sizeOf1 found c.2)])
    have kk : KT H2 _ := (kt (sAll.trans s7)).trans (kt_upd hd7 (fun _ z => by cases z) (.dK (kvs ++ [((.inr c.1 : Key), .ref p3)])))
    refine (hD.mono kk).snoc ?_
    have i7 := (is_new (xs := [.int ((c.2.1.length : Int) + c.2.2.1.length + c.2.2.2.length + (c.2.2.2.map fun u => ((look found u.1).getD (0, 0)).1).sum), .int (1 + m)]) hp3 (ints2 _ _)).mono (kt_upd hd7 (fun _ z => by cases z) (.dK (kvs ++ [((.inr c.1 : Key), .ref p3)])))
    rw [em] at i7
    rw [em]
    exact i7
  · obtain ⟨kvs, x2, x3, x4, x5, x6, rfl, sb, hdk, hD⟩ := hp
    rw [hxl, List.take_length] at hD
    exact ⟨_, rfl, q d H1 kvs hd (same_of hd s0 sb) hdk hD⟩
end
end Mw
end
section
set_option maxRecDepth 100000
set_option maxHeartbeats 8000000
/-! parts. -/
namespace Mw
open PySem PySem.Spec PyProof.Rows L2
theorem sl_tupAK {X : Cx} {K : PySem.W.Frag} (h : X.K = K := by rfl) : SlR X (rSlA K) := h ▸ sl_tupA
section
variable {X : Cx} {x : Str} {j k : Nat} {ps : List Str} {sp : Sp} {e : Expr} {es : List Expr} {t : TA} {p pos : Pos}
theorem pe_fo (J : Has X.prog X.w X.K X.mg X.base x j ps sp) (hr : Room k X.A) (ha : PA X (e :: es) t) (hg : Gl X x := by rfl) (hjk : j ≤ k := by omega) (hd : (x == ("__debug__" : Str)) = false := by decide)
    (he : starEach (e :: es) X.env = (false, eval e X.env) :: starEach es X.env := by rfl) (hpl : (backTo pos (starEach es X.env)).any (·.1) = false := by rfl) : PE X (.Call (.Name x p) (e :: es) [] pos) (tF sp t) := pe_f J hr ha hg hjk hd he hpl
end
def encLR (r : LRectS) : PyData := .tuple [.str r.1, encR r.2]
def encBody (b : Body Str) : PyData := .tuple [.tuple (b.1.map encL), .tuple (b.2.1.map encM), .tuple (b.2.2.map encU)]
theorem flat_in {α β : Type} {f : α → List β} : ∀ {l : List α} {x : α}, x ∈ l → (f x).length ≤ (l.flatMap f).length
  | a :: l, x, h => by
    rw [List.flatMap_cons, List.length_append]
    rcases List.mem_cons.mp h with z | z
    · rw [z]; omega
    · have := flat_in (f := f) z
      omega
theorem flat_take {α β : Type} (f : α → List β) (l : List α) (i : Nat) : ((l.take i).flatMap f).length ≤ (l.flatMap f).length := by
  have : l.flatMap f = (l.take i).flatMap f ++ (l.drop i).flatMap f := by rw [← List.flatMap_append, List.take_append_drop]
  rw [this, List.length_append]
  omega
theorem flat_snoc {α β : Type} (f : α → List β) {l : List α} {i : Nat} {x : α} (h : l[i]? = some x) : (l.take (i + 1)).flatMap f = (l.take i).flatMap f ++ f x := by
  rw [List.take_add_one, h, List.flatMap_append]
  show _ ++ [x].flatMap f = _
  rw [List.flatMap_cons, List.flatMap_nil, List.append_nil]
theorem isL_cat {H : Hp} {a b p : Addr} {ds es : List PyData} {xs ys : List V} (hp : H p = none) (h1 : IsAll H xs ds) (h2 : IsAll H ys es) : IsL (upd H p (.lst (xs ++ ys))) p (ds ++ es) := ⟨_, upd_same, (h1.append h2).mono (kt_new hp _)⟩
section
variable {P : Program} {w : World} {K : PySem.W.Frag} {mg : Str → Option Value} {base : Heap} {f g : Addr} {fd gd : FuncData}
structure Cells (H : Hp) (d : Addr) (h : HouseS) : Prop where
  ex : ∃ kvs, H d = some (.dK kvs) ∧ DAll encBody H kvs h
  ok : HouseOk [] h
  few : ∀ c ∈ h, c.2.2.2.length ≤ 1000 ∧ c.2.1.length ≤ 1000 ∧ c.2.2.1.length ≤ 1000
theorem Cells.mono {H H' : Hp} {d : Addr} {h : HouseS} (s : Same H H') (C : Cells H d h) : Cells H' d h := by
  obtain ⟨kvs, h1, h2⟩ := C.ex
  exact ⟨⟨kvs, s _ _ h1, h2.mono (kt s)⟩, C.ok, C.few⟩
def spParts (n : Nat) : Sp := fun vs H Q _ => ∃ d h nm t dx dy, vs = [.ref d, .str nm, .int t, .int dx, .int dy] ∧ Cells H d h ∧ Tn t ∧ DeepOk n h nm ∧ (partsF n h nm t dx dy).1.length + (partsF n h nm t dx dy).2.length ≤ 600 ∧
  ∀ p fo no H', Same H H' → H' p = some (.tup [.ref fo, .ref no]) → IsL H' fo ((partsF n h nm t dx dy).1.map encLR) → IsL H' no ((partsF n h nm t dx dy).2.map encM) → Q (.ref p) H'
abbrev s_parts : Stmt := top 42
abbrev n_parts : List Str := ["cells", "name", "turn", "dx", "dy", "rects", "marks", "uses", "found", "named", "used", "by", "x", "y", "right", "up", "more", "others", "rect", "mark"]
abbrev p_parts : List Str := ["cells", "name", "turn", "dx", "dy"]
theorem sc_parts : FnScope n_parts p_parts (defScope s_parts) := ⟨rfl, rfl, rfl, by decide +kernel, rfl, by decide +kernel, by decide +kernel⟩
theorem ok_parts {n : Nat} (F : Fun K "parts" "parts" s_parts f fd) (T : Txt mg) (J_turned_rect : Has P w K mg base "turned_rect" 2 p_turned_rect spTurnR) (J_turned_place : Has P w K mg base "turned_place" 3 p_turned_place spTurnP)
    (J_turned_point : Has P w K mg base "turned_point" 1 p_turned_point spTurnC) (J_after : Has P w K mg base "after" 1 p_after spAfter) (J_parts : Has P w K mg base "parts" (n + 4) p_parts (spParts n)) : FnOk P w K mg base CX0 (n + 5) f fd p_parts (spParts (n + 1)) := by
  refine F.ok sc_parts (fun vs H Q E h => ?_) (fun cdv A outer s H vs Q E hr h => ?_)
  · obtain ⟨d, h, nm, t, dx, dy, rfl, _⟩ := h
    rfl
  obtain ⟨d, h, nm, t, dx, dy, rfl, hC, ht, hdeep, hmost, q⟩ := h
  have nd := (sc_parts).nd
  have hu := hu_of hr
  refine ⟨_, (pss_cons (ps_asg (pe_dget hu (pv 0) (pv 1) (fun _ _ => rfl)) (pg_tup rfl (pgs_cons (pg_name (i := 5) nd rfl (Or.inl rfl)) (pgs_cons (pg_name (i := 6) nd rfl (Or.inl rfl)) (pgs_cons (pg_name (i := 7) nd rfl (Or.inl rfl)) pgs_nil)))))
  (pss_cons (ps_setLc (i := 8) (own := [("rect", 18)]) rfl nd rfl rfl (sw_true rfl rfl rfl (by decide +kernel)) (pi_tup (pv 5)) (blkOk_by (own := [("rect", 18)]) (N := n_parts) (sc := defScope s_parts) (by decide +kernel)) (fun _ _ _ _ _ => (pg_name (i := 18) nd rfl (Or.inl rfl))) (fun _ _ _ _ _ => pts_nil) (fun _ _ _ _ _ => (pe_tup (pa_cons (pe_ix (ix_tupK (K := K)) (pv 18) pe_int (fun _ _ => rfl)) (pa_cons (pe_fo J_turned_rect hr (pa_cons (pe_slice (sl_tupAK (K := K)) (pv 18) (po_some pe_int) po_none) (pa_cons (pv 2) (pa_cons (pv 3) (pa_cons (pv 4) pa_nil))))) pa_nil)))))
  (pss_cons (ps_setLc (i := 9) (own := [("mark", 19)]) rfl nd rfl rfl (sw_true rfl rfl rfl (by decide +kernel)) (pi_tup (pv 6)) (blkOk_by (own := [("mark", 19)]) (N := n_parts) (sc := defScope s_parts) (by decide +kernel)) (fun _ _ _ _ _ => (pg_name (i := 19) nd rfl (Or.inl rfl))) (fun _ _ _ _ _ => pts_nil) (fun _ _ _ _ _ => (pe_op (op_catAK (K := K)) (pe_tup (pa_cons (pe_ix (ix_tupK (K := K)) (pv 19) pe_int (fun _ _ => rfl)) (pa_cons (pe_ix (ix_tupK (K := K)) (pv 19) pe_int (fun _ _ => rfl)) pa_nil))) (pe_fo J_turned_place hr (pa_cons (pe_ix (ix_tupK (K := K)) (pv 19) pe_int (fun _ _ => rfl)) (pa_cons (pe_ix (ix_tupK (K := K)) (pv 19) pe_int (fun _ _ => rfl)) (pa_cons (pv 2) (pa_cons (pv 3) (pa_cons (pv 4) pa_nil)))))))))
  (pss_cons (ps_for PassesOwn.never rfl (pi_tup (pv 7)) (pg_tup rfl (pgs_cons (pg_name (i := 10) nd rfl (Or.inl rfl)) (pgs_cons (pg_name (i := 11) nd rfl (Or.inl rfl)) (pgs_cons (pg_name (i := 12) nd rfl (Or.inl rfl)) (pgs_cons (pg_name (i := 13) nd rfl (Or.inl rfl)) pgs_nil)))))
  (pss_cons (ps_asg (pe_fo J_turned_point hr (pa_cons (pv 12) (pa_cons (pv 13) (pa_cons (pv 2) (pa_cons (pv 3) (pa_cons (pv 4) pa_nil)))))) (pg_tup rfl (pgs_cons (pg_name (i := 14) nd rfl (Or.inl rfl)) (pgs_cons (pg_name (i := 15) nd rfl (Or.inl rfl)) pgs_nil))))
  (pss_cons (ps_asg (pe_fo J_parts hr (pa_cons (pv 0) (pa_cons (pv 10) (pa_cons (pe_fo J_after hr (pa_cons (pv 11) (pa_cons (pv 2) pa_nil))) (pa_cons (pv 14) (pa_cons (pv 15) pa_nil)))))) (pg_tup rfl (pgs_cons (pg_name (i := 16) nd rfl (Or.inl rfl)) (pgs_cons (pg_name (i := 17) nd rfl (Or.inl rfl)) pgs_nil))))
  (pss_cons (ps_set (i := 8) nd rfl (Or.inl rfl) (pe_op op_cat (pv 8) (pv 16)))
  (pss_one (ps_set (i := 9) nd rfl (Or.inl rfl) (pe_op op_cat (pv 9) (pv 17))))))))
  (pss_one (ps_ret (pe_tup (pa_cons (pv 8) (pa_cons (pv 9) pa_nil))))))))), ?_⟩
  obtain ⟨kvs, hd, hD⟩ := hC.ex
  obtain ⟨b, hb, hdu⟩ := hdeep
  have eP : partsF (n + 1) h nm t dx dy = (b.1.map (fun r => (r.1, turnR t dx dy r.2)) ++ b.2.2.flatMap (fun u => (partsF n h u.1 (afterT u.2.1 t) (turnC t dx dy u.2.2).1 (turnC t dx dy u.2.2).2).1),
      b.2.1.map (fun m => (m.1, m.2.1, turnP t dx dy m.2.2)) ++ b.2.2.flatMap (fun u => (partsF n h u.1 (afterT u.2.1 t) (turnC t dx dy u.2.2).1 (turnC t dx dy u.2.2).2).2)) := by
    rw [partsF, hb]
  rw [eP] at hmost q
  dsimp only at hmost q
  have hcell := look_mem hb
  have hfew : b.2.2.length ≤ 1000 ∧ b.1.length ≤ 1000 ∧ b.2.1.length ≤ 1000 := hC.few _ hcell
  obtain ⟨v, hv1, hv2⟩ : ∃ v, valV kvs (.inr nm : Key) = some v ∧ Is H v (encBody b) := by
    rcases hD.look nm with ⟨e, _⟩ | ⟨b', v, e, e1, e2⟩
    · rw [hb] at e; cases e
    · rw [hb] at e
      cases e
      exact ⟨v, e1, e2⟩
  obtain ⟨va, vx, rfl, hva, hvx⟩ := hv2.tup_inv
  obtain ⟨w1, w2, w3, rfl, k1, k2, k3⟩ := hvx.three_inv
  obtain ⟨ra, rs, rfl, hra, hrd⟩ := k1.tup_inv
  obtain ⟨ma, ms, rfl, hma, hmd⟩ := k2.tup_inv
  obtain ⟨ua, us, rfl, hua, hud⟩ := k3.tup_inv
  have hrl : rs.length = b.1.length := by rw [hrd.length, List.length_map]
  have hml : ms.length = b.2.1.length := by rw [hmd.length, List.length_map]
  have hul : us.length = b.2.2.length := by rw [hud.length, List.length_map]
  refine ⟨_, rfl, _, rfl, d, .ref va, rfl, ?_, va, _, rfl, SqT.of hva, rfl, _, _, rfl, _, _, rfl, _, _, rfl, rfl, ?_⟩
  · rw [← hv1]
    exact DGet.k (k := (.inr nm : Key)) hd
  -- found
  refine ⟨_, rfl, ra, rfl, ⟨_, SqT.of hra⟩, fun D1 hD1 => lc_map (walk_tup (K := K) (a := ra) (xs := rs)) ((b.1.map (fun r => (r.1, turnR t dx dy r.2))).map encLR) (by rw [List.length_map, List.length_map, hrl]) (smL (by omega)) hD1 (fun H3 s3 => SqT.of (s3 _ _ hra)) (fun j y H3 H4 e Qk Qs he s3 hy k => ?_) (fun H1 fs s1 hfs hfd => ?_)⟩
  · obtain ⟨rfl, hyj⟩ := hy
    obtain ⟨r, hr', hvr⟩ := at_map hrd hyj
    rw [List.map_map] at he
    have ee := map_at hr' he
    subst ee
    obtain ⟨ta, rfl, hta⟩ := lrect_inv (hvr.mono (kt s3))
    refine ⟨rfl, _, rfl, ta, _, _, _, rfl, rfl, SqT.of hta, rfl, _, rfl, _, rfl, ta, _, rfl, SqT.of hta, fun z => ?_, fun _ p1 hp1 => ?_⟩
    · exact absurd z.1 (show ¬ (1 : Nat) = 0 by decide)
    have s4 := same_new hp1 (.tup [.int r.2.1, .int r.2.2.1, .int r.2.2.2.1, .int r.2.2.2.2])
    refine ⟨_, rfl, _, rfl, _, rfl, .ref p1, r.2, t, dx, dy, rfl, is_new hp1 (ints4 _ _ _ _), fun v5 H5 s5 h5 => ⟨sz 2, fun p6 hp6 => ?_⟩⟩
    exact k _ _ ((s4.trans s5).trans (same_new hp6 _)) (is_new hp6 (.cons (.str _) (.cons h5 .nil)))
  refine asg (i := 8) ?_
  dsimp only
  -- named
  refine ⟨_, rfl, ma, rfl, ⟨_, SqT.of (s1 _ _ hma)⟩, fun D2 hD2 => lc_map (walk_tup (K := K) (a := ma) (xs := ms)) ((b.2.1.map (fun m => (m.1, m.2.1, turnP t dx dy m.2.2))).map encM) (by rw [List.length_map, List.length_map, hml]) (smL (by omega)) hD2 (fun H3 s3 => SqT.of (s3 _ _ (s1 _ _ hma))) (fun j y H3 H4 e Qk Qs he s3 hy k => ?_) (fun H2 ns s2 hns hnd => ?_)⟩
  · obtain ⟨rfl, hyj⟩ := hy
    obtain ⟨m, hm', hvm⟩ := at_map hmd hyj
    rw [List.map_map] at he
    have ee := map_at hm' he
    subst ee
    obtain ⟨tt, rfl, htt⟩ := mark_inv (hvm.mono (kt (s1.trans s3)))
    refine ⟨rfl, _, rfl, tt, _, _, _, rfl, rfl, SqT.of htt, rfl, _, rfl, tt, _, _, _, rfl, rfl, SqT.of htt, rfl, sz 2, fun p5 hp5 => ?_⟩
    have s5 := same_new hp5 (.tup [.str m.1, .str m.2.1])
    have htt5 := s5 _ _ htt
    refine ⟨_, rfl, tt, _, _, _, rfl, rfl, SqT.of htt5, rfl, _, rfl, tt, _, _, _, rfl, rfl, SqT.of htt5, rfl, _, rfl, _, rfl, _, rfl, _, _, _, _, _, rfl, fun v6 H6 s6 h6 => ?_⟩
    obtain ⟨pa, rfl, hpa⟩ := pair_inv h6
    refine ⟨p5, pa, _, _, rfl, rfl, SqT.of (s6 _ _ upd_same), SqT.of hpa, sz 4, fun z => (by cases z), fun _ z => (by cases z), fun _ _ p7 hp7 => ?_⟩
    exact k _ _ ((s5.trans s6).trans (same_new hp7 _)) (is_new hp7 (isMark (turnM t dx dy m)))
  refine asg (i := 9) ?_
  dsimp only
  have s12 := s1.trans s2
  generalize hF1 : (fun u : UseS => (partsF n h u.1 (afterT u.2.1 t) (turnC t dx dy u.2.2).1 (turnC t dx dy u.2.2).2).1) = F1 at hmost q
  generalize hF2 : (fun u : UseS => (partsF n h u.1 (afterT u.2.1 t) (turnC t dx dy u.2.2).1 (turnC t dx dy u.2.2).2).2) = F2 at hmost q
  generalize hL1 : b.1.map (fun r => ((r.1, turnR t dx dy r.2) : LRectS)) = L1 at hmost q hfd
  generalize hL2 : b.2.1.map (fun m => ((m.1, m.2.1, turnP t dx dy m.2.2) : MarkS)) = L2' at hmost q hnd
  rw [List.length_append, List.length_append] at hmost
  refine seq_for (fun σ' H' => ∃ fo no x10 x11 x12 x13 x14 x15 x16 x17, σ' = [some (.ref d), some (.str nm), some (.int t), some (.int dx), some (.int dy), some (.ref ra), some (.ref ma), some (.ref ua), some (.ref fo), some (.ref no), x10, x11, x12, x13, x14, x15, x16, x17, none, none] ∧ Same H H' ∧
    IsL H' fo ((L1 ++ b.2.2.flatMap F1).map encLR) ∧ IsL H' no ((L2' ++ b.2.2.flatMap F2).map encM)) (fun σ' H' hp => ?_) (fun go => ?_)
  · obtain ⟨fo, no, x10, x11, x12, x13, x14, x15, x16, x17, rfl, sA, h1, h2⟩ := hp
    refine ⟨_, rfl, _, rfl, sz 2, fun p8 hp8 => ?_⟩
    have s8 := same_new hp8 (.tup [.ref fo, .ref no])
    exact q p8 fo no _ (sA.trans s8) upd_same (h1.mono s8) (h2.mono s8)
  · refine ⟨_, rfl, ua, rfl, ⟨_, SqT.of (s12 _ _ hua)⟩, for_it (walk_tup (K := K) (a := ua) (xs := us)) (fun i σ' H' => ∃ fo no x10 x11 x12 x13 x14 x15 x16 x17, σ' = [some (.ref d), some (.str nm), some (.int t), some (.int dx), some (.int dy), some (.ref ra), some (.ref ma), some (.ref ua), some (.ref fo), some (.ref no), x10, x11, x12, x13, x14, x15, x16, x17, none, none] ∧ Same H H' ∧
      IsL H' fo ((L1 ++ (b.2.2.take i).flatMap F1).map encLR) ∧ IsL H' no ((L2' ++ (b.2.2.take i).flatMap F2).map encM)) ?_ (fun i σ H' _ hp => ?_) (fun i x σ H3 H4 hi hp hy => ?_) (fun σ H3 hp => ?_)⟩
    · refine ⟨D1, D2, _, _, _, _, _, _, _, _, rfl, s12, ⟨fs, s2 _ _ hfs, ?_⟩, ⟨ns, hns, ?_⟩⟩
      · simpa using hfd.mono (kt s2)
      · simpa using hnd
    · obtain ⟨fo, no, x10, x11, x12, x13, x14, x15, x16, x17, rfl, sA, h1, h2⟩ := hp
      exact SqT.of (sA _ _ hua)
    · obtain ⟨fo, no, x10, x11, x12, x13, x14, x15, x16, x17, rfl, sA, h1, h2⟩ := hp
      obtain ⟨rfl, hyj⟩ := hy
      obtain ⟨u, hu', hvu⟩ := at_map hud hyj
      have hum := List.mem_of_getElem? hu'
      obtain ⟨ta, rfl, hta⟩ := use_inv (hvu.mono (kt sA))
      refine ⟨ta, _, rfl, SqT.of hta, rfl, _, _, rfl, _, _, rfl, _, _, rfl, _, _, rfl, rfl, ?_⟩
      -- right, up = turned_point(..)
      refine ⟨_, rfl, _, rfl, _, rfl, _, rfl, _, rfl, _, _, t, dx, dy, rfl, fun v5 H5 s5 h5 => ?_⟩
      obtain ⟨pa, rfl, hpa⟩ := pair_inv h5
      refine ⟨pa, _, rfl, SqT.of hpa, rfl, _, _, rfl, _, _, rfl, rfl, ?_⟩
      have sB := sA.trans s5
      have e1 : (F1 u).length ≤ (b.2.2.flatMap F1).length := flat_in hum
      have e2 : (F2 u).length ≤ (b.2.2.flatMap F2).length := flat_in hum
      have eF1 : F1 u = (partsF n h u.1 (afterT u.2.1 t) (turnC t dx dy (u.2.2.1, u.2.2.2)).1 (turnC t dx dy (u.2.2.1, u.2.2.2)).2).1 := by rw [← hF1]
      have eF2 : F2 u = (partsF n h u.1 (afterT u.2.1 t) (turnC t dx dy (u.2.2.1, u.2.2.2)).1 (turnC t dx dy (u.2.2.1, u.2.2.2)).2).2 := by rw [← hF2]
      refine ⟨_, rfl, _, rfl, _, rfl, _, rfl, u.2.1, t, rfl, ?_⟩
      refine ⟨_, rfl, _, rfl, d, h, u.1, afterT u.2.1 t, _, _, rfl, hC.mono sB, afterT_tn, hdu u hum, by rw [← eF1, ← eF2]; omega, fun p6 fo6 no6 H6 s6 hp6 h61 h62 => ?_⟩
      rw [← eF1] at h61
      rw [← eF2] at h62
      refine ⟨p6, _, rfl, SqT.of hp6, rfl, _, _, rfl, _, _, rfl, rfl, ?_⟩
      obtain ⟨xs1, hx1, hx1d⟩ := (h1.mono s5).mono s6
      obtain ⟨xs2, hx2, hx2d⟩ := h61
      obtain ⟨ys1, hy1, hy1d⟩ := (h2.mono s5).mono s6
      obtain ⟨ys2, hy2, hy2d⟩ := h62
      have t1 := flat_take F1 b.2.2 i
      have t2 := flat_take F2 b.2.2 i
      have l1 : xs1.length = L1.length + ((b.2.2.take i).flatMap F1).length := by rw [hx1d.length, List.length_map, List.length_append]
      have l2 : xs2.length = (F1 u).length := by rw [hx2d.length, List.length_map]
      have l3 : ys1.length = L2'.length + ((b.2.2.take i).flatMap F2).length := by rw [hy1d.length, List.length_map, List.length_append]
      have l4 : ys2.length = (F2 u).length := by rw [hy2d.length, List.length_map]
      refine ⟨_, rfl, _, rfl, fo, fo6, xs1, xs2, rfl, rfl, hx1, hx2, smL (by omega), fun p7 hp7 => ?_⟩
      refine asg (i := 8) ?_
      dsimp only
      have s7 := same_new hp7 (.lst (xs1 ++ xs2))
      refine ⟨_, rfl, _, rfl, no, no6, ys1, ys2, rfl, rfl, s7 _ _ hy1, s7 _ _ hy2, smL (by omega), fun p8 hp8 => ?_⟩
      have s8 := same_new hp8 (.lst (ys1 ++ ys2))
      refine ⟨p7, p8, _, _, _, _, _, _, _, _, rfl, sB.trans (s6.trans (s7.trans s8)), ⟨xs1 ++ xs2, s8 _ _ upd_same, ?_⟩, ⟨ys1 ++ ys2, upd_same, ?_⟩⟩
      · rw [flat_snoc F1 hu', ← List.append_assoc, List.map_append]
        exact (hx1d.append hx2d).mono (kt (s7.trans s8))
      · rw [flat_snoc F2 hu', ← List.append_assoc, List.map_append]
        exact (hy1d.append hy2d).mono (kt (s7.trans s8))
    · obtain ⟨fo, no, x10, x11, x12, x13, x14, x15, x16, x17, rfl, sA, h1, h2⟩ := hp
      rw [hul, List.take_length] at h1 h2
      exact go _ _ ⟨fo, no, _, _, _, _, _, _, _, _, rfl, sA, h1, h2⟩
/-- no call is left: nothing can be asked -/
theorem parts_none : FnOk P w K mg base CX0 4 f fd p_parts (spParts 0) := by
  have no : ∀ vs H Q E, ¬ spParts 0 vs H Q E := fun vs H Q E h => by
    obtain ⟨_, _, _, _, _, _, _, _, _, hd, _⟩ := h
    exact hd
  exact ⟨fun vs H Q E h => absurd h (no vs H Q E), fun A outer s H args us vs Q E _ _ _ _ h => absurd h (no vs H Q E)⟩
theorem parts_all (F : Fun K "parts" "parts" s_parts f fd) (bF : Binds K fd p_parts []) (mF : mg "parts" = some (.ref f)) (T : Txt mg) (J_turned_rect : Has P w K mg base "turned_rect" 2 p_turned_rect spTurnR) (J_turned_place : Has P w K mg base "turned_place" 3 p_turned_place spTurnP)
    (J_turned_point : Has P w K mg base "turned_point" 1 p_turned_point spTurnC) (J_after : Has P w K mg base "after" 1 p_after spAfter) : ∀ n : Nat, FnOk P w K mg base CX0 (n + 4) f fd p_parts (spParts n)
  | 0 => parts_none
  | n + 1 => ok_parts F T J_turned_rect J_turned_place J_turned_point J_after ⟨f, fd, parts_all F bF mF T J_turned_rect J_turned_place J_turned_point J_after n, bF, F.kp, mF⟩
end
end Mw
end
section
set_option maxRecDepth 100000
set_option maxHeartbeats 8000000
/-! flat. -/
namespace Mw
open PySem PySem.Spec PyProof.Rows L2
theorem pi_listK {X : Cx} {K : PySem.W.Frag} {tg l : Expr} {tl : TE} (hl : PE X l tl) (h : X.K = K := by rfl) : PI X tg l (iList K tl) := h ▸ pi_list hl
/-- the scope of the comprehension over the layers, as it stands within the def -/
def flatSc : Scope := { kind := .function, names := [(".0", .local), ("one", .cell), ("region", .globalImplicit), ("rects", .cell)], isGenerator := false, isCoroutine := false }
/-- an own exception over ValueError -/
structure XCls (K : PySem.W.Frag) (mg : Str → Option Value) (x : Str) (C : Addr) : Prop where
  xP : PySem.W.excIn K C [.type "ValueError", .type "Exception", .type "BaseException", .type "object"] "ValueError.__new__" = true
  gP : mg x = some (.ref C)
  kP : PySem.W.keepIn K (.ref C) = true
  bP : PySem.W.subIn K (.ref C) (.type "BaseException") = some true
  tP : PySem.W.typeIn K (.ref C) = some (.type "type")
  iP : PySem.W.isClsIn K C = true
  sP : PySem.W.subIn K (.ref C) (.ref C) = some true
def layNames : List Str := layers.cps.toList.map fun c => ⟨#[c]⟩
abbrev TooMuchZ (s : Size) : Prop := 600 < s.1 ∨ 6 < s.2
def sheetRss (h : HouseS) (nm : Str) : List (List Rect) := layNames.map fun l => layerOf l (partsF 6 h nm 0 0 0).1
theorem HouseIn.mono {H H' : Hp} {v : V} {h : HouseS} (k : KT H H') (I : HouseIn H v h) : HouseIn H' v h := ⟨I.is.mono k, I.ok, I.few, I.fewU⟩
theorem layer_fm (l : Str) (ps : List LRectS) : (ps.map fun r => if r.1 = l then some (encR r.2) else none).filterMap id = (layerOf l ps).map encR := by
  unfold layerOf
  induction ps with
  | nil => rfl
  | cons r ps ih =>
    rw [List.map_cons, List.filterMap_cons, List.filter_cons]
    by_cases c : r.1 = l
    · rw [if_pos c, decide_eq_true c]
      simp only [id, if_true, List.map_cons]
      rw [ih]
    · rw [if_neg c, decide_eq_false c]
      simp only [id]
      rw [ih]
      rfl
theorem lr_inv {H : Hp} {v : V} {r : LRectS} (h : Is H v (encLR r)) : ∃ a u, v = .ref a ∧ H a = some (.tup [.str r.1, u]) ∧ Is H u (encR r.2) := by
  obtain ⟨a, xs, rfl, ha, hx⟩ := h.tup_inv
  obtain ⟨v1, v2, rfl, h1, h2⟩ := hx.two_inv
  rw [h1.str_inv] at ha
  exact ⟨a, v2, rfl, ha, h2⟩
theorem fewY_of {rs : List Rect} (h : rs.length ≤ 600) : FewY rs := ⟨ysOf rs, by unfold ysOf; rw [List.length_append, List.length_map, List.length_map]; omega, fun _ z => z⟩
section
variable {P : Program} {w : World} {K : PySem.W.Frag} {mg : Str → Option Value} {base : Heap} {f g C0 : Addr} {fd gd : FuncData}
def spFlat (C0 : Addr) : Sp := fun vs H Q E => ∃ v h nm, vs = [v, .str nm] ∧ HouseIn H v h ∧ nm ∈ h.map (·.1) ∧
  (∀ sz, look (sizesL h) nm = some sz → TooMuchZ sz → ∀ H', Same H H' → E (.ref C0) none H') ∧
  (∀ sz, look (sizesL h) nm = some sz → ¬ TooMuchZ sz → ∀ v' H' ms, Same H H' → SM ms → (∀ m, m ∈ ms ↔ m ∈ (partsF 6 h nm 0 0 0).2) → Is H' v' (encSheet ((sheetRss h nm).map regOf) ms) → Q v' H')
abbrev s_flat : Stmt := top 43
abbrev n_flat : List Str := ["house", "name", "cells", "cell", "much", "deep", "rects", "marks", "regions", "layer", "rect", "one"]
abbrev p_flat : List Str := ["house", "name"]
theorem sc_flat : FnScope n_flat p_flat (defScope s_flat) := ⟨rfl, rfl, rfl, by decide +kernel, rfl, by decide +kernel, by decide +kernel⟩
theorem ok_flat (F : Fun K "flat" "flat" s_flat f fd) (T : Txt mg) (C : Cst mg) (xc : XCls K mg "TooMuch" C0) (J_sizes : Has P w K mg base "sizes" 1 p_sizes spSizes) (J_parts : Has P w K mg base "parts" 10 p_parts (spParts 6)) (J_region : Has P w K mg base "region" 2 p_region spRegion) :
    FnOk P w K mg base (L2.CX P w) 11 f fd p_flat (spFlat C0) := by
  refine F.okX sc_flat (fun vs H Q E h => ?_) (fun cdv A outer s H vs Q E hr h => ?_)
  · obtain ⟨x, y, z, rfl, _⟩ := h
    rfl
  obtain ⟨v, h, nm, rfl, hI, hnm, qx, q⟩ := h
  have nd := (sc_flat).nd
  have hu := hu_of hr
  refine ⟨_, (pss_cons (ps_set (i := 2) nd rfl (Or.inl rfl) pe_dnewK)
  (pss_cons (ps_for (passes_of rfl) rfl (pi_tup (pv 0)) (pg_name (i := 3) nd rfl (Or.inl rfl))
  (pss_one (ps_dput hu (pv 2) (pe_ix ix_tup (pv 3) pe_int (fun _ _ => rfl)) (pe_slice sl_tupA (pv 3) (po_some pe_int) po_none) rfl)))
  (pss_cons (ps_if (PW.pt (pw_or (pt_not (pt_val (pe_callB call_isi (by rfl) T.b_isinstance (by decide +kernel) (pa_cons (pv 1) (pa_cons (pe_bltn (v := .ty "str") rfl T.b_str rfl rfl) pa_nil))))) (pw_or1 (pt_cmp (pc_dnotin hu (pv 1) (pv 2)))))) (pss_one (ps_never)) pss_nil)
  (pss_cons (ps_asg (pe_dget hu (pe_f J_sizes hr (pa_cons (pv 0) pa_nil)) (pv 1) (fun _ _ => rfl)) (pg_tup rfl (pgs_cons (pg_name (i := 4) nd rfl (Or.inl rfl)) (pgs_cons (pg_name (i := 5) nd rfl (Or.inl rfl)) pgs_nil))))
  (pss_cons (ps_if (PW.pt (pw_or (pt_cmpR op_gt (pv 4) (pe_gi C.c_MOST_LAID) nomk) (pw_or1 (pt_cmpR op_gt (pv 5) (pe_gi C.c_MOST_DEEP) nomk)))) (pss_one (ps_raise rfl (takes_of rfl rfl rfl rfl) (pmk_own PySem.F.excBase_ValueError xc.xP xc.gP xc.kP (raises_own xc.bP xc.tP) rfl))) pss_nil)
  (pss_cons (ps_asg (pe_f J_parts hr (pa_cons (pv 2) (pa_cons (pv 1) (pa_cons pe_int (pa_cons pe_int (pa_cons pe_int pa_nil)))))) (pg_tup rfl (pgs_cons (pg_name (i := 6) nd rfl (Or.inr rfl)) (pgs_cons (pg_name (i := 7) nd rfl (Or.inl rfl)) pgs_nil))))
  (pss_cons (ps_set (i := 8) nd rfl (Or.inl rfl) (pe_callTy call_tuple_of (by rfl) T.b_tuple (by decide +kernel) (pa_cons (pe_lc (own := [("one", 11)]) rfl nd (pi_str (pe_gs C.c_LAYERS)) (blkOk_by (own := [("one", 11)]) (N := n_flat) (sc := defScope s_flat) (by decide +kernel)) (fun _ _ _ _ _ => (pg_name (i := 11) nd rfl (Or.inr rfl))) (fun _ _ _ _ _ => pts_nil) (fun _ _ _ _ _ => (pe_f J_region hr (pa_cons (pe_lc (own := [("layer", 9), ("rect", 10)]) rfl nd (pi_listK (K := K) (pv 6)) (blkOk_by (own := [("layer", 9), ("rect", 10)]) (N := n_flat) (sc := flatSc) (by decide +kernel)) (fun _ _ _ _ _ => (pg_tupK (K := K) (n := 2) rfl (pgs_cons (pg_name (i := 9) nd rfl (Or.inl rfl)) (pgs_cons (pg_name (i := 10) nd rfl (Or.inl rfl)) pgs_nil)))) (fun _ _ _ _ _ => (pts_one (pt_cmpR op_eq (pv 9) (pv 11) nomk))) (fun _ _ _ _ _ => (pv 10))) pa_nil)))) pa_nil)))
  (pss_one (ps_ret (pe_tup (pa_cons (pv 8) (pa_cons (pe_callTy call_tuple_of (by rfl) T.b_tuple (by decide +kernel) (pa_cons (pe_callB (cr_sortedM rfl hr.units) (by rfl) T.b_sorted (by decide +kernel) (pa_cons (pe_callTy (cr_setM rfl hr.units) (by rfl) T.b_set (by decide +kernel) (pa_cons (pv 7) pa_nil)) pa_nil)) pa_nil)) pa_nil)))))))))))), ?_⟩
  obtain ⟨ha, xs, rfl, hha, hx⟩ := hI.is.tup_inv
  have hxl : xs.length = h.length := by rw [hx.length, List.length_map]
  have hfew := hI.few
  intro d hd
  have s0 := same_new hd (.dK [])
  have nha : ha ≠ d := ne_of_none hha hd
  refine asg (i := 2) ?_
  dsimp only
  refine seq_for (fun σ' H' => ∃ kvs x3, σ' = [some (.ref ha), some (.str nm), some (.ref d), x3, none, none, none, none, none, none, none, none] ∧ Same H H' ∧ H' d = some (.dK kvs) ∧ DAll encBody H' kvs h) (fun σ' H1 hp => ?_) (fun go => ?_)
  · obtain ⟨kvs, x3, rfl, s1, hdk, hD⟩ := hp
    -- the name is there
    refine seq_if (fun σ' H' => σ' = [some (.ref ha), some (.str nm), some (.ref d), x3, none, none, none, none, none, none, none, none] ∧ H' = H1) (fun σ' H' hp => ?_) (fun go => ?_)
    · obtain ⟨rfl, rfl⟩ := hp
      have hI1 := hI.mono (kt s1)
      refine ⟨_, rfl, .ref ha, h, rfl, hI1, fun d2 H2 kvs2 hd2n s2 hd2 hD2 => ?_⟩
      have s12 := s1.trans s2
      have hnm2 : nm ∈ (sizesL h).map (·.1) := by rw [sizesL_names]; exact hnm
      obtain ⟨sz0, hsz, _⟩ := look_some hnm2
      rcases hD2.look nm with ⟨e, _⟩ | ⟨sz1, v1, e2, e3, e4⟩
      · rw [e] at hsz; cases hsz
      rw [hsz] at e2
      cases e2
      obtain ⟨pa, rfl, hpa⟩ := pair_inv (s := sz0) e4
      refine ⟨_, rfl, d2, .ref pa, rfl, ?_, pa, _, rfl, SqT.of hpa, rfl, _, _, rfl, _, _, rfl, rfl, ?_⟩
      · rw [← e3]
        exact DGet.k (k := (.inr nm : Key)) hd2
      -- too much
      dsimp only
      refine seq_if (fun σ' H' => σ' = [some (.ref ha), some (.str nm), some (.ref d), x3, some (.int sz0.1), some (.int sz0.2), none, none, none, none, none, none] ∧ H' = H2 ∧ ¬ TooMuchZ sz0) (fun σ' H'' hp => ?_) (fun go => ?_)
      · obtain ⟨rfl, rfl, hok⟩ := hp
        have q' := q sz0 hsz hok
        have SI := (sizeInv hI.ok).all nm sz0 hsz
        have hdeep : DeepOk 6 h nm := SI.2.2.1.mono (by unfold TooMuchZ at hok; omega)
        have hmost : (partsF 6 h nm 0 0 0).1.length + (partsF 6 h nm 0 0 0).2.length ≤ 600 := by
          have := SI.2.2.2 6 0 0 0
          unfold TooMuchZ at hok
          omega
        have hd'' := s2 _ _ hdk
        refine ⟨_, rfl, _, rfl, d, h, nm, 0, 0, 0, rfl, ⟨⟨kvs, hd'', hD.mono (kt s2)⟩, hI.ok, hI.fewU⟩, ⟨by decide, by decide⟩, hdeep, hmost, fun p fo no H3 s3 hp3 h31 h32 => ?_⟩
        refine ⟨p, _, rfl, SqT.of hp3, rfl, _, _, rfl, _, _, rfl, rfl, ?_⟩
        have hvalid := parts_valid 6 h nm 0 0 0 hI.ok ⟨by decide, by decide⟩
        generalize hP1 : (partsF 6 h nm 0 0 0).1 = P1 at h31 hmost hvalid
        generalize hP2 : (partsF 6 h nm 0 0 0).2 = P2 at h32 hmost q'
        have hrss : (sheetRss h nm) = layNames.map fun l => layerOf l P1 := by unfold sheetRss; rw [hP1]
        rw [hrss] at q'
        obtain ⟨fs, hfo, hfd⟩ := h31
        obtain ⟨ns, hno, hnd⟩ := h32
        have hfl : fs.length = P1.length := by rw [hfd.length, List.length_map]
        -- regions
        refine ⟨layers, rfl, fun D hD0 => lc_map walk_str (((layNames.map fun l => layerOf l P1).map regOf).map encReg) (by simp only [List.length_map]; decide +kernel) (smL (by decide +kernel)) hD0 (fun _ _ => trivial) (fun i x H4 H5 e Qk Qs he s4 hy k => ?_) (fun H4 ys s4 hys hyd => ?_)⟩
        · obtain ⟨rfl, c, hc, rfl⟩ := hy
          have hl : layNames[i]? = some ⟨#[c]⟩ := by
            unfold layNames
            rw [List.getElem?_map, Array.getElem?_toList, hc]
            rfl
          rw [List.map_map, List.map_map] at he
          have ee := map_at hl he
          subst ee
          refine ⟨rfl, _, rfl, fo, rfl, ⟨_, SqL.of (s4 _ _ hfo)⟩, fun D2 hD20 => lc_opt (walk_list (K := K) (a := fo) (xs := fs)) (P1.map fun r => if r.1 = ⟨#[c]⟩ then some (encR r.2) else none) (by rw [List.length_map, hfl]) (smL (by omega)) hD20 (fun H6 s6 => SqL.of (s6 _ _ (s4 _ _ hfo))) (fun j y H6 H7 e' Qk' Qs' he' s6 hy' k1 k2 => ?_) (fun H6 zs s6 hzs hzd => ?_)⟩
          · obtain ⟨rfl, hyj⟩ := hy'
            obtain ⟨r, hr', hvr⟩ := at_map hfd hyj
            have ee' := map_at (f := fun r : LRectS => if r.1 = ⟨#[c]⟩ then some (encR r.2) else none) hr' he'
            obtain ⟨ta, u, rfl, hta, hu'⟩ := lr_inv (hvr.mono (kt (s4.trans s6)))
            refine ⟨ta, _, rfl, SqT.of hta, rfl, _, _, rfl, _, _, rfl, rfl, rfl, ?_⟩
            refine ⟨_, rfl, _, rfl, rfl, _, rfl, ?_⟩
            by_cases cc : r.1 = ⟨#[c]⟩
            · have cc' : V.str r.1 = V.str ⟨#[c]⟩ := by rw [cc]
              rw [decide_eq_true cc']
              rw [if_pos cc] at ee'
              exact iteT ⟨_, rfl, k1 _ _ _ ee' (same_refl _) hu'⟩
            · have cc' : ¬ (V.str r.1 = V.str ⟨#[c]⟩) := fun z => cc (V.str.inj z)
              rw [decide_eq_false cc']
              rw [if_neg cc] at ee'
              exact iteF (k2 _ ee' (same_refl _))
          · rw [layer_fm] at hzd
            have hll := layerOf_len (⟨#[c]⟩ : Str) P1
            refine ⟨D2, layerOf ⟨#[c]⟩ P1, rfl, ⟨zs, hzs, hzd⟩, fun r hr => hvalid _ (layerOf_mem.mp hr), by omega, fewY_of (by omega), fun v8 H8 s8 h8 => ?_⟩
            exact k _ _ (s6.trans s8) h8
        · refine ⟨D, _, rfl, .inl ⟨SqL.of hys, fun p1 hp1 => ?_⟩⟩
          have s5 := same_new hp1 (.tup ys)
          have hyd1 : Is (upd H4 p1 (.tup ys)) (.ref p1) _ := is_new hp1 hyd
          have s45 := s4.trans s5
          generalize upd H4 p1 (.tup ys) = H5 at s5 hyd1 s45
          refine asg (i := 8) ?_
          dsimp only
          refine ⟨_, rfl, _, rfl, no, P2.map mkey, rfl, ⟨ns, s45 _ _ hno, by rw [← encM_keys]; exact hnd.mono (kt s45)⟩, by rw [List.length_map]; omega, fun a ps ha' eps hps => ?_⟩
          have s6 := same_new ha' (SetMO P w a ps)
          refine ⟨a, ps, [false, false, true, true], rfl, upd_same, fun p hp => (hps p hp).mono (kt s6), by rw [← List.length_map (f := fun x : Addr × List Key => x.2), eps, List.length_map]; omega, by simp, fun p hp => ?_, fun ks xs9 p9 nd9 hk hp9 hx9 => ?_⟩
          · have : p.2 ∈ P2.map mkey := by rw [← eps]; exact List.mem_map_of_mem hp
            obtain ⟨m, _, e⟩ := List.mem_map.mp this
            rw [← e]
            rfl
          · obtain ⟨ms, g1, g2, g3⟩ := set_marks (ms0 := P2) nd9 (fun k => by rw [hk, eps])
            have s9 := same_new hp9 (.lst xs9)
            refine ⟨p9, xs9, rfl, .inl ⟨SqL.of upd_same, fun p10 hp10 => ?_⟩⟩
            have s10 := same_new hp10 (.tup xs9)
            refine ⟨sz 2, fun p11 hp11 => ?_⟩
            have sB := s6.trans (s9.trans s10)
            have hx10 := hx9.mono (kt s9)
            rw [g3] at hx10
            exact q' _ _ ms ((s12.trans s3).trans (s45.trans (sB.trans (same_new hp11 _)))) g1 g2 (is_new hp11 (.cons (hyd1.mono (kt sB)) (.cons (is_new hp10 hx10) .nil)))
      · refine ⟨_, rfl, _, _, rfl, rfl, _, rfl, ?_⟩
        refine ite2 (fun c => ?_) (fun c => ?_)
        · have c' : 600 < sz0.1 := of_decide_eq_true c
          exact qx sz0 hsz (.inl c') H2 s12
        · have c' : ¬ 600 < sz0.1 := of_decide_eq_false (Bool.eq_false_iff.mpr c)
          refine ⟨_, rfl, _, _, rfl, rfl, _, rfl, ?_⟩
          refine ite2 (fun c2 => ?_) (fun c2 => ?_)
          · have c3 : 6 < sz0.2 := of_decide_eq_true c2
            exact qx sz0 hsz (.inr c3) H2 s12
          · have c3 : ¬ 6 < sz0.2 := of_decide_eq_false (Bool.eq_false_iff.mpr c2)
            exact go _ _ ⟨rfl, rfl, fun z => z.elim c' c3⟩
    · refine ⟨_, rfl, .str nm, .ty "str", .type "str", .type "str", true, rfl, .ty "str", .base (.str nm), kit_ty (by decide +kernel), true, rfl, ?_⟩
      refine iteF ?_
      obtain ⟨b, hb, _⟩ := look_some hnm
      rcases hD.look nm with ⟨e, _⟩ | ⟨b', v, e, e1, e2⟩
      · rw [hb] at e; cases e
      refine ⟨_, rfl, _, rfl, d, _, rfl, DGet.k (k := (.inr nm : Key)) hdk, _, rfl, ?_⟩
      rw [e1]
      refine iteF ?_
      exact go _ _ ⟨rfl, rfl⟩
  · refine ⟨_, rfl, ha, rfl, ⟨_, SqT.of (s0 _ _ hha)⟩, for_it (walk_tup (K := K) (a := ha) (xs := xs)) (fun i σ' H' => ∃ kvs x3, σ' = [some (.ref ha), some (.str nm), some (.ref d), x3, none, none, none, none, none, none, none, none] ∧ SB d (upd H d (.dK [])) H' ∧ H' d = some (.dK kvs) ∧ DAll encBody H' kvs (h.take i)) ?_ (fun i σ H' _ hp => ?_) (fun i x σ H1 H2 hi hp hy => ?_) (fun σ H1 hp => ?_)⟩
    · exact ⟨[], _, rfl, SB.refl, upd_same, DAll.nil⟩
    · obtain ⟨kvs, x3, rfl, sb, _⟩ := hp
      exact SqT.of (sb _ _ (s0 _ _ hha) nha)
    · obtain ⟨kvs, x3, rfl, sb, hdk, hD⟩ := hp
      obtain ⟨rfl, hxi⟩ := hy
      obtain ⟨c, hc, hv⟩ := at_map hx hxi
      have sH := same_of hd s0 sb
      obtain ⟨a, ra, ma, ua, rs, ms, us, rfl, A0⟩ := cell_inv (hv.mono (kt sH))
      refine ⟨_, rfl, _, rfl, a, _, rfl, SqT.of A0.ob, fun z => ?_, fun _ p1 hp1 => ?_⟩
      · exact absurd z.1 (show ¬ (1 : Nat) = 0 by decide)
      have s1 := same_new hp1 (.tup [.ref ra, .ref ma, .ref ua])
      have A1 := A0.mono (kt s1)
      have hdk1 := s1 _ _ hdk
      have hnone : valV kvs (.inr c.1 : Key) = none := by
        rcases hD.look c.1 with ⟨_, e⟩ | ⟨b1, v1, e2, _⟩
        · exact e
        · rw [look_none (ok_at hI.ok hc).new] at e2
          cases e2
      have hkl : kvs.length ≤ i := by
        rw [hD.length, List.length_take]
        omega
      refine ⟨_, rfl, _, rfl, a, _, _, _, rfl, rfl, SqT.of A1.ob, rfl, d, _, rfl, DPut.k (k := (.inr c.1 : Key)) hdk1 (sm (by omega)), ?_⟩
      rw [putK_new _ hnone]
      refine ⟨_, _, rfl, sb.trans ((sb_same s1).trans (sb_upd _)), upd_same, ?_⟩
      rw [List.take_add_one, hc]
      have kk := kt_upd hdk1 (fun _ z => by cases z) (.dK (kvs ++ [((.inr c.1 : Key), .ref p1)]))
      refine (hD.mono ((kt s1).trans kk)).snoc (a := c.2) ?_
      refine (Is.tup (upd_same (H := H2) (a := p1) (o := .tup [.ref ra, .ref ma, .ref ua])) ?_).mono kk
      exact .cons (.tup A1.hr A1.dr) (.cons (.tup A1.hm A1.dm) (.cons (.tup A1.hu A1.du) .nil))
    · obtain ⟨kvs, x3, rfl, sb, hdk, hD⟩ := hp
      rw [hxl, List.take_length] at hD
      exact go _ _ ⟨kvs, _, rfl, same_of hd s0 sb, hdk, hD⟩
end
end Mw
end
section
set_option maxRecDepth 100000
set_option maxHeartbeats 8000000
/-! the law's bag of numbers. -/
namespace Mw
open PySem PySem.Spec PyProof.Rows L2
/-- the bag: the cell's rest, the mixed number -/
def Bag (b : Addr) (H : Hp) : Prop := ∃ c m : Int, H b = some (.lst [.int c, .int m]) ∧ 0 ≤ c ∧ 0 ≤ m ∧ m < 2147483629
theorem Bag.same {b : Addr} {H H' : Hp} (s : Same H H') (B : Bag b H) : Bag b H' := by
  obtain ⟨c, m, h, r⟩ := B
  exact ⟨c, m, s _ _ h, r⟩
theorem Bag.kt {b : Addr} {H H' : Hp} (B : Bag b H) (s : SB b H H') : KT H H' := by
  obtain ⟨c, m, h, r⟩ := B
  exact kt_sb h s
theorem Bag.ne {b p : Addr} {H : Hp} (B : Bag b H) (hp : H p = none) : b ≠ p := by
  obtain ⟨c, m, h, r⟩ := B
  exact ne_of_none h hp
theorem nxt {D : Ends} {σ : L2.St} {H : Hp} (h : D.nx σ H) : tNext D σ H := h
section
variable {P : Program} {w : World} {K : PySem.W.Frag} {mg : Str → Option Value} {base : Heap} {f g C0 : Addr} {fd gd : FuncData}
def spBag (K : PySem.W.Frag) : Sp := fun vs H Q _ => ∃ (a : Addr) (ns : List Int) (k : Int), vs = [.ref a, .int k] ∧ SqL K H a (ns.map V.int) ∧ ns.length ≤ 63 ∧ 0 ≤ k ∧ k ≤ 2 ∧ ∀ b H', H b = none → Same H H' → Bag b H' → Q (.ref b) H'
abbrev s__law_bag : Stmt := top 56
abbrev n__law_bag : List Str := ["_law_script", "_law_at", "_law_cell", "_law_mix", "_law_k"]
abbrev p__law_bag : List Str := ["_law_script", "_law_at"]
theorem sc__law_bag : FnScope n__law_bag p__law_bag (defScope s__law_bag) := ⟨rfl, rfl, rfl, by decide +kernel, rfl, by decide +kernel, by decide +kernel⟩
theorem ok_law_bag (F : Fun K "_law_bag" "_law_bag" s__law_bag f fd) (T : Txt mg) : FnOk P w K mg base CX0 1 f fd p__law_bag (spBag K) := by
  refine F.ok sc__law_bag (fun vs H Q E h => ?_) (fun cdv A outer s H vs Q E hr h => ?_)
  · obtain ⟨x, y, z, rfl, _⟩ := h
    rfl
  obtain ⟨a, ns, k, rfl, hS, hl, hk0, hk2, q⟩ := h
  have nd := (sc__law_bag).nd
  refine ⟨_, (pss_cons (ps_set (i := 2) nd rfl (Or.inl rfl) pe_int)
  (pss_cons (ps_if (pt_cmpR op_lt (pv 1) (pe_callB call_len_seq (by rfl) T.b_len (by decide +kernel) (pa_cons (pv 0) pa_nil)) nomk) (pss_one (ps_set (i := 2) nd rfl (Or.inl rfl) (pe_callB call_abs (by rfl) T.b_abs (by decide +kernel) (pa_cons (pe_ix ix_list (pv 0) (pv 1) (fun _ _ => rfl)) pa_nil)))) pss_nil)
  (pss_cons (ps_set (i := 3) nd rfl (Or.inl rfl) (pe_op op_add (pe_op op_add (pe_op op_mul (pe_op op_mul pe_int (pv 1)) (pv 1)) (pe_op op_mul pe_int (pv 1))) pe_int))
  (pss_cons (ps_for PassesOwn.never rfl (pi_range1 (by rfl) T.b_range (pa_cons (pe_callB (call_min2 rfl) (by rfl) T.b_min (by decide +kernel) (pa_cons (pe_callB call_len_seq (by rfl) T.b_len (by decide +kernel) (pa_cons (pv 0) pa_nil)) (pa_cons pe_int pa_nil))) pa_nil)) (pg_name (i := 4) nd rfl (Or.inl rfl))
  (pss_one (ps_set (i := 3) nd rfl (Or.inl rfl) (pe_op op_mod (pe_op op_pow (pe_op op_add (pe_op op_add (pe_op op_mul (pv 3) pe_int) (pe_op op_mod (pe_ix ix_list (pv 0) (pv 4) (fun _ _ => rfl)) pe_int)) (pe_op op_mul (pv 4) (pv 4))) pe_int) pe_int))))
  (pss_cons (ps_if (pt_cmpR op_lt (pv 2) (pe_op op_pow pe_int pe_int) nomk) (pss_one (ps_set (i := 2) nd rfl (Or.inl rfl) pe_int)) pss_nil)
  (pss_one (ps_ret (pe_lst (pa_cons (pv 2) (pa_cons (pv 3) pa_nil)))))))))), ?_⟩
  have hlen : (ns.map V.int).length = ns.length := List.length_map _
  refine asg (i := 2) ?_
  dsimp only
  refine seq_if (fun σ' H' => ∃ c : Int, σ' = [some (.ref a), some (.int k), some (.int c), none, none] ∧ H' = H ∧ 0 ≤ c) (fun σ' H1 hp => ?_) (fun go => ?_)
  · obtain ⟨c, rfl, rfl, hc⟩ := hp
    refine ⟨_, rfl, _, _, rfl, rfl, .inl ⟨by decide, by decide⟩, _, rfl, _, _, rfl, rfl, .inl ⟨by omega, by omega⟩, _, rfl, _, _, rfl, rfl, .inl ⟨by decide, by decide⟩, _, _, rfl, rfl, _, _, rfl, rfl, ?_⟩
    refine asg (i := 3) ?_
    dsimp only
    have e3 : k = 0 ∨ k = 1 ∨ k = 2 := by omega
    have m0 : 0 ≤ 7919 * k * k + 104729 * k + 17 ∧ 7919 * k * k + 104729 * k + 17 < 2147483629 := by
      rcases e3 with e | e | e <;> subst e <;> decide
    refine seq_for (fun σ' H' => ∃ (m : Int) (x4 : Option V), σ' = [some (.ref a), some (.int k), some (.int c), some (.int m), x4] ∧ H' = H1 ∧ 0 ≤ m ∧ m < 2147483629) (fun σ' H' hp => ?_) (fun go => ?_)
    · obtain ⟨m, x4, rfl, rfl, hm0, hm1⟩ := hp
      refine seq_if (fun σ' H2 => ∃ c : Int, σ' = [some (.ref a), some (.int k), some (.int c), some (.int m), x4] ∧ H2 = H' ∧ 0 ≤ c) (fun σ' H2 hp => ?_) (fun go => ?_)
      · obtain ⟨c, rfl, rfl, hc⟩ := hp
        refine ⟨_, rfl, _, rfl, sz 2, fun b hb => ?_⟩
        exact q b _ hb (same_new hb _) ⟨c, m, upd_same, hc, hm0, hm1⟩
      · refine ⟨_, rfl, _, _, rfl, rfl, ⟨by decide, by decide, by decide⟩, _, _, rfl, rfl, _, rfl, ite2 (fun c1 => ?_) (fun c1 => ?_)⟩
        · exact go _ _ ⟨0, rfl, rfl, by decide⟩
        · exact go _ _ ⟨c, rfl, rfl, hc⟩
    · refine ⟨_, rfl, a, _, rfl, .inl hS, _, _, rfl, ?_⟩
      have hn : (if (60 : Int) < ((ns.map V.int).length : Nat) then (60 : Int) else ((ns.map V.int).length : Nat)).toNat ≤ ns.length := by
        split <;> omega
      refine ⟨_, rfl, ?_, ?_, for_range (lo := 0) (n := (if (60 : Int) < ((ns.map V.int).length : Nat) then (60 : Int) else ((ns.map V.int).length : Nat)).toNat) (fun i σ H' => ∃ (m : Int) (x4 : Option V), σ = [some (.ref a), some (.int k), some (.int c), some (.int m), x4] ∧ H' = H1 ∧ 0 ≤ m ∧ m < 2147483629) ⟨_, _, rfl, rfl, m0⟩ (fun i σ H2 hi hp => ?_) (fun σ H2 hp => go _ _ hp)⟩
      · split <;> omega
      · split <;> omega
      obtain ⟨m, x4, rfl, rfl, hm0, hm1⟩ := hp
      have hi' : i < ns.length := by omega
      have ex : (ns.map V.int)[i]? = some (V.int ns[i]) := by rw [List.getElem?_map, List.getElem?_eq_getElem hi']; rfl
      have e0 : (0 : Int) + (i : Nat) = (i : Nat) := by omega
      rw [e0]
      have r1 := Int.emod_nonneg ns[i] (show (2147483647 : Int) ≠ 0 by decide)
      have r2 := Int.emod_lt_of_pos ns[i] (show (0 : Int) < 2147483647 by decide)
      have r3 : (i : Int) * i ≤ 63 * 63 := Int.mul_le_mul (by omega) (by omega) (by omega) (by omega)
      have r4 : 0 ≤ (i : Int) * i := Int.mul_nonneg (by omega) (by omega)
      refine ⟨_, rfl, _, _, rfl, rfl, .inl ⟨by omega, by omega⟩, _, rfl, _, rfl, a, _, _, _, rfl, rfl, hS, atI_nat ex, _, _, rfl, rfl, (by show (0 : Int) < 2147483647; decide), _, _, rfl, rfl, _, rfl, _, rfl, _, _, rfl, rfl, .inl ⟨by omega, by omega⟩, _, _, rfl, rfl, _, _, rfl, rfl, ⟨by decide, by decide, ?_⟩, _, _, rfl, rfl, (by show (0 : Int) < 2147483629; decide), ?_⟩
      · show (m * 48271 + ns[i] % 2147483647 + (i : Int) * i).natAbs < 2 ^ 64
        omega
      · refine ⟨_, _, rfl, rfl, Int.emod_nonneg _ (by decide), Int.emod_lt_of_pos _ (by decide)⟩
  · refine ⟨_, rfl, _, rfl, a, _, rfl, .inl hS, _, _, rfl, rfl, _, rfl, ite2 (fun c => ?_) (fun c => ?_)⟩
    · have c' : k < ((ns.map V.int).length : Nat) := of_decide_eq_true c
      have hk : k.toNat < ns.length := by omega
      have ex : (ns.map V.int)[k.toNat]? = some (V.int ns[k.toNat]) := by rw [List.getElem?_map, List.getElem?_eq_getElem hk]; rfl
      have ek : atI (ns.map V.int) k = some (V.int ns[k.toNat]) := by
        have := atI_nat ex
        rwa [Int.toNat_of_nonneg hk0] at this
      refine ⟨_, rfl, _, rfl, a, _, _, _, rfl, rfl, hS, ek, _, rfl, ?_⟩
      refine go _ _ ⟨_, rfl, rfl, ?_⟩
      split <;> omega
    · exact go _ _ ⟨0, rfl, rfl, by decide⟩
def spTake : Sp := fun vs H Q _ => ∃ b many, vs = [.ref b, .int many] ∧ Bag b H ∧ 1 ≤ many ∧ many ≤ 4194304 ∧ ∀ d H', SB b H H' → Bag b H' → 0 ≤ d → d < many → Q (.int d) H'
abbrev s__law_take : Stmt := top 57
abbrev n__law_take : List Str := ["_law_bag_here", "_law_many", "_law_digit", "_law_number", "_law_room"]
abbrev p__law_take : List Str := ["_law_bag_here", "_law_many"]
theorem sc__law_take : FnScope n__law_take p__law_take (defScope s__law_take) := ⟨rfl, rfl, rfl, by decide +kernel, rfl, by decide +kernel, by decide +kernel⟩
theorem ok_law_take (F : Fun K "_law_take" "_law_take" s__law_take f fd) (T : Txt mg) : FnOk P w K mg base CX0 1 f fd p__law_take spTake := by
  refine F.ok sc__law_take (fun vs H Q E h => ?_) (fun cdv A outer s H vs Q E hr h => ?_)
  · obtain ⟨x, y, rfl, _⟩ := h
    rfl
  obtain ⟨b, many, rfl, ⟨c, m, hb, hc, hm0, hm1⟩, h1, h2, q⟩ := h
  have nd := (sc__law_take).nd
  refine ⟨_, (pss_cons (ps_if (pt_cmpR op_gt (pe_ix ix_list (pv 0) pe_int (fun _ _ => rfl)) pe_int nomk) (pss_cons (ps_set (i := 2) nd rfl (Or.inl rfl) (pe_op op_mod (pe_ix ix_list (pv 0) pe_int (fun _ _ => rfl)) (pv 1)))
  (pss_cons (ps_asg (pe_op op_fdivN (pe_ix ix_list (pv 0) pe_int (fun _ _ => rfl)) (pv 1)) (pg_sub (pv 0) pe_int set_list))
  (pss_one (ps_ret (pv 2))))) pss_nil)
  (pss_cons (ps_set (i := 3) nd rfl (Or.inl rfl) pe_int)
  (pss_cons (ps_set (i := 4) nd rfl (Or.inl rfl) pe_int)
  (pss_cons (ps_while PassesOwn.never (pt_cmpR op_lt (pv 4) (pv 1) nomk)
  (pss_cons (ps_asg (pe_op op_mod (pe_op op_pow (pe_op op_add (pe_op op_mul (pe_ix ix_list (pv 0) pe_int (fun _ _ => rfl)) pe_int) pe_int) pe_int) pe_int) (pg_sub (pv 0) pe_int set_list))
  (pss_cons (ps_set (i := 3) nd rfl (Or.inl rfl) (pe_op op_add (pe_op op_mul (pv 3) pe_int) (pe_op op_mod (pe_op op_mul (pe_op op_fdiv (pe_ix ix_list (pv 0) pe_int (fun _ _ => rfl)) pe_int) pe_int) pe_int)))
  (pss_one (ps_set (i := 4) nd rfl (Or.inl rfl) (pe_op op_mul (pv 4) pe_int))))))
  (pss_one (ps_ret (pe_op op_mod (pv 3) (pv 1)))))))), ?_⟩
  refine ⟨_, rfl, b, _, _, _, rfl, rfl, SqL.of hb, rfl, _, _, rfl, rfl, _, rfl, ite2 (fun cc => ?_) (fun cc => ?_)⟩
  · refine ⟨_, rfl, b, _, _, _, rfl, rfl, SqL.of hb, rfl, _, rfl, _, _, rfl, rfl, (by show (0 : Int) < many; omega), ?_⟩
    refine ⟨_, rfl, b, _, _, _, rfl, rfl, SqL.of hb, rfl, _, rfl, _, _, rfl, rfl, ⟨by show many ≠ 0; omega, by show many.natAbs < 1073741824; omega⟩, _, rfl, b, _, _, 0, rfl, rfl, hb, rfl, ?_⟩
    refine ⟨_, rfl, q _ _ (sb_upd _) ⟨c.fdiv many, m, upd_same, ?_, hm0, hm1⟩ (Int.emod_nonneg _ (by omega)) (Int.emod_lt_of_pos _ (by omega))⟩
    rw [Int.fdiv_eq_ediv_of_nonneg c (by omega)]
    exact Int.ediv_nonneg hc (by omega)
  · refine nxt ?_
    dsimp only
    refine asg (i := 3) ?_
    dsimp only
    refine asg (i := 4) ?_
    dsimp only
    refine seq_while (fun σ' H' => ∃ n r : Int, σ' = [some (.ref b), some (.int many), none, some (.int n), some (.int r)] ∧ SB b H H' ∧ Bag b H') (fun σ' H1 hp => ?_) (fun go => ?_)
    · obtain ⟨n, r, rfl, sb, B⟩ := hp
      exact ⟨_, rfl, _, rfl, _, _, rfl, rfl, (by show (0 : Int) < many; omega), q _ H1 sb B (Int.emod_nonneg _ (by omega)) (Int.emod_lt_of_pos _ (by omega))⟩
    · refine while_go (fun k σ' H' => ∃ n r : Int, σ' = [some (.ref b), some (.int many), none, some (.int n), some (.int r)] ∧ SB b H H' ∧ Bag b H' ∧ ((k = 1 ∧ n = 0 ∧ r = 1) ∨ (k = 0 ∧ r = 1073741789))) 1 ⟨0, 1, rfl, SB.refl, ⟨c, m, hb, hc, hm0, hm1⟩, .inl ⟨rfl, rfl, rfl⟩⟩ (fun k σ' H1 hp => ?_)
      obtain ⟨n, r, rfl, sb, B, hkr⟩ := hp
      refine ⟨_, rfl, _, rfl, _, _, rfl, rfl, _, rfl, ite2 (fun c1 => ?_) (fun c1 => ?_)⟩
      · have c1' : r < many := of_decide_eq_true c1
        rcases hkr with ⟨rfl, rfl, rfl⟩ | ⟨_, hr1⟩
        · obtain ⟨c2, m2, hb2, hc2, hm20, hm21⟩ := B
          refine ⟨fun σ'' H'' => ∃ m', m' < 1 ∧ _, fun _ _ z => z, ?_⟩
          refine ⟨_, rfl, b, _, _, _, rfl, rfl, SqL.of hb2, rfl, _, _, rfl, rfl, .inl ⟨by omega, by omega⟩, _, _, rfl, rfl, _, _, rfl, rfl, ⟨by decide, by decide, ?_⟩, _, _, rfl, rfl, (by show (0 : Int) < 2147483629; decide), _, rfl, b, _, _, 1, rfl, rfl, hb2, rfl, ?_⟩
          · show (m2 * 48271 + 7919).natAbs < 2 ^ 64
            omega
          have n1 := Int.emod_nonneg ((m2 * 48271 + 7919) ^ (3 : Int).toNat) (show (2147483629 : Int) ≠ 0 by decide)
          have n2 := Int.emod_lt_of_pos ((m2 * 48271 + 7919) ^ (3 : Int).toNat) (show (0 : Int) < 2147483629 by decide)
          generalize hm3 : (m2 * 48271 + 7919) ^ (3 : Int).toNat % 2147483629 = m3 at n1 n2
          refine ⟨_, rfl, _, _, rfl, rfl, .inl ⟨by decide, by decide⟩, _, rfl, b, _, _, _, rfl, rfl, SqL.of upd_same, rfl, _, _, rfl, rfl, ⟨by decide, by decide⟩, _, _, rfl, rfl, .inl ⟨?_, ?_⟩, _, _, rfl, rfl, (by show (0 : Int) < 1073741789; decide), _, _, rfl, rfl, ?_⟩
          · omega
          · omega
          refine ⟨_, rfl, _, _, rfl, rfl, .inl ⟨by decide, by decide⟩, ?_⟩
          refine ⟨0, by decide, _, _, rfl, sb.trans (sb_upd _), ⟨c2, m3, ?_, hc2, n1, n2⟩, .inr ⟨rfl, rfl⟩⟩
          rw [upd_same, ← hm3]
          rfl
        · omega
      · exact go _ _ ⟨n, r, rfl, sb, B⟩
end
end Mw
end
section
set_option maxRecDepth 100000
set_option maxHeartbeats 8000000
/-! the law's names, rects, marks. -/
namespace Mw
open PySem PySem.Spec PyProof.Rows L2
theorem atI_in {α : Type} {l : List α} {d : Int} (h0 : 0 ≤ d) (h1 : d < (l.length : Nat)) : ∃ c, atI l d = some c ∧ c ∈ l := by
  have hk : d.toNat < l.length := by omega
  have e := atI_nat (List.getElem?_eq_getElem hk)
  rw [Int.toNat_of_nonneg h0] at e
  exact ⟨_, e, List.getElem_mem hk⟩
theorem joinL_nil : ∀ l : List (List Nat), TL.joinL [] l = l.flatten
  | [] => rfl
  | [p] => by rw [TL.joinL, List.flatten_cons, List.flatten_nil, List.append_nil]
  | p :: q :: r => by
    rw [TL.joinL, List.flatten_cons, joinL_nil (q :: r), List.nil_append]
theorem flatten_ones : ∀ cs : List Nat, (cs.map fun c => [c]).flatten = cs
  | [] => rfl
  | c :: cs => by rw [List.map_cons, List.flatten_cons, flatten_ones cs]; rfl
theorem join_ones (cs : List Nat) : (Txt.join Str.empty (cs.map fun c => (⟨#[c]⟩ : Str))).cps.toList = cs := by
  rw [TL.join_eq]
  have h := TL.tl_join Str.empty (cs.map fun c => (⟨#[c]⟩ : Str))
  have e0 : TL.tl Str.empty = [] := rfl
  rw [e0, joinL_nil, List.map_map] at h
  have e1 : (TL.tl ∘ fun c => (⟨#[c]⟩ : Str)) = fun c : Nat => [c] := rfl
  rw [e1, flatten_ones] at h
  exact h
/-- what a comprehension that takes from the bag keeps -/
theorem bagI_new {b D : Addr} {H1 : Hp} (hD : H1 D = none) (B : Bag b H1) (o : HO) : SB b H1 (upd H1 D o) ∧ Bag b (upd H1 D o) := ⟨sb_same (same_new hD _), B.same (same_new hD _)⟩
theorem bagI_upd {b D : Addr} {H1 H : Hp} (hD : H1 D = none) (B1 : Bag b H1) (o : HO) (h : SB b H1 H ∧ Bag b H) : SB b H1 (upd H D o) ∧ Bag b (upd H D o) := by
  have n : b ≠ D := B1.ne hD
  refine ⟨fun c u e hc => ?_, ?_⟩
  · rw [upd_ne (ne_of_none e hD)]
    exact h.1 c u e hc
  · obtain ⟨c, m, e, r⟩ := h.2
    exact ⟨c, m, by rw [upd_ne n]; exact e, r⟩
section
variable {P : Program} {w : World} {K : PySem.W.Frag} {mg : Str → Option Value} {base : Heap} {f g C0 : Addr} {fd gd : FuncData}
def spName : Sp := fun vs H Q _ => ∃ b, vs = [.ref b] ∧ Bag b H ∧ ∀ z H', SB b H H' → Bag b H' → NameOk z → Q (.str z) H'
abbrev s__law_name : Stmt := top 58
abbrev n__law_name : List Str := ["_law_bag_here", "_law_k"]
abbrev p__law_name : List Str := ["_law_bag_here"]
theorem sc__law_name : FnScope n__law_name p__law_name (defScope s__law_name) := ⟨rfl, rfl, rfl, by decide +kernel, rfl, by decide +kernel, by decide +kernel⟩
theorem ok_law_name (F : Fun K "_law_name" "_law_name" s__law_name f fd) (T : Txt mg) (J__law_take : Has P w K mg base "_law_take" 1 p__law_take spTake) : FnOk P w K mg base CX0 2 f fd p__law_name spName := by
  refine F.ok sc__law_name (fun vs H Q E h => ?_) (fun cdv A outer s H vs Q E hr h => ?_)
  · obtain ⟨x, rfl, _⟩ := h
    rfl
  obtain ⟨b, rfl, hB, q⟩ := h
  have nd := (sc__law_name).nd
  refine ⟨_, (pss_one (ps_ret (pe_join pe_str (pe_lc (own := [("_law_k", 1)]) rfl nd (pi_range1 (by rfl) T.b_range (pa_cons (pe_op op_add pe_int (pe_f J__law_take hr (pa_cons (pv 0) (pa_cons pe_int pa_nil)))) pa_nil)) (blkOk_by (own := [("_law_k", 1)]) (N := n__law_name) (sc := defScope s__law_name) (by decide +kernel)) (fun _ _ _ _ _ => (pg_name (i := 1) nd rfl (Or.inl rfl))) (fun _ _ _ _ _ => pts_nil) (fun _ _ _ _ _ => (pe_ix ix_str pe_str (pe_f J__law_take hr (pa_cons (pv 0) (pa_cons pe_int pa_nil))) (fun _ _ => rfl))))))), ?_⟩
  refine ⟨⟨_, rfl⟩, ?_⟩
  refine ⟨_, rfl, b, 8, rfl, hB, by decide, by decide, fun d H1 s1 B1 d0 d1 => ?_⟩
  refine ⟨_, _, rfl, rfl, 1 + d, rfl, by omega, by omega, fun D hD => lc_all (n := (1 + d).toNat) walk_range (fun H' => SB b H1 H' ∧ Bag b H') (fun x => ∃ c ∈ small.cps.toList, x = .str ⟨#[c]⟩) (smL (by omega)) (bagI_new hD B1 _) (fun H o h => bagI_upd hD B1 _ h) (fun _ _ => trivial) (fun i x H2 H3 acc Qk Qs hi hI hDa hy k => ?_) (fun H2 xs ds hI hDx hdl hdp hdx => ?_)⟩
  · obtain ⟨rfl, rfl⟩ := hy
    refine ⟨rfl, _, rfl, b, 26, rfl, hI.2, by decide, by decide, fun d2 H4 s4 B4 e0 e1 => ?_⟩
    have hlen : (small.cps.toList.length : Int) = 26 := by decide +kernel
    obtain ⟨c, hc, hcm⟩ := atI_in (l := small.cps.toList) e0 (by rw [hlen]; exact e1)
    refine ⟨small, d2, c, rfl, rfl, sz _ (by decide +kernel), hc, k _ _ _ ⟨c, hcm, rfl⟩ ⟨hI.1.trans s4, B4⟩ (hI.2.kt s4) (s4 _ _ hDa (B1.ne hD).symm) (.str _)⟩
  · have key : ∀ {ds : List PyData}, (∀ d ∈ ds, ∃ c ∈ small.cps.toList, d = .str ⟨#[c]⟩) → ∃ cs : List Nat, ds = (cs.map fun c => (⟨#[c]⟩ : Str)).map PyData.str ∧ ∀ c ∈ cs, c ∈ small.cps.toList := by
      intro ds
      induction ds with
      | nil => exact fun _ => ⟨[], rfl, fun _ h => (by cases h)⟩
      | cons d ds ih =>
        intro h
        obtain ⟨c, hc, rfl⟩ := h d List.mem_cons_self
        obtain ⟨cs, rfl, h2⟩ := ih fun x hx => h x (List.mem_cons_of_mem _ hx)
        exact ⟨c :: cs, rfl, fun x hx => by
          rcases List.mem_cons.mp hx with z | z
          · rw [z]; exact hc
          · exact h2 x z⟩
    obtain ⟨cs, rfl, hcs⟩ := key hdp
    have e := strs_inv hdx
    subst e
    rw [List.length_map, List.length_map] at hdl
    refine ⟨_, D, cs.map fun c => (⟨#[c]⟩ : Str), rfl, rfl, .inl (SqL.of hDx), ?_, ?_⟩
    · have e1 : ((cs.map fun c => (⟨#[c]⟩ : Str)).map (·.length)).sum = cs.length := by
        clear hdl hcs hDx hdx hdp
        induction cs with
        | nil => rfl
        | cons c cs ih =>
          simp only [List.map_cons, List.sum_cons, List.length_cons] at ih ⊢
          rw [ih]
          show 1 + cs.length = _
          omega
      rw [e1]
      simp only [List.length_map]
      show cs.length + cs.length * 0 ≤ _
      omega
    · have ej := join_ones cs
      have el : (Txt.join Str.empty (cs.map fun c => (⟨#[c]⟩ : Str))).length = cs.length := by
        rw [← congrArg List.length ej]
        exact (Array.length_toList).symm
      refine q _ H2 (s1.trans hI.1) hI.2 ⟨?_, ?_, fun c hc => ?_⟩
      · show 1 ≤ (Txt.join Str.empty _).length
        rw [el]
        omega
      · show (Txt.join Str.empty _).length ≤ 8
        rw [el]
        omega
      · have hc' : c ∈ (Txt.join Str.empty (cs.map fun c => (⟨#[c]⟩ : Str))).cps.toList := hc
        rw [ej] at hc'
        exact hcs c hc'
def spLawRect : Sp := fun vs H Q _ => ∃ b far, vs = [.ref b, .int far] ∧ Bag b H ∧ 1 ≤ far ∧ far ≤ 1048576 ∧ ∀ v r H', SB b H H' → Bag b H' → RectOk r → Is H' v (encL r) → Q v H'
abbrev s__law_rect : Stmt := top 59
abbrev n__law_rect : List Str := ["_law_bag_here", "_law_far", "_law_x", "_law_y", "_law_wide", "_law_high"]
abbrev p__law_rect : List Str := ["_law_bag_here", "_law_far"]
theorem sc__law_rect : FnScope n__law_rect p__law_rect (defScope s__law_rect) := ⟨rfl, rfl, rfl, by decide +kernel, rfl, by decide +kernel, by decide +kernel⟩
theorem ok_law_rect (F : Fun K "_law_rect" "_law_rect" s__law_rect f fd) (T : Txt mg) (J__law_take : Has P w K mg base "_law_take" 1 p__law_take spTake) : FnOk P w K mg base CX0 2 f fd p__law_rect spLawRect := by
  refine F.ok sc__law_rect (fun vs H Q E h => ?_) (fun cdv A outer s H vs Q E hr h => ?_)
  · obtain ⟨x, y, rfl, _⟩ := h
    rfl
  obtain ⟨b, far, rfl, hB, hf1, hf2, q⟩ := h
  have nd := (sc__law_rect).nd
  refine ⟨_, (pss_cons (ps_set (i := 2) nd rfl (Or.inl rfl) (pe_op op_sub (pe_f J__law_take hr (pa_cons (pv 0) (pa_cons (pe_op op_mul pe_int (pv 1)) pa_nil))) (pv 1)))
  (pss_cons (ps_set (i := 3) nd rfl (Or.inl rfl) (pe_op op_sub (pe_f J__law_take hr (pa_cons (pv 0) (pa_cons (pe_op op_mul pe_int (pv 1)) pa_nil))) (pv 1)))
  (pss_cons (ps_set (i := 4) nd rfl (Or.inl rfl) (pe_op op_add pe_int (pe_f J__law_take hr (pa_cons (pv 0) (pa_cons (pv 1) pa_nil)))))
  (pss_cons (ps_set (i := 5) nd rfl (Or.inl rfl) (pe_op op_add pe_int (pe_f J__law_take hr (pa_cons (pv 0) (pa_cons (pv 1) pa_nil)))))
  (pss_one (ps_ret (pe_tup (pa_cons (pe_ix ix_str pe_str (pe_f J__law_take hr (pa_cons (pv 0) (pa_cons pe_int pa_nil))) (fun _ _ => rfl)) (pa_cons (pv 2) (pa_cons (pv 3) (pa_cons (pe_callB (call_min2 rfl) (by rfl) T.b_min (by decide +kernel) (pa_cons pe_int (pa_cons (pe_op op_add (pv 2) (pv 4)) pa_nil))) (pa_cons (pe_callB (call_min2 rfl) (by rfl) T.b_min (by decide +kernel) (pa_cons pe_int (pa_cons (pe_op op_add (pv 3) (pv 5)) pa_nil))) pa_nil)))))))))))), ?_⟩
  refine ⟨_, rfl, _, rfl, _, _, rfl, rfl, .inl ⟨by decide, by decide⟩, b, _, rfl, hB, by omega, by omega, fun x H1 s1 B1 x0 x1 => ⟨_, rfl, _, _, rfl, rfl, ?_⟩⟩
  refine ⟨_, rfl, _, rfl, _, _, rfl, rfl, .inl ⟨by decide, by decide⟩, b, _, rfl, B1, by omega, by omega, fun y H2 s2 B2 y0 y1 => ⟨_, rfl, _, _, rfl, rfl, ?_⟩⟩
  refine ⟨_, rfl, _, rfl, b, _, rfl, B2, by omega, by omega, fun wd H3 s3 B3 w0 w1 => ⟨_, _, rfl, rfl, ?_⟩⟩
  refine ⟨_, rfl, _, rfl, b, _, rfl, B3, by omega, by omega, fun hg H4 s4 B4 h0 h1 => ⟨_, _, rfl, rfl, ?_⟩⟩
  refine ⟨_, rfl, b, 6, rfl, B4, by decide, by decide, fun l H5 s5 B5 l0 l1 => ?_⟩
  have hlen : (layers.cps.toList.length : Int) = 6 := by decide +kernel
  obtain ⟨c, hc, hcm⟩ := atI_in (l := layers.cps.toList) l0 (by rw [hlen]; exact l1)
  refine ⟨layers, l, c, rfl, rfl, sz _ (by decide +kernel), hc, ?_⟩
  refine ⟨_, rfl, _, rfl, _, rfl, _, rfl, _, _, rfl, rfl, _, _, rfl, _, rfl, _, rfl, _, _, rfl, rfl, _, _, rfl, sz 5, fun p hp => ?_⟩
  have s6 := same_new hp (.tup [.str ⟨#[c]⟩, .int (x - far), .int (y - far), .int (if x - far + (1 + wd) < 1048576 then x - far + (1 + wd) else 1048576), .int (if y - far + (1 + hg) < 1048576 then y - far + (1 + hg) else 1048576)])
  have hx : Within (-1048576) 1048576 (if x - far + (1 + wd) < 1048576 then x - far + (1 + wd) else 1048576) ∧ x - far < (if x - far + (1 + wd) < 1048576 then x - far + (1 + wd) else 1048576) := by
    unfold Within
    split <;> omega
  have hy : Within (-1048576) 1048576 (if y - far + (1 + hg) < 1048576 then y - far + (1 + hg) else 1048576) ∧ y - far < (if y - far + (1 + hg) < 1048576 then y - far + (1 + hg) else 1048576) := by
    unfold Within
    split <;> omega
  refine q _ (⟨#[c]⟩, x - far, y - far, (if x - far + (1 + wd) < 1048576 then x - far + (1 + wd) else 1048576), (if y - far + (1 + hg) < 1048576 then y - far + (1 + hg) else 1048576)) _ ((((s1.trans s2).trans (s3.trans s4)).trans s5).trans (sb_same s6)) (B5.same s6) ⟨⟨c, rfl, hcm⟩, ?_, ?_, hx.1, hy.1, hx.2, hy.2⟩ (is_new hp (.cons (.str _) (ints4 _ _ _ _)))
  · show Within (-1048576) 1048576 (x - far)
    unfold Within
    omega
  · show Within (-1048576) 1048576 (y - far)
    unfold Within
    omega
def spLawMark : Sp := fun vs H Q _ => ∃ (b no : Addr) (ns : List Str) (far : Int), vs = [.ref b, .ref no, .int far] ∧ Bag b H ∧ no ≠ b ∧ H no = some (.lst (ns.map V.str)) ∧ (∀ n ∈ ns, NameOk n) ∧ ns.length ≤ 1000 ∧ 1 ≤ far ∧ far ≤ 1048576 ∧ ∀ v m H', SB b H H' → Bag b H' → MarkOk m → Is H' v (encM m) → Q v H'
abbrev s__law_mark : Stmt := top 60
abbrev n__law_mark : List Str := ["_law_bag_here", "_law_names", "_law_far", "_law_name_here"]
abbrev p__law_mark : List Str := ["_law_bag_here", "_law_names", "_law_far"]
theorem sc__law_mark : FnScope n__law_mark p__law_mark (defScope s__law_mark) := ⟨rfl, rfl, rfl, by decide +kernel, rfl, by decide +kernel, by decide +kernel⟩
theorem ok_law_mark (F : Fun K "_law_mark" "_law_mark" s__law_mark f fd) (T : Txt mg) (J__law_take : Has P w K mg base "_law_take" 1 p__law_take spTake) (J__law_name : Has P w K mg base "_law_name" 2 p__law_name spName) : FnOk P w K mg base CX0 3 f fd p__law_mark spLawMark := by
  refine F.ok sc__law_mark (fun vs H Q E h => ?_) (fun cdv A outer s H vs Q E hr h => ?_)
  · obtain ⟨x, y, z, t, rfl, _⟩ := h
    rfl
  obtain ⟨b, no, ns, far, rfl, hB, hnb, hno, hns, hnl, hf1, hf2, q⟩ := h
  have nd := (sc__law_mark).nd
  refine ⟨_, (pss_cons (ps_set (i := 3) nd rfl (Or.inl rfl) (pe_f J__law_name hr (pa_cons (pv 0) pa_nil)))
  (pss_cons (ps_if (PW.pt (pw_and (pt_cmpR op_eq (pe_f J__law_take hr (pa_cons (pv 0) (pa_cons pe_int pa_nil))) pe_int nomk) (pw_and1 (pt_cmpR op_gt (pe_callB call_len_seq (by rfl) T.b_len (by decide +kernel) (pa_cons (pv 1) pa_nil)) pe_int nomk)))) (pss_one (ps_set (i := 3) nd rfl (Or.inl rfl) (pe_ix ix_list (pv 1) (pe_f J__law_take hr (pa_cons (pv 0) (pa_cons (pe_callB call_len_seq (by rfl) T.b_len (by decide +kernel) (pa_cons (pv 1) pa_nil)) pa_nil))) (fun _ _ => rfl)))) pss_nil)
  (pss_one (ps_ret (pe_tup (pa_cons (pv 3) (pa_cons (pe_ix ix_str pe_str (pe_f J__law_take hr (pa_cons (pv 0) (pa_cons pe_int pa_nil))) (fun _ _ => rfl)) (pa_cons (pe_op op_sub (pe_f J__law_take hr (pa_cons (pv 0) (pa_cons (pe_op op_add (pe_op op_mul pe_int (pv 2)) pe_int) pa_nil))) (pv 2)) (pa_cons (pe_op op_sub (pe_f J__law_take hr (pa_cons (pv 0) (pa_cons (pe_op op_add (pe_op op_mul pe_int (pv 2)) pe_int) pa_nil))) (pv 2)) pa_nil))))))))), ?_⟩
  refine ⟨_, rfl, b, rfl, hB, fun z H1 s1 B1 hz => ?_⟩
  refine asg (i := 3) ?_
  dsimp only
  refine seq_if (fun σ' H' => ∃ z, σ' = [some (.ref b), some (.ref no), some (.int far), some (.str z)] ∧ SB b H H' ∧ Bag b H' ∧ NameOk z) (fun σ' H2 hp => ?_) (fun go => ?_)
  · obtain ⟨z, rfl, s2, B2, hz⟩ := hp
    refine ⟨_, rfl, _, rfl, b, 5, rfl, B2, by decide, by decide, fun l H3 s3 B3 l0 l1 => ?_⟩
    have hlen : (("npgwv" : Str).cps.toList.length : Int) = 5 := by decide +kernel
    obtain ⟨c, hc, hcm⟩ := atI_in (l := ("npgwv" : Str).cps.toList) l0 (by rw [hlen]; exact l1)
    refine ⟨"npgwv", l, c, rfl, rfl, sz _ (by decide +kernel), hc, ?_⟩
    refine ⟨_, rfl, _, rfl, _, _, rfl, rfl, .inl ⟨by decide, by decide⟩, _, _, rfl, rfl, b, _, rfl, B3, by omega, by omega, fun x H4 s4 B4 x0 x1 => ⟨_, rfl, _, _, rfl, rfl, ?_⟩⟩
    refine ⟨_, rfl, _, rfl, _, _, rfl, rfl, .inl ⟨by decide, by decide⟩, _, _, rfl, rfl, b, _, rfl, B4, by omega, by omega, fun y H5 s5 B5 y0 y1 => ⟨_, rfl, _, _, rfl, rfl, ?_⟩⟩
    refine ⟨sz 4, fun p hp => ?_⟩
    have s6 := same_new hp (.tup [.str z, .str ⟨#[c]⟩, .int (x - far), .int (y - far)])
    have hcl : c ∈ layers.cps.toList ∧ c ≠ 107 := by
      have key : ∀ c ∈ ("npgwv" : Str).cps.toList, c ∈ layers.cps.toList ∧ c ≠ 107 := by decide +kernel
      exact key c hcm
    refine q _ (z, ⟨#[c]⟩, x - far, y - far) _ ((s2.trans (s3.trans (s4.trans s5))).trans (sb_same s6)) (B5.same s6) ⟨hz, ⟨c, rfl, hcl.1⟩, ?_, ?_, ?_⟩ (is_new hp (isMark (z, ⟨#[c]⟩, x - far, y - far)))
    · intro e
      have e2 : (#[c] : Array Nat).toList = ("k" : Str).cps.toList := congrArg (fun s : Str => s.cps.toList) e
      have e3 : ("k" : Str).cps.toList = [107] := by decide +kernel
      rw [e3] at e2
      exact hcl.2 (by simpa using e2)
    · show Within (-1048576) 1048576 (x - far)
      unfold Within
      omega
    · show Within (-1048576) 1048576 (y - far)
      unfold Within
      omega
  · refine ⟨_, rfl, b, 2, rfl, B1, by decide, by decide, fun d H2 s2 B2 d0 d1 => ?_⟩
    have hno2 := s2 _ _ (s1 _ _ hno hnb) hnb
    refine ⟨rfl, _, rfl, ?_⟩
    refine ite2 (fun c => ?_) (fun c => ?_)
    · refine ⟨_, rfl, no, _, rfl, .inl (SqL.of hno2), _, _, rfl, rfl, _, rfl, ite2 (fun c2 => ?_) (fun c2 => ?_)⟩
      · have c3 : ((ns.map V.str).length : Int) > 0 := of_decide_eq_true c2
        rw [List.length_map] at c3
        refine ⟨_, rfl, _, rfl, _, rfl, no, _, rfl, .inl (SqL.of hno2), b, _, rfl, B2, by rw [List.length_map]; omega, by rw [List.length_map]; omega, fun k H3 s3 B3 k0 k1 => ?_⟩
        obtain ⟨v, hv, hvm⟩ := atI_in (l := ns.map V.str) k0 k1
        obtain ⟨z', hz', rfl⟩ := List.mem_map.mp hvm
        refine ⟨no, _, _, _, rfl, rfl, SqL.of (s3 _ _ hno2 hnb), hv, ?_⟩
        exact go _ _ ⟨z', rfl, (s1.trans s2).trans s3, B3, hns z' hz'⟩
      · exact go _ _ ⟨z, rfl, s1.trans s2, B2, hz⟩
    · exact go _ _ ⟨z, rfl, s1.trans s2, B2, hz⟩
end
end Mw
end
section
set_option maxRecDepth 100000
set_option maxHeartbeats 8000000
/-! the law's house. -/
namespace Mw
open PySem PySem.Spec PyProof.Rows L2
structure SmallCell (c : CellS) : Prop where
  nr : c.2.1.length ≤ 8
  nm : c.2.2.1.length ≤ 4
  nu : c.2.2.2.length ≤ 4
theorem HouseGood.snoc : ∀ {h : HouseS} {ns : List Str} {c : CellS}, HouseGood ns h → CellGood (ns ++ h.map (·.1)) c → HouseGood ns (h ++ [c])
  | [], ns, c, _, k => ⟨by simpa using k, trivial⟩
  | d :: h, ns, c, g, k => ⟨g.1, HouseGood.snoc g.2 (by
      rw [List.append_assoc]
      exact k)⟩
structure HS (b fo no : Addr) (H0 H' : Hp) (fs : List V) (hs : HouseS) : Prop where
  sb : SB b H0 H'
  bag : Bag b H'
  hfo : H' fo = some (.lst fs)
  hfd : IsAll H' fs (hs.map encCell)
  hno : H' no = some (.lst ((hs.map (·.1)).map V.str))
  nf : fo ≠ b
  nn : no ≠ b
section
variable {b fo no : Addr} {H0 H1 H2 : Hp} {fs : List V} {hs : HouseS}
theorem HS.take (S : HS b fo no H0 H1 fs hs) (s : SB b H1 H2) (B : Bag b H2) : HS b fo no H0 H2 fs hs :=
  ⟨S.sb.trans s, B, s _ _ S.hfo S.nf, S.hfd.mono (S.bag.kt s), s _ _ S.hno S.nn, S.nf, S.nn⟩
theorem HS.new (S : HS b fo no H0 H1 fs hs) (s : Same H1 H2) : HS b fo no H0 H2 fs hs := S.take (sb_same s) (S.bag.same s)
/-- a store to a new list of ours -/
theorem HS.upd {p : Addr} (S : HS b fo no H0 H1 fs hs) {us : List V} (o : HO) (hp : H1 p = some (.lst us)) (h0 : H0 p = none) (n1 : fo ≠ p) (n2 : no ≠ p) (n3 : b ≠ p) : HS b fo no H0 (upd H1 p o) fs hs := by
  refine ⟨fun c u e hc => ?_, ?_, by rw [upd_ne n1]; exact S.hfo, S.hfd.mono (kt_lst hp o), by rw [upd_ne n2]; exact S.hno, S.nf, S.nn⟩
  · rw [upd_ne (ne_of_none e h0)]
    exact S.sb c u e hc
  · obtain ⟨c, m, e, r⟩ := S.bag
    exact ⟨c, m, by rw [upd_ne n3]; exact e, r⟩
end
theorem sb_free {b p : Addr} {H H' : Hp} (s : SB b H H') (B : Bag b H') (hp : H' p = none) : H p = none := by
  cases e : H p with
  | none => rfl
  | some o => rw [s p o e (B.ne hp).symm] at hp; cases hp
/-- a step that touches the bag alone -/
structure ST (b : Addr) (H H' : Hp) : Prop where
  sb : SB b H H'
  bag : Bag b H'
  kt : KT H H'
theorem ST.trans {b : Addr} {H H1 H2 : Hp} (a : ST b H H1) (c : ST b H1 H2) : ST b H H2 := ⟨a.sb.trans c.sb, c.bag, a.kt.trans c.kt⟩
theorem st_take {b : Addr} {H H' : Hp} (B : Bag b H) (s : SB b H H') (B' : Bag b H') : ST b H H' := ⟨s, B', B.kt s⟩
theorem st_new {b : Addr} {H H' : Hp} (B : Bag b H) (s : Same H H') : ST b H H' := ⟨sb_same s, B.same s, kt s⟩
theorem HS.st {b fo no : Addr} {H0 H1 H2 : Hp} {fs : List V} {hs : HouseS} (S : HS b fo no H0 H1 fs hs) (s : ST b H1 H2) : HS b fo no H0 H2 fs hs := S.take s.sb s.bag
theorem enc_of {α : Type} {Pd : α → Prop} {enc : α → PyData} : ∀ {ds : List PyData}, (∀ d ∈ ds, ∃ x, Pd x ∧ d = enc x) → ∃ l : List α, ds = l.map enc ∧ ∀ x ∈ l, Pd x
  | [], _ => ⟨[], rfl, fun _ h => by cases h⟩
  | d :: ds, h => by
    obtain ⟨x, hx, rfl⟩ := h d List.mem_cons_self
    obtain ⟨l, rfl, hl⟩ := enc_of (ds := ds) fun y hy => h y (List.mem_cons_of_mem _ hy)
    exact ⟨x :: l, rfl, fun y hy => by
      rcases List.mem_cons.mp hy with z | z
      · rw [z]; exact hx
      · exact hl y z⟩
theorem isUse {H : Hp} (u : UseS) : IsAll H [.str u.1, .int u.2.1, .int u.2.2.1, .int u.2.2.2] [.str u.1, .int u.2.1, .int u.2.2.1, .int u.2.2.2] := .cons (.str _) (.cons (.int _) (.cons (.int _) (.cons (.int _) .nil)))
section
variable {P : Program} {w : World} {K : PySem.W.Frag} {mg : Str → Option Value} {base : Heap} {f g C0 : Addr} {fd gd : FuncData}
def spLawHouse : Sp := fun vs H Q _ => ∃ b most, vs = [.ref b, .int most] ∧ Bag b H ∧ 1 ≤ most ∧ most ≤ 6 ∧ ∀ v hs H', SB b H H' → Bag b H' → HouseGood [] hs → 1 ≤ hs.length → hs.length ≤ 6 → (∀ c ∈ hs, SmallCell c) → Is H' v (encHouse hs) → Q v H'
abbrev s__law_house : Stmt := top 61
abbrev n__law_house : List Str := ["_law_bag_here", "_law_most", "_law_far", "_law_by", "_law_thick", "_law_found", "_law_names", "_law_k", "_law_name_here", "_law_rects", "_law_labels", "_law_uses", "_law_j", "_law_used", "_law_move"]
abbrev p__law_house : List Str := ["_law_bag_here", "_law_most"]
theorem sc__law_house : FnScope n__law_house p__law_house (defScope s__law_house) := ⟨rfl, rfl, rfl, by decide +kernel, rfl, by decide +kernel, by decide +kernel⟩
theorem ok_law_house (F : Fun K "_law_house" "_law_house" s__law_house f fd) (T : Txt mg) (J__law_take : Has P w K mg base "_law_take" 1 p__law_take spTake) (J__law_name : Has P w K mg base "_law_name" 2 p__law_name spName) (J__law_rect : Has P w K mg base "_law_rect" 2 p__law_rect spLawRect)
    (J__law_mark : Has P w K mg base "_law_mark" 3 p__law_mark spLawMark) : FnOk P w K mg base CX0 4 f fd p__law_house spLawHouse := by
  refine F.ok sc__law_house (fun vs H Q E h => ?_) (fun cdv A outer s H vs Q E hr h => ?_)
  · obtain ⟨x, y, rfl, _⟩ := h
    rfl
  obtain ⟨b, most, rfl, hB, hm1, hm2, q⟩ := h
  have nd := (sc__law_house).nd
  refine ⟨_, (pss_cons (ps_set (i := 2) nd rfl (Or.inr rfl) (pe_ix ix_list (pe_lst (pa_cons pe_int (pa_cons pe_int (pa_cons pe_int pa_nil)))) (pe_f J__law_take hr (pa_cons (pv 0) (pa_cons pe_int pa_nil))) (fun _ _ => rfl)))
  (pss_cons (ps_set (i := 3) nd rfl (Or.inl rfl) (pe_ix ix_list (pe_lst (pa_cons pe_int (pa_cons pe_int (pa_cons pe_int pa_nil)))) (pe_f J__law_take hr (pa_cons (pv 0) (pa_cons pe_int pa_nil))) (fun _ _ => rfl)))
  (pss_cons (ps_set (i := 4) nd rfl (Or.inl rfl) (pe_f J__law_take hr (pa_cons (pv 0) (pa_cons pe_int pa_nil))))
  (pss_cons (ps_set (i := 5) nd rfl (Or.inl rfl) (pe_lst pa_nil))
  (pss_cons (ps_set (i := 6) nd rfl (Or.inr rfl) (pe_lst pa_nil))
  (pss_cons (ps_for PassesOwn.never rfl (pi_range1 (by rfl) T.b_range (pa_cons (pe_op op_add pe_int (pe_f J__law_take hr (pa_cons (pv 0) (pa_cons (pv 1) pa_nil)))) pa_nil)) (pg_name (i := 7) nd rfl (Or.inl rfl))
  (pss_cons (ps_set (i := 8) nd rfl (Or.inl rfl) (pe_f J__law_name hr (pa_cons (pv 0) pa_nil)))
  (pss_one (ps_if (pt_cmpR op_notIn_seq (pv 8) (pv 6) nomk) (pss_cons (ps_set (i := 9) nd rfl (Or.inl rfl) (pe_callTy call_tuple_of (by rfl) T.b_tuple (by decide +kernel) (pa_cons (pe_lc (own := [("_law_j", 12)]) rfl nd (pi_range1 (by rfl) T.b_range (pa_cons (pe_f J__law_take hr (pa_cons (pv 0) (pa_cons pe_int pa_nil))) pa_nil)) (blkOk_by (own := [("_law_j", 12)]) (N := n__law_house) (sc := defScope s__law_house) (by decide +kernel)) (fun _ _ _ _ _ => (pg_name (i := 12) nd rfl (Or.inl rfl))) (fun _ _ _ _ _ => pts_nil) (fun _ _ _ _ _ => (pe_f J__law_rect hr (pa_cons (pv 0) (pa_cons (pv 2) pa_nil))))) pa_nil)))
  (pss_cons (ps_set (i := 10) nd rfl (Or.inl rfl) (pe_callTy call_tuple_of (by rfl) T.b_tuple (by decide +kernel) (pa_cons (pe_lc (own := [("_law_j", 12)]) rfl nd (pi_range1 (by rfl) T.b_range (pa_cons (pe_f J__law_take hr (pa_cons (pv 0) (pa_cons pe_int pa_nil))) pa_nil)) (blkOk_by (own := [("_law_j", 12)]) (N := n__law_house) (sc := defScope s__law_house) (by decide +kernel)) (fun _ _ _ _ _ => (pg_name (i := 12) nd rfl (Or.inl rfl))) (fun _ _ _ _ _ => pts_nil) (fun _ _ _ _ _ => (pe_f J__law_mark hr (pa_cons (pv 0) (pa_cons (pv 6) (pa_cons (pv 2) pa_nil)))))) pa_nil)))
  (pss_cons (ps_set (i := 11) nd rfl (Or.inl rfl) (pe_lst pa_nil))
  (pss_cons (ps_for PassesOwn.never rfl (pi_range1 (by rfl) T.b_range (pa_cons (pe_op op_mul (pe_f J__law_take hr (pa_cons (pv 0) (pa_cons (pe_ix ix_list (pe_lst (pa_cons pe_int (pa_cons pe_int (pa_cons pe_int pa_nil)))) (pv 4) (fun _ _ => rfl)) pa_nil))) (pe_callB (call_min2 rfl) (by rfl) T.b_min (by decide +kernel) (pa_cons pe_int (pa_cons (pe_callB call_len_seq (by rfl) T.b_len (by decide +kernel) (pa_cons (pv 6) pa_nil)) pa_nil)))) pa_nil)) (pg_name (i := 12) nd rfl (Or.inl rfl))
  (pss_cons (ps_set (i := 13) nd rfl (Or.inl rfl) (pe_ix ix_list (pv 6) (pe_ix ix_list (pe_lst (pa_cons (pe_f J__law_take hr (pa_cons (pv 0) (pa_cons (pe_callB call_len_seq (by rfl) T.b_len (by decide +kernel) (pa_cons (pv 6) pa_nil)) pa_nil))) (pa_cons (pe_op op_sub (pe_callB call_len_seq (by rfl) T.b_len (by decide +kernel) (pa_cons (pv 6) pa_nil)) pe_int) pa_nil))) (pe_f J__law_take hr (pa_cons (pv 0) (pa_cons pe_int pa_nil))) (fun _ _ => rfl)) (fun _ _ => rfl)))
  (pss_cons (ps_set (i := 14) nd rfl (Or.inl rfl) (pe_tup (pa_cons (pe_op op_sub (pe_f J__law_take hr (pa_cons (pv 0) (pa_cons (pe_op op_add (pe_op op_mul pe_int (pv 3)) pe_int) pa_nil))) (pv 3)) (pa_cons (pe_op op_sub (pe_f J__law_take hr (pa_cons (pv 0) (pa_cons (pe_op op_add (pe_op op_mul pe_int (pv 3)) pe_int) pa_nil))) (pv 3)) pa_nil))))
  (pss_one (ps_expr (pe_bm PySem.F.plainAttrs_list PySem.F.slot_list_append PySem.F.type_list_append mt_append (pv 11) (pa_cons (pe_op op_catA (pe_tup (pa_cons (pv 13) (pa_cons (pe_f J__law_take hr (pa_cons (pv 0) (pa_cons pe_int pa_nil))) pa_nil))) (pv 14)) pa_nil)))))))
  (pss_cons (ps_expr (pe_bm PySem.F.plainAttrs_list PySem.F.slot_list_append PySem.F.type_list_append mt_append (pv 5) (pa_cons (pe_tup (pa_cons (pv 8) (pa_cons (pv 9) (pa_cons (pv 10) (pa_cons (pe_callTy call_tuple_of (by rfl) T.b_tuple (by decide +kernel) (pa_cons (pv 11) pa_nil)) pa_nil))))) pa_nil)))
  (pss_one (ps_expr (pe_bm PySem.F.plainAttrs_list PySem.F.slot_list_append PySem.F.type_list_append mt_append (pv 6) (pa_cons (pv 8) pa_nil))))))))) pss_nil))))
  (pss_one (ps_ret (pe_callTy call_tuple_of (by rfl) T.b_tuple (by decide +kernel) (pa_cons (pv 5) pa_nil)))))))))), ?_⟩
  -- far
  refine ⟨sz 3, fun p1 hp1 => ?_⟩
  have B1 := hB.same (same_new hp1 (.lst [.int 8, .int 60, .int 1048576]))
  have sb1 : SB b H _ := sb_same (same_new hp1 (.lst [.int 8, .int 60, .int 1048576]))
  refine ⟨_, rfl, b, 3, rfl, B1, by decide, by decide, fun d1 H1 s1 B1' d10 d11 => ?_⟩
  have nb1 : p1 ≠ b := (hB.ne hp1).symm
  obtain ⟨far, hfar, hf1, hf2⟩ : ∃ far : Int, atI [V.int 8, V.int 60, V.int 1048576] d1 = some (.int far) ∧ 1 ≤ far ∧ far ≤ 1048576 := by
    have e : d1 = 0 ∨ d1 = 1 ∨ d1 = 2 := by omega
    rcases e with e | e | e <;> subst e
    · exact ⟨8, rfl, by decide, by decide⟩
    · exact ⟨60, rfl, by decide, by decide⟩
    · exact ⟨1048576, rfl, by decide, by decide⟩
  refine ⟨p1, _, _, _, rfl, rfl, SqL.of (s1 _ _ upd_same nb1), hfar, ?_⟩
  refine asg (i := 2) ?_
  dsimp only
  have sA := sb1.trans s1
  -- by
  refine ⟨sz 3, fun p2 hp2 => ?_⟩
  have s2 := same_new hp2 (.lst [.int 8, .int 60, .int 65536])
  have nb2 : p2 ≠ b := (B1'.ne hp2).symm
  refine ⟨_, rfl, b, 3, rfl, B1'.same s2, by decide, by decide, fun d2 H2 s2' B2 d20 d21 => ?_⟩
  obtain ⟨by', hby, hb1, hb2⟩ : ∃ by' : Int, atI [V.int 8, V.int 60, V.int 65536] d2 = some (.int by') ∧ 1 ≤ by' ∧ by' ≤ 65536 := by
    have e : d2 = 0 ∨ d2 = 1 ∨ d2 = 2 := by omega
    rcases e with e | e | e <;> subst e
    · exact ⟨8, rfl, by decide, by decide⟩
    · exact ⟨60, rfl, by decide, by decide⟩
    · exact ⟨65536, rfl, by decide, by decide⟩
  refine ⟨p2, _, _, _, rfl, rfl, SqL.of (s2' _ _ upd_same nb2), hby, ?_⟩
  refine asg (i := 3) ?_
  dsimp only
  have sB := sA.trans ((sb_same s2).trans s2')
  -- thick
  refine ⟨_, rfl, b, 3, rfl, B2, by decide, by decide, fun th H3 s3 B3 th0 th1 => ?_⟩
  refine asg (i := 4) ?_
  dsimp only
  have sC := sB.trans s3
  have B3' := B3
  -- found, names
  refine ⟨sz 0, fun fo hfo => ?_⟩
  refine ⟨sz 0, fun no hno => ?_⟩
  have s4 := same_new hfo (.lst [])
  have s5 := same_new hno (.lst [])
  have nfn : fo ≠ no := ne_of_none upd_same hno
  have nfb : fo ≠ b := (B3.ne hfo).symm
  have nnb : no ≠ b := ((B3.same s4).ne hno).symm
  have hfo0 : H fo = none := sb_free sC B3 hfo
  have hno0 : H no = none := sb_free (sC.trans (sb_same s4)) (B3.same s4) hno
  have S0 : HS b fo no H (upd (upd H3 fo (.lst [])) no (.lst [])) [] [] := ⟨sC.trans (sb_same (s4.trans s5)), B3.same (s4.trans s5), by rw [upd_ne nfn]; exact upd_same, .nil, upd_same, nfb, nnb⟩
  generalize upd (upd H3 fo (.lst [])) no (.lst []) = H4 at S0
  refine asg (i := 6) ?_
  dsimp only
  refine seq_for (fun σ' H' => ∃ fs hs x7 x8 x9 x10 x11 x12 x13 x14, σ' = [some (.ref b), some (.int most), some (.int far), some (.int by'), some (.int th), some (.ref fo), some (.ref no), x7, x8, x9, x10, x11, x12, x13, x14] ∧ HS b fo no H H' fs hs ∧ HouseGood [] hs ∧ 1 ≤ hs.length ∧ hs.length ≤ 6 ∧ ∀ c ∈ hs, SmallCell c) (fun σ' H' hp => ?_) (fun go => ?_)
  · obtain ⟨fs, hs, x7, x8, x9, x10, x11, x12, x13, x14, rfl, S, hg, hl1, hl2, hsm⟩ := hp
    refine ⟨_, rfl, fo, _, rfl, .inl ⟨SqL.of S.hfo, fun p9 hp9 => ?_⟩⟩
    have s9 := same_new hp9 (.tup fs)
    exact q _ hs _ (S.sb.trans (sb_same s9)) (S.bag.same s9) hg hl1 hl2 hsm (is_new hp9 S.hfd)
  · refine ⟨_, rfl, _, rfl, b, most, rfl, S0.bag, hm1, by omega, fun d H5 s6 B5 d0 d1' => ?_⟩
    have S1 := S0.take s6 B5
    refine ⟨_, _, rfl, rfl, 1 + d, rfl, by omega, by omega, for_range (lo := 0) (n := (1 + d).toNat) (fun i σ' H' => ∃ fs hs x7 x8 x9 x10 x11 x12 x13 x14, σ' = [some (.ref b), some (.int most), some (.int far), some (.int by'), some (.int th), some (.ref fo), some (.ref no), x7, x8, x9, x10, x11, x12, x13, x14] ∧ HS b fo no H H' fs hs ∧ HouseGood [] hs ∧ (1 ≤ i → 1 ≤ hs.length) ∧ hs.length ≤ i ∧ ∀ c ∈ hs, SmallCell c)
      ⟨[], [], _, _, _, _, _, _, _, _, rfl, S1, trivial, fun z => by omega, Nat.le_refl _, fun _ z => by cases z⟩ (fun i σ' H6 hi hp => ?_) (fun σ' H6 hp => ?_)⟩
    · obtain ⟨fs, hs, x7, x8, x9, x10, x11, x12, x13, x14, rfl, S, hg, hl1, hl2, hsm⟩ := hp
      refine asg (i := 7) ?_
      dsimp only
      refine ⟨_, rfl, b, rfl, S.bag, fun z H7 s7 B7 hz => ?_⟩
      have S2 := S.take s7 B7
      refine asg (i := 8) ?_
      dsimp only
      refine ifS_by (!decide (z ∈ hs.map (·.1))) (fun Qt hq => ?_) (fun hnew => ?_) (fun hold => ?_)
      · refine ⟨_, rfl, _, rfl, no, _, rfl, .inl (SqL.of S2.hno), rfl, flat_strs' _, !inV (.str z) ((hs.map (·.1)).map V.str), rfl, ?_⟩
        rw [inV_strs]
        exact hq
      · have hzn : z ∉ hs.map (·.1) := by simpa using hnew
        have hnames : ∀ n ∈ hs.map (·.1), NameOk n := fun n hn => by
          obtain ⟨c, hc, e⟩ := List.mem_map.mp hn
          obtain ⟨j, hj⟩ := List.mem_iff_getElem?.mp hc
          rw [← e]
          exact (hg.at hj).name
        have hnl : (hs.map (·.1)).length ≤ 10 := by rw [List.length_map]; omega
        -- rects
        refine ⟨_, rfl, b, 8, rfl, S2.bag, by decide, by decide, fun dr H8 s8 B8 dr0 dr1 => ?_⟩
        have t8 := st_take S2.bag s8 B8
        refine ⟨dr, rfl, by omega, by omega, fun D hD => lc_all (n := dr.toNat) walk_range (fun H' => SB b H8 H' ∧ Bag b H') (fun x => ∃ r : LRectS, RectOk r ∧ x = encL r) (smL (by omega)) (bagI_new hD B8 _) (fun H o h => bagI_upd hD B8 _ h) (fun _ _ => trivial) (fun k x H9 H10 acc Qk Qs hk hI hDa hy kk => ?_) (fun H9 xs ds hI hDx hdl hdp hdx => ?_)⟩
        · obtain ⟨rfl, rfl⟩ := hy
          exact ⟨rfl, _, rfl, _, rfl, b, far, rfl, hI.2, hf1, hf2, fun v r H11 s11 B11 hr' hv => kk (encL r) v H11 ⟨r, hr', rfl⟩ ⟨hI.1.trans s11, B11⟩ (hI.2.kt s11) (s11 _ _ hDa (B8.ne hD).symm) hv⟩
        obtain ⟨rs, rfl, hrs⟩ := enc_of hdp
        rw [List.length_map] at hdl
        have t9 : ST b H7 H9 := t8.trans (st_take B8 hI.1 hI.2)
        refine ⟨D, _, rfl, .inl ⟨SqL.of hDx, fun pr hpr => ?_⟩⟩
        have t10 := t9.trans (st_new hI.2 (same_new hpr (.tup xs)))
        have hR : Is (upd H9 pr (.tup xs)) (.ref pr) (.tuple (rs.map encL)) := is_new hpr hdx
        generalize upd H9 pr (.tup xs) = H10 at t10 hR
        refine asg (i := 9) ?_
        dsimp only
        -- labels
        have S10 := S2.st t10
        refine ⟨_, rfl, b, 4, rfl, S10.bag, by decide, by decide, fun dm H11 s11 B11 dm0 dm1 => ?_⟩
        have t11 := st_take S10.bag s11 B11
        have S11 := S10.st t11
        refine ⟨dm, rfl, by omega, by omega, fun D2 hD2 => lc_all (n := dm.toNat) walk_range (fun H' => SB b H11 H' ∧ Bag b H') (fun x => ∃ m : MarkS, MarkOk m ∧ x = encM m) (smL (by omega)) (bagI_new hD2 B11 _) (fun H o h => bagI_upd hD2 B11 _ h) (fun _ _ => trivial) (fun k x H12 H13 acc Qk Qs hk hI2 hDa hy kk => ?_) (fun H12 ys es hI2 hDy hel hep hey => ?_)⟩
        · obtain ⟨rfl, rfl⟩ := hy
          exact ⟨rfl, _, rfl, _, rfl, _, rfl, b, no, hs.map (·.1), far, rfl, hI2.2, S11.nn, hI2.1 _ _ S11.hno S11.nn, hnames, by omega, hf1, hf2, fun v m H14 s14 B14 hm' hv => kk (encM m) v H14 ⟨m, hm', rfl⟩ ⟨hI2.1.trans s14, B14⟩ (hI2.2.kt s14) (s14 _ _ hDa (B11.ne hD2).symm) hv⟩
        obtain ⟨ms, rfl, hms⟩ := enc_of hep
        rw [List.length_map] at hel
        have t12 : ST b H10 H12 := t11.trans (st_take B11 hI2.1 hI2.2)
        refine ⟨D2, _, rfl, .inl ⟨SqL.of hDy, fun pm hpm => ?_⟩⟩
        have t13 := t12.trans (st_new hI2.2 (same_new hpm (.tup ys)))
        have hM : Is (upd H12 pm (.tup ys)) (.ref pm) (.tuple (ms.map encM)) := is_new hpm hey
        generalize upd H12 pm (.tup ys) = H13 at t13 hM
        have hR13 := hR.mono t13.kt
        have S13 := S10.st t13
        refine asg (i := 10) ?_
        dsimp only
        -- uses
        refine ⟨sz 0, fun uo huo => ?_⟩
        have t14 := st_new S13.bag (same_new huo (.lst []))
        have huo0 : H uo = none := sb_free S13.sb S13.bag huo
        have S14 := S13.st t14
        have hR14 := hR13.mono t14.kt
        have hM14 := hM.mono t14.kt
        have huoE : (upd H13 uo (.lst [])) uo = some (.lst []) := upd_same
        have nuf : fo ≠ uo := ne_of_none S13.hfo huo
        have nun : no ≠ uo := ne_of_none S13.hno huo
        have nub : uo ≠ b := (S13.bag.ne huo).symm
        generalize upd H13 uo (.lst []) = H14 at t14 S14 hR14 hM14 huoE
        refine asg (i := 11) ?_
        dsimp only
        refine seq_for (fun σ' H' => ∃ (x12 x13 x14 : Option V) (us : List UseS) (uv : List V), σ' = [some (.ref b), some (.int most), some (.int far), some (.int by'), some (.int th), some (.ref fo), some (.ref no), some (.int (0 + (i : Nat))), some (.str z), some (.ref pr), some (.ref pm), some (.ref uo), x12, x13, x14] ∧ HS b fo no H H' fs hs ∧ KT H14 H' ∧ H' uo = some (.lst uv) ∧ IsAll H' uv (us.map encU) ∧ us.length ≤ 3 ∧ ∀ u ∈ us, UseOk u ∧ u.1 ∈ hs.map (·.1)) (fun σ' H' hp => ?_) (fun go => ?_)
        · obtain ⟨x12, x13, x14, us, uv, rfl, S, kt15, huo', hud, hul, huok⟩ := hp
          have hR15 := hR14.mono kt15
          have hM15 := hM14.mono kt15
          refine ⟨_, rfl, .inl ⟨rfl, _, SqL.of S.hfo⟩, _, rfl, _, rfl, _, rfl, _, rfl, uo, _, rfl, .inl ⟨SqL.of huo', fun pu hpu => ?_⟩⟩
          have s16 := same_new hpu (.tup uv)
          refine ⟨sz 4, fun pc hpc => ?_⟩
          have s17 := same_new hpc (.tup [.str z, .ref pr, .ref pm, .ref pu])
          have hc : Is (upd (upd H' pu (.tup uv)) pc (.tup [.str z, .ref pr, .ref pm, .ref pu])) (.ref pc) (encCell (z, rs, ms, us)) :=
            is_new hpc (.cons (.str _) (.cons (hR15.mono (kt s16)) (.cons (hM15.mono (kt s16)) (.cons (is_new hpu hud) .nil))))
          have S17 := (S.new s16).new s17
          have hfl : fs.length = hs.length := by rw [S.hfd.length, List.length_map]
          generalize upd (upd H' pu (.tup uv)) pc (.tup [.str z, .ref pr, .ref pm, .ref pu]) = H17 at hc S17
          refine ⟨fo, fs, _, rfl, rfl, S17.hfo, sm (by omega), ?_⟩
          -- names.append
          have hno18 : (upd H17 fo (.lst (fs ++ [.ref pc]))) no = some (.lst ((hs.map (·.1)).map V.str)) := by rw [upd_ne nfn.symm]; exact S17.hno
          refine ⟨_, rfl, .inl ⟨rfl, _, SqL.of hno18⟩, _, rfl, no, _, _, rfl, rfl, hno18, sm (by rw [List.length_map]; omega), ?_⟩
          have cg : CellGood (hs.map (·.1)) (z, rs, ms, us) := ⟨hz, hzn, by show rs.length ≤ 200; omega, by show ms.length ≤ 40; omega, by show us.length ≤ 20; omega, hrs, hms, huok⟩
          refine ⟨fs ++ [.ref pc], hs ++ [(z, rs, ms, us)], _, _, _, _, _, _, _, _, rfl, ⟨?_, ?_, ?_, ?_, ?_, nfb, nnb⟩, hg.snoc (by simpa using cg), fun _ => by simp, by rw [len_snoc]; omega, fun c hc' => ?_⟩
          · intro c o e hcb
            rw [upd_ne (ne_of_none e hno0), upd_ne (ne_of_none e hfo0)]
            exact S17.sb c o e hcb
          · obtain ⟨c, m, e, r⟩ := S17.bag
            exact ⟨c, m, by rw [upd_ne nnb.symm, upd_ne nfb.symm]; exact e, r⟩
          · rw [upd_ne nfn]
            exact upd_same
          · rw [List.map_append]
            exact ((S17.hfd.snoc hc).mono (kt_lst S17.hfo _)).mono (kt_lst hno18 _)
          · rw [upd_same, List.map_append, List.map_append]
            rfl
          · rcases List.mem_append.mp hc' with e | e
            · exact hsm c e
            · rw [List.mem_singleton.mp e]
              exact ⟨by show rs.length ≤ 8; omega, by show ms.length ≤ 4; omega, by show us.length ≤ 4; omega⟩
        · refine ⟨_, rfl, sz 3, fun p3 hp3 => ?_⟩
          have t15 := st_new S14.bag (same_new hp3 (.lst [.int 2, .int 3, .int 4]))
          have huo15 := (same_new hp3 (.lst [.int 2, .int 3, .int 4])) _ _ huoE
          obtain ⟨mj, hmj, mj1, mj2⟩ : ∃ mj : Int, atI [V.int 2, V.int 3, V.int 4] th = some (.int mj) ∧ 1 ≤ mj ∧ mj ≤ 4 := by
            have e : th = 0 ∨ th = 1 ∨ th = 2 := by omega
            rcases e with e | e | e <;> subst e
            · exact ⟨2, rfl, by decide, by decide⟩
            · exact ⟨3, rfl, by decide, by decide⟩
            · exact ⟨4, rfl, by decide, by decide⟩
          refine ⟨_, rfl, p3, _, _, _, rfl, rfl, SqL.of upd_same, hmj, ?_⟩
          refine ⟨b, mj, rfl, t15.bag, mj1, by omega, fun dj H16 s16 B16 dj0 dj1 => ?_⟩
          have t16 := t15.trans (st_take t15.bag s16 B16)
          have S16 := S14.st t16
          have huo16 := s16 _ _ huo15 nub
          refine ⟨_, rfl, no, _, rfl, .inl (SqL.of S16.hno), _, _, rfl, _, _, rfl, rfl, .inl ⟨by omega, by omega⟩, ?_⟩
          have hnl' : ((hs.map (·.1)).map V.str).length = hs.length := by rw [List.length_map, List.length_map]
          rw [hnl']
          obtain ⟨nt, hnt, hnt3, hnt1⟩ : ∃ nt : Nat, dj * (if (hs.length : Int) < 1 then (hs.length : Int) else 1) = (nt : Int) ∧ nt ≤ 3 ∧ (1 ≤ nt → 1 ≤ hs.length) := by
            by_cases c : (hs.length : Int) < 1
            · rw [if_pos c]
              have e0 : (hs.length : Int) = 0 := by omega
              exact ⟨0, by rw [e0, Int.mul_zero]; rfl, by omega, fun z => by omega⟩
            · rw [if_neg c]
              exact ⟨dj.toNat, by rw [Int.mul_one]; omega, by omega, fun _ => by omega⟩
          refine ⟨(nt : Int), congrArg (fun x => [V.int x]) hnt, by omega, by omega, for_range (lo := 0) (n := (nt : Int).toNat) (fun k σ' H' => ∃ (x12 x13 x14 : Option V) (us : List UseS) (uv : List V), σ' = [some (.ref b), some (.int most), some (.int far), some (.int by'), some (.int th), some (.ref fo), some (.ref no), some (.int (0 + (i : Nat))), some (.str z), some (.ref pr), some (.ref pm), some (.ref uo), x12, x13, x14] ∧ HS b fo no H H' fs hs ∧ KT H14 H' ∧ H' uo = some (.lst uv) ∧ IsAll H' uv (us.map encU) ∧ us.length ≤ k ∧ ∀ u ∈ us, UseOk u ∧ u.1 ∈ hs.map (·.1))
            ⟨_, _, _, [], [], rfl, S16, t16.kt, huo16, .nil, Nat.le_refl _, fun _ z => by cases z⟩ (fun k σ' H17 hk hp => ?_) (fun σ' H17 hp => ?_)⟩
          · obtain ⟨x12, x13, x14, us, uv, rfl, S17, kt17, huo17, hud, hul, huok⟩ := hp
            have hlen1 : 1 ≤ hs.length := hnt1 (by omega)
            refine asg (i := 12) ?_
            dsimp only
            -- the used one
            refine ⟨_, rfl, _, rfl, _, rfl, no, _, rfl, .inl (SqL.of S17.hno), b, _, rfl, S17.bag, by rw [hnl']; omega, by rw [hnl']; omega, fun k1 H18 s18 B18 k10 k11 => ?_⟩
            rw [hnl'] at k11
            have t18 := st_take S17.bag s18 B18
            have S18 := S17.st t18
            refine ⟨_, rfl, no, _, rfl, .inl (SqL.of S18.hno), _, _, rfl, rfl, sz 2, fun p4 hp4 => ?_⟩
            rw [hnl']
            have t19 := st_new S18.bag (same_new hp4 (.lst [.int k1, .int ((hs.length : Int) - 1)]))
            refine ⟨_, rfl, b, 2, rfl, t19.bag, by decide, by decide, fun e2 H20 s20 B20 e20 e21 => ?_⟩
            have t20 := t19.trans (st_take t19.bag s20 B20)
            have np4 : p4 ≠ b := (S18.bag.ne hp4).symm
            obtain ⟨ix, hix, ix0, ix1⟩ : ∃ ix : Int, atI [V.int k1, V.int ((hs.length : Int) - 1)] e2 = some (.int ix) ∧ 0 ≤ ix ∧ ix < hs.length := by
              have e : e2 = 0 ∨ e2 = 1 := by omega
              rcases e with e | e <;> subst e
              · exact ⟨k1, rfl, k10, k11⟩
              · exact ⟨_, rfl, by omega, by omega⟩
            refine ⟨p4, _, _, _, rfl, rfl, SqL.of (s20 _ _ upd_same np4), hix, ?_⟩
            have S20 := S18.st t20
            obtain ⟨v, hv, hvm⟩ := atI_in (l := (hs.map (·.1)).map V.str) ix0 (by rw [hnl']; exact ix1)
            obtain ⟨un, hun, rfl⟩ := List.mem_map.mp hvm
            refine ⟨no, _, _, _, rfl, rfl, SqL.of S20.hno, hv, ?_⟩
            refine asg (i := 13) ?_
            dsimp only
            -- the move
            refine ⟨_, rfl, _, rfl, _, _, rfl, rfl, .inl ⟨by decide, by decide⟩, _, _, rfl, rfl, b, _, rfl, S20.bag, by omega, by omega, fun mx H21 s21 B21 mx0 mx1 => ⟨_, rfl, _, _, rfl, rfl, ?_⟩⟩
            have t21 := st_take S20.bag s21 B21
            refine ⟨_, rfl, _, rfl, _, _, rfl, rfl, .inl ⟨by decide, by decide⟩, _, _, rfl, rfl, b, _, rfl, B21, by omega, by omega, fun my H22 s22 B22 my0 my1 => ⟨_, rfl, _, _, rfl, rfl, ?_⟩⟩
            have t22 := t21.trans (st_take B21 s22 B22)
            refine ⟨sz 2, fun p5 hp5 => ?_⟩
            have t23 := t22.trans (st_new B22 (same_new hp5 (.tup [.int (mx - by'), .int (my - by')])))
            have hp5E : (upd H22 p5 (.tup [.int (mx - by'), .int (my - by')])) p5 = some (.tup [.int (mx - by'), .int (my - by')]) := upd_same
            generalize upd H22 p5 (.tup [.int (mx - by'), .int (my - by')]) = H23 at t23 hp5E
            refine asg (i := 14) ?_
            dsimp only
            have t1723 := (t18.trans t20).trans t23
            have S23 := S17.st t1723
            have huo23 := t1723.sb _ _ huo17 nub
            refine ⟨_, rfl, .inl ⟨rfl, _, SqL.of huo23⟩, _, rfl, _, rfl, b, 8, rfl, S23.bag, by decide, by decide, fun tn H24 s24 B24 tn0 tn1 => ⟨sz 2, fun p6 hp6 => ?_⟩⟩
            have t24 := st_take S23.bag s24 B24
            have t25 := t24.trans (st_new B24 (same_new hp6 (.tup [.str un, .int tn])))
            refine ⟨_, rfl, p6, p5, _, _, rfl, rfl, SqT.of upd_same, SqT.of (t25.kt _ _ hp5E), sz 4, fun z => (by cases z), fun _ z => (by cases z), fun _ _ p7 hp7 => ?_⟩
            have t26 := t25.trans (st_new t25.bag (same_new hp7 ([V.str un, .int tn] ++ [.int (mx - by'), .int (my - by')] |> HO.tup)))
            have S26 := S23.st t26
            have huo26 := t26.sb _ _ huo23 nub
            have hu7 : Is (upd (upd H24 p6 (.tup [.str un, .int tn])) p7 (.tup ([V.str un, .int tn] ++ [.int (mx - by'), .int (my - by')]))) (.ref p7) (encU (un, tn, mx - by', my - by')) := is_new hp7 (isUse (un, tn, mx - by', my - by'))
            have kAll := t1723.kt.trans t26.kt
            have hud26 := hud.mono kAll
            have huvl : uv.length = us.length := by rw [hud.length, List.length_map]
            have e9 : (HO.tup ([V.str un, .int tn] ++ [.int (mx - by'), .int (my - by')])) = (([V.str un, .int tn] ++ [.int (mx - by'), .int (my - by')]) |> HO.tup) := rfl
            generalize upd (upd H24 p6 (.tup [.str un, .int tn])) p7 (.tup ([V.str un, .int tn] ++ [.int (mx - by'), .int (my - by')])) = H26 at t26 S26 huo26 hu7 kAll hud26
            refine ⟨uo, uv, _, rfl, rfl, huo26, sm (by omega), ?_⟩
            refine ⟨_, _, _, us ++ [(un, tn, mx - by', my - by')], uv ++ [.ref p7], rfl, S26.upd _ huo26 huo0 nuf nun nub.symm, (kt17.trans kAll).trans (kt_lst huo26 _), upd_same, ?_, by rw [len_snoc]; omega, fun u hu => ?_⟩
            · rw [List.map_append]
              exact (hud26.snoc hu7).mono (kt_lst huo26 _)
            · rcases List.mem_append.mp hu with e | e
              · exact huok u e
              · rw [List.mem_singleton.mp e]
                refine ⟨⟨hnames un hun, ⟨tn0, by show tn ≤ 7; omega⟩, ?_, ?_⟩, hun⟩
                · show Within (-65536) 65536 (mx - by')
                  unfold Within
                  omega
                · show Within (-65536) 65536 (my - by')
                  unfold Within
                  omega
          · obtain ⟨x12, x13, x14, us, uv, rfl, S17, kt17, huo17, hud, hul, huok⟩ := hp
            exact go _ _ ⟨_, _, _, us, uv, rfl, S17, kt17, huo17, hud, by omega, huok⟩
      · have hzo : z ∈ hs.map (·.1) := by simpa using hold
        refine ⟨fs, hs, _, _, _, _, _, _, _, _, rfl, S2, hg, fun _ => ?_, by omega, hsm⟩
        cases hs with
        | nil => cases hzo
        | cons c l => simp
    · obtain ⟨fs, hs, x7, x8, x9, x10, x11, x12, x13, x14, rfl, S, hg, hl1, hl2, hsm⟩ := hp
      exact go _ _ ⟨fs, hs, _, _, _, _, _, _, _, _, rfl, S, hg, hl1 (by omega), by omega, hsm⟩
end
end Mw
end
section
set_option maxRecDepth 100000
set_option maxHeartbeats 8000000
/-! what the law is told; the other order. -/
namespace Mw
open PySem PySem.Spec PyProof.Rows L2
section
variable {P : Program} {w : World} {K : PySem.W.Frag} {mg : Str → Option Value} {base : Heap} {f g C0 : Addr} {fd gd : FuncData}
def spTold : Sp := fun vs H Q _ => ∃ v h nm, vs = [v, .str nm] ∧ HouseIn H v h ∧ nm ∈ h.map (·.1) ∧
  (∀ sz, look (sizesL h) nm = some sz → TooMuchZ sz → ∀ H', Same H H' → Q .non H') ∧
  (∀ sz, look (sizesL h) nm = some sz → ¬ TooMuchZ sz → ∀ v' H' ms, Same H H' → SM ms → (∀ m, m ∈ ms ↔ m ∈ (partsF 6 h nm 0 0 0).2) → Is H' v' (encSheet ((sheetRss h nm).map regOf) ms) → Q v' H')
abbrev s__law_told : Stmt := top 62
abbrev n__law_told : List Str := ["_law_house_here", "_law_name_here"]
abbrev p__law_told : List Str := ["_law_house_here", "_law_name_here"]
theorem sc__law_told : FnScope n__law_told p__law_told (defScope s__law_told) := ⟨rfl, rfl, rfl, by decide +kernel, rfl, by decide +kernel, by decide +kernel⟩
theorem ok_law_told (F : Fun K "_law_told" "_law_told" s__law_told f fd) (T : Txt mg) (xc : XCls K mg "TooMuch" C0) (eP : PySem.W.exmOne K (.ref C0) (.ref C0) = some true) (FF : FnOk P w K mg base (L2.CX P w) 11 g gd p_flat (spFlat C0)) (bF : Binds K gd p_flat []) (kF : PySem.W.keepIn K (.ref g) = true) (mF : mg "flat" = some (.ref g)) :
    FnOk P w K mg base CX0 12 f fd p__law_told spTold := by
  refine F.ok sc__law_told (fun vs H Q E h => ?_) (fun cdv A outer s H vs Q E hr h => ?_)
  · obtain ⟨x, y, z, rfl, _⟩ := h
    rfl
  obtain ⟨v, h, nm, rfl, hI, hnm, qx, q⟩ := h
  have nd := (sc__law_told).nd
  refine ⟨_, (pss_one (ps_try_only rfl rfl ⟨rfl, by decide, .inl xc.gP⟩ takes0 (fun W pn xe tk _ => pss_one (ps_ret (pe_callS FF hr rfl mF kF bF (fun σ => passAt tk σ) (pa_cons (pv 0) (pa_cons (pv 1) pa_nil))))) (fun a oe cls d pn _ _ => pss_one (ps_ret pe_non)))), ?_⟩
  refine ⟨_, rfl, _, rfl, v, h, nm, rfl, hI, hnm, fun sz hsz ht H' s' => ?_, fun sz hsz ht v' H' ms s' g1 g2 g3 => ?_⟩
  · exact ⟨true, eP, fun _ a ha => qx sz hsz ht H' s', fun z => (by cases z)⟩
  · exact q sz hsz ht v' H' ms s' g1 g2 g3
end
end Mw
end
section
set_option maxRecDepth 100000
set_option maxHeartbeats 8000000
/-! the other order. -/
namespace Mw
open PySem PySem.Spec PyProof.Rows L2
section
variable {K : PySem.W.Frag} {H : Hp} {a b : Addr} {xs ys : List V} {ds es : List PyData} {Q : V → Hp → Prop}
theorem catA (ha : H a = some (.tup xs)) (hb : H b = some (.tup ys)) (hx : IsAll H xs ds) (hy : IsAll H ys es) (hz : xs.length + ys.length ≤ sizeLine) (q : ∀ v H', Same H H' → Is H' v (.tuple (ds ++ es)) → Q v H') : rCatA K (.ref a) (.ref b) H Q := by
  have c := hx.append hy
  refine ⟨a, b, xs, ys, rfl, rfl, SqT.of ha, SqT.of hb, hz, fun z => ?_, fun _ z => ?_, fun _ _ p hp => ?_⟩
  · exact q _ _ (same_refl _) (.tup hb (by rw [z] at c; exact c))
  · exact q _ _ (same_refl _) (.tup ha (by rw [z, List.append_nil] at c; exact c))
  · exact q _ _ (same_new hp _) (is_new hp c)
theorem cutD (hx : IsAll H xs ds) (i j : Nat) : IsAll H ((xs.drop i).take j) ((ds.drop i).take j) := (hx.drop i).take j
theorem slTo (ha : H a = some (.tup xs)) (hx : IsAll H xs ds) (k : Nat) (q : ∀ v H', Same H H' → Is H' v (.tuple (ds.take k)) → Q v H') : rSlA K (.ref a) none (some (k : Int)) H Q := by
  have e : cutV xs none (some (k : Int)) = xs.take k := by
    unfold cutV
    rw [HT.sIx_none, HT.sIx_nat, List.drop_zero, Nat.sub_zero, List.take_eq_take_iff]
    omega
  refine ⟨a, xs, rfl, SqT.of ha, fun z => ?_, fun _ p hp => ?_⟩
  · have z2 := z.2
    rw [HT.sIx_nat] at z2
    have hl := hx.length
    refine q _ _ (same_refl _) (.tup ha ?_)
    rw [List.take_of_length_le (by omega)]
    exact hx
  · rw [e]
    exact q _ _ (same_new hp _) (is_new hp (hx.take k))
theorem slFrom (ha : H a = some (.tup xs)) (hx : IsAll H xs ds) (k : Nat) (q : ∀ v H', Same H H' → Is H' v (.tuple (ds.drop k)) → Q v H') : rSlA K (.ref a) (some (k : Int)) none H Q := by
  have hl := hx.length
  have e : cutV xs (some (k : Int)) none = xs.drop k := by
    unfold cutV
    rw [HT.sIx_none, HT.sIx_nat]
    by_cases c : k ≤ xs.length
    · rw [Nat.min_eq_left c, List.take_of_length_le (by rw [List.length_drop]; exact Nat.le_refl _)]
    · rw [Nat.min_eq_right (by omega), List.drop_length, List.drop_eq_nil_of_le (by omega), List.take_nil]
  refine ⟨a, xs, rfl, SqT.of ha, fun z => ?_, fun _ p hp => ?_⟩
  · have z1 := z.1
    rw [HT.sIx_nat] at z1
    refine q _ _ (same_refl _) (.tup ha ?_)
    by_cases c : k = 0
    · rw [c, List.drop_zero]; exact hx
    · have e0 : xs.length = 0 := by omega
      rw [List.drop_eq_nil_of_le (by omega), List.eq_nil_of_length_eq_zero e0]
      exact .nil
  · rw [e]
    exact q _ _ (same_new hp _) (is_new hp (hx.drop k))
end
def otherCell (c : CellS) : CellS := (c.1, c.2.1.reverse ++ c.2.1.take 2, (c.2.2.1.drop 1 ++ c.2.2.1.take 1) ++ c.2.2.1.take 1, c.2.2.2.reverse ++ c.2.2.2.take 1)
def otherOrder (hs : HouseS) (k : Nat) (c : CellS) : HouseS := (hs.take k ++ [otherCell c]) ++ hs.drop (k + 1)
section
variable {P : Program} {w : World} {K : PySem.W.Frag} {mg : Str → Option Value} {base : Heap} {f g C0 : Addr} {fd gd : FuncData}
def spOther : Sp := fun vs H Q _ => ∃ (v : V) (hs : HouseS) (k : Nat) (c : CellS), vs = [v, .int (k : Nat)] ∧ Is H v (encHouse hs) ∧ hs.length ≤ 6 ∧ hs[k]? = some c ∧ SmallCell c ∧ ∀ v' H', Same H H' → Is H' v' (encHouse (otherOrder hs k c)) → Q v' H'
abbrev s__law_other_order : Stmt := top 64
abbrev n__law_other_order : List Str := ["_law_house_here", "_law_at", "_law_name_here", "_law_rects", "_law_labels", "_law_uses", "_law_more"]
abbrev p__law_other_order : List Str := ["_law_house_here", "_law_at"]
theorem sc__law_other_order : FnScope n__law_other_order p__law_other_order (defScope s__law_other_order) := ⟨rfl, rfl, rfl, by decide +kernel, rfl, by decide +kernel, by decide +kernel⟩
theorem ok_law_other_order (F : Fun K "_law_other_order" "_law_other_order" s__law_other_order f fd) (T : Txt mg) : FnOk P w K mg base CX0 1 f fd p__law_other_order spOther := by
  refine F.ok sc__law_other_order (fun vs H Q E h => ?_) (fun cdv A outer s H vs Q E hr h => ?_)
  · obtain ⟨x, y, z, t, rfl, _⟩ := h
    rfl
  obtain ⟨v, hs, k, c, rfl, hv, hl, hc, hsm, q⟩ := h
  have nd := (sc__law_other_order).nd
  refine ⟨_, (pss_cons (ps_asg (pe_ix ix_tup (pv 0) (pv 1) (fun _ _ => rfl)) (pg_tup rfl (pgs_cons (pg_name (i := 2) nd rfl (Or.inl rfl)) (pgs_cons (pg_name (i := 3) nd rfl (Or.inl rfl)) (pgs_cons (pg_name (i := 4) nd rfl (Or.inl rfl)) (pgs_cons (pg_name (i := 5) nd rfl (Or.inl rfl)) pgs_nil))))))
  (pss_cons (ps_set (i := 6) nd rfl (Or.inl rfl) (pe_tup (pa_cons (pv 2) (pa_cons (pe_op op_catA (pe_revT (pv 3)) (pe_slice sl_tupA (pv 3) po_none (po_some pe_int))) (pa_cons (pe_op op_catA (pe_op op_catA (pe_slice sl_tupA (pv 4) (po_some pe_int) po_none) (pe_slice sl_tupA (pv 4) po_none (po_some pe_int))) (pe_slice sl_tupA (pv 4) po_none (po_some pe_int))) (pa_cons (pe_op op_catA (pe_revT (pv 5)) (pe_slice sl_tupA (pv 5) po_none (po_some pe_int))) pa_nil))))))
  (pss_one (ps_ret (pe_op op_catA (pe_op op_catA (pe_slice sl_tupA (pv 0) po_none (po_some (pv 1))) (pe_tup (pa_cons (pv 6) pa_nil))) (pe_slice sl_tupA (pv 0) (po_some (pe_op op_add (pv 1) pe_int)) po_none)))))), ?_⟩
  obtain ⟨ha, xs, rfl, hha, hx⟩ := hv.tup_inv
  have hxl : xs.length = hs.length := by rw [hx.length, List.length_map]
  have hk : k < hs.length := (List.getElem?_eq_some_iff.mp hc).1
  obtain ⟨v1, hv1, hv1d⟩ := hx.at (i := k) (d := encCell c) (by rw [List.getElem?_map, hc]; rfl)
  obtain ⟨a, ra, ma, ua, rs, ms, us, rfl, A0⟩ := cell_inv hv1d
  have g1 := hsm.nr
  have g2 := hsm.nm
  have g3 := hsm.nu
  have hrl : rs.length = c.2.1.length := by rw [A0.dr.length, List.length_map]
  have hml : ms.length = c.2.2.1.length := by rw [A0.dm.length, List.length_map]
  have hul : us.length = c.2.2.2.length := by rw [A0.du.length, List.length_map]
  refine ⟨_, rfl, _, rfl, ha, _, _, _, rfl, rfl, SqT.of hha, atI_nat hv1, a, _, rfl, SqT.of A0.ob, rfl, _, _, rfl, _, _, rfl, _, _, rfl, _, _, rfl, rfl, ?_⟩
  -- rects
  refine ⟨_, rfl, _, rfl, ra, rs, rfl, SqT.of A0.hr, fun p1 hp1 => ?_⟩
  have s1 := same_new hp1 (.tup rs.reverse)
  have A1 := A0.mono (kt s1)
  refine ⟨_, rfl, 2, rfl, slTo A1.hr A1.dr 2 fun v2 H2 s2 h2 => ?_⟩
  obtain ⟨p2, xs2, rfl, hp2, hx2⟩ := h2.tup_inv
  have hx2l : xs2.length ≤ 8 := by rw [hx2.length, List.length_take, List.length_map]; omega
  refine catA (s2 _ _ upd_same) hp2 ((A0.dr.reverse.mono (kt s1)).mono (kt s2)) hx2 (smL (by rw [List.length_reverse]; omega)) fun v3 H3 s3 h3 => ?_
  have s03 := s1.trans (s2.trans s3)
  have A3 := A0.mono (kt s03)
  -- labels
  refine ⟨_, rfl, 1, rfl, ?_⟩
  dsimp only [tNoPart]
  refine slFrom A3.hm A3.dm 1 fun v4 H4 s4 h4 => ?_
  have A4 := A3.mono (kt s4)
  obtain ⟨p4, xs4, rfl, hp4, hx4⟩ := h4.tup_inv
  have hx4l : xs4.length ≤ 8 := by rw [hx4.length, List.length_drop, List.length_map]; omega
  refine ⟨_, rfl, 1, rfl, slTo A4.hm A4.dm 1 fun v5 H5 s5 h5 => ?_⟩
  have A5 := A4.mono (kt s5)
  obtain ⟨p5, xs5, rfl, hp5, hx5⟩ := h5.tup_inv
  have hx5l : xs5.length ≤ 8 := by rw [hx5.length, List.length_take, List.length_map]; omega
  refine catA (s5 _ _ hp4) hp5 (hx4.mono (kt s5)) hx5 (smL (by omega)) fun v6 H6 s6 h6 => ?_
  have A6 := A5.mono (kt s6)
  obtain ⟨p6, xs6, rfl, hp6, hx6⟩ := h6.tup_inv
  have hx6l : xs6.length ≤ 16 := by rw [hx6.length, List.length_append, List.length_drop, List.length_take, List.length_map]; omega
  refine ⟨_, rfl, 1, rfl, slTo A6.hm A6.dm 1 fun v7 H7 s7 h7 => ?_⟩
  have A7 := A6.mono (kt s7)
  obtain ⟨p7, xs7, rfl, hp7, hx7⟩ := h7.tup_inv
  have hx7l : xs7.length ≤ 8 := by rw [hx7.length, List.length_take, List.length_map]; omega
  refine catA (s7 _ _ hp6) hp7 (hx6.mono (kt s7)) hx7 (smL (by omega)) fun v8 H8 s8 h8 => ?_
  have s38 := s4.trans (s5.trans (s6.trans (s7.trans s8)))
  have A8 := A3.mono (kt s38)
  -- uses
  refine ⟨_, rfl, ua, us, rfl, SqT.of A8.hu, fun p9 hp9 => ?_⟩
  have s9 := same_new hp9 (.tup us.reverse)
  have A9 := A8.mono (kt s9)
  refine ⟨_, rfl, 1, rfl, slTo A9.hu A9.du 1 fun v10 H10 s10 h10 => ?_⟩
  obtain ⟨p10, xs10, rfl, hp10, hx10⟩ := h10.tup_inv
  have hx10l : xs10.length ≤ 8 := by rw [hx10.length, List.length_take, List.length_map]; omega
  refine catA (s10 _ _ upd_same) hp10 ((A8.du.reverse.mono (kt s9)).mono (kt s10)) hx10 (smL (by rw [List.length_reverse]; omega)) fun v11 H11 s11 h11 => ?_
  have s811 := s9.trans (s10.trans s11)
  refine ⟨sz 4, fun p12 hp12 => ?_⟩
  have s12 := same_new hp12 (.tup [.str c.1, v3, v8, v11])
  have hmore : Is (upd H11 p12 (.tup [.str c.1, v3, v8, v11])) (.ref p12) (encCell (otherCell c)) := by
    refine is_new hp12 (.cons (.str _) (.cons ?_ (.cons ?_ (.cons ?_ .nil))))
    · have := (h3.mono (kt s38)).mono (kt s811)
      rw [← List.map_reverse, ← List.map_take, ← List.map_append] at this
      exact this
    · have := h8.mono (kt s811)
      rw [← List.map_drop, ← List.map_take, ← List.map_append, ← List.map_append] at this
      exact this
    · have := h11
      rw [← List.map_reverse, ← List.map_take, ← List.map_append] at this
      exact this
  have sAll := (s03.trans s38).trans (s811.trans s12)
  generalize upd H11 p12 (.tup [.str c.1, v3, v8, v11]) = H12 at hmore sAll
  refine asg (i := 6) ?_
  -- the house
  have hhaA := sAll _ _ hha
  have hxA := hx.mono (kt sAll)
  refine ⟨_, rfl, _, rfl, (k : Int), rfl, slTo hhaA hxA k fun v13 H13 s13 h13 => ?_⟩
  obtain ⟨p13, xs13, rfl, hp13, hx13⟩ := h13.tup_inv
  have hx13l : xs13.length ≤ 8 := by rw [hx13.length, List.length_take, List.length_map]; omega
  refine ⟨_, rfl, sz 1, fun p14 hp14 => ?_⟩
  have s14 := same_new hp14 (.tup [.ref p12])
  refine catA (s14 _ _ hp13) upd_same (hx13.mono (kt s14)) (IsAll.one ((hmore.mono (kt s13)).mono (kt s14))) (smL (by simp only [List.length_cons, List.length_nil]; omega)) fun v15 H15 s15 h15 => ?_
  have s1215 := s13.trans (s14.trans s15)
  obtain ⟨p15, xs15, rfl, hp15, hx15⟩ := h15.tup_inv
  have hx15l : xs15.length ≤ 16 := by rw [hx15.length, List.length_append, List.length_take, List.length_map]; simp only [List.length_cons, List.length_nil]; omega
  refine ⟨_, rfl, _, rfl, _, _, rfl, rfl, ((k + 1 : Nat) : Int), rfl, ?_⟩
  dsimp only [tNoPart]
  refine slFrom (s1215 _ _ hhaA) (hxA.mono (kt s1215)) (k + 1) fun v16 H16 s16 h16 => ?_
  obtain ⟨p16, xs16, rfl, hp16, hx16⟩ := h16.tup_inv
  have hx16l : xs16.length ≤ 8 := by rw [hx16.length, List.length_drop, List.length_map]; omega
  refine catA (s16 _ _ hp15) hp16 (hx15.mono (kt s16)) hx16 (smL (by omega)) fun v17 H17 s17 h17 => ?_
  refine q v17 H17 (sAll.trans (s1215.trans (s16.trans s17))) ?_
  rw [← List.map_take, ← List.map_drop] at h17
  have e : encHouse (otherOrder hs k c) = .tuple ((hs.take k).map encCell ++ [encCell (otherCell c)] ++ (hs.drop (k + 1)).map encCell) := by
    unfold encHouse otherOrder
    rw [List.map_append, List.map_append]
    rfl
  rw [e]
  exact h17
end
end Mw
end
section
set_option maxRecDepth 100000
set_option maxHeartbeats 4000000
/-! The plain law: what the sheets are. -/
namespace Mw
open PySem PySem.Spec PyProof.Rows L2
/-! ### a sheet's marks, each once, in order -/
def uniqL : List MarkS → List MarkS
  | [] => []
  | a :: l => if a ∈ uniqL l then uniqL l else a :: uniqL l
theorem uniqL_mem : ∀ {l : List MarkS} {m : MarkS}, m ∈ uniqL l ↔ m ∈ l
  | [], _ => Iff.rfl
  | a :: l, m => by
    unfold uniqL
    by_cases c : a ∈ uniqL l
    · rw [if_pos c, uniqL_mem, List.mem_cons]
      exact ⟨.inr, fun h => h.elim (fun e => by rw [e]; exact uniqL_mem.mp c) id⟩
    · rw [if_neg c, List.mem_cons, List.mem_cons, uniqL_mem]
theorem uniqL_nd : ∀ l : List MarkS, (uniqL l).Nodup
  | [] => List.nodup_nil
  | a :: l => by
    unfold uniqL
    by_cases c : a ∈ uniqL l
    · rw [if_pos c]; exact uniqL_nd l
    · rw [if_neg c]; exact List.nodup_cons.mpr ⟨c, uniqL_nd l⟩
def msOf (l : List MarkS) : List MarkS := (uniqL l).mergeSort (PySem.W.dataLe false encM)
theorem msOf_sm (l : List MarkS) : SM (msOf l) := sortM_sm (uniqL_nd l)
theorem msOf_mem {l : List MarkS} {m : MarkS} : m ∈ msOf l ↔ m ∈ l := by unfold msOf; rw [sortM_mem, uniqL_mem]
theorem msOf_is {l ms : List MarkS} (h : SM ms) (hm : ∀ m, m ∈ ms ↔ m ∈ l) : ms = msOf l := sm_uniq h (msOf_sm l) fun m => by rw [hm, msOf_mem]
theorem uniqL_len : ∀ l : List MarkS, (uniqL l).length ≤ l.length
  | [] => Nat.le_refl _
  | a :: l => by
    have := uniqL_len l
    unfold uniqL
    split
    · rw [List.length_cons]; omega
    · rw [List.length_cons, List.length_cons]; omega
theorem msOf_len (l : List MarkS) : (msOf l).length ≤ l.length := by
  unfold msOf
  rw [(List.mergeSort_perm _ _).length_eq]
  exact uniqL_len l
/-! ### what flat tells -/
def sheetD (h : HouseS) (nm : Str) : PyData := encSheet ((sheetRss h nm).map regOf) (msOf (partsF 6 h nm 0 0 0).2)
def tooMuch (h : HouseS) (nm : Str) : Prop := ∀ sz, look (sizesL h) nm = some sz → TooMuchZ sz
def dTold (h : HouseS) (nm : Str) : PyData := match look (sizesL h) nm with
  | some sz => if TooMuchZ sz then .none else sheetD h nm
  | none => .none
theorem dTold_much {h : HouseS} {nm : Str} {sz : Size} (e : look (sizesL h) nm = some sz) (t : TooMuchZ sz) : dTold h nm = .none := by
  unfold dTold
  rw [e]
  exact if_pos t
theorem dTold_few {h : HouseS} {nm : Str} {sz : Size} (e : look (sizesL h) nm = some sz) (t : ¬ TooMuchZ sz) : dTold h nm = sheetD h nm := by
  unfold dTold
  rw [e]
  exact if_neg t
theorem dTold_some {h : HouseS} {nm : Str} (t : dTold h nm ≠ .none) : ∃ sz, look (sizesL h) nm = some sz ∧ ¬ TooMuchZ sz ∧ dTold h nm = sheetD h nm := by
  cases e : look (sizesL h) nm with
  | none =>
    unfold dTold at t
    rw [e] at t
    exact absurd rfl t
  | some sz =>
    by_cases c : TooMuchZ sz
    · exact absurd (dTold_much e c) t
    · exact ⟨sz, rfl, c, dTold_few e c⟩
theorem dTold_cases (h : HouseS) (nm : Str) : dTold h nm = .none ∨ dTold h nm = sheetD h nm := by
  by_cases c : dTold h nm = .none
  · exact .inl c
  · obtain ⟨_, _, _, e⟩ := dTold_some c
    exact .inr e
/-- much is laid, not too much: few parts, not too deep -/
theorem few_parts {h : HouseS} {nm : Str} {sz : Size} (H : HouseOk [] h) (e : look (sizesL h) nm = some sz) (t : ¬ TooMuchZ sz) : DeepOk 6 h nm ∧ ∀ d t dx dy, (partsF d h nm t dx dy).1.length + (partsF d h nm t dx dy).2.length ≤ 600 := by
  have SI := (sizeInv H).all nm sz e
  have h1 := SI.1
  have h2 := SI.2.1
  unfold TooMuchZ at t
  refine ⟨SI.2.2.1.mono (by omega), fun d t' dx dy => ?_⟩
  have := SI.2.2.2 d t' dx dy
  omega
theorem rss_ok {h : HouseS} {nm : Str} {sz : Size} (H : HouseOk [] h) (e : look (sizesL h) nm = some sz) (t : ¬ TooMuchZ sz) : Rss (sheetRss h nm) ∧ (sheetRss h nm).length = 6 ∧ (msOf (partsF 6 h nm 0 0 0).2).length ≤ 600 := by
  obtain ⟨_, hp⟩ := few_parts H e t
  have hp := hp 6 0 0 0
  refine ⟨fun rs hrs => ?_, ?_, ?_⟩
  · obtain ⟨l, _, rfl⟩ := List.mem_map.mp hrs
    have := layerOf_len l (partsF 6 h nm 0 0 0).1
    exact ⟨fun r hr => parts_valid 6 h nm 0 0 0 H ⟨by decide, by decide⟩ _ (layerOf_mem.mp hr), by omega⟩
  · unfold sheetRss
    rw [List.length_map]
    decide +kernel
  · have := msOf_len (partsF 6 h nm 0 0 0).2
    omega
/-! ### 1. cells that nobody uses can be left out -/
theorem told_ahead {a b : HouseS} {nm : Str} (H : HouseOk [] a) (hn : nm ∈ a.map (·.1)) : dTold (a ++ b) nm = dTold a nm := by
  unfold dTold sheetD sheetRss
  rw [sizes_ahead hn, parts_ahead H 6 nm 0 0 0 hn]
/-! ### 2. another order -/
theorem take_drop {α : Type} (l : List α) (k : Nat) (x : α) : x ∈ l.reverse ++ l.take k ↔ x ∈ l := by
  rw [List.mem_append, List.mem_reverse]
  exact ⟨fun h => h.elim id fun h => List.mem_of_mem_take h, .inl⟩
theorem drop_take {α : Type} (l : List α) (x : α) : x ∈ (l.drop 1 ++ l.take 1) ++ l.take 1 ↔ x ∈ l := by
  rw [List.mem_append, List.mem_append]
  constructor
  · rintro ((h | h) | h)
    · exact List.mem_of_mem_drop h
    · exact List.mem_of_mem_take h
    · exact List.mem_of_mem_take h
  · intro h
    have : x ∈ l.take 1 ++ l.drop 1 := by rw [List.take_append_drop]; exact h
    rcases List.mem_append.mp this with z | z
    · exact .inr z
    · exact .inl (.inl z)
theorem split_at {α : Type} {l : List α} {k : Nat} {c : α} (h : l[k]? = some c) : l = l.take k ++ c :: l.drop (k + 1) := by
  have hi := (List.getElem?_eq_some_iff.mp h).1
  have e1 : l.drop k = l[k] :: l.drop (k + 1) := List.drop_eq_getElem_cons hi
  rw [List.getElem?_eq_getElem hi] at h
  rw [Option.some.inj h] at e1
  rw [← e1, List.take_append_drop]
theorem told_other {hs : HouseS} {k : Nat} {c : CellS} (H : HouseOk [] hs) (H' : HouseOk [] (otherOrder hs k c)) (hc : hs[k]? = some c) (h1 : dTold hs c.1 ≠ .none) (h2 : dTold (otherOrder hs k c) c.1 ≠ .none) : dTold hs c.1 = dTold (otherOrder hs k c) c.1 := by
  obtain ⟨sz1, e1, t1, r1⟩ := dTold_some h1
  obtain ⟨sz2, e2, t2, r2⟩ := dTold_some h2
  rw [r1, r2]
  have es := split_at hc
  have eo : otherOrder hs k c = hs.take k ++ (c.1, (otherCell c).2) :: hs.drop (k + 1) := by
    unfold otherOrder
    rw [List.append_assoc]
    rfl
  have H0 : HouseOk [] (hs.take k ++ (c.1, c.2) :: hs.drop (k + 1)) := by
    have := H
    rw [es] at this
    exact this
  have P := parts_other (b := c.2) (b' := (otherCell c).2) H0 (fun r => take_drop _ _ _) (fun m => drop_take _ _) (fun u => take_drop _ _ _) 6 0 0 0
  rw [← eo] at P
  have es' : hs.take k ++ (c.1, c.2) :: hs.drop (k + 1) = hs := es.symm
  rw [es'] at P
  have v1 := (rss_ok H e1 t1).1
  unfold sheetD
  have er : (sheetRss hs c.1).map regOf = (sheetRss (otherOrder hs k c) c.1).map regOf := by
    unfold sheetRss
    rw [List.map_map, List.map_map]
    refine List.map_congr_left fun l hl => ?_
    refine regOf_mem (v1 _ (List.mem_map_of_mem hl)).1 fun r => ?_
    rw [layerOf_mem, layerOf_mem, P.1]
  have em : msOf (partsF 6 hs c.1 0 0 0).2 = msOf (partsF 6 (otherOrder hs k c) c.1 0 0 0).2 := msOf_is (msOf_sm _) fun m => by rw [msOf_mem, P.2]
  rw [er, em]
/-! ### 3. turned and turned back -/
theorem still_back {rss : List (List Rect)} {t : Int} (ht : Tn t) : ((rss.map fun rs => rs.map (turnR t 0 0)).map fun rs => rs.map (turnR (backT t) 0 0)) = rss := by
  rw [List.map_map]
  have : ((fun rs : List Rect => rs.map (turnR (backT t) 0 0)) ∘ fun rs => rs.map (turnR t 0 0)) = id := by
    funext rs
    show (rs.map (turnR t 0 0)).map (turnR (backT t) 0 0) = rs
    rw [List.map_map]
    have e : (turnR (backT t) 0 0 ∘ turnR t 0 0) = id := by
      funext r
      exact turn_back ht r
    rw [e, List.map_id]
  rw [this, List.map_id]
def sortM (ms : List MarkS) : List MarkS := ms.mergeSort (PySem.W.dataLe false encM)
theorem nodup_turn {t dx dy : Int} (ht : Tn t) {ms : List MarkS} (h : ms.Nodup) : (ms.map (turnM t dx dy)).Nodup :=
  List.Pairwise.map _ (fun a b hne e => hne (turnM_inj ht e)) h
theorem marks_back {ms : List MarkS} {t : Int} (ht : Tn t) (h : SM ms) : sortM ((sortM (ms.map (turnM t 0 0))).map (turnM (backT t) 0 0)) = ms := by
  have n1 : (sortM (ms.map (turnM t 0 0))).Nodup := (sortM_sm (nodup_turn ht h.nd)).nd
  refine sm_uniq (sortM_sm (nodup_turn (backT_tn ht) n1)) h fun m => ?_
  unfold sortM
  rw [sortM_mem, List.mem_map]
  have tb : ∀ m : MarkS, turnM (backT t) 0 0 (turnM t 0 0 m) = m := fun m => by
    unfold turnM
    rw [turnP_back ht]
  constructor
  · rintro ⟨m', h1, rfl⟩
    rw [sortM_mem, List.mem_map] at h1
    obtain ⟨m2, h2, rfl⟩ := h1
    rw [tb]
    exact h2
  · intro hm
    exact ⟨turnM t 0 0 m, by rw [sortM_mem]; exact List.mem_map_of_mem hm, tb m⟩
/-! ### 4. used, turned and moved, laid over itself -/
def newCell (nn nm : Str) (t1 x1 y1 t2 x2 y2 : Int) : CellS := (nn, [], [], [(nm, t1, x1, y1), (nm, t2, x2, y2)])
theorem after0 {t : Int} (h : Tn t) : afterT t 0 = t := by
  rcases tn_cases h with e | e | e | e | e | e | e | e <;> subst e <;> decide
theorem turnC0 (x y : Int) : turnC 0 0 0 (x, y) = (x, y) := by rw [turnC_0]; exact Prod.ext (Int.add_zero _) (Int.add_zero _)
theorem told_used {hs : HouseS} {nn nm : Str} {t1 x1 y1 t2 x2 y2 : Int} (H : HouseOk [] (hs ++ [newCell nn nm t1 x1 y1 t2 x2 y2])) (hn : nm ∈ hs.map (·.1)) (hnn : nn ∉ hs.map (·.1)) (h1 : Tn t1) (h2 : Tn t2)
    (d1 : dTold hs nm ≠ .none) (d2 : dTold (hs ++ [newCell nn nm t1 x1 y1 t2 x2 y2]) nn ≠ .none) {ms : List MarkS} (hsm : SM ms)
    (hms : ∀ m, m ∈ ms ↔ m ∈ sortM ((msOf (partsF 6 hs nm 0 0 0).2).map (turnM t1 x1 y1)) ∨ m ∈ sortM ((msOf (partsF 6 hs nm 0 0 0).2).map (turnM t2 x2 y2))) :
    dTold (hs ++ [newCell nn nm t1 x1 y1 t2 x2 y2]) nn = encSheet ((((sheetRss hs nm).map fun rs => rs.map (turnR t1 x1 y1)).zip ((sheetRss hs nm).map fun rs => rs.map (turnR t2 x2 y2))).map fun p => regOf (p.1 ++ p.2)) ms := by
  have Ha : HouseOk [] hs := (HouseOk.append.mp H).1
  obtain ⟨sz1, e1, n1, r1⟩ := dTold_some d1
  obtain ⟨sz2, e2, n2, r2⟩ := dTold_some d2
  rw [r2]
  obtain ⟨dp2, _⟩ := few_parts H e2 n2
  have hl : look (hs ++ [newCell nn nm t1 x1 y1 t2 x2 y2]) nn = some (newCell nn nm t1 x1 y1 t2 x2 y2).2 := by
    rw [look_not _ _ _ hnn]
    show (if nn = nn then some _ else none) = _
    rw [if_pos rfl]
  have dp5 : DeepOk 5 hs nm := by
    obtain ⟨b, eb, hu⟩ := dp2
    rw [hl] at eb
    cases eb
    have := hu (nm, t1, x1, y1) List.mem_cons_self
    exact (DeepOk.ahead Ha hn).mp this
  have one : ∀ t x y, Tn t → partsF 5 (hs ++ [newCell nn nm t1 x1 y1 t2 x2 y2]) nm (afterT t 0) (turnC 0 0 0 (x, y)).1 (turnC 0 0 0 (x, y)).2 = ((partsF 6 hs nm 0 0 0).1.map (turnLR t x y), (partsF 6 hs nm 0 0 0).2.map (turnM t x y)) := fun t x y ht => by
    rw [after0 ht, turnC0, parts_ahead Ha 5 nm t x y hn]
    obtain ⟨q1, q2⟩ := parts_turn 5 hs [] nm t x y Ha ht
    have em : partsF 6 hs nm 0 0 0 = partsF 5 hs nm 0 0 0 := parts_more dp5
    rw [em]
    exact Prod.ext q1 q2
  have eP : partsF 6 (hs ++ [newCell nn nm t1 x1 y1 t2 x2 y2]) nn 0 0 0 = ((partsF 6 hs nm 0 0 0).1.map (turnLR t1 x1 y1) ++ (partsF 6 hs nm 0 0 0).1.map (turnLR t2 x2 y2), (partsF 6 hs nm 0 0 0).2.map (turnM t1 x1 y1) ++ (partsF 6 hs nm 0 0 0).2.map (turnM t2 x2 y2)) := by
    have hl' : look (hs ++ [newCell nn nm t1 x1 y1 t2 x2 y2]) nn = some (([], [], [(nm, t1, x1, y1), (nm, t2, x2, y2)]) : Body Str) := hl
    conv => lhs; rw [partsF, hl']
    simp only [List.map_nil, List.nil_append, List.flatMap_cons, List.flatMap_nil, List.append_nil]
    rw [one t1 x1 y1 h1, one t2 x2 y2 h2]
  unfold sheetD
  have er : (sheetRss (hs ++ [newCell nn nm t1 x1 y1 t2 x2 y2]) nn).map regOf = ((((sheetRss hs nm).map fun rs => rs.map (turnR t1 x1 y1)).zip ((sheetRss hs nm).map fun rs => rs.map (turnR t2 x2 y2))).map fun p => regOf (p.1 ++ p.2)) := by
    have hz : ∀ {α β γ : Type} (f : α → β) (g : α → γ) (l : List α), (l.map f).zip (l.map g) = l.map fun a => (f a, g a) := fun f g l => by
      induction l with
      | nil => rfl
      | cons a l ih => rw [List.map_cons, List.map_cons, List.zip_cons_cons, ih]; rfl
    rw [hz]
    unfold sheetRss
    rw [eP, List.map_map, List.map_map, List.map_map]
    refine List.map_congr_left fun l _ => ?_
    show regOf (layerOf l _) = regOf _
    rw [layerOf_append, layerOf_turn, layerOf_turn]
  have em : msOf (partsF 6 (hs ++ [newCell nn nm t1 x1 y1 t2 x2 y2]) nn 0 0 0).2 = ms := by
    refine (msOf_is hsm fun m => ?_).symm
    rw [hms, eP]
    unfold sortM
    rw [sortM_mem, sortM_mem, List.mem_append, List.mem_map, List.mem_map, List.mem_map, List.mem_map]
    simp only [msOf_mem]
  rw [er, em]
end Mw
end
section
set_option maxRecDepth 100000
set_option maxHeartbeats 8000000
/-! a cell that uses one of the house's twice. -/
namespace Mw
open PySem PySem.Spec PyProof.Rows L2
/-! ### what is told can be compared -/
theorem name_str {z : Str} (h : NameOk z) : PyData.strOk z = true := by
  unfold PyData.strOk
  rw [← Array.all_toList, List.all_eq_true]
  intro c hc
  have key : ∀ c ∈ small.cps.toList, decide (c < 0x110000) = true := by decide +kernel
  exact key c (h.sm c hc)
theorem lay_str {z : Str} (h : LayOk z) : PyData.strOk z = true := by
  obtain ⟨c, rfl, hc⟩ := h
  unfold PyData.strOk
  rw [← Array.all_toList, List.all_eq_true]
  intro d hd
  have key : ∀ c ∈ layers.cps.toList, decide (c < 0x110000) = true := by decide +kernel
  have e : d = c := by simpa using hd
  rw [e]
  exact key c hc
theorem parts_marks {Pm : Str → Str → Prop} {h : HouseS} (hm : ∀ c ∈ h, ∀ m ∈ c.2.2.1, Pm m.1 m.2.1) : ∀ (d : Nat) (n : Str) (t dx dy : Int), ∀ m ∈ (partsF d h n t dx dy).2, Pm m.1 m.2.1
  | 0, _, _, _, _, m, h0 => by cases h0
  | d + 1, n, t, dx, dy, m, h0 => by
    rw [partsF] at h0
    cases e : look h n with
    | none => rw [e] at h0; cases h0
    | some b =>
      rw [e] at h0
      rcases List.mem_append.mp h0 with z | z
      · obtain ⟨m', h1, rfl⟩ := List.mem_map.mp z
        exact hm _ (look_mem e) m' h1
      · obtain ⟨u, _, h1⟩ := List.mem_flatMap.mp z
        exact parts_marks hm d _ _ _ _ m h1
theorem good_cells : ∀ {h : HouseS} {ns : List Str}, HouseGood ns h → ∀ c ∈ h, NameOk c.1 ∧ (∀ m ∈ c.2.2.1, MarkOk m) ∧ c.2.2.2.length ≤ 20 ∧ c.2.1.length ≤ 200 ∧ c.2.2.1.length ≤ 40
  | [], _, _, c, hc => by cases hc
  | d :: h, ns, g, c, hc => by
    rcases List.mem_cons.mp hc with z | z
    · rw [z]
      exact ⟨g.1.name, g.1.marks, g.1.nu, g.1.nr, g.1.nm⟩
    · exact good_cells g.2 c z
theorem okReg (R : Reg) : Okd 4 (encReg R) := okd_map fun b _ => okd_tup (okd_mem (okd_int _) (okd_mem (okd_int _) (okd_mem (okLine _) okd_no)))
theorem okSheet {Rs : List Reg} {ms : List MarkS} (h : ∀ m ∈ ms, PyData.strOk m.1 = true ∧ PyData.strOk m.2.1 = true) : Okd 6 (encSheet Rs ms) :=
  okd_tup (okd_mem (okd_map fun R _ => okReg R) (okd_mem (okd_tup (n := 4) fun d hd => by
    obtain ⟨m, hm, rfl⟩ := List.mem_map.mp hd
    exact okd_tup (n := 3) (okd_mem (okd_str (h m hm).1) (okd_mem (okd_str (h m hm).2) (okd_mem (okd_int _) (okd_mem (okd_int _) okd_no))))) okd_no))
theorem marks_str {h : HouseS} {ns : List Str} (g : HouseGood ns h) (nm : Str) (d : Nat) (t dx dy : Int) : ∀ m ∈ (partsF d h nm t dx dy).2, PyData.strOk m.1 = true ∧ PyData.strOk m.2.1 = true :=
  parts_marks (Pm := fun a b => PyData.strOk a = true ∧ PyData.strOk b = true) (fun c hc m hm => by
    have := (good_cells g c hc).2.1 m hm
    exact ⟨name_str this.name, lay_str this.lay⟩) d nm t dx dy
theorem okSheetD {h : HouseS} (g : HouseGood [] h) (nm : Str) : Okd 6 (sheetD h nm) := okSheet fun m hm => marks_str g nm 6 0 0 0 m (msOf_mem.mp hm)
theorem okTold {h : HouseS} (g : HouseGood [] h) (nm : Str) : Okd 6 (dTold h nm) := by
  rcases dTold_cases h nm with e | e <;> rw [e]
  · exact okd_non
  · exact okSheetD g nm
theorem eqv_self {n : Nat} {d : PyData} (h : Okd n d) : PyData.eqv d d = true := (eqv_plain d d h.plain h.plain).mpr rfl
theorem houseIn {H : Hp} {v : V} {h : HouseS} (hv : Is H v (encHouse h)) (g : HouseGood [] h) (hl : h.length ≤ 20) : HouseIn H v h :=
  ⟨hv, good_ok g, hl, fun c hc => by
    have := good_cells g c hc
    exact ⟨by omega, by omega, by omega⟩⟩
theorem repS_len (z : Str) (n : Nat) (hz : z.length = 1) : (repS z n).length = n := by
  have key : ∀ (m : Nat) (a : Array Nat), ((List.replicate m z.cps).foldl (· ++ ·) a).size = a.size + m * z.cps.size := fun m => by
    induction m with
    | zero => intro a; simp
    | succ m ih =>
      intro a
      rw [List.replicate_succ, List.foldl_cons, ih, Array.size_append, Nat.succ_mul]
      omega
  have hz' : z.cps.size = 1 := hz
  show ((List.replicate n z.cps).foldl (· ++ ·) #[]).size = n
  rw [key, hz']
  have : (#[] : Array Nat).size = 0 := rfl
  omega
theorem repS_mem (z : Str) (n : Nat) {c : Nat} (h : c ∈ (repS z n).cps.toList) : c ∈ z.cps.toList := by
  have key : ∀ (m : Nat) (a : Array Nat), c ∈ ((List.replicate m z.cps).foldl (· ++ ·) a).toList → c ∈ a.toList ∨ c ∈ z.cps.toList := fun m => by
    induction m with
    | zero => intro a h; exact .inl h
    | succ m ih =>
      intro a h
      rw [List.replicate_succ, List.foldl_cons] at h
      rcases ih _ h with e | e
      · rw [Array.toList_append] at e
        exact List.mem_append.mp e
      · exact .inr e
  rcases key n #[] h with e | e
  · cases e
  · exact e
section
variable {P : Program} {w : World} {K : PySem.W.Frag} {mg : Str → Option Value} {base : Heap} {f g C0 : Addr} {fd gd : FuncData}
def spToldD : Sp := fun vs H Q _ => ∃ v h nm, vs = [v, .str nm] ∧ HouseIn H v h ∧ nm ∈ h.map (·.1) ∧ ∀ v' H', Same H H' → Is H' v' (dTold h nm) → Q v' H'
theorem told_imp (vs : List V) (H : Hp) (Q : VK) (E : XK) (h : spToldD vs H Q E) : spTold vs H Q E := by
  obtain ⟨v, h, nm, rfl, hI, hn, q⟩ := h
  refine ⟨v, h, nm, rfl, hI, hn, fun sz e t H' s => q _ _ s ?_, fun sz e t v' H' ms s g1 g2 g3 => q _ _ s ?_⟩
  · rw [dTold_much e t]
    exact .non
  · rw [dTold_few e t, sheetD, ← msOf_is g1 g2]
    exact g3
def spUsed : Sp := fun vs H Q _ => ∃ b v hs nm, vs = [.ref b, v, .str nm] ∧ Bag b H ∧ Is H v (encHouse hs) ∧ HouseGood [] hs ∧ 1 ≤ hs.length ∧ hs.length ≤ 6 ∧ nm ∈ hs.map (·.1) ∧ ∀ H', SB b H H' → Bag b H' → Q (.bl true) H'
abbrev s__law_used_right : Stmt := top 63
abbrev n__law_used_right : List Str := ["_law_bag_here", "_law_house_here", "_law_name_here", "_law_first", "_law_second", "_law_new", "_law_sheet", "_law_told_here", "_law_one", "_law_other", "_law_still", "_law_cell"]
abbrev p__law_used_right : List Str := ["_law_bag_here", "_law_house_here", "_law_name_here"]
theorem sc__law_used_right : FnScope n__law_used_right p__law_used_right (defScope s__law_used_right) := ⟨rfl, rfl, rfl, by decide +kernel, rfl, by decide +kernel, by decide +kernel⟩
theorem ok_law_used_right (F : Fun K "_law_used_right" "_law_used_right" s__law_used_right f fd) (T : Txt mg) (J__law_take : Has P w K mg base "_law_take" 1 p__law_take spTake) (J__law_told : Has P w K mg base "_law_told" 12 p__law_told spToldD)
    (J_turned_sheet : Has P w K mg base "turned_sheet" 4 p_turned_sheet spTurnedSheet) (J_laid_over : Has P w K mg base "laid_over" 5 p_laid_over spLaidOver) (J_back : Has P w K mg base "back" 1 p_back spBack) : FnOk P w K mg base CX0 13 f fd p__law_used_right spUsed := by
  refine F.ok sc__law_used_right (fun vs H Q E h => ?_) (fun cdv A outer s H vs Q E hr h => ?_)
  · obtain ⟨x, y, z, t, rfl, _⟩ := h
    rfl
  obtain ⟨b, v, hs, nm, rfl, hB, hv, hg, hl1, hl2, hnm, q⟩ := h
  have nd := (sc__law_used_right).nd
  refine ⟨_, (pss_cons (ps_set (i := 3) nd rfl (Or.inl rfl) (pe_tup (pa_cons (pe_f J__law_take hr (pa_cons (pv 0) (pa_cons pe_int pa_nil))) (pa_cons (pe_op op_sub (pe_f J__law_take hr (pa_cons (pv 0) (pa_cons pe_int pa_nil))) pe_int) (pa_cons (pe_op op_sub (pe_f J__law_take hr (pa_cons (pv 0) (pa_cons pe_int pa_nil))) pe_int) pa_nil)))))
  (pss_cons (ps_set (i := 4) nd rfl (Or.inl rfl) (pe_tup (pa_cons (pe_f J__law_take hr (pa_cons (pv 0) (pa_cons pe_int pa_nil))) (pa_cons (pe_op op_sub (pe_f J__law_take hr (pa_cons (pv 0) (pa_cons pe_int pa_nil))) pe_int) (pa_cons (pe_op op_sub (pe_f J__law_take hr (pa_cons (pv 0) (pa_cons pe_int pa_nil))) pe_int) pa_nil)))))
  (pss_cons (ps_set (i := 5) nd rfl (Or.inl rfl) (pe_tup (pa_cons (pe_op op_mulS pe_str (pe_op op_add pe_int (pe_op op_mod (pe_callB (cr_max rfl) (by rfl) T.b_max (by decide +kernel) (pa_cons (pe_lc (own := [("_law_cell", 11)]) rfl nd (pi_tup (pv 1)) (blkOk_by (own := [("_law_cell", 11)]) (N := n__law_used_right) (sc := defScope s__law_used_right) (by decide +kernel)) (fun _ _ _ _ _ => (pg_name (i := 11) nd rfl (Or.inl rfl))) (fun _ _ _ _ _ => pts_nil) (fun _ _ _ _ _ => (pe_callB call_len_str (by rfl) T.b_len (by decide +kernel) (pa_cons (pe_ix (ix_tupK (K := K)) (pv 11) pe_int (fun _ _ => rfl)) pa_nil)))) pa_nil)) pe_int))) (pa_cons (pe_tup pa_nil) (pa_cons (pe_tup pa_nil) (pa_cons (pe_tup (pa_cons (pe_op op_catA (pe_tup (pa_cons (pv 2) pa_nil)) (pv 3)) (pa_cons (pe_op op_catA (pe_tup (pa_cons (pv 2) pa_nil)) (pv 4)) pa_nil))) pa_nil))))))
  (pss_cons (ps_if (pt_cmpR op_in_seq (pe_ix ix_tup (pv 5) pe_int (fun _ _ => rfl)) (pe_lc (own := [("_law_cell", 11)]) rfl nd (pi_tup (pv 1)) (blkOk_by (own := [("_law_cell", 11)]) (N := n__law_used_right) (sc := defScope s__law_used_right) (by decide +kernel)) (fun _ _ _ _ _ => (pg_name (i := 11) nd rfl (Or.inl rfl))) (fun _ _ _ _ _ => pts_nil) (fun _ _ _ _ _ => (pe_ix (ix_tupK (K := K)) (pv 11) pe_int (fun _ _ => rfl)))) nomk) (pss_one (ps_ret pe_bl)) pss_nil)
  (pss_cons (ps_set (i := 6) nd rfl (Or.inl rfl) (pe_f J__law_told hr (pa_cons (pv 1) (pa_cons (pv 2) pa_nil))))
  (pss_cons (ps_set (i := 7) nd rfl (Or.inl rfl) (pe_f J__law_told hr (pa_cons (pe_op op_catA (pv 1) (pe_tup (pa_cons (pv 5) pa_nil))) (pa_cons (pe_ix ix_tup (pv 5) pe_int (fun _ _ => rfl)) pa_nil))))
  (pss_cons (ps_if (PW.pt (pw_or (pt_cmpR op_isN (pv 6) pe_non nomk) (pw_or1 (pt_cmpR op_isN (pv 7) pe_non nomk)))) (pss_one (ps_ret pe_bl)) pss_nil)
  (pss_cons (ps_set (i := 8) nd rfl (Or.inl rfl) (pe_f J_turned_sheet hr (pa_cons (pv 6) (pa_cons (pe_ix ix_tup (pv 3) pe_int (fun _ _ => rfl)) (pa_cons (pe_ix ix_tup (pv 3) pe_int (fun _ _ => rfl)) (pa_cons (pe_ix ix_tup (pv 3) pe_int (fun _ _ => rfl)) pa_nil))))))
  (pss_cons (ps_set (i := 9) nd rfl (Or.inl rfl) (pe_f J_turned_sheet hr (pa_cons (pv 6) (pa_cons (pe_ix ix_tup (pv 4) pe_int (fun _ _ => rfl)) (pa_cons (pe_ix ix_tup (pv 4) pe_int (fun _ _ => rfl)) (pa_cons (pe_ix ix_tup (pv 4) pe_int (fun _ _ => rfl)) pa_nil))))))
  (pss_cons (ps_set (i := 10) nd rfl (Or.inl rfl) (pe_f J_turned_sheet hr (pa_cons (pv 6) (pa_cons (pe_ix ix_tup (pv 3) pe_int (fun _ _ => rfl)) (pa_cons pe_int (pa_cons pe_int pa_nil))))))
  (pss_cons (ps_if (pt_cmpR (op_neD hr.units) (pe_f J_turned_sheet hr (pa_cons (pv 10) (pa_cons (pe_f J_back hr (pa_cons (pe_ix ix_tup (pv 3) pe_int (fun _ _ => rfl)) pa_nil)) (pa_cons pe_int (pa_cons pe_int pa_nil))))) (pv 6) nomk) (pss_one (ps_ret pe_bl)) pss_nil)
  (pss_one (ps_ret (pe_cmpR (op_eqD hr.units) (pv 7) (pe_f J_laid_over hr (pa_cons (pv 8) (pa_cons (pv 9) pa_nil))) nomk)))))))))))))), ?_⟩
  obtain ⟨ha, xs, rfl, hha, hx⟩ := hv.tup_inv
  have hxl : xs.length = hs.length := by rw [hx.length, List.length_map]
  -- first
  refine ⟨_, rfl, b, 8, rfl, hB, by decide, by decide, fun t1 H1 s1 B1 t10 t11 => ?_⟩
  refine ⟨_, rfl, b, 131073, rfl, B1, by decide, by decide, fun x1 H2 s2 B2 x10 x11 => ⟨_, _, rfl, rfl, ?_⟩⟩
  refine ⟨_, rfl, b, 131073, rfl, B2, by decide, by decide, fun y1 H3 s3 B3 y10 y11 => ⟨_, _, rfl, rfl, ?_⟩⟩
  refine ⟨sz 3, fun pf hpf => ?_⟩
  have sA : SB b H _ := (s1.trans (s2.trans s3)).trans (sb_same (same_new hpf (.tup [.int t1, .int (x1 - 65536), .int (y1 - 65536)])))
  have BA := B3.same (same_new hpf (.tup [.int t1, .int (x1 - 65536), .int (y1 - 65536)]))
  have hfE : (upd H3 pf (.tup [.int t1, .int (x1 - 65536), .int (y1 - 65536)])) pf = some (.tup [.int t1, .int (x1 - 65536), .int (y1 - 65536)]) := upd_same
  generalize upd H3 pf (.tup [.int t1, .int (x1 - 65536), .int (y1 - 65536)]) = H4 at sA BA hfE
  refine asg (i := 3) ?_
  dsimp only
  -- second
  refine ⟨_, rfl, b, 8, rfl, BA, by decide, by decide, fun t2 H5 s5 B5 t20 t21 => ?_⟩
  refine ⟨_, rfl, b, 131073, rfl, B5, by decide, by decide, fun x2 H6 s6 B6 x20 x21 => ⟨_, _, rfl, rfl, ?_⟩⟩
  refine ⟨_, rfl, b, 131073, rfl, B6, by decide, by decide, fun y2 H7 s7 B7 y20 y21 => ⟨_, _, rfl, rfl, ?_⟩⟩
  refine ⟨sz 3, fun ps hps => ?_⟩
  have kB : KT H4 H7 := BA.kt (s5.trans (s6.trans s7))
  have sB : SB b H _ := (sA.trans (s5.trans (s6.trans s7))).trans (sb_same (same_new hps (.tup [.int t2, .int (x2 - 65536), .int (y2 - 65536)])))
  have BB := B7.same (same_new hps (.tup [.int t2, .int (x2 - 65536), .int (y2 - 65536)]))
  have hfE' := (kt (same_new hps (.tup [.int t2, .int (x2 - 65536), .int (y2 - 65536)]))) _ _ (kB _ _ hfE)
  have hsE : (upd H7 ps (.tup [.int t2, .int (x2 - 65536), .int (y2 - 65536)])) ps = some (.tup [.int t2, .int (x2 - 65536), .int (y2 - 65536)]) := upd_same
  generalize upd H7 ps (.tup [.int t2, .int (x2 - 65536), .int (y2 - 65536)]) = H8 at sB BB hfE' hsE
  generalize hX1 : x1 - 65536 = X1 at hfE' hfE
  generalize hY1 : y1 - 65536 = Y1 at hfE' hfE
  generalize hX2 : x2 - 65536 = X2 at hsE
  generalize hY2 : y2 - 65536 = Y2 at hsE
  have k8 := hB.kt sB
  have hha8 := k8 _ _ hha
  have hx8 := hx.mono k8
  refine asg (i := 4) ?_
  dsimp only
  -- the new cell's name
  refine ⟨_, rfl, ha, rfl, ⟨_, SqT.of hha8⟩, fun D hD => lc_map (walk_tup (K := K) (a := ha) (xs := xs)) ((hs.map fun c => (c.1.length : Int)).map PyData.int) (by rw [List.length_map, List.length_map, hxl]) (smL (by omega)) hD (fun H9 s9 => SqT.of (s9 _ _ hha8)) (fun i x H9 H10 d Qk Qs hd s9 hy k => ?_) (fun H9 ls s9 hls hld => ?_)⟩
  · obtain ⟨rfl, hxi⟩ := hy
    obtain ⟨c, hc, hvc⟩ := at_map hx8 hxi
    rw [List.map_map] at hd
    have ed := map_at (f := PyData.int ∘ fun c : CellS => (c.1.length : Int)) hc hd
    subst ed
    obtain ⟨a, ra, ma, ua, rs, ms, us, rfl, A0⟩ := cell_inv (hvc.mono (kt s9))
    have hz := (good_cells hg c (List.mem_of_getElem? hc)).1.hi
    exact ⟨rfl, _, rfl, a, _, _, _, rfl, rfl, SqT.of A0.ob, rfl, c.1, rfl, smL (by omega), k _ _ (same_refl _) (.int _)⟩
  have el := ints_inv hld
  subst el
  refine ⟨D, _, rfl, SqL.of hls, by rw [List.length_map]; omega, fun m hm hle => ?_⟩
  refine ⟨_, _, rfl, rfl, (by show (0 : Int) < 8; decide), _, _, rfl, rfl, ?_⟩
  have r0 := Int.emod_nonneg m (show (8 : Int) ≠ 0 by decide)
  have r1 := Int.emod_lt_of_pos m (show (0 : Int) < 8 by decide)
  refine ⟨"x", 1 + m % 8, rfl, rfl, rfl, by omega, by omega, ?_⟩
  have hnn : NameOk (repS "x" (1 + m % 8).toNat) := by
    have e := repS_len "x" (1 + m % 8).toNat (by rfl)
    refine ⟨by rw [e]; omega, by rw [e]; omega, fun c hc => ?_⟩
    have key : ∀ c ∈ ("x" : Str).cps.toList, c ∈ small.cps.toList := by decide +kernel
    exact key c (repS_mem _ _ hc)
  generalize repS "x" (1 + m % 8).toNat = nn at hnn
  -- its parts
  refine ⟨sz 0, fun p1 hp1 => ⟨sz 0, fun p2 hp2 => ?_⟩⟩
  have u1 := same_new hp1 (.tup [])
  have u2 := same_new hp2 (.tup [])
  have s10 := s9.trans (u1.trans u2)
  have e1 : Is (upd (upd H9 p1 (.tup [])) p2 (.tup [])) (.ref p1) (.tuple []) := .tup (u2 _ _ upd_same) .nil
  have e2 : Is (upd (upd H9 p1 (.tup [])) p2 (.tup [])) (.ref p2) (.tuple []) := .tup upd_same .nil
  generalize upd (upd H9 p1 (.tup [])) p2 (.tup []) = H10 at s10 e1 e2
  refine ⟨_, rfl, sz 1, fun p3 hp3 => ?_⟩
  have s11 := same_new hp3 (.tup [.str nm])
  refine ⟨_, rfl, catA upd_same ((s10.trans s11) _ _ hfE') (IsAll.one (.str nm)) (.cons (.int t1) (ints2 X1 Y1)) (sz 4) fun v4 H11 s12 h4 => ?_⟩
  refine ⟨_, rfl, sz 1, fun p5 hp5 => ?_⟩
  have s13 := same_new hp5 (.tup [.str nm])
  have s1013 := s10.trans (s11.trans (s12.trans s13))
  refine ⟨_, rfl, catA upd_same (s1013 _ _ hsE) (IsAll.one (.str nm)) (.cons (.int t2) (ints2 X2 Y2)) (sz 4) fun v6 H12 s14 h6 => ?_⟩
  refine ⟨sz 2, fun p7 hp7 => ?_⟩
  have s15 := same_new hp7 (.tup [v4, v6])
  refine ⟨sz 4, fun pn hpn => ?_⟩
  have s16 := same_new hpn (.tup [.str nn, .ref p1, .ref p2, .ref p7])
  have sC := s1013.trans (s14.trans (s15.trans s16))
  have sD : Same H10 (upd (upd H12 p7 (.tup [v4, v6])) pn (.tup [.str nn, .ref p1, .ref p2, .ref p7])) := s11.trans (s12.trans (s13.trans (s14.trans (s15.trans s16))))
  have hnE : (upd (upd H12 p7 (.tup [v4, v6])) pn (.tup [.str nn, .ref p1, .ref p2, .ref p7])) pn = some (.tup [.str nn, .ref p1, .ref p2, .ref p7]) := upd_same
  have hnew : Is (upd (upd H12 p7 (.tup [v4, v6])) pn (.tup [.str nn, .ref p1, .ref p2, .ref p7])) (.ref pn) (encCell (newCell nn nm t1 X1 Y1 t2 X2 Y2)) := by
    refine .tup upd_same (.cons (.str _) (.cons (e1.mono (kt sD)) (.cons (e2.mono (kt sD)) (.cons ?_ .nil))))
    exact (is_new hp7 (.cons (h4.mono (kt (s13.trans s14))) (.cons h6 .nil))).mono (kt s16)
  generalize upd (upd H12 p7 (.tup [v4, v6])) pn (.tup [.str nn, .ref p1, .ref p2, .ref p7]) = H13 at sC hnE hnew
  refine asg (i := 5) ?_
  dsimp only
  have hvC : Is H13 (.ref ha) (encHouse hs) := hv.mono (k8.trans (kt sC))
  have hhaC := sC _ _ hha8
  have hxC := hx8.mono (kt sC)
  have hfC := sC _ _ hfE'
  have hsC := sC _ _ hsE
  have BC := BB.same sC
  have sbC : SB b H H13 := sB.trans (sb_same sC)
  -- is the name taken
  refine ⟨_, rfl, pn, _, _, _, rfl, rfl, SqT.of hnE, rfl, _, rfl, ha, rfl, ⟨_, SqT.of hhaC⟩, fun D2 hD2 => lc_map (walk_tup (K := K) (a := ha) (xs := xs)) ((hs.map (·.1)).map PyData.str) (by rw [List.length_map, List.length_map, hxl]) (smL (by omega)) hD2 (fun H14 s17 => SqT.of (s17 _ _ hhaC)) (fun i x H14 H15 d Qk Qs hd s17 hy k => ?_) (fun H14 ns s17 hns hnsd => ?_)⟩
  · obtain ⟨rfl, hxi⟩ := hy
    obtain ⟨c, hc, hvc⟩ := at_map hxC hxi
    rw [List.map_map] at hd
    have ed := map_at (f := PyData.str ∘ fun c : CellS => c.1) hc hd
    subst ed
    obtain ⟨a, ra, ma, ua, rs, ms, us, rfl, A0⟩ := cell_inv (hvc.mono (kt s17))
    exact ⟨rfl, _, rfl, a, _, _, _, rfl, rfl, SqT.of A0.ob, rfl, k _ _ (same_refl _) (.str _)⟩
  have en := strs_inv hnsd
  subst en
  refine ⟨D2, _, rfl, .inl (SqL.of hns), rfl, flat_strs' _, inV (.str nn) ((hs.map (·.1)).map V.str), rfl, ?_⟩
  rw [inV_strs]
  refine ite2 (fun c => ?_) (fun c => ?_)
  · exact q H14 (sbC.trans (sb_same s17)) (BC.same s17)
  have hno : nn ∉ hs.map (·.1) := of_decide_eq_false (Bool.eq_false_iff.mpr c)
  have hv14 := hvC.mono (kt s17)
  have hI14 := houseIn hv14 hg (by omega)
  -- the two sheets
  refine ⟨_, rfl, _, rfl, .ref ha, hs, nm, rfl, hI14, hnm, fun w1 H15 s18 h1 => ?_⟩
  refine asg (i := 6) ?_
  dsimp only
  have s1718 := s17.trans s18
  have hT1 : Tn t1 := ⟨t10, by omega⟩
  have hT2 : Tn t2 := ⟨t20, by omega⟩
  have hg2 : HouseGood [] (hs ++ [newCell nn nm t1 X1 Y1 t2 X2 Y2]) := by
    refine hg.snoc ?_
    rw [List.nil_append]
    have hnmOk : NameOk nm := by
      obtain ⟨c, hc, e⟩ := List.mem_map.mp hnm
      rw [← e]
      exact (good_cells hg c hc).1
    refine ⟨hnn, hno, by show 0 ≤ 200; omega, by show 0 ≤ 40; omega, by show 2 ≤ 20; omega, fun _ z => (by cases z), fun _ z => (by cases z), fun u hu => ?_⟩
    have hu' : u ∈ [((nm, t1, X1, Y1) : UseS), (nm, t2, X2, Y2)] := hu
    simp only [List.mem_cons, List.not_mem_nil, or_false] at hu'
    rcases hu' with e | e <;> subst e
    · exact ⟨⟨hnmOk, hT1, by show -65536 ≤ X1 ∧ X1 ≤ 65536; omega, by show -65536 ≤ Y1 ∧ Y1 ≤ 65536; omega⟩, hnm⟩
    · exact ⟨⟨hnmOk, hT2, by show -65536 ≤ X2 ∧ X2 ≤ 65536; omega, by show -65536 ≤ Y2 ∧ Y2 ≤ 65536; omega⟩, hnm⟩
  have hha15 := s1718 _ _ hhaC
  have hx15 := hxC.mono (kt s1718)
  have hn15 := s1718 _ _ hnE
  have hnew15 := hnew.mono (kt s1718)
  refine ⟨_, rfl, _, rfl, sz 1, fun p8 hp8 => ?_⟩
  have s19 := same_new hp8 (.tup [.ref pn])
  refine catA (s19 _ _ hha15) upd_same (hx15.mono (kt s19)) (IsAll.one (hnew15.mono (kt s19))) (smL (by simp only [List.length_cons, List.length_nil]; omega)) fun v9 H16 s20 h9 => ?_
  have s1920 := s19.trans s20
  have h9' : Is H16 v9 (encHouse (hs ++ [newCell nn nm t1 X1 Y1 t2 X2 Y2])) := by
    unfold encHouse
    rw [List.map_append]
    exact h9
  refine ⟨_, rfl, pn, _, _, _, rfl, rfl, SqT.of (s1920 _ _ hn15), rfl, v9, hs ++ [newCell nn nm t1 X1 Y1 t2 X2 Y2], nn, rfl, houseIn h9' hg2 (by rw [List.length_append, List.length_singleton]; omega), by rw [List.map_append]; exact List.mem_append_right _ List.mem_cons_self, fun w2 H17 s21 h2 => ?_⟩
  refine asg (i := 7) ?_
  dsimp only
  have s1521 := s1920.trans s21
  have h1' := h1.mono (kt s1521)
  have sbE : SB b H H17 := sbC.trans (sb_same (s1718.trans s1521))
  have BE : Bag b H17 := BC.same (s1718.trans s1521)
  have hfE2 := (s1718.trans s1521) _ _ hfC
  have hsE2 := (s1718.trans s1521) _ _ hsC
  by_cases c1 : dTold hs nm = .none
  · rw [c1] at h1'
    cases h1'
    exact ⟨_, rfl, rfl, _, rfl, q H17 sbE BE⟩
  by_cases c2 : dTold (hs ++ [newCell nn nm t1 X1 Y1 t2 X2 Y2]) nn = .none
  · rw [c2] at h2
    cases h2
    have nd1 : ¬ (w1 = V.non) := fun z => by
      rw [z] at h1'
      exact c1 (Is.uniq h1' .non)
    refine ⟨_, rfl, rfl, _, rfl, ?_⟩
    rw [decide_eq_false nd1]
    exact iteF ⟨_, rfl, rfl, _, rfl, q H17 sbE BE⟩
  have nd1 : ¬ (w1 = V.non) := fun z => by
    rw [z] at h1'
    exact c1 (Is.uniq h1' .non)
  have nd2 : ¬ (w2 = V.non) := fun z => by
    rw [z] at h2
    exact c2 (Is.uniq h2 .non)
  refine ⟨_, rfl, rfl, _, rfl, ?_⟩
  rw [decide_eq_false nd1]
  refine iteF ⟨_, rfl, rfl, _, rfl, ?_⟩
  rw [decide_eq_false nd2]
  refine iteF ?_
  obtain ⟨sz1, es1, et1, er1⟩ := dTold_some c1
  obtain ⟨hRss, hR6, hM6⟩ := rss_ok (good_ok hg) es1 et1
  have okS := okSheetD hg nm
  have h1s := h1'
  rw [er1] at h1s
  have hSM := msOf_sm (partsF 6 hs nm 0 0 0).2
  have hMM := fun m => msOf_mem (l := (partsF 6 hs nm 0 0 0).2) (m := m)
  have hStr := marks_str hg nm 6 0 0 0
  -- turned and turned back
  refine ⟨_, rfl, _, rfl, pf, _, _, _, rfl, rfl, SqT.of hfE2, rfl, _, rfl, pf, _, _, _, rfl, rfl, SqT.of hfE2, rfl, _, rfl, pf, _, _, _, rfl, rfl, SqT.of hfE2, rfl, w1, sheetRss hs nm, msOf (partsF 6 hs nm 0 0 0).2, t1, X1, Y1, rfl, h1s, hRss, by omega, by omega, hT1, fun w3 H18 s22 h3 => ?_⟩
  refine asg (i := 8) ?_
  dsimp only
  have hsE3 := s22 _ _ hsE2
  refine ⟨_, rfl, _, rfl, ps, _, _, _, rfl, rfl, SqT.of hsE3, rfl, _, rfl, ps, _, _, _, rfl, rfl, SqT.of hsE3, rfl, _, rfl, ps, _, _, _, rfl, rfl, SqT.of hsE3, rfl, w1, sheetRss hs nm, msOf (partsF 6 hs nm 0 0 0).2, t2, X2, Y2, rfl, h1s.mono (kt s22), hRss, by omega, by omega, hT2, fun w4 H19 s23 h4' => ?_⟩
  refine asg (i := 9) ?_
  dsimp only
  have s2223 := s22.trans s23
  have hfE4 := s2223 _ _ hfE2
  refine ⟨_, rfl, _, rfl, pf, _, _, _, rfl, rfl, SqT.of hfE4, rfl, w1, sheetRss hs nm, msOf (partsF 6 hs nm 0 0 0).2, t1, 0, 0, rfl, h1s.mono (kt s2223), hRss, by omega, by omega, hT1, fun w5 H20 s24 h5' => ?_⟩
  refine asg (i := 10) ?_
  dsimp only
  have hfE5 := s24 _ _ hfE4
  have mlen : ∀ (t dx dy : Int), ((msOf (partsF 6 hs nm 0 0 0).2).map (turnM t dx dy)).length = (msOf (partsF 6 hs nm 0 0 0).2).length := fun t dx dy => List.length_map _
  have slen : ∀ l : List MarkS, (l.mergeSort (PySem.W.dataLe false encM)).length = l.length := fun l => (List.mergeSort_perm ..).length_eq
  have rssT : ∀ {t dx dy : Int}, Tn t → Rss ((sheetRss hs nm).map fun rs => rs.map (turnR t dx dy)) := fun {t dx dy} ht rs hrs => by
    obtain ⟨r0, h0, rfl⟩ := List.mem_map.mp hrs
    exact ⟨valid_map ht (hRss r0 h0).1, by rw [List.length_map]; exact (hRss r0 h0).2⟩
  refine ⟨_, rfl, _, rfl, pf, _, _, _, rfl, rfl, SqT.of hfE5, rfl, t1, rfl, w5, (sheetRss hs nm).map (fun rs => rs.map (turnR t1 0 0)), _, backT t1, 0, 0, rfl, h5', rssT hT1, by rw [List.length_map]; omega, by rw [slen, mlen]; omega, backT_tn hT1, fun w6 H21 s25 h6' => ?_⟩
  rw [still_back hT1] at h6'
  have emb : ((((msOf (partsF 6 hs nm 0 0 0).2).map (turnM t1 0 0)).mergeSort (PySem.W.dataLe false encM)).map (turnM (backT t1) 0 0)).mergeSort (PySem.W.dataLe false encM) = msOf (partsF 6 hs nm 0 0 0).2 := marks_back hT1 hSM
  have h6s : Is H21 w6 (sheetD hs nm) := by
    unfold sheetD
    rw [← emb]
    exact h6'
  have s2225 := s2223.trans (s24.trans s25)
  have h1w : Is H21 w1 (sheetD hs nm) := h1s.mono (kt s2225)
  refine ⟨_, rfl, _, _, h6s.dp, h1w.dp, okS.shaped, okS.shaped, _, rfl, ?_⟩
  rw [eqv_self okS]
  refine iteF ?_
  -- laid over itself
  have s2325 := s23.trans (s24.trans s25)
  have s2425 := s24.trans s25
  have lens : ∀ {t dx dy : Int}, (((msOf (partsF 6 hs nm 0 0 0).2).map (turnM t dx dy)).mergeSort (PySem.W.dataLe false encM)).length ≤ 600 := fun {t dx dy} => by rw [slen, mlen]; exact hM6
  refine ⟨_, rfl, _, rfl, _, rfl, w3, w4, (sheetRss hs nm).map (fun rs => rs.map (turnR t1 X1 Y1)), (sheetRss hs nm).map (fun rs => rs.map (turnR t2 X2 Y2)), _, _, rfl, h3.mono (kt s2325), h4'.mono (kt s2425), rssT hT1, rssT hT2, by rw [List.length_map, List.length_map], by rw [List.length_map]; omega, by
    have a1 := lens (t := t1) (dx := X1) (dy := Y1)
    have a2 := lens (t := t2) (dx := X2) (dy := Y2)
    omega, fun w7 H22 ms7 s26 sm7 mem7 h7 => ?_⟩
  have eU := told_used (good_ok hg2) hnm hno hT1 hT2 c1 c2 sm7 mem7
  rw [← eU] at h7
  have okN := okTold hg2 nn
  have h2w := h2.mono (kt (s2225.trans s26))
  refine ⟨_, _, h2w.dp, h7.dp, okN.shaped, okN.shaped, ?_⟩
  rw [eqv_self okN]
  exact q H22 (sbE.trans (sb_same (s2225.trans s26))) (BE.same (s2225.trans s26))
end
end Mw
end
section
set_option maxRecDepth 100000
set_option maxHeartbeats 8000000
/-! the law. -/
namespace Mw
open PySem PySem.Spec PyProof.Rows L2
theorem HouseGood.put : ∀ {pre : HouseS} {ns : List Str} {c c' : CellS} {post : HouseS}, c'.1 = c.1 → (∀ ns, CellGood ns c → CellGood ns c') → HouseGood ns (pre ++ c :: post) → HouseGood ns (pre ++ c' :: post)
  | [], ns, c, c', post, e, h, g => ⟨h ns g.1, by rw [e]; exact g.2⟩
  | d :: pre, ns, c, c', post, e, h, g => ⟨g.1, HouseGood.put e h g.2⟩
theorem other_good {hs : HouseS} {k : Nat} {c : CellS} (g : HouseGood [] hs) (hc : hs[k]? = some c) (sm : SmallCell c) : HouseGood [] (otherOrder hs k c) := by
  have eo : otherOrder hs k c = hs.take k ++ otherCell c :: hs.drop (k + 1) := by
    unfold otherOrder
    rw [List.append_assoc]
    rfl
  rw [eo]
  rw [split_at hc] at g
  have g1 := sm.nr
  have g2 := sm.nm
  have g3 := sm.nu
  refine HouseGood.put (c := c) (c' := otherCell c) rfl (fun ns q => ⟨q.name, q.new, ?_, ?_, ?_, fun r hr => q.rects r ((take_drop c.2.1 2 r).mp hr), fun m hm => q.marks m ((drop_take c.2.2.1 m).mp hm), fun u hu => q.uses u ((take_drop c.2.2.2 1 u).mp hu)⟩) g
  · show (c.2.1.reverse ++ c.2.1.take 2).length ≤ 200
    rw [List.length_append, List.length_reverse, List.length_take]
    omega
  · show ((c.2.2.1.drop 1 ++ c.2.2.1.take 1) ++ c.2.2.1.take 1).length ≤ 40
    rw [List.length_append, List.length_append, List.length_drop, List.length_take]
    omega
  · show (c.2.2.2.reverse ++ c.2.2.2.take 1).length ≤ 20
    rw [List.length_append, List.length_reverse, List.length_take]
    omega
theorem other_names {hs : HouseS} {k : Nat} {c : CellS} : c.1 ∈ (otherOrder hs k c).map (·.1) := by
  unfold otherOrder
  rw [List.map_append, List.map_append]
  exact List.mem_append_left _ (List.mem_append_right _ List.mem_cons_self)
theorem other_len {hs : HouseS} {k : Nat} {c : CellS} (hc : hs[k]? = some c) : (otherOrder hs k c).length = hs.length := by
  have hi := (List.getElem?_eq_some_iff.mp hc).1
  unfold otherOrder
  rw [List.length_append, List.length_append, List.length_take, List.length_drop]
  simp only [List.length_cons, List.length_nil]
  omega
theorem HouseGood.take : ∀ {h : HouseS} {ns : List Str} (k : Nat), HouseGood ns h → HouseGood ns (h.take k)
  | [], _, _, _ => by simp [HouseGood]
  | _ :: _, _, 0, _ => trivial
  | _ :: _, _, k + 1, g => ⟨g.1, HouseGood.take k g.2⟩
section
variable {P : Program} {w : World} {K : PySem.W.Frag} {mg : Str → Option Value} {base : Heap} {f g C0 : Addr} {fd gd : FuncData}
def spLaw (K : PySem.W.Frag) : Sp := fun vs H Q _ => ∃ (a : Addr) (ns : List Int), vs = [.ref a] ∧ SqL K H a (ns.map V.int) ∧ ns.length ≤ 63 ∧ ∀ H', Q (.bl true) H'
abbrev s_law : Stmt := top 65
abbrev n_law : List Str := ["_law_script", "_law_at", "_law_bag_here", "_law_house_here", "_law_k", "_law_name_here", "_law_other", "_law_told_here", "_law_again"]
abbrev p_law : List Str := ["_law_script"]
theorem sc_law : FnScope n_law p_law (defScope s_law) := ⟨rfl, rfl, rfl, by decide +kernel, rfl, by decide +kernel, by decide +kernel⟩
theorem ok_law (F : Fun K "law" "law" s_law f fd) (T : Txt mg) (J__law_bag : Has P w K mg base "_law_bag" 1 p__law_bag (spBag K)) (J__law_house : Has P w K mg base "_law_house" 4 p__law_house spLawHouse) (J__law_take : Has P w K mg base "_law_take" 1 p__law_take spTake)
    (J__law_other_order : Has P w K mg base "_law_other_order" 1 p__law_other_order spOther) (J_is_house : Has P w K mg base "is_house" 5 p_is_house spIsHouse) (J__law_told : Has P w K mg base "_law_told" 12 p__law_told spToldD)
    (J__law_used_right : Has P w K mg base "_law_used_right" 13 p__law_used_right spUsed) : FnOk P w K mg base CX0 14 f fd p_law (spLaw K) := by
  refine F.ok sc_law (fun vs H Q E h => ?_) (fun cdv A outer s H vs Q E hr h => ?_)
  · obtain ⟨x, y, rfl, _⟩ := h
    rfl
  obtain ⟨a, ns, rfl, hS, hl, q⟩ := h
  have nd := (sc_law).nd
  refine ⟨_, (pss_cons (ps_for PassesOwn.never rfl (pi_range1 (by rfl) T.b_range (pa_cons (pe_callB (call_max2 rfl) (by rfl) T.b_max (by decide +kernel) (pa_cons pe_int (pa_cons (pe_callB (call_min2 rfl) (by rfl) T.b_min (by decide +kernel) (pa_cons pe_int (pa_cons (pe_callB call_len_seq (by rfl) T.b_len (by decide +kernel) (pa_cons (pv 0) pa_nil)) pa_nil))) pa_nil))) pa_nil)) (pg_name (i := 1) nd rfl (Or.inl rfl))
  (pss_cons (ps_set (i := 2) nd rfl (Or.inl rfl) (pe_f J__law_bag hr (pa_cons (pv 0) (pa_cons (pv 1) pa_nil))))
  (pss_cons (ps_set (i := 3) nd rfl (Or.inl rfl) (pe_f J__law_house hr (pa_cons (pv 2) (pa_cons pe_int pa_nil))))
  (pss_cons (ps_set (i := 4) nd rfl (Or.inl rfl) (pe_f J__law_take hr (pa_cons (pv 2) (pa_cons (pe_callB call_len_seq (by rfl) T.b_len (by decide +kernel) (pa_cons (pv 3) pa_nil)) pa_nil))))
  (pss_cons (ps_set (i := 5) nd rfl (Or.inl rfl) (pe_ix ix_tup (pe_ix ix_tup (pv 3) (pv 4) (fun _ _ => rfl)) pe_int (fun _ _ => rfl)))
  (pss_cons (ps_set (i := 6) nd rfl (Or.inl rfl) (pe_f J__law_other_order hr (pa_cons (pv 3) (pa_cons (pv 4) pa_nil))))
  (pss_cons (ps_if (PW.pt (pw_or (pt_not (pt_val (pe_f J_is_house hr (pa_cons (pv 3) pa_nil)))) (pw_or1 (pt_not (pt_val (pe_f J_is_house hr (pa_cons (pv 6) pa_nil))))))) (pss_one (ps_ret pe_bl)) pss_nil)
  (pss_cons (ps_set (i := 7) nd rfl (Or.inl rfl) (pe_f J__law_told hr (pa_cons (pv 3) (pa_cons (pv 5) pa_nil))))
  (pss_cons (ps_set (i := 8) nd rfl (Or.inl rfl) (pe_f J__law_told hr (pa_cons (pv 6) (pa_cons (pv 5) pa_nil))))
  (pss_cons (ps_if (PW.pt (pw_and (pt_cmpR op_notN (pv 7) pe_non nomk) (pw_and (pt_cmpR op_notN (pv 8) pe_non nomk) (pw_and1 (pt_cmpR (op_neD hr.units) (pv 7) (pv 8) nomk))))) (pss_one (ps_ret pe_bl)) pss_nil)
  (pss_one (ps_if (PW.pt (pw_or (pt_cmpR (op_neD hr.units) (pv 7) (pe_f J__law_told hr (pa_cons (pe_slice sl_tupA (pv 3) po_none (po_some (pe_op op_add (pv 4) pe_int))) (pa_cons (pv 5) pa_nil))) nomk) (pw_or1 (pt_not (pt_val (pe_f J__law_used_right hr (pa_cons (pv 2) (pa_cons (pv 3) (pa_cons (pv 5) pa_nil))))))))) (pss_one (ps_ret pe_bl)) pss_nil))))))))))))
  (pss_one (ps_ret pe_bl))), ?_⟩
  have hlen : (ns.map V.int).length = ns.length := List.length_map _
  refine ⟨_, rfl, a, _, rfl, .inl hS, _, _, rfl, _, _, rfl, ?_⟩
  rw [hlen]
  obtain ⟨n, hn, hn3⟩ : ∃ n : Nat, (if (if (ns.length : Int) < 3 then (ns.length : Int) else 3) > 1 then (if (ns.length : Int) < 3 then (ns.length : Int) else 3) else 1) = (n : Int) ∧ n ≤ 3 := by
    by_cases c : (ns.length : Int) < 3
    · rw [if_pos c]
      by_cases c2 : (ns.length : Int) > 1
      · rw [if_pos c2]
        exact ⟨ns.length, rfl, by omega⟩
      · rw [if_neg c2]
        exact ⟨1, rfl, by omega⟩
    · rw [if_neg c]
      exact ⟨3, rfl, by omega⟩
  refine ⟨(n : Int), congrArg (fun x => [V.int x]) hn, by omega, by omega, for_range (lo := 0) (n := (n : Int).toNat) (fun i σ' H' => ∃ x1 x2 x3 x4 x5 x6 x7 x8, σ' = [some (.ref a), x1, x2, x3, x4, x5, x6, x7, x8] ∧ Same H H') ⟨_, _, _, _, _, _, _, _, rfl, same_refl _⟩ (fun i σ' H1 hi hp => ?_) (fun σ' H1 hp => ?_)⟩
  · obtain ⟨x1, x2, x3, x4, x5, x6, x7, x8, rfl, sH⟩ := hp
    refine asg (i := 1) ?_
    dsimp only
    -- the bag
    refine ⟨_, rfl, _, rfl, a, ns, _, rfl, sH.seq hS, hl, by omega, by omega, fun b H2 hb2 s2 B2 => ?_⟩
    refine asg (i := 2) ?_
    dsimp only
    have sH2 := sH.trans s2
    have hb0 : H b = none := sH.free hb2
    -- the house
    refine ⟨_, rfl, b, 6, rfl, B2, by decide, by decide, fun v hs H3 s3 B3 hg hl1 hl2 hsm hv => ?_⟩
    refine asg (i := 3) ?_
    dsimp only
    obtain ⟨ha, xs, rfl, hha, hx⟩ := hv.tup_inv
    have hxl : xs.length = hs.length := by rw [hx.length, List.length_map]
    -- the place
    refine ⟨_, rfl, _, rfl, ha, xs, rfl, .inr (SqT.of hha), b, _, rfl, B3, by omega, by omega, fun kz H4 s4 B4 k0 k1 => ?_⟩
    refine asg (i := 4) ?_
    dsimp only
    have kt4 := B3.kt s4
    have hha4 := kt4 _ _ hha
    have hx4 := hx.mono kt4
    have hv4 := hv.mono kt4
    obtain ⟨k, rfl⟩ : ∃ k : Nat, kz = (k : Int) := ⟨kz.toNat, by omega⟩
    have hk : k < hs.length := by omega
    obtain ⟨c, hc⟩ : ∃ c, hs[k]? = some c := ⟨hs[k], List.getElem?_eq_getElem hk⟩
    obtain ⟨v1, hv1, hv1d⟩ := hx4.at (i := k) (d := encCell c) (by rw [List.getElem?_map, hc]; rfl)
    obtain ⟨ca, ra, ma, ua, rs, ms, us, rfl, A0⟩ := cell_inv hv1d
    have hcm := List.mem_of_getElem? hc
    have hnm : c.1 ∈ hs.map (·.1) := List.mem_map_of_mem hcm
    refine ⟨_, rfl, _, rfl, ha, _, _, _, rfl, rfl, SqT.of hha4, atI_nat hv1, ca, _, _, _, rfl, rfl, SqT.of A0.ob, rfl, ?_⟩
    refine asg (i := 5) ?_
    dsimp only
    -- the other order
    refine ⟨_, rfl, _, rfl, .ref ha, hs, k, c, rfl, hv4, hl2, hc, hsm c hcm, fun v5 H5 s5 h5 => ?_⟩
    refine asg (i := 6) ?_
    dsimp only
    have hgO := other_good hg hc (hsm c hcm)
    have hlO := other_len hc
    have hv5 := hv4.mono (kt s5)
    -- both are houses
    refine ⟨_, rfl, .ref ha, hs, rfl, hv5, hg, by omega, fun H6 s6 => ⟨true, rfl, ?_⟩⟩
    refine iteF ?_
    refine ⟨_, rfl, v5, otherOrder hs k c, rfl, h5.mono (kt s6), hgO, by omega, fun H7 s7 => ⟨true, rfl, ?_⟩⟩
    refine iteF ?_
    refine nxt ?_
    dsimp only
    have s57 := s5.trans (s6.trans s7)
    have hv7 := hv4.mono (kt s57)
    have h57 := h5.mono (kt (s6.trans s7))
    -- told
    refine ⟨_, rfl, _, rfl, .ref ha, hs, c.1, rfl, houseIn hv7 hg (by omega), hnm, fun w1 H8 s8 t1 => ?_⟩
    refine asg (i := 7) ?_
    dsimp only
    refine ⟨_, rfl, _, rfl, v5, otherOrder hs k c, c.1, rfl, houseIn (h57.mono (kt s8)) hgO (by omega), other_names, fun w2 H9 s9 t2 => ?_⟩
    refine asg (i := 8) ?_
    dsimp only
    have s49 := s57.trans (s8.trans s9)
    have t1' := t1.mono (kt s9)
    have B9 := B4.same s49
    have sb9 : SB b H2 H9 := (s3.trans s4).trans (sb_same s49)
    have hv9 := hv4.mono (kt s49)
    -- the other order tells the same
    refine seq_if (fun σ' H' => σ' = [some (.ref a), some (.int (0 + (i : Nat))), some (.ref b), some (.ref ha), some (.int (k : Nat)), some (.str c.1), some v5, some w1, some w2] ∧ H' = H9) (fun σ' H' hp => ?_) (fun go => ?_)
    · obtain ⟨rfl, rfl⟩ := hp
      -- told of the first cells; used
      obtain ⟨ha', xs', e', hha', hx'⟩ := hv9.tup_inv
      cases e'
      refine ⟨_, rfl, _, rfl, _, rfl, _, _, rfl, rfl, ((k + 1 : Nat) : Int), rfl, slTo hha' hx' (k + 1) fun v10 H10 s10 h10 => ?_⟩
      have h10' : Is H10 v10 (encHouse (hs.take (k + 1))) := by
        unfold encHouse
        rw [List.map_take]
        exact h10
      have hnT : c.1 ∈ (hs.take (k + 1)).map (·.1) := by
        refine List.mem_map_of_mem ?_
        have : (hs.take (k + 1))[k]? = some c := by rw [List.getElem?_take, if_pos (by omega), hc]
        exact List.mem_of_getElem? this
      refine ⟨_, rfl, v10, hs.take (k + 1), c.1, rfl, houseIn h10' (hg.take _) (by rw [List.length_take]; omega), hnT, fun w3 H11 s11 t3 => ?_⟩
      have eA : dTold hs c.1 = dTold (hs.take (k + 1)) c.1 := by
        have := told_ahead (a := hs.take (k + 1)) (b := hs.drop (k + 1)) (good_ok (hg.take (k + 1))) hnT
        rw [List.take_append_drop] at this
        exact this
      rw [← eA] at t3
      have okT := okTold hg c.1
      have t1'' := t1'.mono (kt (s10.trans s11))
      refine ⟨_, _, t1''.dp, t3.dp, okT.shaped, okT.shaped, _, rfl, ?_⟩
      rw [eqv_self okT]
      refine iteF ?_
      have s1011 := s10.trans s11
      refine ⟨_, rfl, _, rfl, _, rfl, b, .ref ha, hs, c.1, rfl, B9.same s1011, hv9.mono (kt s1011), hg, hl1, hl2, hnm, fun H12 s12 B12 => ⟨true, rfl, ?_⟩⟩
      refine iteF ?_
      refine ⟨_, _, _, _, _, _, _, _, rfl, ?_⟩
      exact same_of hb0 sH2 (sb9.trans ((sb_same s1011).trans s12))
    · by_cases c1 : dTold hs c.1 = .none
      · rw [c1] at t1'
        cases t1'
        exact ⟨_, rfl, rfl, _, rfl, go _ _ ⟨rfl, rfl⟩⟩
      have nd1 : ¬ (w1 = V.non) := fun z => by
        rw [z] at t1'
        exact c1 (Is.uniq t1' .non)
      refine ⟨_, rfl, rfl, _, rfl, ?_⟩
      rw [decide_eq_false nd1]
      refine iteT ?_
      by_cases c2 : dTold (otherOrder hs k c) c.1 = .none
      · rw [c2] at t2
        cases t2
        exact ⟨_, rfl, rfl, _, rfl, go _ _ ⟨rfl, rfl⟩⟩
      have nd2 : ¬ (w2 = V.non) := fun z => by
        rw [z] at t2
        exact c2 (Is.uniq t2 .non)
      refine ⟨_, rfl, rfl, _, rfl, ?_⟩
      rw [decide_eq_false nd2]
      refine iteT ?_
      have eO := told_other (good_ok hg) (good_ok hgO) hc c1 c2
      rw [← eO] at t2
      have okT := okTold hg c.1
      refine ⟨_, rfl, _, rfl, _, _, t1'.dp, t2.dp, okT.shaped, okT.shaped, _, rfl, ?_⟩
      rw [eqv_self okT]
      exact iteF (go _ _ ⟨rfl, rfl⟩)
  · exact q H1
end
end Mw
end
section
set_option maxRecDepth 100000
set_option maxHeartbeats 4000000
/-! The top's facts put together. -/
namespace Mw
open PySem PySem.Spec PyProof.Rows L2
/-- a def stands there as the text says, under its name -/
def DefX (K : PySem.W.Frag) (mg : Str → Option Value) (x : Str) (st : Stmt) : Prop := ∃ (f : Addr) (fd : FuncData), Fun K x x st f fd ∧ mg x = some (.ref f)
theorem def_mk {K : PySem.W.Frag} {mg : Str → Option Value} {h : Heap} {x : Str} {st : Stmt} {f : Addr} {oc : Value} {od an : Option Addr} {osl : Array (Option Value)} {kV doc pm cdv ct : Value} (X : K.In h) (G : h.Ns mainGlobals mg)
    (a : PySem.W.nsIn K mainGlobals x = some (some (.ref f))) (l : K.lookup f = some ⟨oc, od, .func (PySem.W.fnOf x x (defArgs st) (defBody st) (defScope st) .none kV doc pm an cdv ct), osl⟩) (c : PySem.W.codeIn K cdv x = true) (k : PySem.W.keepIn K (.ref f) = true) : DefX K mg x st :=
  ⟨f, _, fun_mk l c k, PySem.W.mg_of X G a⟩
theorem xcls_exm {K : PySem.W.Frag} {mg : Str → Option Value} {x : Str} {C0 : Addr} (xc : XCls K mg x C0) : PySem.W.exmOne K (.ref C0) (.ref C0) = some true := by
  have hi : (PySem.W.clsIn K C0).isSome = true := xc.iP
  have e1 : (PySem.W.subIn K (.ref C0) (.type "BaseException") == some true) = true := by rw [xc.bP] <;> rfl
  have e2 : ((PySem.W.clsIn K C0).isSome && PySem.W.typeIn K (.ref C0) == some (.type "type")) = true := by rw [hi, xc.tP] <;> rfl
  show (if (PySem.W.subIn K (.ref C0) (.type "BaseException") == some true) = true then (if ((PySem.W.clsIn K C0).isSome && PySem.W.typeIn K (.ref C0) == some (.type "type")) = true then PySem.W.subIn K (.ref C0) (.ref C0) else none) else none) = some true
  rw [if_pos e1, if_pos e2]
  exact xc.sP
theorem int_mk {K : PySem.W.Frag} {mg : Str → Option Value} {h : Heap} {x : Str} {n : Int} {t : Tok} (X : K.In h) (G : h.Ns mainGlobals mg) (a : PySem.W.nsIn K mainGlobals x = some (some (.int n t))) : ∃ t, mg x = some (.int n t) := ⟨t, PySem.W.mg_of X G a⟩
theorem str_mk {K : PySem.W.Frag} {mg : Str → Option Value} {h : Heap} {x : Str} {z : Str} {t : Tok} (X : K.In h) (G : h.Ns mainGlobals mg) (a : PySem.W.nsIn K mainGlobals x = some (some (.str z t))) : ∃ t, mg x = some (.str z t) := ⟨t, PySem.W.mg_of X G a⟩

theorem all_mk {l : PySem.W.OpenLaw} {w : World} {K : PySem.W.Frag} {mg : Str → Option Value} {fa C0 : Addr} (hfa : mg "law" = some (.ref fa)) (T : Txt mg) (C : Cst mg) (xc : XCls K mg "TooMuch" C0)
    (D_is_whole : DefX K mg "is_whole" s_is_whole) (D_is_within : DefX K mg "is_within" s_is_within) (D_joined : DefX K mg "joined" s_joined) (D_banded : DefX K mg "banded" s_banded) (D_cuts_of : DefX K mg "cuts_of" s_cuts_of) (D_region : DefX K mg "region" s_region) (D_rects_of : DefX K mg "rects_of" s_rects_of) (D_mirrored : DefX K mg "mirrored" s_mirrored) (D_quarter : DefX K mg "quarter" s_quarter) (D_turned_rect : DefX K mg "turned_rect" s_turned_rect) (D_turned_place : DefX K mg "turned_place" s_turned_place) (D_turned_point : DefX K mg "turned_point" s_turned_point) (D_turned : DefX K mg "turned" s_turned) (D_after : DefX K mg "after" s_after) (D_back : DefX K mg "back" s_back) (D_is_name : DefX K mg "is_name" s_is_name) (D_is_layer : DefX K mg "is_layer" s_is_layer) (D_is_rect : DefX K mg "is_rect" s_is_rect) (D_is_mark : DefX K mg "is_mark" s_is_mark) (D_is_use : DefX K mg "is_use" s_is_use) (D_is_few : DefX K mg "is_few" s_is_few) (D_is_cell : DefX K mg "is_cell" s_is_cell) (D_is_house : DefX K mg "is_house" s_is_house) (D_sizes : DefX K mg "sizes" s_sizes) (D_parts : DefX K mg "parts" s_parts) (D_flat : DefX K mg "flat" s_flat) (D_in_either : DefX K mg "in_either" s_in_either) (D_edges : DefX K mg "edges" s_edges) (D_mixed_line : DefX K mg "mixed_line" s_mixed_line) (D_lines_at : DefX K mg "lines_at" s_lines_at) (D_ends_of : DefX K mg "ends_of" s_ends_of) (D_mixed : DefX K mg "mixed" s_mixed) (D_either : DefX K mg "either" s_either) (D_turned_sheet : DefX K mg "turned_sheet" s_turned_sheet) (D_laid_over : DefX K mg "laid_over" s_laid_over) (D__law_bag : DefX K mg "_law_bag" s__law_bag) (D__law_take : DefX K mg "_law_take" s__law_take) (D__law_name : DefX K mg "_law_name" s__law_name) (D__law_rect : DefX K mg "_law_rect" s__law_rect) (D__law_mark : DefX K mg "_law_mark" s__law_mark) (D__law_house : DefX K mg "_law_house" s__law_house) (D__law_told : DefX K mg "_law_told" s__law_told) (D__law_used_right : DefX K mg "_law_used_right" s__law_used_right) (D__law_other_order : DefX K mg "_law_other_order" s__law_other_order) (D_law : DefX K mg "law" s_law) :
    ∃ fd : FuncData, (∀ (s : Shared) (v : Value), BindsTo s fd ⟨[v], []⟩ [("_law_script", v)]) ∧ ∀ base : Heap, K.In base → base.Ns mainGlobals mg → FnOk l.prog w K mg base CX0 14 fa fd p_law (spLaw K) := by
  obtain ⟨f_is_whole, fd_is_whole, F_is_whole, m_is_whole⟩ := D_is_whole
  have b_is_whole := F_is_whole.binds (ps := p_is_whole) fun _ _ _ _ _ _ us hl => match us, hl with | [_], _ => rfl
  obtain ⟨f_is_within, fd_is_within, F_is_within, m_is_within⟩ := D_is_within
  have b_is_within := F_is_within.binds (ps := p_is_within) fun _ _ _ _ _ _ us hl => match us, hl with | [_, _, _], _ => rfl
  obtain ⟨f_joined, fd_joined, F_joined, m_joined⟩ := D_joined
  have b_joined := F_joined.binds (ps := p_joined) fun _ _ _ _ _ _ us hl => match us, hl with | [_], _ => rfl
  obtain ⟨f_banded, fd_banded, F_banded, m_banded⟩ := D_banded
  have b_banded := F_banded.binds (ps := p_banded) fun _ _ _ _ _ _ us hl => match us, hl with | [_, _], _ => rfl
  obtain ⟨f_cuts_of, fd_cuts_of, F_cuts_of, m_cuts_of⟩ := D_cuts_of
  have b_cuts_of := F_cuts_of.binds (ps := p_cuts_of) fun _ _ _ _ _ _ us hl => match us, hl with | [_], _ => rfl
  obtain ⟨f_region, fd_region, F_region, m_region⟩ := D_region
  have b_region := F_region.binds (ps := p_region) fun _ _ _ _ _ _ us hl => match us, hl with | [_], _ => rfl
  obtain ⟨f_rects_of, fd_rects_of, F_rects_of, m_rects_of⟩ := D_rects_of
  have b_rects_of := F_rects_of.binds (ps := p_rects_of) fun _ _ _ _ _ _ us hl => match us, hl with | [_], _ => rfl
  obtain ⟨f_mirrored, fd_mirrored, F_mirrored, m_mirrored⟩ := D_mirrored
  have b_mirrored := F_mirrored.binds (ps := p_mirrored) fun _ _ _ _ _ _ us hl => match us, hl with | [_], _ => rfl
  obtain ⟨f_quarter, fd_quarter, F_quarter, m_quarter⟩ := D_quarter
  have b_quarter := F_quarter.binds (ps := p_quarter) fun _ _ _ _ _ _ us hl => match us, hl with | [_], _ => rfl
  obtain ⟨f_turned_rect, fd_turned_rect, F_turned_rect, m_turned_rect⟩ := D_turned_rect
  have b_turned_rect := F_turned_rect.binds (ps := p_turned_rect) fun _ _ _ _ _ _ us hl => match us, hl with | [_, _, _, _], _ => rfl
  obtain ⟨f_turned_place, fd_turned_place, F_turned_place, m_turned_place⟩ := D_turned_place
  have b_turned_place := F_turned_place.binds (ps := p_turned_place) fun _ _ _ _ _ _ us hl => match us, hl with | [_, _, _, _, _], _ => rfl
  obtain ⟨f_turned_point, fd_turned_point, F_turned_point, m_turned_point⟩ := D_turned_point
  have b_turned_point := F_turned_point.binds (ps := p_turned_point) fun _ _ _ _ _ _ us hl => match us, hl with | [_, _, _, _, _], _ => rfl
  obtain ⟨f_turned, fd_turned, F_turned, m_turned⟩ := D_turned
  have b_turned := F_turned.binds (ps := p_turned) fun _ _ _ _ _ _ us hl => match us, hl with | [_, _, _, _], _ => rfl
  obtain ⟨f_after, fd_after, F_after, m_after⟩ := D_after
  have b_after := F_after.binds (ps := p_after) fun _ _ _ _ _ _ us hl => match us, hl with | [_, _], _ => rfl
  obtain ⟨f_back, fd_back, F_back, m_back⟩ := D_back
  have b_back := F_back.binds (ps := p_back) fun _ _ _ _ _ _ us hl => match us, hl with | [_], _ => rfl
  obtain ⟨f_is_name, fd_is_name, F_is_name, m_is_name⟩ := D_is_name
  have b_is_name := F_is_name.binds (ps := p_is_name) fun _ _ _ _ _ _ us hl => match us, hl with | [_], _ => rfl
  obtain ⟨f_is_layer, fd_is_layer, F_is_layer, m_is_layer⟩ := D_is_layer
  have b_is_layer := F_is_layer.binds (ps := p_is_layer) fun _ _ _ _ _ _ us hl => match us, hl with | [_], _ => rfl
  obtain ⟨f_is_rect, fd_is_rect, F_is_rect, m_is_rect⟩ := D_is_rect
  have b_is_rect := F_is_rect.binds (ps := p_is_rect) fun _ _ _ _ _ _ us hl => match us, hl with | [_], _ => rfl
  obtain ⟨f_is_mark, fd_is_mark, F_is_mark, m_is_mark⟩ := D_is_mark
  have b_is_mark := F_is_mark.binds (ps := p_is_mark) fun _ _ _ _ _ _ us hl => match us, hl with | [_], _ => rfl
  obtain ⟨f_is_use, fd_is_use, F_is_use, m_is_use⟩ := D_is_use
  have b_is_use := F_is_use.binds (ps := p_is_use) fun _ _ _ _ _ _ us hl => match us, hl with | [_], _ => rfl
  obtain ⟨f_is_few, fd_is_few, F_is_few, m_is_few⟩ := D_is_few
  have b_is_few := F_is_few.binds (ps := p_is_few) fun _ _ _ _ _ _ us hl => match us, hl with | [_, _], _ => rfl
  obtain ⟨f_is_cell, fd_is_cell, F_is_cell, m_is_cell⟩ := D_is_cell
  have b_is_cell := F_is_cell.binds (ps := p_is_cell) fun _ _ _ _ _ _ us hl => match us, hl with | [_, _], _ => rfl
  obtain ⟨f_is_house, fd_is_house, F_is_house, m_is_house⟩ := D_is_house
  have b_is_house := F_is_house.binds (ps := p_is_house) fun _ _ _ _ _ _ us hl => match us, hl with | [_], _ => rfl
  obtain ⟨f_sizes, fd_sizes, F_sizes, m_sizes⟩ := D_sizes
  have b_sizes := F_sizes.binds (ps := p_sizes) fun _ _ _ _ _ _ us hl => match us, hl with | [_], _ => rfl
  obtain ⟨f_parts, fd_parts, F_parts, m_parts⟩ := D_parts
  have b_parts := F_parts.binds (ps := p_parts) fun _ _ _ _ _ _ us hl => match us, hl with | [_, _, _, _, _], _ => rfl
  obtain ⟨f_flat, fd_flat, F_flat, m_flat⟩ := D_flat
  have b_flat := F_flat.binds (ps := p_flat) fun _ _ _ _ _ _ us hl => match us, hl with | [_, _], _ => rfl
  obtain ⟨f_in_either, fd_in_either, F_in_either, m_in_either⟩ := D_in_either
  have b_in_either := F_in_either.binds (ps := p_in_either) fun _ _ _ _ _ _ us hl => match us, hl with | [_, _], _ => rfl
  obtain ⟨f_edges, fd_edges, F_edges, m_edges⟩ := D_edges
  have b_edges := F_edges.binds (ps := p_edges) fun _ _ _ _ _ _ us hl => match us, hl with | [_, _], _ => rfl
  obtain ⟨f_mixed_line, fd_mixed_line, F_mixed_line, m_mixed_line⟩ := D_mixed_line
  have b_mixed_line := F_mixed_line.binds (ps := p_mixed_line) fun _ _ _ _ _ _ us hl => match us, hl with | [_, _, _], _ => rfl
  obtain ⟨f_lines_at, fd_lines_at, F_lines_at, m_lines_at⟩ := D_lines_at
  have b_lines_at := F_lines_at.binds (ps := p_lines_at) fun _ _ _ _ _ _ us hl => match us, hl with | [_, _], _ => rfl
  obtain ⟨f_ends_of, fd_ends_of, F_ends_of, m_ends_of⟩ := D_ends_of
  have b_ends_of := F_ends_of.binds (ps := p_ends_of) fun _ _ _ _ _ _ us hl => match us, hl with | [_], _ => rfl
  obtain ⟨f_mixed, fd_mixed, F_mixed, m_mixed⟩ := D_mixed
  have b_mixed := F_mixed.binds (ps := p_mixed) fun _ _ _ _ _ _ us hl => match us, hl with | [_, _, _], _ => rfl
  obtain ⟨f_either, fd_either, F_either, m_either⟩ := D_either
  have b_either := F_either.binds (ps := p_either) fun _ _ _ _ _ _ us hl => match us, hl with | [_, _], _ => rfl
  obtain ⟨f_turned_sheet, fd_turned_sheet, F_turned_sheet, m_turned_sheet⟩ := D_turned_sheet
  have b_turned_sheet := F_turned_sheet.binds (ps := p_turned_sheet) fun _ _ _ _ _ _ us hl => match us, hl with | [_, _, _, _], _ => rfl
  obtain ⟨f_laid_over, fd_laid_over, F_laid_over, m_laid_over⟩ := D_laid_over
  have b_laid_over := F_laid_over.binds (ps := p_laid_over) fun _ _ _ _ _ _ us hl => match us, hl with | [_, _], _ => rfl
  obtain ⟨f__law_bag, fd__law_bag, F__law_bag, m__law_bag⟩ := D__law_bag
  have b__law_bag := F__law_bag.binds (ps := p__law_bag) fun _ _ _ _ _ _ us hl => match us, hl with | [_, _], _ => rfl
  obtain ⟨f__law_take, fd__law_take, F__law_take, m__law_take⟩ := D__law_take
  have b__law_take := F__law_take.binds (ps := p__law_take) fun _ _ _ _ _ _ us hl => match us, hl with | [_, _], _ => rfl
  obtain ⟨f__law_name, fd__law_name, F__law_name, m__law_name⟩ := D__law_name
  have b__law_name := F__law_name.binds (ps := p__law_name) fun _ _ _ _ _ _ us hl => match us, hl with | [_], _ => rfl
  obtain ⟨f__law_rect, fd__law_rect, F__law_rect, m__law_rect⟩ := D__law_rect
  have b__law_rect := F__law_rect.binds (ps := p__law_rect) fun _ _ _ _ _ _ us hl => match us, hl with | [_, _], _ => rfl
  obtain ⟨f__law_mark, fd__law_mark, F__law_mark, m__law_mark⟩ := D__law_mark
  have b__law_mark := F__law_mark.binds (ps := p__law_mark) fun _ _ _ _ _ _ us hl => match us, hl with | [_, _, _], _ => rfl
  obtain ⟨f__law_house, fd__law_house, F__law_house, m__law_house⟩ := D__law_house
  have b__law_house := F__law_house.binds (ps := p__law_house) fun _ _ _ _ _ _ us hl => match us, hl with | [_, _], _ => rfl
  obtain ⟨f__law_told, fd__law_told, F__law_told, m__law_told⟩ := D__law_told
  have b__law_told := F__law_told.binds (ps := p__law_told) fun _ _ _ _ _ _ us hl => match us, hl with | [_, _], _ => rfl
  obtain ⟨f__law_used_right, fd__law_used_right, F__law_used_right, m__law_used_right⟩ := D__law_used_right
  have b__law_used_right := F__law_used_right.binds (ps := p__law_used_right) fun _ _ _ _ _ _ us hl => match us, hl with | [_, _, _], _ => rfl
  obtain ⟨f__law_other_order, fd__law_other_order, F__law_other_order, m__law_other_order⟩ := D__law_other_order
  have b__law_other_order := F__law_other_order.binds (ps := p__law_other_order) fun _ _ _ _ _ _ us hl => match us, hl with | [_, _], _ => rfl
  obtain ⟨f_law, fd_law, F_law, m_law⟩ := D_law
  have eP := xcls_exm xc
  have e := hfa.symm.trans m_law
  cases e
  refine ⟨fd_law, fun s v => ?_, fun base _ _ => ?_⟩
  · obtain ⟨oc, od, kV, doc, pm, an, cdv, ct, osl, rfl, lk, hcd⟩ := F_law.ex
    exact .of_eq rfl
  · have J_is_whole : Has l.prog w K mg base "is_whole" 1 p_is_whole spIsWhole := ⟨f_is_whole, fd_is_whole, ok_is_whole F_is_whole T, b_is_whole, F_is_whole.kp, m_is_whole⟩
    have J_is_within : Has l.prog w K mg base "is_within" 2 p_is_within spIsWithin := ⟨f_is_within, fd_is_within, ok_is_within F_is_within T J_is_whole, b_is_within, F_is_within.kp, m_is_within⟩
    have J_joined : Has l.prog w K mg base "joined" 1 p_joined spJoined := ⟨f_joined, fd_joined, ok_joined F_joined T, b_joined, F_joined.kp, m_joined⟩
    have J_banded : Has l.prog w K mg base "banded" 1 p_banded spBanded := ⟨f_banded, fd_banded, ok_banded F_banded T, b_banded, F_banded.kp, m_banded⟩
    have J_cuts_of : Has l.prog w K mg base "cuts_of" 1 p_cuts_of spCuts := ⟨f_cuts_of, fd_cuts_of, ok_cuts_of F_cuts_of T, b_cuts_of, F_cuts_of.kp, m_cuts_of⟩
    have J_region : Has l.prog w K mg base "region" 2 p_region spRegion := ⟨f_region, fd_region, ok_region F_region T J_cuts_of J_joined J_banded, b_region, F_region.kp, m_region⟩
    have J_rects_of : Has l.prog w K mg base "rects_of" 1 p_rects_of spRectsOf := ⟨f_rects_of, fd_rects_of, ok_rects_of F_rects_of T, b_rects_of, F_rects_of.kp, m_rects_of⟩
    have J_mirrored : Has l.prog w K mg base "mirrored" 1 p_mirrored (spRR mirr) := ⟨f_mirrored, fd_mirrored, ok_mirrored F_mirrored , b_mirrored, F_mirrored.kp, m_mirrored⟩
    have J_quarter : Has l.prog w K mg base "quarter" 1 p_quarter (spRR quart) := ⟨f_quarter, fd_quarter, ok_quarter F_quarter , b_quarter, F_quarter.kp, m_quarter⟩
    have J_turned_rect : Has l.prog w K mg base "turned_rect" 2 p_turned_rect spTurnR := ⟨f_turned_rect, fd_turned_rect, ok_turned_rect F_turned_rect T J_mirrored J_quarter, b_turned_rect, F_turned_rect.kp, m_turned_rect⟩
    have J_turned_place : Has l.prog w K mg base "turned_place" 3 p_turned_place spTurnP := ⟨f_turned_place, fd_turned_place, ok_turned_place F_turned_place T J_turned_rect, b_turned_place, F_turned_place.kp, m_turned_place⟩
    have J_turned_point : Has l.prog w K mg base "turned_point" 1 p_turned_point spTurnC := ⟨f_turned_point, fd_turned_point, ok_turned_point F_turned_point T, b_turned_point, F_turned_point.kp, m_turned_point⟩
    have J_turned : Has l.prog w K mg base "turned" 3 p_turned spTurned := ⟨f_turned, fd_turned, ok_turned F_turned T J_rects_of J_region J_turned_rect, b_turned, F_turned.kp, m_turned⟩
    have J_after : Has l.prog w K mg base "after" 1 p_after spAfter := ⟨f_after, fd_after, ok_after F_after , b_after, F_after.kp, m_after⟩
    have J_back : Has l.prog w K mg base "back" 1 p_back spBack := ⟨f_back, fd_back, ok_back F_back , b_back, F_back.kp, m_back⟩
    have J_is_name : Has l.prog w K mg base "is_name" 1 p_is_name spIsName := ⟨f_is_name, fd_is_name, ok_is_name F_is_name T C, b_is_name, F_is_name.kp, m_is_name⟩
    have J_is_layer : Has l.prog w K mg base "is_layer" 1 p_is_layer spIsLayer := ⟨f_is_layer, fd_is_layer, ok_is_layer F_is_layer T C, b_is_layer, F_is_layer.kp, m_is_layer⟩
    have J_is_rect : Has l.prog w K mg base "is_rect" 3 p_is_rect spIsRect := ⟨f_is_rect, fd_is_rect, ok_is_rect F_is_rect T C J_is_layer J_is_within, b_is_rect, F_is_rect.kp, m_is_rect⟩
    have J_is_mark : Has l.prog w K mg base "is_mark" 3 p_is_mark spIsMark := ⟨f_is_mark, fd_is_mark, ok_is_mark F_is_mark T C J_is_name J_is_layer J_is_within, b_is_mark, F_is_mark.kp, m_is_mark⟩
    have J_is_use : Has l.prog w K mg base "is_use" 3 p_is_use spIsUse := ⟨f_is_use, fd_is_use, ok_is_use F_is_use T C J_is_name J_is_within, b_is_use, F_is_use.kp, m_is_use⟩
    have J_is_few : Has l.prog w K mg base "is_few" 1 p_is_few spIsFew := ⟨f_is_few, fd_is_few, ok_is_few F_is_few T, b_is_few, F_is_few.kp, m_is_few⟩
    have J_is_cell : Has l.prog w K mg base "is_cell" 4 p_is_cell spIsCell := ⟨f_is_cell, fd_is_cell, ok_is_cell F_is_cell T C J_is_name J_is_few J_is_rect J_is_mark J_is_use, b_is_cell, F_is_cell.kp, m_is_cell⟩
    have J_is_house : Has l.prog w K mg base "is_house" 5 p_is_house spIsHouse := ⟨f_is_house, fd_is_house, ok_is_house F_is_house T C J_is_few J_is_cell, b_is_house, F_is_house.kp, m_is_house⟩
    have J_sizes : Has l.prog w K mg base "sizes" 1 p_sizes spSizes := ⟨f_sizes, fd_sizes, ok_sizes F_sizes T, b_sizes, F_sizes.kp, m_sizes⟩
    have J_parts : Has l.prog w K mg base "parts" 10 p_parts (spParts 6) := ⟨f_parts, fd_parts, parts_all F_parts b_parts m_parts T J_turned_rect J_turned_place J_turned_point J_after 6, b_parts, F_parts.kp, m_parts⟩
    have FF : FnOk l.prog w K mg base (L2.CX l.prog w) 11 f_flat fd_flat p_flat (spFlat C0) := ok_flat F_flat T C xc J_sizes J_parts J_region
    have J_in_either : Has l.prog w K mg base "in_either" 1 p_in_either spEither1 := ⟨f_in_either, fd_in_either, ok_in_either F_in_either , b_in_either, F_in_either.kp, m_in_either⟩
    have J_edges : Has l.prog w K mg base "edges" 1 p_edges spEdges := ⟨f_edges, fd_edges, ok_edges F_edges T, b_edges, F_edges.kp, m_edges⟩
    have J_mixed_line : Has l.prog w K mg base "mixed_line" 2 p_mixed_line (spMixLine f_in_either) := ⟨f_mixed_line, fd_mixed_line, ok_mixed_line F_mixed_line T J_edges (ok_in_either F_in_either) b_in_either F_in_either.kp, b_mixed_line, F_mixed_line.kp, m_mixed_line⟩
    have J_lines_at : Has l.prog w K mg base "lines_at" 1 p_lines_at spLinesAt := ⟨f_lines_at, fd_lines_at, ok_lines_at F_lines_at T, b_lines_at, F_lines_at.kp, m_lines_at⟩
    have J_ends_of : Has l.prog w K mg base "ends_of" 1 p_ends_of spEnds := ⟨f_ends_of, fd_ends_of, ok_ends_of F_ends_of T, b_ends_of, F_ends_of.kp, m_ends_of⟩
    have J_mixed : Has l.prog w K mg base "mixed" 3 p_mixed (spMixed f_in_either) := ⟨f_mixed, fd_mixed, ok_mixed F_mixed T J_ends_of J_lines_at J_mixed_line J_banded, b_mixed, F_mixed.kp, m_mixed⟩
    have J_either : Has l.prog w K mg base "either" 4 p_either spEither := ⟨f_either, fd_either, ok_either F_either m_in_either J_mixed, b_either, F_either.kp, m_either⟩
    have J_turned_sheet : Has l.prog w K mg base "turned_sheet" 4 p_turned_sheet spTurnedSheet := ⟨f_turned_sheet, fd_turned_sheet, ok_turned_sheet F_turned_sheet T J_turned J_turned_place, b_turned_sheet, F_turned_sheet.kp, m_turned_sheet⟩
    have J_laid_over : Has l.prog w K mg base "laid_over" 5 p_laid_over spLaidOver := ⟨f_laid_over, fd_laid_over, ok_laid_over F_laid_over T J_either, b_laid_over, F_laid_over.kp, m_laid_over⟩
    have J__law_bag : Has l.prog w K mg base "_law_bag" 1 p__law_bag (spBag K) := ⟨f__law_bag, fd__law_bag, ok_law_bag F__law_bag T, b__law_bag, F__law_bag.kp, m__law_bag⟩
    have J__law_take : Has l.prog w K mg base "_law_take" 1 p__law_take spTake := ⟨f__law_take, fd__law_take, ok_law_take F__law_take T, b__law_take, F__law_take.kp, m__law_take⟩
    have J__law_name : Has l.prog w K mg base "_law_name" 2 p__law_name spName := ⟨f__law_name, fd__law_name, ok_law_name F__law_name T J__law_take, b__law_name, F__law_name.kp, m__law_name⟩
    have J__law_rect : Has l.prog w K mg base "_law_rect" 2 p__law_rect spLawRect := ⟨f__law_rect, fd__law_rect, ok_law_rect F__law_rect T J__law_take, b__law_rect, F__law_rect.kp, m__law_rect⟩
    have J__law_mark : Has l.prog w K mg base "_law_mark" 3 p__law_mark spLawMark := ⟨f__law_mark, fd__law_mark, ok_law_mark F__law_mark T J__law_take J__law_name, b__law_mark, F__law_mark.kp, m__law_mark⟩
    have J__law_house : Has l.prog w K mg base "_law_house" 4 p__law_house spLawHouse := ⟨f__law_house, fd__law_house, ok_law_house F__law_house T J__law_take J__law_name J__law_rect J__law_mark, b__law_house, F__law_house.kp, m__law_house⟩
    have J__law_told : Has l.prog w K mg base "_law_told" 12 p__law_told spToldD := ⟨f__law_told, fd__law_told, (ok_law_told F__law_told T xc eP FF b_flat F_flat.kp m_flat).imp told_imp, b__law_told, F__law_told.kp, m__law_told⟩
    have J__law_used_right : Has l.prog w K mg base "_law_used_right" 13 p__law_used_right spUsed := ⟨f__law_used_right, fd__law_used_right, ok_law_used_right F__law_used_right T J__law_take J__law_told J_turned_sheet J_laid_over J_back, b__law_used_right, F__law_used_right.kp, m__law_used_right⟩
    have J__law_other_order : Has l.prog w K mg base "_law_other_order" 1 p__law_other_order spOther := ⟨f__law_other_order, fd__law_other_order, ok_law_other_order F__law_other_order T, b__law_other_order, F__law_other_order.kp, m__law_other_order⟩
    exact ok_law F_law T J__law_bag J__law_house J__law_take J__law_other_order J_is_house J__law_told J__law_used_right
theorem walk {l : PySem.W.OpenLaw} {q : Program} {loose : List Str} {XP : (Str → Option Value) → Heap → Prop} {YP : World → Heap → Prop} {d : DefRec} {K : Params → PySem.W.Frag} (hn : l.most = some 63) (hdf : d.params.defaults = [])
    (hY : ∀ (w : World) (h : Heap), YP w h → (K w.params).In h)
    (F : ∀ (w : World) (mg : Str → Option Value) (fa : Addr) (h : Heap), (K w.params).In h → h.Ns mainGlobals mg → mg d.name = some (.ref fa) →
      ∃ fd : FuncData, (∀ (s : Shared) (u : Value), BindsTo s fd ⟨[u], []⟩ [("_law_script", u)]) ∧ ∀ base : Heap, (K w.params).In base → base.Ns mainGlobals mg → FnOk l.prog w (K w.params) mg base CX0 14 fa fd p_law (spLaw (K w.params))) :
    PySem.W.WalkO q loose XP YP l.row.toRowW d [] (fun f vs => PySem.call f vs) :=
  L2.walk_of (n := 63) (k := 14) (x := "_law_script") (CX := fun _ => CX0) (sp := fun w => spLaw (K w.params)) hn (by decide) hdf ⟨rfl, by decide, by decide⟩ hY F (fun _ _ a ns hl _ hS => ⟨a, ns, rfl, hS, hl, fun _ => rfl⟩) fun _ _ _ _ _ z => z
end Mw
end
section
set_option maxRecDepth 100000
open PySem PySem.W PyProof.Rows
set_option maxRecDepth 100000 in
set_option maxHeartbeats 0 in
theorem PySem.Challenge.cw_maskwright_k17_whole_cells_and_sheets_holds : PySem.Challenge.rw_maskwright_k17_whole_cells_and_sheets.Holds := by
  w_on; o_law; k_head; (case hw => w_witness2)
  k_fill
  refine Mw.walk (l := PySem.Challenge.rw_maskwright_k17_whole_cells_and_sheets) rfl rfl (fun w h Y => PySem.W.kIn_of Y) ?F
  case F =>
    intro w mg fa h KX G hmg
    refine' Mw.all_mk (C0 := _) hmg ?T ?C ?xc ?D_is_whole ?D_is_within ?D_joined ?D_banded ?D_cuts_of ?D_region ?D_rects_of ?D_mirrored ?D_quarter ?D_turned_rect ?D_turned_place ?D_turned_point ?D_turned ?D_after ?D_back ?D_is_name ?D_is_layer ?D_is_rect ?D_is_mark ?D_is_use ?D_is_few ?D_is_cell ?D_is_house ?D_sizes ?D_parts ?D_flat ?D_in_either ?D_edges ?D_mixed_line ?D_lines_at ?D_ends_of ?D_mixed ?D_either ?D_turned_sheet ?D_laid_over ?D__law_bag ?D__law_take ?D__law_name ?D__law_rect ?D__law_mark ?D__law_house ?D__law_told ?D__law_used_right ?D__law_other_order ?D_law
    case xc =>
      refine' ⟨?xP, PySem.W.mg_of KX G ?gP, ?kP, ?bP, ?tP, ?iP, ?sP⟩
      (case gP => k_is); (case xP => k_exc); (case kP => k_is); (case bP => k_is); (case tP => k_is); (case iP => k_is); (case sP => k_is)
    case T =>
      refine' ⟨PySem.W.mg_none_of KX G ?z0, PySem.W.mg_none_of KX G ?z1, PySem.W.mg_none_of KX G ?z2, PySem.W.mg_none_of KX G ?z3, PySem.W.mg_none_of KX G ?z4, PySem.W.mg_none_of KX G ?z5, PySem.W.mg_none_of KX G ?z6, PySem.W.mg_none_of KX G ?z7, PySem.W.mg_none_of KX G ?z8, PySem.W.mg_none_of KX G ?z9, PySem.W.mg_none_of KX G ?z10, PySem.W.mg_none_of KX G ?z11, PySem.W.mg_none_of KX G ?z12, PySem.W.mg_none_of KX G ?z13, PySem.W.mg_none_of KX G ?z14, PySem.W.mg_none_of KX G ?z15⟩
      (case z0 => k_is); (case z1 => k_is); (case z2 => k_is); (case z3 => k_is); (case z4 => k_is); (case z5 => k_is); (case z6 => k_is); (case z7 => k_is); (case z8 => k_is); (case z9 => k_is); (case z10 => k_is); (case z11 => k_is); (case z12 => k_is); (case z13 => k_is); (case z14 => k_is); (case z15 => k_is)
    case C =>
      refine' ⟨Mw.int_mk KX G ?y0, Mw.int_mk KX G ?y1, Mw.int_mk KX G ?y2, Mw.int_mk KX G ?y3, Mw.int_mk KX G ?y4, Mw.int_mk KX G ?y5, Mw.int_mk KX G ?y6, Mw.int_mk KX G ?y7, Mw.int_mk KX G ?y8, Mw.str_mk KX G ?y9, Mw.str_mk KX G ?y10⟩
      (case y0 => k_is); (case y1 => k_is); (case y2 => k_is); (case y3 => k_is); (case y4 => k_is); (case y5 => k_is); (case y6 => k_is); (case y7 => k_is); (case y8 => k_is); (case y9 => k_is); (case y10 => k_is)
    case D_is_whole => refine' Mw.def_mk KX G ?a ?l ?c ?k; (case a => k_is); (case l => k_is); (case c => k_is); (case k => k_is)
    case D_is_within => refine' Mw.def_mk KX G ?a ?l ?c ?k; (case a => k_is); (case l => k_is); (case c => k_is); (case k => k_is)
    case D_joined => refine' Mw.def_mk KX G ?a ?l ?c ?k; (case a => k_is); (case l => k_is); (case c => k_is); (case k => k_is)
    case D_banded => refine' Mw.def_mk KX G ?a ?l ?c ?k; (case a => k_is); (case l => k_is); (case c => k_is); (case k => k_is)
    case D_cuts_of => refine' Mw.def_mk KX G ?a ?l ?c ?k; (case a => k_is); (case l => k_is); (case c => k_is); (case k => k_is)
    case D_region => refine' Mw.def_mk KX G ?a ?l ?c ?k; (case a => k_is); (case l => k_is); (case c => k_is); (case k => k_is)
    case D_rects_of => refine' Mw.def_mk KX G ?a ?l ?c ?k; (case a => k_is); (case l => k_is); (case c => k_is); (case k => k_is)
    case D_mirrored => refine' Mw.def_mk KX G ?a ?l ?c ?k; (case a => k_is); (case l => k_is); (case c => k_is); (case k => k_is)
    case D_quarter => refine' Mw.def_mk KX G ?a ?l ?c ?k; (case a => k_is); (case l => k_is); (case c => k_is); (case k => k_is)
    case D_turned_rect => refine' Mw.def_mk KX G ?a ?l ?c ?k; (case a => k_is); (case l => k_is); (case c => k_is); (case k => k_is)
    case D_turned_place => refine' Mw.def_mk KX G ?a ?l ?c ?k; (case a => k_is); (case l => k_is); (case c => k_is); (case k => k_is)
    case D_turned_point => refine' Mw.def_mk KX G ?a ?l ?c ?k; (case a => k_is); (case l => k_is); (case c => k_is); (case k => k_is)
    case D_turned => refine' Mw.def_mk KX G ?a ?l ?c ?k; (case a => k_is); (case l => k_is); (case c => k_is); (case k => k_is)
    case D_after => refine' Mw.def_mk KX G ?a ?l ?c ?k; (case a => k_is); (case l => k_is); (case c => k_is); (case k => k_is)
    case D_back => refine' Mw.def_mk KX G ?a ?l ?c ?k; (case a => k_is); (case l => k_is); (case c => k_is); (case k => k_is)
    case D_is_name => refine' Mw.def_mk KX G ?a ?l ?c ?k; (case a => k_is); (case l => k_is); (case c => k_is); (case k => k_is)
    case D_is_layer => refine' Mw.def_mk KX G ?a ?l ?c ?k; (case a => k_is); (case l => k_is); (case c => k_is); (case k => k_is)
    case D_is_rect => refine' Mw.def_mk KX G ?a ?l ?c ?k; (case a => k_is); (case l => k_is); (case c => k_is); (case k => k_is)
    case D_is_mark => refine' Mw.def_mk KX G ?a ?l ?c ?k; (case a => k_is); (case l => k_is); (case c => k_is); (case k => k_is)
    case D_is_use => refine' Mw.def_mk KX G ?a ?l ?c ?k; (case a => k_is); (case l => k_is); (case c => k_is); (case k => k_is)
    case D_is_few => refine' Mw.def_mk KX G ?a ?l ?c ?k; (case a => k_is); (case l => k_is); (case c => k_is); (case k => k_is)
    case D_is_cell => refine' Mw.def_mk KX G ?a ?l ?c ?k; (case a => k_is); (case l => k_is); (case c => k_is); (case k => k_is)
    case D_is_house => refine' Mw.def_mk KX G ?a ?l ?c ?k; (case a => k_is); (case l => k_is); (case c => k_is); (case k => k_is)
    case D_sizes => refine' Mw.def_mk KX G ?a ?l ?c ?k; (case a => k_is); (case l => k_is); (case c => k_is); (case k => k_is)
    case D_parts => refine' Mw.def_mk KX G ?a ?l ?c ?k; (case a => k_is); (case l => k_is); (case c => k_is); (case k => k_is)
    case D_flat => refine' Mw.def_mk KX G ?a ?l ?c ?k; (case a => k_is); (case l => k_is); (case c => k_is); (case k => k_is)
    case D_in_either => refine' Mw.def_mk KX G ?a ?l ?c ?k; (case a => k_is); (case l => k_is); (case c => k_is); (case k => k_is)
    case D_edges => refine' Mw.def_mk KX G ?a ?l ?c ?k; (case a => k_is); (case l => k_is); (case c => k_is); (case k => k_is)
    case D_mixed_line => refine' Mw.def_mk KX G ?a ?l ?c ?k; (case a => k_is); (case l => k_is); (case c => k_is); (case k => k_is)
    case D_lines_at => refine' Mw.def_mk KX G ?a ?l ?c ?k; (case a => k_is); (case l => k_is); (case c => k_is); (case k => k_is)
    case D_ends_of => refine' Mw.def_mk KX G ?a ?l ?c ?k; (case a => k_is); (case l => k_is); (case c => k_is); (case k => k_is)
    case D_mixed => refine' Mw.def_mk KX G ?a ?l ?c ?k; (case a => k_is); (case l => k_is); (case c => k_is); (case k => k_is)
    case D_either => refine' Mw.def_mk KX G ?a ?l ?c ?k; (case a => k_is); (case l => k_is); (case c => k_is); (case k => k_is)
    case D_turned_sheet => refine' Mw.def_mk KX G ?a ?l ?c ?k; (case a => k_is); (case l => k_is); (case c => k_is); (case k => k_is)
    case D_laid_over => refine' Mw.def_mk KX G ?a ?l ?c ?k; (case a => k_is); (case l => k_is); (case c => k_is); (case k => k_is)
    case D__law_bag => refine' Mw.def_mk KX G ?a ?l ?c ?k; (case a => k_is); (case l => k_is); (case c => k_is); (case k => k_is)
    case D__law_take => refine' Mw.def_mk KX G ?a ?l ?c ?k; (case a => k_is); (case l => k_is); (case c => k_is); (case k => k_is)
    case D__law_name => refine' Mw.def_mk KX G ?a ?l ?c ?k; (case a => k_is); (case l => k_is); (case c => k_is); (case k => k_is)
    case D__law_rect => refine' Mw.def_mk KX G ?a ?l ?c ?k; (case a => k_is); (case l => k_is); (case c => k_is); (case k => k_is)
    case D__law_mark => refine' Mw.def_mk KX G ?a ?l ?c ?k; (case a => k_is); (case l => k_is); (case c => k_is); (case k => k_is)
    case D__law_house => refine' Mw.def_mk KX G ?a ?l ?c ?k; (case a => k_is); (case l => k_is); (case c => k_is); (case k => k_is)
    case D__law_told => refine' Mw.def_mk KX G ?a ?l ?c ?k; (case a => k_is); (case l => k_is); (case c => k_is); (case k => k_is)
    case D__law_used_right => refine' Mw.def_mk KX G ?a ?l ?c ?k; (case a => k_is); (case l => k_is); (case c => k_is); (case k => k_is)
    case D__law_other_order => refine' Mw.def_mk KX G ?a ?l ?c ?k; (case a => k_is); (case l => k_is); (case c => k_is); (case k => k_is)
    case D_law => refine' Mw.def_mk KX G ?a ?l ?c ?k; (case a => k_is); (case l => k_is); (case c => k_is); (case k => k_is)
end
