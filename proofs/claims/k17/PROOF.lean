import PyProof.Rows.All
import Wide.All
import OpenK.AllK
import Wide.FinOn
import KE.KNestM
import KE.SortKeyHeap
import PyProof.ReprNest
import HandS.ForMost
import HandS.Lambda
import HandS.EndTab
import HandS.OwnEq
import HandS.SortKw
import HandS.IsInst
import HandS.Defaults
import HandS.FStr
import HandS.More
import HandS.Codes
import HandS.WideBits
import HandS.Style
import PySem.Challenge.RW_lightturns_k17_whole_days_one_way
set_option Elab.async false
set_option linter.all false
set_option maxRecDepth 100000
set_option maxHeartbeats 4000000
namespace KD
/-! days, stretches of them, in plain Lean -/
/-- a first day and a last one (none: for ever), or a first day and the one behind the last -/
abbrev Spn := Int × Option Int
/-- d is one of the days of a span (told by the day behind the last) -/
def inS (s : Spn) (d : Int) : Prop := s.1 ≤ d ∧ ∀ e, s.2 = some e → d < e
/-- d is one of the days of a row (told by the last day) -/
def inR (s : Spn) (d : Int) : Prop := s.1 ≤ d ∧ ∀ e, s.2 = some e → d ≤ e
def Mem (ss : List Spn) (d : Int) : Prop := ∃ s, s ∈ ss ∧ inS s d
def MemR (ss : List Spn) (d : Int) : Prop := ∃ s, s ∈ ss ∧ inR s d
/-- told in one way: each first day above lo, none empty, a day between each two -/
def Can : Int → List Spn → Prop
  | _, [] => True
  | lo, (f, none) :: r => lo < f ∧ r = []
  | lo, (f, some e) :: r => lo < f ∧ f < e ∧ Can e r

theorem Mem_nil (d : Int) : ¬ Mem [] d := fun ⟨_, h, _⟩ => by cases h
theorem Mem_cons {s : Spn} {ss : List Spn} {d : Int} : Mem (s :: ss) d ↔ inS s d ∨ Mem ss d := by
  constructor
  · rintro ⟨x, hx, h⟩
    rcases List.mem_cons.mp hx with rfl | hx
    · exact .inl h
    · exact .inr ⟨x, hx, h⟩
  · rintro (h | ⟨x, hx, h⟩)
    · exact ⟨s, List.mem_cons_self, h⟩
    · exact ⟨x, List.mem_cons_of_mem _ hx, h⟩
theorem Mem_app {xs ys : List Spn} {d : Int} : Mem (xs ++ ys) d ↔ Mem xs d ∨ Mem ys d := by
  constructor
  · rintro ⟨x, hx, h⟩
    rcases List.mem_append.mp hx with hx | hx
    · exact .inl ⟨x, hx, h⟩
    · exact .inr ⟨x, hx, h⟩
  · rintro (⟨x, hx, h⟩ | ⟨x, hx, h⟩)
    · exact ⟨x, List.mem_append_left _ hx, h⟩
    · exact ⟨x, List.mem_append_right _ hx, h⟩
theorem inS_none {f d : Int} : inS (f, none) d ↔ f ≤ d := ⟨fun h => h.1, fun h => ⟨h, fun e z => by cases z⟩⟩
theorem inS_some {f e d : Int} : inS (f, some e) d ↔ f ≤ d ∧ d < e := ⟨fun h => ⟨h.1, h.2 e rfl⟩, fun h => ⟨h.1, fun e z => by cases z; exact h.2⟩⟩
theorem inR_none {f d : Int} : inR (f, none) d ↔ f ≤ d := ⟨fun h => h.1, fun h => ⟨h, fun e z => by cases z⟩⟩
theorem inR_some {f e d : Int} : inR (f, some e) d ↔ f ≤ d ∧ d ≤ e := ⟨fun h => ⟨h.1, h.2 e rfl⟩, fun h => ⟨h.1, fun e z => by cases z; exact h.2⟩⟩

theorem Can.mono : ∀ {ss : List Spn} {lo lo' : Int}, lo' ≤ lo → Can lo ss → Can lo' ss
  | [], _, _, _, _ => trivial
  | (f, none) :: r, lo, lo', h, ⟨h1, h2⟩ => ⟨by omega, h2⟩
  | (f, some e) :: r, lo, lo', h, ⟨h1, h2, h3⟩ => ⟨by omega, h2, h3⟩
theorem Can.low : ∀ {ss : List Spn} {lo d : Int}, Can lo ss → Mem ss d → lo < d
  | [], _, d, _, h => (Mem_nil d h).elim
  | (f, none) :: r, lo, d, ⟨h1, h2⟩, h => by
    subst h2
    rcases Mem_cons.mp h with h | h
    · have := inS_none.mp h; omega
    · exact (Mem_nil d h).elim
  | (f, some e) :: r, lo, d, ⟨h1, h2, h3⟩, h => by
    rcases Mem_cons.mp h with h | h
    · have := inS_some.mp h; omega
    · have := Can.low h3 h; omega
theorem Can.firsts : ∀ {ss : List Spn} {lo : Int} {s : Spn}, Can lo ss → s ∈ ss → lo < s.1 ∧ ∀ e, s.2 = some e → s.1 < e
  | [], _, s, _, h => by cases h
  | (f, none) :: r, lo, s, ⟨h1, h2⟩, h => by
    subst h2
    rcases List.mem_cons.mp h with rfl | h
    · exact ⟨h1, fun e z => by cases z⟩
    · cases h
  | (f, some e) :: r, lo, s, ⟨h1, h2, h3⟩, h => by
    rcases List.mem_cons.mp h with rfl | h
    · exact ⟨h1, fun e z => by cases z; exact h2⟩
    · have := Can.firsts h3 h
      exact ⟨by omega, this.2⟩
/-- one way alone -/
theorem Can.same : ∀ {ss tt : List Spn} {lo : Int}, Can lo ss → Can lo tt → (∀ d, lo < d → (Mem ss d ↔ Mem tt d)) → ss = tt
  | [], [], _, _, _, _ => rfl
  | [], (g, c) :: q, lo, _, ht, h => by
    have hg : lo < g := (Can.firsts ht List.mem_cons_self).1
    have : inS (g, c) g := ⟨Int.le_refl _, fun e z => (Can.firsts ht List.mem_cons_self).2 e z⟩
    exact (Mem_nil g ((h g hg).mpr (Mem_cons.mpr (.inl this)))).elim
  | (f, b) :: r, [], lo, hs, _, h => by
    have hg : lo < f := (Can.firsts hs List.mem_cons_self).1
    have : inS (f, b) f := ⟨Int.le_refl _, fun e z => (Can.firsts hs List.mem_cons_self).2 e z⟩
    exact (Mem_nil f ((h f hg).mp (Mem_cons.mpr (.inl this)))).elim
  | (f, b) :: r, (g, c) :: q, lo, hs, ht, h => by
    have hf := Can.firsts hs List.mem_cons_self
    have hg := Can.firsts ht List.mem_cons_self
    have mf : Mem ((f, b) :: r) f := Mem_cons.mpr (.inl ⟨Int.le_refl _, hf.2⟩)
    have mg : Mem ((g, c) :: q) g := Mem_cons.mpr (.inl ⟨Int.le_refl _, hg.2⟩)
    have ls : Can (f - 1) ((f, b) :: r) := by
      cases b with
      | none => exact ⟨by omega, hs.2⟩
      | some e => exact ⟨by omega, hs.2⟩
    have lt : Can (g - 1) ((g, c) :: q) := by
      cases c with
      | none => exact ⟨by omega, ht.2⟩
      | some e => exact ⟨by omega, ht.2⟩
    have a1 := Can.low lt ((h f hf.1).mp mf)
    have a2 := Can.low ls ((h g hg.1).mpr mg)
    have e : f = g := by omega
    subst e
    cases b with
    | none =>
      obtain ⟨_, rfl⟩ := hs
      cases c with
      | none =>
        obtain ⟨_, rfl⟩ := ht
        rfl
      | some y =>
        obtain ⟨_, h2, h3⟩ := ht
        have : Mem ((f, some y) :: q) y := (h y (by omega)).mp (Mem_cons.mpr (.inl (inS_none.mpr (by omega))))
        rcases Mem_cons.mp this with k | k
        · have := inS_some.mp k; omega
        · have := Can.low h3 k; omega
    | some x =>
      obtain ⟨_, k2, k3⟩ := hs
      cases c with
      | none =>
        obtain ⟨_, rfl⟩ := ht
        have : Mem ((f, some x) :: r) x := (h x (by omega)).mpr (Mem_cons.mpr (.inl (inS_none.mpr (by omega))))
        rcases Mem_cons.mp this with k | k
        · have := inS_some.mp k; omega
        · have := Can.low k3 k; omega
      | some y =>
        obtain ⟨_, h2, h3⟩ := ht
        have exy : x = y := by
          rcases Int.lt_trichotomy x y with z | z | z
          · have : Mem ((f, some x) :: r) x := (h x (by omega)).mpr (Mem_cons.mpr (.inl (inS_some.mpr (by omega))))
            rcases Mem_cons.mp this with k | k
            · have := inS_some.mp k; omega
            · have := Can.low k3 k; omega
          · exact z
          · have : Mem ((f, some y) :: q) y := (h y (by omega)).mp (Mem_cons.mpr (.inl (inS_some.mpr (by omega))))
            rcases Mem_cons.mp this with k | k
            · have := inS_some.mp k; omega
            · have := Can.low h3 k; omega
        subst exy
        have er : r = q := Can.same k3 h3 fun d hd => by
          have hh := h d (by omega)
          rw [Mem_cons, Mem_cons] at hh
          have nn : ¬ inS (f, some x) d := fun z => by have := inS_some.mp z; omega
          exact ⟨fun z => (hh.mp (.inr z)).resolve_left nn, fun z => (hh.mpr (.inr z)).resolve_left nn⟩
        rw [er]
theorem Can.app : ∀ {xs ys : List Spn} {lo hi : Int}, Can lo xs → (∀ d, Mem xs d → d < hi) → lo ≤ hi → Can hi ys → Can lo (xs ++ ys)
  | [], ys, lo, hi, _, _, h, k => k.mono h
  | (f, none) :: r, ys, lo, hi, ⟨h1, h2⟩, hb, h, k => by
    have := hb (max f hi) (Mem_cons.mpr (.inl (inS_none.mpr (by omega))))
    omega
  | (f, some e) :: r, ys, lo, hi, ⟨h1, h2, h3⟩, hb, h, k => by
    have := hb (e - 1) (Mem_cons.mpr (.inl (inS_some.mpr (by omega))))
    exact ⟨h1, h2, Can.app h3 (fun d m => hb d (Mem_cons.mpr (.inr m))) (by omega) k⟩

/-! ### the days of rows -/
/-- the day behind the last -/
def beh : Option Int → Option Int := fun l => l.map (· + 1)
/-- the last day -/
def las : Option Int → Option Int := fun b => b.map (· - 1)
theorem inS_beh {f : Int} {l : Option Int} {d : Int} : inS (f, beh l) d ↔ inR (f, l) d := by
  cases l with
  | none => exact inS_none.trans inR_none.symm
  | some e =>
    refine (inS_some (e := e + 1)).trans (Iff.trans ?_ inR_some.symm)
    omega
theorem inR_las {f : Int} {b : Option Int} {d : Int} : inR (f, las b) d ↔ inS (f, b) d := by
  cases b with
  | none => exact inR_none.trans inS_none.symm
  | some e =>
    refine (inR_some (e := e - 1)).trans (Iff.trans ?_ inS_some.symm)
    omega
/-- spans as rows -/
def rowsOf (ss : List Spn) : List Spn := ss.map fun s => (s.1, las s.2)
theorem MemR_rowsOf {ss : List Spn} {d : Int} : MemR (rowsOf ss) d ↔ Mem ss d := by
  constructor
  · rintro ⟨x, hx, h⟩
    obtain ⟨⟨f, b⟩, hs, rfl⟩ := List.mem_map.mp hx
    exact ⟨(f, b), hs, inR_las.mp h⟩
  · rintro ⟨⟨f, b⟩, hs, h⟩
    exact ⟨_, List.mem_map.mpr ⟨_, hs, rfl⟩, inR_las.mpr h⟩
/-- the later of two days, none behind all -/
def far : Option Int → Option Int → Option Int
  | none, _ => none
  | _, none => none
  | some a, some b => some (if b > a then b else a)
/-- the earlier -/
def near : Option Int → Option Int → Option Int
  | none, b => b
  | a, none => a
  | some a, some b => some (if b < a then b else a)
/-- a row that begins within the last span, or just behind it -/
def meets (b : Option Int) (x : Int) : Bool := match b with
  | none => true
  | some e => decide (x ≤ e)
/-- one turn of spans_of -/
def stp (found : List Spn) (r : Spn) : List Spn :=
  match found.getLast? with
  | some (f, b) => if meets b r.1 = true then found.dropLast ++ [(f, far b (beh r.2))] else found ++ [(r.1, beh r.2)]
  | none => [(r.1, beh r.2)]
/-- all turns -/
def spans (rs : List Spn) : List Spn := rs.foldl stp []
/-- rows as they are made: days from 0 on, the last no less than the first -/
def Good (rs : List Spn) : Prop := ∀ r ∈ rs, 0 ≤ r.1 ∧ ∀ e, r.2 = some e → r.1 ≤ e

/-- where the last span ends -/
def Low (x : Int) : List Spn → Prop := fun ss => ∀ s ∈ ss, s.1 ≤ x

theorem stp_nil (r : Spn) : stp [] r = [(r.1, beh r.2)] := rfl
theorem stp_snoc (xs : List Spn) (f : Int) (b : Option Int) (r : Spn) : stp (xs ++ [(f, b)]) r = if meets b r.1 = true then xs ++ [(f, far b (beh r.2))] else xs ++ [(f, b)] ++ [(r.1, beh r.2)] := by
  unfold stp
  rw [List.getLast?_concat, List.dropLast_concat]

theorem Can.snoc_out : ∀ {xs : List Spn} {lo f : Int} {b : Option Int}, Can lo (xs ++ [(f, b)]) → (∀ b', (∀ e, b' = some e → f < e) → Can lo (xs ++ [(f, b')])) ∧
    (∀ e x, b = some e → e < x → ∀ b', (∀ e, b' = some e → x < e) → Can lo (xs ++ [(f, b)] ++ [(x, b')])) ∧ (∀ e, b = some e → f < e)
  | [], lo, f, b, h => by
    have hf := Can.firsts h (s := (f, b)) (by simp)
    refine ⟨fun b' hb => ?_, fun e x he hx b' hb => ?_, hf.2⟩
    · cases b' with
      | none => exact ⟨hf.1, rfl⟩
      | some e => exact ⟨hf.1, hb e rfl, trivial⟩
    · subst he
      refine ⟨hf.1, hf.2 e rfl, ?_⟩
      cases b' with
      | none => exact ⟨hx, rfl⟩
      | some y => exact ⟨hx, hb y rfl, trivial⟩
  | (g, none) :: r, lo, f, b, h => by
    have := h.2
    simp at this
  | (g, some y) :: r, lo, f, b, ⟨h1, h2, h3⟩ => by
    obtain ⟨k1, k2, k3⟩ := Can.snoc_out h3
    exact ⟨fun b' hb => ⟨h1, h2, k1 b' hb⟩, fun e x he hx b' hb => ⟨h1, h2, k2 e x he hx b' hb⟩, k3⟩
theorem inS_far {f x : Int} {b l : Option Int} {d : Int} (h1 : f ≤ x) (h2 : meets b x = true) (hb : ∀ e, b = some e → f < e) (hl : ∀ e, l = some e → x ≤ e) :
    inS (f, far b (beh l)) d ↔ inS (f, b) d ∨ inR (x, l) d := by
  cases b with
  | none =>
    cases l <;> (show inS (f, none) d ↔ _; rw [inS_none]; first | rw [inR_none] | rw [inR_some]) <;> omega
  | some e =>
    have h2 : x ≤ e := by simpa [meets] using h2
    cases l with
    | none =>
      show inS (f, none) d ↔ _
      rw [inS_none, inS_some, inR_none]
      omega
    | some y =>
      have := hl y rfl
      show inS (f, some (if y + 1 > e then y + 1 else e)) d ↔ _
      rw [inS_some, inS_some, inR_some]
      split <;> omega
theorem stp_ok {ss : List Spn} {r : Spn} (hc : Can (-1) ss) (hl : Low r.1 ss) (h0 : 0 ≤ r.1) (hr : ∀ e, r.2 = some e → r.1 ≤ e) :
    Can (-1) (stp ss r) ∧ (∀ d, Mem (stp ss r) d ↔ Mem ss d ∨ inR r d) ∧ Low r.1 (stp ss r) ∧ (stp ss r).length ≤ ss.length + 1 := by
  obtain ⟨x, l⟩ := r
  rcases List.eq_nil_or_concat ss with rfl | ⟨xs, ⟨f, b⟩, rfl⟩
  · rw [stp_nil]
    refine ⟨?_, fun d => ?_, fun s hs => ?_, Nat.le_refl _⟩
    · cases l with
      | none => exact ⟨by have := h0; show (-1 : Int) < x; simp only at this; omega, rfl⟩
      | some e => exact ⟨by have := h0; show (-1 : Int) < x; simp only at this; omega, by have := hr e rfl; show x < e + 1; simp only at this; omega, trivial⟩
    · rw [Mem_cons]
      constructor
      · rintro (h | h)
        · exact .inr (inS_beh.mp h)
        · exact (Mem_nil d h).elim
      · rintro (h | h)
        · exact (Mem_nil d h).elim
        · exact .inl (inS_beh.mpr h)
    · rcases List.mem_cons.mp hs with rfl | hs
      · exact Int.le_refl _
      · cases hs
  · simp only [List.concat_eq_append] at hc hl ⊢
    rw [stp_snoc]
    obtain ⟨k1, k2, k3⟩ := Can.snoc_out hc
    have hfx : f ≤ x := hl (f, b) (by simp)
    have hr' : ∀ e, beh l = some e → x < e := fun e z => by
      cases l with
      | none => cases z
      | some y =>
        cases z
        have := hr y rfl
        simp only at this
        show x < y + 1
        omega
    by_cases hm : meets b x = true
    · rw [if_pos hm]
      refine ⟨k1 _ fun e z => ?_, fun d => ?_, fun s hs => ?_, by simp⟩
      · cases b with
        | none => cases l <;> cases z
        | some y =>
          have hy : f < y := k3 y rfl
          cases l with
          | none => cases z
          | some u =>
            have z' : (if (u : Int) + 1 > y then u + 1 else y) = e := Option.some.inj z
            subst z'
            show f < (if u + 1 > y then u + 1 else y)
            split <;> omega
      · rw [Mem_app, Mem_app, Mem_cons, Mem_cons, inS_far hfx hm k3 hr]
        constructor
        · rintro (h | (h | h) | h)
          · exact .inl (.inl h)
          · exact .inl (.inr (.inl h))
          · exact .inr h
          · exact (Mem_nil d h).elim
        · rintro ((h | h | h) | h)
          · exact .inl h
          · exact .inr (.inl (.inl h))
          · exact (Mem_nil d h).elim
          · exact .inr (.inl (.inr h))
      · rcases List.mem_append.mp hs with hs | hs
        · exact hl s (List.mem_append_left _ hs)
        · rcases List.mem_cons.mp hs with rfl | hs
          · exact hfx
          · cases hs
    · rw [if_neg hm]
      cases b with
      | none => exact (hm rfl).elim
      | some e =>
        have hx : e < x := by
          have : ¬ x ≤ e := by simpa [meets] using hm
          omega
        refine ⟨k2 e x rfl hx _ hr', fun d => ?_, fun s hs => ?_, by simp⟩
        · rw [Mem_app, Mem_cons (s := (x, beh l)), inS_beh]
          constructor
          · rintro (h | h | h)
            · exact .inl h
            · exact .inr h
            · exact (Mem_nil d h).elim
          · rintro (h | h)
            · exact .inl h
            · exact .inr (.inl h)
        · rcases List.mem_append.mp hs with hs | hs
          · exact hl s hs
          · rcases List.mem_cons.mp hs with rfl | hs
            · exact Int.le_refl _
            · cases hs
theorem fold_ok : ∀ (rs : List Spn) (ss : List Spn), Good rs → rs.Pairwise (fun a b => a.1 ≤ b.1) → Can (-1) ss → (∀ r ∈ rs, Low r.1 ss) →
    Can (-1) (rs.foldl stp ss) ∧ (∀ d, Mem (rs.foldl stp ss) d ↔ Mem ss d ∨ MemR rs d) ∧ (rs.foldl stp ss).length ≤ ss.length + rs.length
  | [], ss, _, _, hc, _ => ⟨hc, fun d => ⟨.inl, fun h => h.elim id fun ⟨_, z, _⟩ => by cases z⟩, Nat.le_refl _⟩
  | r :: rs, ss, hg, hp, hc, hl => by
    obtain ⟨a1, a2, a3, a4⟩ := stp_ok hc (hl r List.mem_cons_self) (hg r List.mem_cons_self).1 (hg r List.mem_cons_self).2
    rw [List.pairwise_cons] at hp
    obtain ⟨b1, b2, b3⟩ := fold_ok rs (stp ss r) (fun x hx => hg x (List.mem_cons_of_mem _ hx)) hp.2 a1 fun x hx s hs => Int.le_trans (a3 s hs) (hp.1 x hx)
    refine ⟨b1, fun d => ?_, by rw [List.length_cons]; show (List.foldl stp (stp ss r) rs).length ≤ _; omega⟩
    show Mem (List.foldl stp (stp ss r) rs) d ↔ _
    rw [b2 d, a2 d]
    constructor
    · rintro ((h | h) | ⟨x, hx, h⟩)
      · exact .inl h
      · exact .inr ⟨r, List.mem_cons_self, h⟩
      · exact .inr ⟨x, List.mem_cons_of_mem _ hx, h⟩
    · rintro (h | ⟨x, hx, h⟩)
      · exact .inl (.inl h)
      · rcases List.mem_cons.mp hx with rfl | hx
        · exact .inl (.inr h)
        · exact .inr ⟨x, hx, h⟩
/-- the spans of sorted rows -/
theorem spans_ok {rs : List Spn} (hg : Good rs) (hp : rs.Pairwise (fun a b => a.1 ≤ b.1)) : Can (-1) (spans rs) ∧ (∀ d, Mem (spans rs) d ↔ MemR rs d) ∧ (spans rs).length ≤ rs.length := by
  obtain ⟨a, b, c⟩ := fold_ok rs [] hg hp trivial fun r _ s hs => by cases hs
  refine ⟨a, fun d => (b d).trans ⟨fun h => h.elim (fun z => (Mem_nil d z).elim) id, .inr⟩, ?_⟩
  rw [List.length_nil, Nat.zero_add] at c
  exact c

/-! ### both -/
def inter (s o : Spn) : List Spn :=
  let st := if o.1 > s.1 then o.1 else s.1
  match near s.2 o.2 with
  | none => [(st, none)]
  | some p => if st < p then [(st, some p)] else []
def both (ss oo : List Spn) : List Spn := ss.flatMap fun s => oo.flatMap (inter s)
theorem inter_len (s o : Spn) : (inter s o).length ≤ 1 := by
  unfold inter
  cases near s.2 o.2 with
  | none => exact Nat.le_refl _
  | some p =>
    show (if (if o.1 > s.1 then o.1 else s.1) < p then [((if o.1 > s.1 then o.1 else s.1), some p)] else ([] : List Spn)).length ≤ 1
    by_cases h : (if o.1 > s.1 then o.1 else s.1) < p
    · rw [if_pos h]
      exact Nat.le_refl _
    · rw [if_neg h]
      exact Nat.zero_le _
theorem inS_near {f g d : Int} {b c : Option Int} : inS (if g > f then g else f, near b c) d ↔ inS (f, b) d ∧ inS (g, c) d := by
  cases b with
  | none =>
    cases c with
    | none =>
      show inS (_, none) d ↔ _
      rw [inS_none, inS_none, inS_none]
      split <;> omega
    | some y =>
      show inS (_, some y) d ↔ _
      rw [inS_some, inS_none, inS_some]
      split <;> omega
  | some x =>
    cases c with
    | none =>
      show inS (_, some x) d ↔ _
      rw [inS_some, inS_none, inS_some]
      split <;> omega
    | some y =>
      show inS (_, some (if y < x then y else x)) d ↔ _
      rw [inS_some, inS_some, inS_some]
      split <;> split <;> omega
theorem Mem_inter {s o : Spn} {d : Int} : Mem (inter s o) d ↔ inS s d ∧ inS o d := by
  obtain ⟨f, b⟩ := s
  obtain ⟨g, c⟩ := o
  rw [← inS_near]
  unfold inter
  simp only
  cases near b c with
  | none =>
    simp only
    rw [Mem_cons]
    exact ⟨fun h => h.elim id fun z => (Mem_nil d z).elim, .inl⟩
  | some p =>
    show Mem (if (if g > f then g else f) < p then [((if g > f then g else f), some p)] else ([] : List Spn)) d ↔ _
    by_cases h : (if g > f then g else f) < p
    · rw [if_pos h, Mem_cons]
      exact ⟨fun h => h.elim id fun z => (Mem_nil d z).elim, .inl⟩
    · rw [if_neg h]
      exact ⟨fun h => (Mem_nil d h).elim, fun z => by have := inS_some.mp z; omega⟩
theorem Mem_flat {α : Type} {l : List α} {F : α → List Spn} {d : Int} : Mem (l.flatMap F) d ↔ ∃ x ∈ l, Mem (F x) d := by
  constructor
  · rintro ⟨s, hs, h⟩
    obtain ⟨x, hx, hs⟩ := List.mem_flatMap.mp hs
    exact ⟨x, hx, s, hs, h⟩
  · rintro ⟨x, hx, s, hs, h⟩
    exact ⟨s, List.mem_flatMap.mpr ⟨x, hx, hs⟩, h⟩
theorem Mem_inner {s : Spn} {oo : List Spn} {d : Int} : Mem (oo.flatMap (inter s)) d ↔ inS s d ∧ Mem oo d := by
  rw [Mem_flat]
  constructor
  · rintro ⟨o, ho, h⟩
    obtain ⟨a, b⟩ := Mem_inter.mp h
    exact ⟨a, o, ho, b⟩
  · rintro ⟨a, o, ho, b⟩
    exact ⟨o, ho, Mem_inter.mpr ⟨a, b⟩⟩
theorem Mem_both {ss oo : List Spn} {d : Int} : Mem (both ss oo) d ↔ Mem ss d ∧ Mem oo d := by
  unfold both
  rw [Mem_flat]
  constructor
  · rintro ⟨s, hs, h⟩
    obtain ⟨a, b⟩ := Mem_inner.mp h
    exact ⟨⟨s, hs, a⟩, b⟩
  · rintro ⟨⟨s, hs, a⟩, b⟩
    exact ⟨s, hs, Mem_inner.mpr ⟨a, b⟩⟩
def pc (st : Int) : Option Int → List Spn
  | none => [(st, none)]
  | some p => if st < p then [(st, some p)] else []
theorem inter_pc (s o : Spn) : inter s o = pc (if o.1 > s.1 then o.1 else s.1) (near s.2 o.2) := by
  unfold inter
  cases near s.2 o.2 <;> rfl
theorem Can.pc {st lo : Int} {sp : Option Int} {ys : List Spn} (h : lo < st) (hn : sp = none → ys = []) (hs : ∀ p, sp = some p → Can p ys) (hy : Can lo ys) : Can lo (pc st sp ++ ys) := by
  cases sp with
  | none =>
    rw [hn rfl]
    exact ⟨h, rfl⟩
  | some p =>
    show Can lo ((if st < p then [(st, some p)] else []) ++ ys)
    by_cases hp : st < p
    · rw [if_pos hp]
      exact ⟨h, hp, hs p rfl⟩
    · rw [if_neg hp]
      exact hy
theorem Can.inner {f : Int} {b : Option Int} : ∀ {oo : List Spn} {lo lo' : Int}, Can lo oo → (lo' ≤ lo ∨ lo' < f) → Can lo' (oo.flatMap (inter (f, b)))
  | [], _, _, _, _ => trivial
  | (g, none) :: q, lo, lo', ⟨h1, h2⟩, h => by
    subst h2
    have hst : lo' < (if g > f then g else f) := by split <;> omega
    rw [List.flatMap_cons, List.flatMap_nil, inter_pc]
    exact Can.pc hst (fun _ => rfl) (fun _ _ => trivial) trivial
  | (g, some e) :: q, lo, lo', ⟨h1, h2, h3⟩, h => by
    have hst : lo' < (if g > f then g else f) := by split <;> omega
    rw [List.flatMap_cons, inter_pc]
    refine Can.pc hst (fun z => ?_) (fun p z => ?_) (Can.inner h3 (by omega))
    · cases b <;> cases z
    · refine Can.inner h3 (.inl ?_)
      cases b with
      | none =>
        have z' : some e = some p := z
        cases z'
        exact Int.le_refl _
      | some y =>
        have z' : (if e < y then e else y) = p := Option.some.inj z
        subst z'
        split <;> omega
theorem Can.both : ∀ {ss oo : List Spn} {lo lo2 : Int}, Can lo ss → Can lo2 oo → Can lo (both ss oo)
  | [], _, _, _, _, _ => trivial
  | (f, none) :: r, oo, lo, lo2, ⟨h1, h2⟩, ho => by
    subst h2
    show Can lo (List.flatMap _ _)
    rw [List.flatMap_cons, List.flatMap_nil, List.append_nil]
    exact ho.inner (.inr h1)
  | (f, some e) :: r, oo, lo, lo2, ⟨h1, h2, h3⟩, ho => by
    show Can lo (List.flatMap _ _)
    rw [List.flatMap_cons]
    exact Can.app (ho.inner (.inr h1)) (fun d hd => (inS_some.mp (Mem_inner.mp hd).1).2) (by omega) (Can.both h3 ho)
theorem flat_len {α : Type} {F : α → List Spn} {k : Nat} : ∀ {l : List α}, (∀ x ∈ l, (F x).length ≤ k) → (l.flatMap F).length ≤ l.length * k
  | [], _ => by simp
  | x :: l, h => by
    rw [List.flatMap_cons, List.length_append, List.length_cons, Nat.succ_mul]
    have := flat_len (l := l) fun y hy => h y (List.mem_cons_of_mem _ hy)
    have := h x List.mem_cons_self
    omega
theorem inner_len (s : Spn) (oo : List Spn) : (oo.flatMap (inter s)).length ≤ oo.length := by
  have := flat_len (F := inter s) (k := 1) (l := oo) fun x _ => inter_len s x
  omega
theorem both_len (ss oo : List Spn) : (both ss oo).length ≤ ss.length * oo.length := flat_len fun s _ => inner_len s oo

/-! ### between -/
def betw : Int → List Spn → List Spn
  | start, [] => [(start, none)]
  | start, (f, none) :: _ => if start < f then [(start, some f)] else []
  | start, (f, some e) :: r => (if start < f then [(start, some f)] else []) ++ betw e r
theorem betw_len : ∀ (ss : List Spn) (st : Int), (betw st ss).length ≤ ss.length + 1
  | [], _ => Nat.le_refl _
  | (f, none) :: r, st => by
    unfold betw
    split <;> simp
  | (f, some e) :: r, st => by
    have := betw_len r e
    unfold betw
    split <;> simp <;> omega
theorem Can.betw : ∀ {ss : List Spn} {st lo : Int}, lo < st → Can (st - 1) ss → Can lo (betw st ss)
  | [], st, lo, h, _ => ⟨h, rfl⟩
  | (f, none) :: r, st, lo, h, ⟨h1, _⟩ => by
    unfold KD.betw
    split
    · rename_i hs
      exact ⟨h, hs, trivial⟩
    · trivial
  | (f, some e) :: r, st, lo, h, ⟨h1, h2, h3⟩ => by
    unfold KD.betw
    split
    · rename_i hs
      exact ⟨h, hs, Can.betw (by omega) (h3.mono (by omega))⟩
    · exact Can.betw (by omega) (h3.mono (by omega))
theorem Mem_betw : ∀ {ss : List Spn} {st d : Int}, Can (st - 1) ss → (Mem (betw st ss) d ↔ st ≤ d ∧ ¬ Mem ss d)
  | [], st, d, _ => by
    show Mem [(st, none)] d ↔ _
    rw [Mem_cons, inS_none]
    exact ⟨fun h => ⟨h.elim id fun z => (Mem_nil d z).elim, Mem_nil d⟩, fun h => .inl h.1⟩
  | (f, none) :: r, st, d, ⟨h1, h2⟩ => by
    subst h2
    unfold betw
    rw [Mem_cons, inS_none]
    split
    · rw [Mem_cons, inS_some]
      exact ⟨fun h => h.elim (fun z => ⟨z.1, fun k => k.elim (by omega) (Mem_nil d)⟩) fun z => (Mem_nil d z).elim, fun h => .inl ⟨h.1, by
        have : ¬ f ≤ d := fun z => h.2 (.inl z)
        omega⟩⟩
    · exact ⟨fun h => (Mem_nil d h).elim, fun h => by
        have : ¬ f ≤ d := fun z => h.2 (.inl z)
        omega⟩
  | (f, some e) :: r, st, d, ⟨h1, h2, h3⟩ => by
    have ih := Mem_betw (ss := r) (st := e) (d := d) (h3.mono (by omega))
    have lowr : Mem r d → e < d := fun h => h3.low h
    unfold betw
    rw [Mem_app, ih, Mem_cons, inS_some]
    have hif : Mem (if st < f then [(st, some f)] else []) d ↔ st ≤ d ∧ d < f := by
      split
      · rw [Mem_cons, inS_some]
        exact ⟨fun h => h.elim id fun z => (Mem_nil d z).elim, .inl⟩
      · exact ⟨fun h => (Mem_nil d h).elim, fun h => by omega⟩
    rw [hif]
    constructor
    · rintro (h | h)
      · refine ⟨h.1, fun k => k.elim (fun z => by omega) fun z => by have := lowr z; omega⟩
      · refine ⟨by omega, fun k => k.elim (fun z => by omega) h.2⟩
    · rintro ⟨a, b⟩
      by_cases hd : d < f
      · exact .inl ⟨a, hd⟩
      · refine .inr ⟨?_, fun z => b (.inr z)⟩
        rcases Int.lt_or_le d e with z | z
        · exact (b (.inl ⟨by omega, z⟩)).elim
        · exact z
/-- days of the first alone -/
def only (ss oo : List Spn) : List Spn := both ss (betw 0 oo)
theorem only_ok {ss oo : List Spn} (h1 : Can (-1) ss) (h2 : Can (-1) oo) : Can (-1) (only ss oo) ∧ (∀ d, Mem (only ss oo) d ↔ Mem ss d ∧ ¬ Mem oo d) ∧ (only ss oo).length ≤ ss.length * (oo.length + 1) := by
  refine ⟨h1.both (Can.betw (ss := oo) (st := 0) (lo := -1) (by omega) h2), fun d => ?_, Nat.le_trans (both_len _ _) (Nat.mul_le_mul_left _ (betw_len _ _))⟩
  unfold only
  rw [Mem_both, Mem_betw (ss := oo) (st := 0) h2]
  exact ⟨fun h => ⟨h.1, h.2.2⟩, fun h => ⟨h.1, by have := h1.low h.1; omega, h.2⟩⟩

/-! ### how many -/
def many : List Spn → Option Int
  | [] => some 0
  | (_, none) :: _ => none
  | (f, some e) :: r => (many r).map (· + (e - f))
theorem many_none : ∀ {ss : List Spn}, many ss = none → ∃ f : Int, ∀ d, f ≤ d → Mem ss d
  | [], h => by cases h
  | (f, none) :: r, _ => ⟨f, fun d hd => Mem_cons.mpr (.inl (inS_none.mpr hd))⟩
  | (f, some e) :: r, h => by
    have h' : many r = none := by
      cases q : many r with
      | none => rfl
      | some k =>
        have : many ((f, some e) :: r) = some (k + (e - f)) := by
          show (many r).map _ = _
          rw [q]
          rfl
        rw [this] at h
        cases h
    obtain ⟨g, hg⟩ := many_none h'
    exact ⟨g, fun d hd => Mem_cons.mpr (.inr (hg d hd))⟩
theorem many_some : ∀ {ss : List Spn} {k : Int}, many ss = some k → ∃ N : Int, 0 ≤ N ∧ (∀ d, Mem ss d → d < N) ∧ ∀ s ∈ ss, ∃ e, s.2 = some e ∧ e ≤ N
  | [], _, _ => ⟨0, Int.le_refl _, fun d h => (Mem_nil d h).elim, fun s hs => by cases hs⟩
  | (f, none) :: r, k, h => by cases h
  | (f, some e) :: r, k, h => by
    cases q : many r with
    | none =>
      have : many ((f, some e) :: r) = none := by
        show (many r).map _ = _
        rw [q]
        rfl
      rw [this] at h
      cases h
    | some j =>
      obtain ⟨N, h0, h1, h2⟩ := many_some q
      refine ⟨max N e, by omega, fun d hd => ?_, fun s hs => ?_⟩
      · rcases Mem_cons.mp hd with z | z
        · have := inS_some.mp z; omega
        · have := h1 d z; omega
      · rcases List.mem_cons.mp hs with rfl | hs
        · exact ⟨e, rfl, by omega⟩
        · obtain ⟨y, hy, hn⟩ := h2 s hs
          exact ⟨y, hy, by omega⟩
/-- how many d below n -/
def cnt (p : Int → Bool) : Nat → Int
  | 0 => 0
  | n + 1 => cnt p n + if p n then 1 else 0
theorem cnt_or {p q : Int → Bool} : ∀ n, cnt (fun d => p d || q d) n + cnt (fun d => p d && q d) n = cnt p n + cnt q n
  | 0 => rfl
  | n + 1 => by
    have := cnt_or (p := p) (q := q) n
    have e : ∀ x y : Bool, ((if (x || y) = true then 1 else 0) + (if (x && y) = true then 1 else 0) : Int) = (if x = true then 1 else 0) + (if y = true then 1 else 0) := by decide
    have := e (p n) (q n)
    simp only [cnt]
    omega
theorem cnt_no {p : Int → Bool} : ∀ n, (∀ d : Int, p d = false) → cnt p n = 0
  | 0, _ => rfl
  | n + 1, h => by
    simp only [cnt, h n, cnt_no n h]
    rfl
theorem cnt_iv {f e : Int} (h0 : 0 ≤ f) (h1 : f ≤ e) : ∀ n : Nat, cnt (fun d => decide (f ≤ d) && decide (d < e)) n = (if (n : Int) < e then (n : Int) else e) - (if (n : Int) < f then (n : Int) else f)
  | 0 => by
    show (0 : Int) = _
    simp only [Int.natCast_zero]
    split <;> split <;> omega
  | n + 1 => by
    have ih := cnt_iv h0 h1 n
    simp only [cnt, ih]
    by_cases a : f ≤ (n : Int) <;> by_cases b : (n : Int) < e <;> simp only [a, b, decide_true, decide_false, Bool.and_true, Bool.and_false, if_true, if_false, Bool.false_eq_true] <;> push_cast <;> (repeat' split) <;> omega
theorem cnt_congr {p q : Int → Bool} (n : Nat) (h : ∀ d, p d = q d) : cnt p n = cnt q n := by
  have : p = q := funext h
  rw [this]
open Classical in
noncomputable def mb (ss : List Spn) : Int → Bool := fun d => decide (Mem ss d)
open Classical in
theorem mb_iff {ss : List Spn} {d : Int} : mb ss d = true ↔ Mem ss d := decide_eq_true_iff
theorem many_cnt : ∀ {ss : List Spn} {lo k N : Int}, -1 ≤ lo → Can lo ss → many ss = some k → (∀ s ∈ ss, ∃ e, s.2 = some e ∧ e ≤ N) → k = cnt (mb ss) N.toNat
  | [], lo, k, N, _, _, h, _ => by
    have h' : some (0 : Int) = some k := h
    cases h'
    refine (cnt_no _ fun d => ?_).symm
    cases q : mb [] d with
    | false => rfl
    | true => exact (Mem_nil d (mb_iff.mp q)).elim
  | (f, none) :: r, lo, k, N, _, _, h, _ => by cases h
  | (f, some e) :: r, lo, k, N, hlo, ⟨h1, h2, h3⟩, h, hN => by
    cases q : many r with
    | none =>
      have : many ((f, some e) :: r) = none := by
        show (many r).map _ = _
        rw [q]
        rfl
      rw [this] at h
      cases h
    | some j =>
      have hk : many ((f, some e) :: r) = some (j + (e - f)) := by
        show (many r).map _ = _
        rw [q]
        rfl
      rw [hk] at h
      cases h
      have ih := many_cnt (lo := e) (by omega) h3 q fun s hs => hN s (List.mem_cons_of_mem _ hs)
      obtain ⟨y, hy, hye⟩ := hN _ List.mem_cons_self
      cases hy
      have hiv := cnt_iv (f := f) (e := e) (by omega) (by omega) N.toNat
      have hor := cnt_or (p := fun d => decide (f ≤ d) && decide (d < e)) (q := mb r) N.toNat
      have hz : cnt (fun d => (decide (f ≤ d) && decide (d < e)) && mb r d) N.toNat = 0 := cnt_no _ fun d => by
        cases z : mb r d with
        | false => exact Bool.and_false _
        | true =>
          have := h3.low (mb_iff.mp z)
          have hn : ¬ d < e := by omega
          simp [hn]
      have hc : cnt (mb ((f, some e) :: r)) N.toNat = cnt (fun d => (decide (f ≤ d) && decide (d < e)) || mb r d) N.toNat := cnt_congr _ fun d => by
        have : mb ((f, some e) :: r) d = true ↔ ((decide (f ≤ d) && decide (d < e)) || mb r d) = true := by
          rw [mb_iff, Mem_cons, inS_some, Bool.or_eq_true, mb_iff]
          simp
        cases a : mb ((f, some e) :: r) d <;> cases b : ((decide (f ≤ d) && decide (d < e)) || mb r d) <;> simp_all
      rw [hc]
      have hNn : ((N.toNat : Nat) : Int) = N := by omega
      rw [hNn] at hiv
      rw [if_neg (show ¬ N < e by omega), if_neg (show ¬ N < f by omega)] at hiv
      omega
/-- the two counts are either's and both's together -/
theorem many_sum {aa bb uu ii : List Spn} {a b u i : Int} (ca : Can (-1) aa) (cb : Can (-1) bb) (cu : Can (-1) uu) (ci : Can (-1) ii) (hu : ∀ d, Mem uu d ↔ Mem aa d ∨ Mem bb d) (hi : ∀ d, Mem ii d ↔ Mem aa d ∧ Mem bb d)
    (ha : many aa = some a) (hb : many bb = some b) (hu' : many uu = some u) (hi' : many ii = some i) : a + b = u + i := by
  obtain ⟨N1, _, _, k1⟩ := many_some ha
  obtain ⟨N2, _, _, k2⟩ := many_some hb
  obtain ⟨N3, _, _, k3⟩ := many_some hu'
  obtain ⟨N4, _, _, k4⟩ := many_some hi'
  have up : ∀ {ss : List Spn} {M N : Int}, M ≤ N → (∀ s ∈ ss, ∃ e, s.2 = some e ∧ e ≤ M) → ∀ s ∈ ss, ∃ e, s.2 = some e ∧ e ≤ N := fun h k s hs => by
    obtain ⟨e, h1, h2⟩ := k s hs
    exact ⟨e, h1, by omega⟩
  let N := max (max N1 N2) (max N3 N4)
  have e1 := many_cnt (N := N) (Int.le_refl _) ca ha (up (by omega) k1)
  have e2 := many_cnt (N := N) (Int.le_refl _) cb hb (up (by omega) k2)
  have e3 := many_cnt (N := N) (Int.le_refl _) cu hu' (up (by omega) k3)
  have e4 := many_cnt (N := N) (Int.le_refl _) ci hi' (up (by omega) k4)
  have hor := cnt_or (p := mb aa) (q := mb bb) N.toNat
  have c1 : cnt (mb uu) N.toNat = cnt (fun d => mb aa d || mb bb d) N.toNat := cnt_congr _ fun d => by
    have : mb uu d = true ↔ (mb aa d || mb bb d) = true := by rw [mb_iff, Bool.or_eq_true, mb_iff, mb_iff]; exact hu d
    cases x : mb uu d <;> cases y : (mb aa d || mb bb d) <;> simp_all
  have c2 : cnt (mb ii) N.toNat = cnt (fun d => mb aa d && mb bb d) N.toNat := cnt_congr _ fun d => by
    have : mb ii d = true ↔ (mb aa d && mb bb d) = true := by rw [mb_iff, Bool.and_eq_true, mb_iff, mb_iff]; exact hi d
    cases x : mb ii d <;> cases y : (mb aa d && mb bb d) <;> simp_all
  omega
/-- which of the counts are none -/
theorem many_which {aa bb uu ii : List Spn} (hu : ∀ d, Mem uu d ↔ Mem aa d ∨ Mem bb d) (hi : ∀ d, Mem ii d ↔ Mem aa d ∧ Mem bb d) :
    ((many aa = none ∨ many bb = none) → many uu = none) ∧ (many aa = none → many bb = none → many ii = none) ∧ ((many aa ≠ none ∧ many bb ≠ none) → many uu ≠ none ∧ many ii ≠ none) := by
  have bd : ∀ {ss : List Spn}, many ss ≠ none → ∃ N : Int, ∀ d, Mem ss d → d < N := fun {ss} h => by
    cases q : many ss with
    | none => exact (h q).elim
    | some k =>
      obtain ⟨N, _, h1, _⟩ := many_some q
      exact ⟨N, h1⟩
  refine ⟨fun h => ?_, fun h1 h2 => ?_, fun ⟨h1, h2⟩ => ⟨fun h => ?_, fun h => ?_⟩⟩
  · cases q : many uu with
    | none => rfl
    | some k =>
      obtain ⟨N, hN⟩ := bd (ss := uu) (by rw [q]; simp)
      rcases h with h | h
      · obtain ⟨f, hf⟩ := many_none h
        have := hN (max f N) ((hu _).mpr (.inl (hf _ (by omega))))
        omega
      · obtain ⟨f, hf⟩ := many_none h
        have := hN (max f N) ((hu _).mpr (.inr (hf _ (by omega))))
        omega
  · cases q : many ii with
    | none => rfl
    | some k =>
      obtain ⟨N, hN⟩ := bd (ss := ii) (by rw [q]; simp)
      obtain ⟨f, hf⟩ := many_none h1
      obtain ⟨g, hg⟩ := many_none h2
      have := hN (max (max f g) N) ((hi _).mpr ⟨hf _ (by omega), hg _ (by omega)⟩)
      omega
  · obtain ⟨f, hf⟩ := many_none h
    obtain ⟨N, hN⟩ := bd h1
    obtain ⟨M, hM⟩ := bd h2
    rcases (hu _).mp (hf (max f (max N M)) (by omega)) with z | z
    · have := hN _ z; omega
    · have := hM _ z; omega
  · obtain ⟨f, hf⟩ := many_none h
    obtain ⟨N, hN⟩ := bd h1
    have := hN _ ((hi _).mp (hf (max f N) (by omega))).1
    omega
/-- spans as rows are good rows, and spans back -/
theorem good_rowsOf {ss : List Spn} (h : Can (-1) ss) : Good (rowsOf ss) := fun r hr => by
  obtain ⟨⟨f, b⟩, hs, rfl⟩ := List.mem_map.mp hr
  have := h.firsts hs
  refine ⟨by have := this.1; show 0 ≤ f; simp only at this; omega, fun e z => ?_⟩
  cases b with
  | none => cases z
  | some y =>
    cases z
    have := this.2 y rfl
    show f ≤ y - 1
    simp only at this
    omega
end KD
/-! law_k17: the text by places, the data -/
namespace K7
open PySem L2 KD LamX
def top (i : Nat) : Stmt := PySem.Challenge.pw_lightturns_k17_whole_days_one_way.main.body.getD i (.Pass ⟨0, 0, 0, 0⟩)
abbrev sWhole : Stmt := top 6
abbrev sIsList : Stmt := top 7
abbrev sInit : Stmt := inClass (top 9) 0
abbrev sFirst : Stmt := inClass (top 9) 1
abbrev sLast : Stmt := inClass (top 9) 2
abbrev sHas : Stmt := inClass (top 9) 3
abbrev sEq : Stmt := inClass (top 9) 4
abbrev sRepr : Stmt := inClass (top 9) 5
abbrev sWant : Stmt := top 10
abbrev sSpans : Stmt := top 11
abbrev sFar : Stmt := top 12
abbrev sNear : Stmt := top 13
abbrev sAsS : Stmt := top 14
abbrev sBoth : Stmt := top 15
abbrev sBetw : Stmt := top 16
abbrev sDaysIn : Stmt := top 17
abbrev sEither : Stmt := top 18
abbrev sBothD : Stmt := top 19
abbrev sOnly : Stmt := top 20
abbrev sMany : Stmt := top 21
abbrev sCell : Stmt := top 23
abbrev sPot : Stmt := top 24
abbrev sTake : Stmt := top 25
abbrev sFarL : Stmt := top 26
abbrev sRows : Stmt := top 27
abbrev sHanded : Stmt := top 28
abbrev sIn : Stmt := top 29
abbrev sMarks : Stmt := top 30
abbrev sParted : Stmt := top 33
abbrev sHasL : Stmt := top 34
abbrev sDaysR : Stmt := top 35
abbrev sSums : Stmt := top 36
abbrev sLaw : Stmt := top 37

/-- None or a whole number -/
def oV : Option Int → V
  | none => .non
  | some i => .int i
/-- a Stretch's attributes -/
def fl (r : Spn) : List (Str × V) := putF "end" (oV r.2) (putF "begin" (.int r.1) [])
theorem bne : ¬ (("begin" : Str) = "end") := by decide +kernel
theorem fl_eq (r : Spn) : fl r = ([("begin", V.int r.1), ("end", oV r.2)] : List (Str × V)) := by
  show (if ("begin" : Str) = "end" then [(("begin" : Str), oV r.2)] else (("begin" : Str), V.int r.1) :: putF "end" (oV r.2) []) = ([("begin", V.int r.1), ("end", oV r.2)] : List (Str × V))
  rw [if_neg bne]
  all_goals rfl
theorem fl_begin (r : Spn) : (fl r).lookup ("begin" : Str) = some (.int r.1) := by
  unfold fl
  rw [lookup_putF, if_neg bne, lookup_putF, if_pos rfl]
theorem fl_end (r : Spn) : (fl r).lookup ("end" : Str) = some (oV r.2) := by
  unfold fl
  rw [lookup_putF, if_pos rfl]
theorem fl_no (r : Spn) {m : Str} (h1 : ¬ m = "end") (h2 : ¬ m = "begin") : (fl r).lookup m = none := by
  unfold fl
  rw [lookup_putF, if_neg h1, lookup_putF, if_neg h2]
  all_goals rfl
/-- a Stretch of the class at C stands at a -/
def StAt (C : Addr) (H : Hp) (r : Spn) (a : Addr) : Prop := ∃ dx, H a = some (.ins C dx (fl r))
/-- a tuple (first, other) stands at a -/
def TuAt (H : Hp) (r : Spn) (a : Addr) : Prop := H a = some (.tup [.int r.1, oV r.2])
/-- one behind another -/
structure Two (P : Spn → Addr → Prop) (rs : List Spn) (as : List Addr) : Prop where
  len : as.length = rs.length
  at_ : ∀ (i : Nat) (a : Addr), as[i]? = some a → ∃ r, rs[i]? = some r ∧ P r a
theorem Two.nil {P : Spn → Addr → Prop} : Two P [] [] := ⟨rfl, fun i a h => by simp at h⟩
theorem Two.mono {P Q : Spn → Addr → Prop} {rs : List Spn} {as : List Addr} (t : Two P rs as) (h : ∀ r a, P r a → Q r a) : Two Q rs as :=
  ⟨t.len, fun i a e => let ⟨r, e1, p⟩ := t.at_ i a e; ⟨r, e1, h r a p⟩⟩
theorem Two.app {P : Spn → Addr → Prop} {rs rs' : List Spn} {as as' : List Addr} (t : Two P rs as) (t' : Two P rs' as') : Two P (rs ++ rs') (as ++ as') := by
  refine ⟨by rw [List.length_append, List.length_append, t.len, t'.len], fun i a e => ?_⟩
  by_cases hi : i < as.length
  · rw [List.getElem?_append_left hi] at e
    obtain ⟨r, e1, p⟩ := t.at_ i a e
    exact ⟨r, by rw [List.getElem?_append_left (by rw [← t.len]; exact hi)]; exact e1, p⟩
  · rw [List.getElem?_append_right (by omega)] at e
    obtain ⟨r, e1, p⟩ := t'.at_ _ a e
    exact ⟨r, by rw [List.getElem?_append_right (by rw [← t.len]; omega), ← t.len]; exact e1, p⟩
theorem Two.one {P : Spn → Addr → Prop} {r : Spn} {a : Addr} (h : P r a) : Two P [r] [a] := by
  refine ⟨rfl, fun i b e => ?_⟩
  cases i with
  | zero => exact ⟨r, rfl, by simp at e; rw [← e]; exact h⟩
  | succ i => simp at e
theorem Two.get {P : Spn → Addr → Prop} {rs : List Spn} {as : List Addr} (t : Two P rs as) {i : Nat} {r : Spn} (h : rs[i]? = some r) : ∃ a, as[i]? = some a ∧ P r a := by
  have hi := (List.getElem?_eq_some_iff.mp h).1
  have hi' : i < as.length := by rw [t.len]; exact hi
  obtain ⟨r', e, p⟩ := t.at_ i (as[i]) (List.getElem?_eq_getElem hi')
  rw [h] at e
  cases e
  exact ⟨_, List.getElem?_eq_getElem hi', p⟩
theorem Two.take {P : Spn → Addr → Prop} {rs : List Spn} {as : List Addr} (t : Two P rs as) (n : Nat) : Two P (rs.take n) (as.take n) := by
  refine ⟨by rw [List.length_take, List.length_take, t.len], fun i a e => ?_⟩
  rw [List.getElem?_take] at e
  split at e
  · obtain ⟨r, e1, p⟩ := t.at_ i a e
    exact ⟨r, by rw [List.getElem?_take, if_pos (by assumption)]; exact e1, p⟩
  · cases e
theorem Two.drop {P : Spn → Addr → Prop} {rs : List Spn} {as : List Addr} (t : Two P rs as) (n : Nat) : Two P (rs.drop n) (as.drop n) := by
  refine ⟨by rw [List.length_drop, List.length_drop, t.len], fun i a e => ?_⟩
  rw [List.getElem?_drop] at e
  obtain ⟨r, e1, p⟩ := t.at_ _ a e
  exact ⟨r, by rw [List.getElem?_drop]; exact e1, p⟩
/-- the i-th item of a list of references -/
theorem refs_get {as : List Addr} {i : Nat} {x : V} (h : (as.map V.ref)[i]? = some x) : ∃ a, x = .ref a ∧ as[i]? = some a := by
  rw [List.getElem?_map] at h
  cases q : as[i]? with
  | none => rw [q] at h; cases h
  | some a =>
    rw [q] at h
    exact ⟨a, (Option.some.inj h).symm, rfl⟩
/-- all but what stands at p is as it was -/
def But (p : Addr) (H H' : Hp) : Prop := ∀ b o, b ≠ p → H b = some o → H' b = some o
theorem But.refl (p : Addr) (H : Hp) : But p H H := fun _ _ _ h => h
theorem But.trans {p : Addr} {H H1 H2 : Hp} (a : But p H H1) (b : But p H1 H2) : But p H H2 := fun c o n h => b c o n (a c o n h)
theorem But.of {p : Addr} {H H' : Hp} (e : Same H H') : But p H H' := fun b o _ h => e b o h
theorem Same.new {H : Hp} {p : Addr} {o : HO} (h : H p = none) : Same H (upd H p o) := fun b u e => by rw [upd_ne (ne_of_none e h)]; exact e
theorem ExtN.new {H : Hp} {p : Addr} {o : HO} (h : H p = none) : ExtN H (upd H p o) := .of (Same.new h)
theorem ExtN.seqL {K : PySem.W.Frag} {H H' : Hp} {a : Addr} {xs : List V} (e : ExtN H H') (h : SqL K H a xs) : SqL K H' a xs := by
  rcases h with (h | ⟨o, h⟩) | h
  · exact .inl (.inl (e _ _ h fun ps z => by cases z))
  · exact .inl (.inr ⟨o, e _ _ h fun ps z => by cases z⟩)
  · exact .inr h
theorem ExtN.seqT {K : PySem.W.Frag} {H H' : Hp} {a : Addr} {xs : List V} (e : ExtN H H') (h : SqT K H a xs) : SqT K H' a xs := by
  rcases h with (h | ⟨o, h⟩) | h
  · exact .inl (.inl (e _ _ h fun ps z => by cases z))
  · exact .inl (.inr ⟨o, e _ _ h fun ps z => by cases z⟩)
  · exact .inr h
/-- the tables stay where a list is written -/
theorem Tabs.but {T : List (Addr × Str)} {H H' : Hp} {p : Addr} {xs : List V} (t : Tabs T H) (e : But p H H') (hp : H p = some (.lst xs)) : Tabs T H' := fun q hq => by
  obtain ⟨ps, h1, h2, h3⟩ := t q hq
  refine ⟨ps, e _ _ (fun z => by rw [z, hp] at h1; cases h1) h1, h2, fun pos cv hc => ?_⟩
  obtain ⟨c, e1, e2⟩ := h3 pos cv hc
  exact ⟨c, e1, e _ _ (fun z => by rw [z, hp] at e2; exact absurd (Option.some.inj e2) (by unfold CodeO; intro z; cases z)) e2⟩
theorem StAt.ext {C : Addr} {H H' : Hp} (e : ExtN H H') (r : Spn) (a : Addr) (h : StAt C H r a) : StAt C H' r a := let ⟨dx, h⟩ := h; ⟨dx, e _ _ h fun ps z => by cases z⟩
theorem StAt.same {C : Addr} {H H' : Hp} (e : Same H H') (r : Spn) (a : Addr) (h : StAt C H r a) : StAt C H' r a := let ⟨dx, h⟩ := h; ⟨dx, e _ _ h⟩
theorem TuAt.ext {H H' : Hp} (e : ExtN H H') (r : Spn) (a : Addr) (h : TuAt H r a) : TuAt H' r a := e _ _ h fun ps z => by cases z
theorem TuAt.same {H H' : Hp} (e : Same H H') (r : Spn) (a : Addr) (h : TuAt H r a) : TuAt H' r a := e _ _ h
theorem StAt.but {C : Addr} {H H' : Hp} {p : Addr} {xs : List V} (e : But p H H') (hp : H p = some (.lst xs)) (r : Spn) (a : Addr) (h : StAt C H r a) : StAt C H' r a :=
  let ⟨dx, h⟩ := h; ⟨dx, e _ _ (fun z => by rw [z, hp] at h; cases h) h⟩
theorem TuAt.but {H H' : Hp} {p : Addr} {xs : List V} (e : But p H H') (hp : H p = some (.lst xs)) (r : Spn) (a : Addr) (h : TuAt H r a) : TuAt H' r a :=
  e _ _ (fun z => by rw [z] at h; exact absurd (hp.symm.trans h) (by intro z; cases z)) h
/-- a list or a tuple of these values is to be read at a -/
def LT (H : Hp) (a : Addr) (xs : List V) : Prop := H a = some (.lst xs) ∨ H a = some (.tup xs)
theorem LT.ext {H H' : Hp} {a : Addr} {xs : List V} (h : LT H a xs) (e : ExtN H H') : LT H' a xs := h.elim (fun h => .inl (e _ _ h fun ps z => by cases z)) fun h => .inr (e _ _ h fun ps z => by cases z)
end K7
namespace K7
open PySem L2 KD LamX
open C8 (Cal Mak Met Def pe_c pe_mk pe_mt pe_mt0 cal0 met0 mak0)
/-- a walk over one of two kinds of things -/
theorem pi_or {X : Cx} {tg l : Expr} {w1 w2 : TI} (h1 : PI X tg l w1) (h2 : PI X tg l w2) : PI X tg l (fun s H R => w1 s H R ∨ w2 s H R) :=
  ⟨fun pins s σ H R I h => h.elim (h1.run pins s σ H R I) (h2.run pins s σ H R I)⟩
section
variable {P : Program} {w : World} {K : PySem.W.Frag} {mg : Str → Option Value} {base : Heap}
/-! ### is_whole, is_list -/
def spWhole : Sp := fun vs H Q _ => ∃ x least : Int, vs = [.int x, .int least] ∧ Q (.bl (decide (least ≤ x))) H
theorem scWhole : FnScope ["thing", "least"] ["thing", "least"] (C8.fnScope sWhole) := ⟨rfl, rfl, rfl, by decide +kernel, rfl, by decide +kernel, by decide +kernel⟩
theorem cal_whole {f : Addr} {fd : FuncData} {ds : List Value} {dvs : List V} (F : Def K mg "is_whole" sWhole f fd) (b : Binds K fd ["thing", "least"] ds) (d : Vals dvs ds) (mI : mg "isinstance" = none) (mi : mg "int" = none) (mb : mg "bool" = none) :
    Cal P w K mg base 1 "is_whole" spWhole dvs := by
  refine cal0 F b d scWhole (fun vs H Q E h => ?_) (fun cdv A outer s H vs Q E hr h => ?_)
  · obtain ⟨x, l, rfl, _⟩ := h
    rfl
  · obtain ⟨x, l, rfl, k⟩ := h
    refine ⟨_, pss_one (ps_ret (pe_and (pe_callB call_isi (by rfl) mI (by decide +kernel) (pa_cons (pv 0) (pa_cons (pe_bltn (v := .ty "int") (by rfl) mi (by decide +kernel) rfl) pa_nil)))
      (pe_and (pe_not (pe_callB call_isi (by rfl) mI (by decide +kernel) (pa_cons (pv 0) (pa_cons (pe_bltn (v := .ty "bool") (by rfl) mb (by decide +kernel) rfl) pa_nil))))
      (pe_one (pe_cmp (pc_ge (pv 0) (pv 1)) rfl))))), ?_⟩
    refine ⟨_, rfl, _, _, _, _, true, rfl, .ty _, .base (.int x), kit_ty (by decide +kernel), true, rfl, iteT ?_⟩
    refine ⟨_, rfl, _, _, _, _, false, rfl, .ty _, .base (.int x), kit_ty (by decide +kernel), false, rfl, true, rfl, iteT ?_⟩
    exact ⟨_, rfl, _, rfl, _, _, rfl, rfl, k⟩
def spIsList : Sp := fun vs H Q _ => ∃ (a : Addr) (xs : List V), vs = [.ref a] ∧ LT H a xs ∧ ∀ H', Same H H' → Q (.bl true) H'
theorem scIsList : FnScope ["thing"] ["thing"] (C8.fnScope sIsList) := ⟨rfl, rfl, rfl, by decide +kernel, rfl, by decide +kernel, by decide +kernel⟩
theorem cal_isList {f : Addr} {fd : FuncData} (F : Def K mg "is_list" sIsList f fd) (b : Binds K fd ["thing"] []) (mI : mg "isinstance" = none) (ml : mg "list" = none) (mt : mg "tuple" = none) :
    Cal P w K mg base 1 "is_list" spIsList [] := by
  refine cal0 F b .nil scIsList (fun vs H Q E h => ?_) (fun cdv A outer s H vs Q E hr h => ?_)
  · obtain ⟨a, xs, rfl, _⟩ := h
    rfl
  · obtain ⟨a, xs, rfl, hL, k⟩ := h
    refine ⟨_, pss_one (ps_ret (pe_callB call_isiT (by rfl) mI (by decide +kernel) (pa_cons (pv 0) (pa_cons (pe_tup (pa_cons (pe_bltn (v := .ty "list") (by rfl) ml (by decide +kernel) rfl) (pa_cons (pe_bltn (v := .ty "tuple") (by rfl) mt (by decide +kernel) rfl) pa_nil))) pa_nil)))), ?_⟩
    refine ⟨_, rfl, (by show 2 ≤ sizeLine; decide), fun p hp => ?_⟩
    rcases hL with hL | hL
    · exact ⟨_, _, _, _, _, true, rfl, upd_same, .cons (.ty _) (.cons (.ty _) .nil), .base (.lst (Same.new hp _ _ hL)), kitAny_cons (b := true) (kit_ty (by decide +kernel)) (fun z => by cases z) (fun _ => rfl), k _ (Same.new hp)⟩
    · exact ⟨_, _, _, _, _, true, rfl, upd_same, .cons (.ty _) (.cons (.ty _) .nil), .base (.tup (Same.new hp _ _ hL)),
        kitAny_cons (b := false) (kit_ty (by decide +kernel)) (fun _ => kitAny_cons (b := true) (kit_ty (by decide +kernel)) (fun z => by cases z) (fun _ => rfl)) (fun z => by cases z), k _ (Same.new hp)⟩

/-! ### the class Stretch -/
/-- a good row -/
def Gd (r : Spn) : Prop := 0 ≤ r.1 ∧ ∀ e, r.2 = some e → r.1 ≤ e
/-- what is asked of the class -/
structure ClsS (K : PySem.W.Frag) (mg : Str → Option Value) (C : Addr) : Prop where
  cl : Cls K C
  nB : NoAttr K C "begin"
  nE : NoAttr K C "end"
  mgC : mg "Stretch" = some (.ref C)
def spInit (C : Addr) : Sp := fun vs H Q _ => ∃ (p dx : Addr) (r : Spn), vs = [.ref p, .int r.1, oV r.2] ∧ H p = some (.ins C dx []) ∧ Gd r ∧ ∀ H' : Hp, StAt C H' r p → (∀ b o, H b = some o → b ≠ p → H' b = some o) → Q .non H'
theorem scInit : FnScope ["self", "first", "last"] ["self", "first", "last"] (C8.fnScope sInit) := ⟨rfl, rfl, rfl, by decide +kernel, rfl, by decide +kernel, by decide +kernel⟩
theorem mak_stretch {C f : Addr} {fd : FuncData} {ds : List Value} {dvs : List V} (T : ClsS K mg C) (M : Mk K C f) (F : C8.Fun K "__init__" "Stretch.__init__" sInit f fd) (b : Binds K fd ["self", "first", "last"] ds) (d : Vals dvs ds)
    (c1 : Cal P w K mg base 1 "is_whole" spWhole [.int 0]) (c2 : Cal P w K mg base 1 "is_whole" spWhole []) : Mak P w K mg base 2 "Stretch" C (spInit C) dvs := by
  refine mak0 M T.mgC F b d scInit (fun vs H Q E h => ?_) (fun cdv A outer s H vs Q E hr h => ?_)
  · obtain ⟨p, dx, r, rfl, _⟩ := h
    rfl
  · obtain ⟨p, dx, ⟨fi, la⟩, rfl, hp, ⟨g0, g1⟩, k⟩ := h
    refine ⟨_, pss_cons (ps_if (pt_not (pt_val (pe_c c1 hr (by decide) (by rfl) (pa_cons (pv 1) pa_nil)))) (pss_one ps_never) pss_nil)
      (pss_cons (ps_if (PW.pt (pw_and (pt_cmp (pc_notN (pv 2))) (pw_and1 (pt_not (pt_val (pe_c c2 hr (by decide) (by rfl) (pa_cons (pv 2) (pa_cons (pv 1) pa_nil)))))))) (pss_one ps_never) pss_nil)
      (pss_cons (ps_fld (pv 0) (pv 1) rfl) (pss_one (ps_fld (pv 0) (pv 2) rfl)))), ?_⟩
    refine ⟨_, rfl, fi, 0, rfl, _, rfl, iteNS g0 ?_⟩
    cases la with
    | none =>
      refine ⟨_, rfl, _, rfl, iteF (iteF ?_)⟩
      refine ⟨_, rfl, _, rfl, p, C, dx, [], rfl, hp, T.cl, T.nB, (by show 0 < 1000; decide), _, rfl, _, rfl, p, C, dx, _, rfl, upd_same, T.cl, T.nE, (by show 1 < 1000; decide), ?_⟩
      exact k _ ⟨dx, upd_same⟩ fun b o e hb => by rw [upd_ne hb, upd_ne hb]; exact e
    | some y =>
      refine ⟨_, rfl, _, rfl, iteT ?_⟩
      refine ⟨_, rfl, _, rfl, y, fi, rfl, _, rfl, iteNS (g1 y rfl) ?_⟩
      refine ⟨_, rfl, _, rfl, p, C, dx, [], rfl, hp, T.cl, T.nB, (by show 0 < 1000; decide), _, rfl, _, rfl, p, C, dx, _, rfl, upd_same, T.cl, T.nE, (by show 1 < 1000; decide), ?_⟩
      exact k _ ⟨dx, upd_same⟩ fun b o e hb => by rw [upd_ne hb, upd_ne hb]; exact e
def spFirst (C : Addr) : Sp := fun vs H Q _ => ∃ (a : Addr) (r : Spn), vs = [.ref a] ∧ StAt C H r a ∧ Q (.int r.1) H
def spLast (C : Addr) : Sp := fun vs H Q _ => ∃ (a : Addr) (r : Spn), vs = [.ref a] ∧ StAt C H r a ∧ Q (oV r.2) H
theorem scFirst : FnScope ["self"] ["self"] (C8.fnScope sFirst) := ⟨rfl, rfl, rfl, by decide +kernel, rfl, by decide +kernel, by decide +kernel⟩
theorem scLast : FnScope ["self"] ["self"] (C8.fnScope sLast) := ⟨rfl, rfl, rfl, by decide +kernel, rfl, by decide +kernel, by decide +kernel⟩
theorem met_first {C f : Addr} {fd : FuncData} (T : ClsS K mg C) (me : Meth K C "first" f) (F : C8.Fun K "first" "Stretch.first" sFirst f fd) (b : Binds K fd ["self"] []) : Met P w K mg base 1 C "first" (spFirst C) [] := by
  refine met0 T.cl me F b scFirst (fun vs H Q E h => ?_) (fun cdv A outer s H vs Q E hr h => ?_)
  · obtain ⟨a, r, rfl, _⟩ := h
    rfl
  · obtain ⟨a, r, rfl, ⟨dx, ha⟩, k⟩ := h
    refine ⟨_, pss_one (ps_ret (pe_fld (pv 0) rfl)), ?_⟩
    exact ⟨_, rfl, a, C, dx, _, _, rfl, ha, T.cl, T.nB, fl_begin r, k⟩
theorem met_last {C f : Addr} {fd : FuncData} (T : ClsS K mg C) (me : Meth K C "last" f) (F : C8.Fun K "last" "Stretch.last" sLast f fd) (b : Binds K fd ["self"] []) : Met P w K mg base 1 C "last" (spLast C) [] := by
  refine met0 T.cl me F b scLast (fun vs H Q E h => ?_) (fun cdv A outer s H vs Q E hr h => ?_)
  · obtain ⟨a, r, rfl, _⟩ := h
    rfl
  · obtain ⟨a, r, rfl, ⟨dx, ha⟩, k⟩ := h
    refine ⟨_, pss_one (ps_ret (pe_fld (pv 0) rfl)), ?_⟩
    exact ⟨_, rfl, a, C, dx, _, _, rfl, ha, T.cl, T.nE, fl_end r, k⟩
/-- a day of a row, decided -/
def hasB (r : Spn) (d : Int) : Bool := decide (r.1 ≤ d) && (match r.2 with | none => true | some e => decide (d ≤ e))
theorem hasB_iff {r : Spn} {d : Int} : hasB r d = true ↔ inR r d := by
  obtain ⟨f, l⟩ := r
  unfold hasB
  rw [Bool.and_eq_true]
  cases l with
  | none => rw [inR_none]; simp
  | some e => rw [inR_some]; simp
def spHas (C : Addr) : Sp := fun vs H Q _ => ∃ (a : Addr) (r : Spn) (d : Int), vs = [.ref a, .int d] ∧ StAt C H r a ∧ 0 ≤ d ∧ Q (.bl (hasB r d)) H
theorem scHas : FnScope ["self", "day"] ["self", "day"] (C8.fnScope sHas) := ⟨rfl, rfl, rfl, by decide +kernel, rfl, by decide +kernel, by decide +kernel⟩
theorem met_has {C f : Addr} {fd : FuncData} (T : ClsS K mg C) (me : Meth K C "has" f) (F : C8.Fun K "has" "Stretch.has" sHas f fd) (b : Binds K fd ["self", "day"] []) (c1 : Cal P w K mg base 1 "is_whole" spWhole [.int 0]) : Met P w K mg base 2 C "has" (spHas C) [] := by
  refine met0 T.cl me F b scHas (fun vs H Q E h => ?_) (fun cdv A outer s H vs Q E hr h => ?_)
  · obtain ⟨a, r, d, rfl, _⟩ := h
    rfl
  · obtain ⟨a, ⟨f, l⟩, d, rfl, ⟨dx, ha⟩, h0, k⟩ := h
    refine ⟨_, pss_cons (ps_if (pt_not (pt_val (pe_c c1 hr (by decide) (by rfl) (pa_cons (pv 1) pa_nil)))) (pss_one ps_never) pss_nil)
      (pss_one (ps_ret (pe_and (pe_cmp (pc_le (pe_fld (pv 0) rfl) (pv 1)) rfl) (pe_one (pe_or (pe_cmp (pc_isN (pe_fld (pv 0) rfl)) rfl) (pe_one (pe_cmp (pc_le (pv 1) (pe_fld (pv 0) rfl)) rfl))))))), ?_⟩
    refine ⟨_, rfl, d, 0, rfl, _, rfl, iteNS h0 ?_⟩
    refine ⟨_, rfl, a, C, dx, _, _, rfl, ha, T.cl, T.nB, fl_begin _, _, rfl, _, _, rfl, rfl, _, rfl, ?_⟩
    refine ite2 (fun hd => ?_) (fun hd => ?_)
    · have hd' : f ≤ d := of_decide_eq_true hd
      refine ⟨_, rfl, a, C, dx, _, _, rfl, ha, T.cl, T.nE, fl_end _, ?_⟩
      cases l with
      | none =>
        have e : hasB (f, none) d = true := by simp [hasB, hd']
        rw [e] at k
        exact ⟨_, rfl, iteT k⟩
      | some y =>
        have e : hasB (f, some y) d = decide (d ≤ y) := by simp [hasB, hd']
        rw [e] at k
        exact ⟨_, rfl, iteF ⟨_, rfl, _, rfl, a, C, dx, _, _, rfl, ha, T.cl, T.nE, fl_end _, _, _, rfl, rfl, k⟩⟩
    · have hd' : ¬ f ≤ d := fun z => hd (decide_eq_true z)
      have e : hasB (f, l) d = false := by simp [hasB, hd']
      rw [e] at k
      exact k
end
end K7
namespace K7
open PySem L2 KD LamX
open C8 (Cal Mak Met Def pe_c pe_mk pe_mt pe_mt0 cal0 met0 mak0)
section
variable {P : Program} {w : World} {K : PySem.W.Frag} {mg : Str → Option Value} {base : Heap}
/-! ### == and repr of a Stretch -/
def EqR2 (C : Addr) : Addr → Addr → Hp → Prop := fun a b H => ∃ r : Spn, StAt C H r a ∧ StAt C H r b
theorem EqR2.mono {C : Addr} : ∀ a b H H', Ext H H' → EqR2 C a b H → EqR2 C a b H' := fun a b H H' e ⟨r, ⟨d1, h1⟩, ⟨d2, h2⟩⟩ => ⟨r, ⟨d1, e _ _ h1⟩, ⟨d2, e _ _ h2⟩⟩
theorem scEq : FnScope ["self", "other"] ["self", "other"] (C8.fnScope sEq) := ⟨rfl, rfl, rfl, by decide +kernel, rfl, by decide +kernel, by decide +kernel⟩
theorem fn_eq {C f : Addr} {fd : FuncData} (T : ClsS K mg C) (ic : C8.InsC K C) (F : C8.Fun K "__eq__" "Stretch.__eq__" sEq f fd) (mI : mg "isinstance" = none) : FnOk P w K mg base C8.CX0 1 f fd ["self", "other"] (spEq (EqR2 C)) := by
  refine C8.fn0 F scEq (fun vs H Q E h => ?_) (fun cdv A outer s H vs Q E hr h => ?_)
  · obtain ⟨a, b, rfl, _⟩ := h
    rfl
  · obtain ⟨a, b, rfl, ⟨⟨f, l⟩, ⟨d1, h1⟩, ⟨d2, h2⟩⟩, k⟩ := h
    refine ⟨_, pss_one (ps_ret (pe_and (pe_callB (C8.call_isC ic) (by rfl) mI (by decide +kernel) (pa_cons (pv 1) (pa_cons (pe_glob (v := .ref C) (by rfl) T.mgC rfl) pa_nil)))
      (pe_and (pe_cmp (pc_eqI (pe_fld (pv 0) rfl) (pe_fld (pv 1) rfl)) rfl) (pe_one (pe_cmpR op_eq (pe_fld (pv 0) rfl) (pe_fld (pv 1) rfl) (nomark _)))))), ?_⟩
    refine ⟨_, rfl, b, d2, _, rfl, h2, true, rfl, iteT ?_⟩
    refine ⟨_, rfl, a, C, d1, _, _, rfl, h1, T.cl, T.nB, fl_begin _, _, rfl, b, C, d2, _, _, rfl, h2, T.cl, T.nB, fl_begin _, _, _, rfl, rfl, _, rfl, ?_⟩
    refine ite2 (fun _ => ?_) (fun z => (z (decide_eq_true rfl)).elim)
    refine ⟨_, rfl, a, C, d1, _, _, rfl, h1, T.cl, T.nE, fl_end _, _, rfl, b, C, d2, _, _, rfl, h2, T.cl, T.nE, fl_end _, by cases l <;> rfl, ?_⟩
    have e : decide (oV l = oV l) = true := decide_eq_true rfl
    show Q (.bl (decide (oV l = oV l))) H
    rw [e]
    exact k H Ext.rfl'
/-- the text of a Stretch -/
def rT (r : Spn) : Str := match r.2 with
  | none => ((Str.empty ++ ("Stretch(" : Str)) ++ Str.ofString (toString r.1)) ++ (")" : Str)
  | some e => ((((Str.empty ++ ("Stretch(" : Str)) ++ Str.ofString (toString r.1)) ++ (", " : Str)) ++ Str.ofString (toString e)) ++ (")" : Str)
/-- small enough to be written -/
def Sm (r : Spn) : Prop := r.1.natAbs.log2 < 1920 ∧ ∀ e, r.2 = some e → e.natAbs.log2 < 1920
theorem rT_len {r : Spn} (h : Sm r) : (rT r).length ≤ 4000 := by
  obtain ⟨f, l⟩ := r
  have h1 := PyProof.Rows.int_text_len_1921 h.1
  have e1 : (("Stretch(" : Str)).length = 8 := by decide +kernel
  have e2 : ((")" : Str)).length = 1 := by decide +kernel
  have e3 : ((", " : Str)).length = 2 := by decide +kernel
  have e4 : Str.empty.length = 0 := by decide +kernel
  cases l with
  | none =>
    unfold rT
    simp only [strLen_append, e1, e2, e4]
    simp only at h1
    omega
  | some y =>
    have h2 := PyProof.Rows.int_text_len_1921 (h.2 y rfl)
    unfold rT
    simp only [strLen_append, e1, e2, e3, e4]
    simp only at h1
    omega
def spRepr (C : Addr) : Sp := fun vs H Q _ => ∃ (a : Addr) (r : Spn), vs = [.ref a] ∧ StAt C H r a ∧ Sm r ∧ Q (.str (rT r)) H
theorem scRepr : FnScope ["self"] ["self"] (C8.fnScope sRepr) := ⟨rfl, rfl, rfl, by decide +kernel, rfl, by decide +kernel, by decide +kernel⟩
theorem fn_repr {C f : Addr} {fd : FuncData} (T : ClsS K mg C) (F : C8.Fun K "__repr__" "Stretch.__repr__" sRepr f fd) : FnOk P w K mg base C8.CX0 1 f fd ["self"] (spRepr C) := by
  refine C8.fn0 F scRepr (fun vs H Q E h => ?_) (fun cdv A outer s H vs Q E hr h => ?_)
  · obtain ⟨a, r, rfl, _⟩ := h
    rfl
  · obtain ⟨a, ⟨f, l⟩, rfl, ⟨dx, ha⟩, hs, k⟩ := h
    refine ⟨_, pss_cons (ps_if (pt_cmp (pc_isN (pe_fld (pv 0) rfl))) (pss_one (ps_ret (pe_joined (.cons pe_str (.cons (pe_fmt (pe_fld (pv 0) rfl)) (.cons pe_str .nil)))))) pss_nil)
      (pss_one (ps_ret (pe_joined (.cons pe_str (.cons (pe_fmt (pe_fld (pv 0) rfl)) (.cons pe_str (.cons (pe_fmt (pe_fld (pv 0) rfl)) (.cons pe_str .nil)))))))), ?_⟩
    have hl := rT_len hs
    have h1 := PyProof.Rows.int_text_len_1921 hs.1
    have e1 : (("Stretch(" : Str)).length = 8 := by decide +kernel
    have e2 : ((")" : Str)).length = 1 := by decide +kernel
    have e3 : ((", " : Str)).length = 2 := by decide +kernel
    have e4 : Str.empty.length = 0 := by decide +kernel
    have hz : sizeLine = 16777216 := by decide
    simp only at h1
    refine ⟨_, rfl, a, C, dx, _, _, rfl, ha, T.cl, T.nE, fl_end _, _, rfl, ?_⟩
    cases l with
    | none =>
      refine iteT ⟨_, rfl, by rw [strLen_append, e1, e4, hz]; decide, _, rfl, a, C, dx, _, _, rfl, ha, T.cl, T.nB, fl_begin _, .inr ⟨f, rfl, hs.1, _, rfl, by simp only [strLen_append, e1, e4, hz]; omega, _, rfl, by simp only [strLen_append, e1, e2, e4, hz]; omega, k⟩⟩
    | some y =>
      have h2 := PyProof.Rows.int_text_len_1921 (hs.2 y rfl)
      refine iteF ⟨_, rfl, by rw [strLen_append, e1, e4, hz]; decide, _, rfl, a, C, dx, _, _, rfl, ha, T.cl, T.nB, fl_begin _, .inr ⟨f, rfl, hs.1, _, rfl, by simp only [strLen_append, e1, e4, hz]; omega, _, rfl, by simp only [strLen_append, e1, e3, e4, hz]; omega,
        _, rfl, a, C, dx, _, _, rfl, ha, T.cl, T.nE, fl_end _, .inr ⟨y, rfl, hs.2 y rfl, _, rfl, by simp only [strLen_append, e1, e3, e4, hz]; omega, _, rfl, by simp only [strLen_append, e1, e2, e3, e4, hz]; omega, k⟩⟩⟩

/-! ### farther_day, nearer_day -/
def spFar : Sp := fun vs H Q _ => ∃ a b : Option Int, vs = [oV a, oV b] ∧ Q (oV (far a b)) H
def spNear : Sp := fun vs H Q _ => ∃ a b : Option Int, vs = [oV a, oV b] ∧ Q (oV (near a b)) H
theorem scFar : FnScope ["one", "other"] ["one", "other"] (C8.fnScope sFar) := ⟨rfl, rfl, rfl, by decide +kernel, rfl, by decide +kernel, by decide +kernel⟩
theorem scNear : FnScope ["one", "other"] ["one", "other"] (C8.fnScope sNear) := ⟨rfl, rfl, rfl, by decide +kernel, rfl, by decide +kernel, by decide +kernel⟩
theorem cal_far {f : Addr} {fd : FuncData} (F : Def K mg "farther_day" sFar f fd) (b : Binds K fd ["one", "other"] []) (mm : mg "max" = none) : Cal P w K mg base 1 "farther_day" spFar [] := by
  refine cal0 F b .nil scFar (fun vs H Q E h => ?_) (fun cdv A outer s H vs Q E hr h => ?_)
  · obtain ⟨a, b, rfl, _⟩ := h
    rfl
  · obtain ⟨a, b, rfl, k⟩ := h
    refine ⟨_, pss_cons (ps_if (PW.pt (pw_or (pt_cmp (pc_isN (pv 0))) (pw_or1 (pt_cmp (pc_isN (pv 1)))))) (pss_one (ps_ret pe_non)) pss_nil)
      (pss_one (ps_ret (pe_callB (call_max2 rfl) (by rfl) mm (by decide +kernel) (pa_cons (pv 0) (pa_cons (pv 1) pa_nil))))), ?_⟩
    cases a with
    | none => exact ⟨_, rfl, _, rfl, iteT (iteT k)⟩
    | some x =>
      cases b with
      | none => exact ⟨_, rfl, _, rfl, iteF ⟨_, rfl, _, rfl, iteT k⟩⟩
      | some y => exact ⟨_, rfl, _, rfl, iteF ⟨_, rfl, _, rfl, iteF ⟨_, rfl, _, rfl, x, y, rfl, k⟩⟩⟩
theorem cal_near {f : Addr} {fd : FuncData} (F : Def K mg "nearer_day" sNear f fd) (b : Binds K fd ["one", "other"] []) (mm : mg "min" = none) : Cal P w K mg base 1 "nearer_day" spNear [] := by
  refine cal0 F b .nil scNear (fun vs H Q E h => ?_) (fun cdv A outer s H vs Q E hr h => ?_)
  · obtain ⟨a, b, rfl, _⟩ := h
    rfl
  · obtain ⟨a, b, rfl, k⟩ := h
    refine ⟨_, pss_cons (ps_if (PW.pt (pw_or (pt_cmp (pc_isN (pv 0))) (pw_or1 (pt_cmp (pc_isN (pv 1)))))) (pss_one (ps_ret (pe_ifExp (pt_cmp (pc_isN (pv 0))) (pv 1) (pv 0)))) pss_nil)
      (pss_one (ps_ret (pe_callB (call_min2 rfl) (by rfl) mm (by decide +kernel) (pa_cons (pv 0) (pa_cons (pv 1) pa_nil))))), ?_⟩
    cases a with
    | none => exact ⟨_, rfl, _, rfl, iteT (iteT ⟨_, rfl, _, rfl, iteT ⟨_, rfl, by cases b <;> exact k⟩⟩)⟩
    | some x =>
      cases b with
      | none => exact ⟨_, rfl, _, rfl, iteF ⟨_, rfl, _, rfl, iteT ⟨_, rfl, _, rfl, iteF ⟨_, rfl, k⟩⟩⟩⟩
      | some y => exact ⟨_, rfl, _, rfl, iteF ⟨_, rfl, _, rfl, iteF ⟨_, rfl, _, rfl, x, y, rfl, k⟩⟩⟩
end
end K7
namespace K7
open PySem L2 KD LamX
open C8 (Cal Mak Met Def pe_c pe_mk pe_mt pe_mt0 cal0 met0 mak0)
/-! ### lists told unlike: != with the items' own == -/
section
open PySem.SeqAt
open AutoSeq1 (wpAny_loadPart')
open MeetsSeq MeetsSeq2 MeetsSeq3 SeqRoads2
variable {pg : Program} {wd : World} {Ar : Around} {Rs : Result → Shared → Prop}
theorem nq_turns (p q : Addr) (N : Nat) (J : Nat → Shared → Prop) (hJ : GQ.ListI pg wd Ar (fun e s' => Rs (.error e) s') p q N J) (done : ∀ s, J N s → Rs (.ok (.ret (.bool false))) s) :
    ∀ (m j : Nat), N - j = m → j ≤ N → ∀ s, J j s →
      wpAny (model pg wd) Ar.in1 (Builtin.«list.__eq__.loop» ⟨[.ref p, .ref q, rawInt j, rawInt 3], []⟩) (GQ.FinOf pg wd Ar Rs) (fun e s' => Rs (.error e) s') s
  | 0, j, hm, hj, s, h => by
    obtain ⟨us, vs, c1, c2, g1, g2, z1, z2, _⟩ := hJ _ _ h
    have ej : j = N := by omega
    have hd : Rs (.ok (.ret (.bool false))) s := done s (ej ▸ h)
    obtain ⟨x1, x2, x3, x4, x5⟩ := s
    wp_walk using wpAny_loadPart' g1, wpAny_loadPart' g2
    have n1 : us[((j : Nat) : Int).toNat]? = none := by simp; omega
    have n2 : vs[((j : Nat) : Int).toNat]? = none := by simp; omega
    rw [n1, n2]
    wp_walk using wpAny_loadPart' g1, wpAny_loadPart' g2
    show Rs (.ok (.ret (.bool (us.size != vs.size)))) _
    rw [z1, z2]
    simpa using hd
  | m + 1, j, hm, hj, s, h => by
    obtain ⟨us, vs, c1, c2, g1, g2, z1, z2, step⟩ := hJ _ _ h
    have l1 : j < us.size := by omega
    have l2 : j < vs.size := by omega
    have ht := step l1 l2
    obtain ⟨x1, x2, x3, x4, x5⟩ := s
    wp_walk using wpAny_loadPart' g1, wpAny_loadPart' g2
    have n1 : us[((j : Nat) : Int).toNat]? = some us[j] := by simp [l1]
    have n2 : vs[((j : Nat) : Int).toNat]? = some vs[j] := by simp [l2]
    have e1 : ((j : Int) + 1) = ((j + 1 : Nat) : Int) := by omega
    rw [n1, n2]
    refine wpAny_bind (wpAny_mono ht (fun r s2 h2 => ?_) fun _ _ z => z)
    obtain ⟨er, h2⟩ := h2
    subst er
    have more := nq_turns p q N J hJ done m (j + 1) (by omega) (by omega) s2 h2
    obtain ⟨y1, y2, y3, y4, y5⟩ := s2
    wp_walk
    rw [e1]
    refine ⟨plainId_quiet plain_eq_loop _, codeAny_builtin entry_eq_loop ?_⟩
    rw [Around.under_plainId plain_eq_loop _]
    exact more
theorem nq_lists (p q : Addr) (N : Nat) (J : Nat → Shared → Prop) (hJ : GQ.ListI pg wd Ar (fun e s' => Rs (.error e) s') p q N J) (done : ∀ s, J N s → Rs (.ok (.ret (.bool false))) s) {s : Shared} (h : J 0 s) :
    wpAny (model pg wd) Ar.in1 (Builtin.«list.__ne__» ⟨[.ref p, .ref q], []⟩) (GQ.FinOf pg wd Ar Rs) (fun e s' => Rs (.error e) s') s := by
  obtain ⟨us, vs, c1, c2, g1, g2, z1, z2, _⟩ := hJ _ _ h
  have more := nq_turns (Ar := Ar) (Rs := Rs) p q N J hJ done _ 0 rfl (Nat.zero_le _) s h
  obtain ⟨x1, x2, x3, x4, x5⟩ := s
  have sb := AutoSeq1.sub_list_list
  have same : ¬ (us.size != vs.size) = true := by simp [z1, z2]
  wp_walk using wpAny_loadPart' g1, wpAny_loadPart' g2
  refine ⟨plainId_quiet plain_eq_loop _, codeAny_builtin entry_eq_loop ?_⟩
  rw [Around.under_plainId plain_eq_loop _]
  exact more
theorem nq_rich {p q : Addr} {N : Nat} {E : Value → Shared → Prop} {Q : Value → Shared → Prop} {s : Shared} (hu : Ar.units < cLine) (J : Nat → Shared → Prop) (hJ : GQ.ListI pg wd Ar E p q N J) (done : ∀ s, J N s → Q (.bool false) s) (h : J 0 s) :
    wpAny (model pg wd) Ar (richCompare .NotEq (.ref p) (.ref q)) Q E s := by
  obtain ⟨us, vs, c1, c2, g1, g2, _, _, _⟩ := hJ _ _ h
  refine wpAny_richCompare_same_room (op := .NotEq) ⟨_, g1, rfl⟩ ⟨_, g2, rfl⟩ F.slot_list_ne (GQ.call_here F.slot_list_ne ⟨_, g1, rfl⟩ F.entry_list_ne (F.args_list_ne_2 _ _) ?_) hu
  exact nq_lists (Rs := wants (fun v s' => v ≠ .notImplemented ∧ Q v s') E) p q N J hJ (fun s' z => ⟨(fun x => nomatch x), done s' z⟩) h
end
/-- xs != ys: lists of one length, item by item equal; or of unlike lengths -/
def rNeG (D : Eqv) : R2 := fun x y H Q => (DList D x y H ∧ ∀ H', Ext H H' → Q (.bl false) H') ∨
  ∃ a b xs ys, x = .ref a ∧ y = .ref b ∧ H a = some (.lst xs) ∧ H b = some (.lst ys) ∧ xs.length ≠ ys.length ∧ Q (.bl true) H
theorem op_neG {X : Cx} {n : Nat} {D : Eqv} (hD : Mon D) (h : EqG X n D) (hr : Room (n + 1) X.A) : OpR X (compareOp .NotEq) (rNeG D) := by
  intro pins s σ H x y v u Q I rx ry hq
  show wpAny (model X.prog X.w) X.A (richCompare .NotEq v u) (EP X pins σ Q) X.xe s
  rcases hq with ⟨⟨a, b, xs, ys, rfl, rfl, ha, hb, pr⟩, q⟩ | ⟨a, b, xs, ys, rfl, rfl, ha, hb, hne, q⟩
  · cases rx
    cases ry
    refine nq_rich (N := xs.length) hr.units0 (fun _ s' => LoopI X pins σ H s') (fun j s' z => ?_) (fun s' z => ?_) ⟨H, I, Ext.rfl'⟩
    · obtain ⟨H1, I1, e1⟩ := id z
      obtain ⟨_, is1, k1, r1, g1⟩ := I1.hok a _ (e1 _ _ ha)
      obtain ⟨_, is2, k2, r2, g2⟩ := I1.hok b _ (e1 _ _ hb)
      refine ⟨is1.toArray, is2.toArray, k1, k2, g1, g2, by rw [List.size_toArray, ← r1.length], by rw [List.size_toArray, ← r2.length, ← pr.1], fun l1 l2 => ?_⟩
      exact turnG hD h ⟨hr, rfl⟩ pr r1 r2 j l1 l2 s' z
    · obtain ⟨H', I', e⟩ := z
      exact ⟨.bl false, H', I', rfl, q H' e⟩
  · cases rx
    cases ry
    obtain ⟨_, is1, k1, r1, g1⟩ := I.hok a _ ha
    obtain ⟨_, is2, k2, r2, g2⟩ := I.hok b _ hb
    have hz : (is1.toArray.size != is2.toArray.size) = true := by
      rw [List.size_toArray, List.size_toArray, ← r1.length, ← r2.length]
      simpa using hne
    refine wpAny_richCompare_same_room (op := .NotEq) ⟨_, g1, rfl⟩ ⟨_, g2, rfl⟩ F.slot_list_ne (GQ.call_here F.slot_list_ne ⟨_, g1, rfl⟩ F.entry_list_ne (F.args_list_ne_2 _ _) ?_) hr.units0
    exact SeqAt.list_ne_lengthsAt a b is1.toArray is2.toArray k1 k2 none none #[] #[] hz X.prog X.w X.A (wants (fun v s' => v ≠ .notImplemented ∧ EP X pins σ Q v s') X.xe) s ⟨g1, g2, (fun z => nomatch z), .bl true, H, I, rfl, q⟩
end K7
namespace K7
open PySem L2 KD LamX
open C8 (Cal Mak Met Def pe_c pe_mk pe_mt pe_mt0 cal0 met0 mak0)
open Sem (wp) in
section
/-! ### repr of a list of Stretches -/
/-- the way the items' texts are made: the guard of the running list stands on the stack -/
theorem room_guard {k : Nat} {A : Around} (r : Room (k + 1) A) (g : Args) : Room k (A.under (.builtin "list.__repr__.loop" g)) := by
  have e1 : (A.under (.builtin "list.__repr__.loop" g)).depth = A.depth + 1 := by
    first | rfl | simp [Around.under, Code.weight, Code.isCreation, Code.isGuard, Code.isCaller, Code.frames, Code.isFrame, guardIds]
  have e2 : (A.under (.builtin "list.__repr__.loop" g)).units = A.units + 1 := units_under_list_loop A g
  refine ⟨r.hd, ?_, ?_⟩
  · have := r.dp
    rw [e1]
    omega
  · have := r.un
    rw [e2]
    omega
theorem sub_guard {X : Cx} {k : Nat} {A : Around} (b : L2.Sub X (k + 1) A) (g : Args) : L2.Sub X k (A.under (.builtin "list.__repr__.loop" g)) :=
  ⟨room_guard b.room g, by have := b.fr; simpa [Around.under, Code.envs, Code.isFrame, pushEnvs] using this⟩
theorem item_repr {X : Cx} {n : Nat} {A : Around} (sb : L2.Sub X n A) {C f : Addr} {fd : FuncData} (F : FnOk X.prog X.w X.K X.mg X.base C8.CX0 n f fd ["self"] (spRepr C)) (hs : PySem.W.findIn X.K (.ref C) "__repr__" = some (some (.ref f)))
    (hf : PySem.W.isFn X.K (.ref f) = true) (hb : Binds X.K fd ["self"] []) {pins : List (Addr × Obj)} {s : Shared} {σ : L2.St} {H : Hp} {a : Addr} {r : Spn} {z : Nat} {Q : Str → Shared → Prop} (I : Inv X pins σ H s) (ha : StAt C H r a) (hsm : Sm r) (hz : z ≤ sizeLine)
    (q : ∀ s', Inv X pins σ H s' → Q (rT r) s') : wpAny (model X.prog X.w) A (pyReprUnder z (.ref a)) Q X.xe s := by
  obtain ⟨dx, hi⟩ := id ha
  obtain ⟨mA, J, _⟩ := ins_get I.hok hi
  obtain ⟨od, J, _⟩ := J.look
  refine wpAny_pyReprUnder_ref hz ?_
  unfold pyReprObjUnder pyReprObjBy
  refine wpAny_bind (wpAny_cRoomFor sb.room.units0 ?_)
  refine wpAny_bind (wpAny_bind (J.type.here ((PySem.W.looks_findIn I.kIn hs).here ?_)))
  show wpAny _ _ (if (some (Value.ref f)).isNone = true then _ else _) _ _ _
  rw [if_neg (by simp)]
  have e0 : Env0 X.prog X.w X.K X.mg X.base A X.stack s H := by
    have e := I.env0
    exact ⟨by rw [sb.fr]; exact e.frames, e.mod, e.bs, e.bsz, e.funs, e.frf, e.hok, e.bare⟩
  have hsp : spRepr C [.ref a] H (fun v H' => v = .str (rT r) ∧ H' = H) (fun _ _ _ => False) := ⟨a, r, rfl, ha, hsm, rfl, rfl⟩
  have run : wpAny (model X.prog X.w) A (call (.ref f) [.ref a]) (fun v s' => ∃ u, v = .str (rT r) u ∧ Inv X pins σ H s') X.xe s := by
    refine wpAny_call (codeAny_mono (F.run A X.stack s H ⟨[.ref a], []⟩ [.ref a] [.ref a] _ _ sb.room e0 (by
      have := hb s [.ref a] I.kIn rfl
      simpa using this) (.cons rfl .nil) hsp) fun res s' hq => ?_)
    cases res with
    | error e => exact (show False from hq).elim
    | ok fl =>
      cases fl with
      | ret v =>
        obtain ⟨x, H', I', rx, ex, eh⟩ := I.after hq
        subst ex
        rw [eh] at I'
        obtain ⟨t, rfl⟩ := rx
        exact ⟨t, rfl, I'⟩
      | next => exact False.elim hq
      | brk => exact False.elim hq
      | cont => exact False.elim hq
  refine wpAny_bind (m := callSpecialIfBoundBy? _ (.ref a) (Str.ofString "__repr__")) ?_
  simp only [callSpecialIfBoundBy?, bindSpecialIfBound?]
  refine wpAny_holding (wpAny_bind (wpAny_bind (wpAny_bind (J.type.here ((PySem.W.looks_findIn I.kIn hs).here ?_)))))
  refine wpAny_bind (wpAny_askSetting (wpAny_ite ?_))
  have fin : wpAny (model X.prog X.w) A (call (.ref f) ([.ref a] ++ []) >>= fun v => pure (some v)) (fun o s' => ∃ u, o = some (.str (rT r) u) ∧ Inv X pins σ H s') X.xe s :=
    wpAny_bind (wpAny_mono run (fun v s' h' => by
      obtain ⟨u, rfl, I'⟩ := h'
      exact wpAny_pure ⟨u, rfl, I'⟩) fun _ _ h' => h')
  have last : ∀ (o : Option Value) (s' : Shared), (∃ u, o = some (.str (rT r) u) ∧ Inv X pins σ H s') →
      wpAny (model X.prog X.w) A (match o with
        | some r => do
          let z ← isInstance r (.type "str")
          if z = true then pure r else do raiseError "TypeError" s!"__repr__ returned non-string (type {← typeNameOf r})"
        | none => unsupported "repr:special-get-raises") (fun v s' => ∃ x u, v = .str x u ∧ Q x s') X.xe s' := fun o s' h' => by
    obtain ⟨u, rfl, I'⟩ := h'
    exact wpAny_bind (wpAny_isInstance (T := "str") (b := true) rfl isSubtype_str_str (wpAny_pure ⟨_, _, rfl, q s' I'⟩))
  split
  · refine wpAny_bind ((PySem.W.bind_fn I.kIn _ (beq_iff_eq.mp hf)).here (wpAny_pure ?_))
    exact wpAny_mono fin last fun _ _ x => x
  · refine wpAny_tryCatch (wpAny_bind ((PySem.W.bind_fn I.kIn _ (beq_iff_eq.mp hf)).here (wpAny_pure ?_)))
    exact wpAny_mono fin last fun _ _ x => x
theorem strs_back : ∀ {ts : List Str} {its : List Value}, Vals (ts.map V.str) its → ∃ done : List (Str × Tok), its = strValues done ∧ done.map (·.1) = ts
  | [], _, .nil => ⟨[], rfl, rfl⟩
  | t :: ts, _, .cons r rr => by
    obtain ⟨u, rfl⟩ := r
    obtain ⟨done, rfl, e⟩ := strs_back rr
    exact ⟨(t, u) :: done, rfl, by rw [List.map_cons, e]⟩
/-- all texts of the list, one behind another: the lengths -/
theorem piled_le {ts : List Str} {m : Nat} (h : ∀ t ∈ ts, t.length ≤ m) : piled ts ≤ ts.length * (m + 2) := by
  induction ts with
  | nil => simp [piled]
  | cons t r ih =>
    have h1 := h t List.mem_cons_self
    have h2 := ih fun x hx => h x (List.mem_cons_of_mem _ hx)
    rw [piled_cons, List.length_cons, Nat.succ_mul]
    omega
theorem text_le (ts : List Str) : (listText ts).length ≤ piled ts + 2 := by
  have e1 : ((("[" : String) : Str)).length = 1 := rfl
  have e2 : ((("]" : String) : Str)).length = 1 := rfl
  unfold listText
  rw [strLen_append, e2]
  cases ts with
  | nil =>
    show ((("[" : String) : Str)).length + 1 ≤ _
    rw [e1]
    omega
  | cons t r =>
    have h := textFrom_length_pos r 1 (("[" : Str) ++ (if (0 : Nat) > 0 then ", " else "" : String) ++ t) (Nat.succ_pos 0)
    have e : ((("[" : Str) ++ (if (0 : Nat) > 0 then ", " else "" : String) ++ t)).length = 1 + t.length := by
      rw [strLen_append, strLen_append]
      rfl
    show (textFrom 1 (("[" : Str) ++ (if (0 : Nat) > 0 then ", " else "" : String) ++ t) r).length + 1 ≤ _
    rw [h, e, piled_cons]
    omega
theorem loop_repr {X : Cx} {n : Nat} {A : Around} (sb : L2.Sub X (n + 1) A) {C f : Addr} {fd : FuncData} (F : FnOk X.prog X.w X.K X.mg X.base C8.CX0 n f fd ["self"] (spRepr C)) (hs : PySem.W.findIn X.K (.ref C) "__repr__" = some (some (.ref f)))
    (hf : PySem.W.isFn X.K (.ref f) = true) (hb : Binds X.K fd ["self"] []) {pins : List (Addr × Obj)} {σ : L2.St} {H : Hp} {a P : Addr} {rs : List Spn} {as : List Addr} {R : Result → Shared → Prop}
    (ha : H a = some (.lst (as.map V.ref))) (two : Two (StAt C H) rs as) (hsm : ∀ r ∈ rs, Sm r) (hP : H P = none) (hl : rs.length ≤ 1000) (hE : ∀ e s', X.xe e s' → R (.error e) s')
    (fin : ∀ s' u, Inv X pins σ (upd H P (.lst ((rs.map rT).map V.str))) s' → R (.ok (.ret (.str (listText (rs.map rT)) u))) s') :
    ∀ (k i : Nat) (s : Shared), rs.length - i = k → i ≤ rs.length → Inv X pins σ (upd H P (.lst (((rs.map rT).take i).map V.str))) s →
      codeAny (model X.prog X.w) A (.builtin "list.__repr__.loop" ⟨[.ref a, rawInt i, .ref P, rawInt ((piled ((rs.map rT).take i) : Nat) : Int)], []⟩) R s := by
  have haP : a ≠ P := ne_of_none ha hP
  have hlen : as.length = rs.length := two.len
  have hz : sizeLine = 16777216 := by decide
  have hts : ∀ t ∈ rs.map rT, t.length ≤ 4000 := fun t ht => by
    obtain ⟨r, hr, rfl⟩ := List.mem_map.mp ht
    exact rT_len (hsm r hr)
  have hpile : piled (rs.map rT) ≤ 1000 * 4002 := by
    have h1 := piled_le hts
    rw [List.length_map] at h1
    have h2 : rs.length * (4000 + 2) ≤ 1000 * 4002 := Nat.mul_le_mul_right _ hl
    omega
  have htext := text_le (rs.map rT)
  have same : ∀ xs : List V, Same H (upd H P (.lst xs)) := fun xs => Same.new hP
  intro k
  induction k with
  | zero =>
    intro i s hk hi I
    have ei : i = rs.length := by omega
    have et : (rs.map rT).take i = rs.map rT := List.take_of_length_le (by rw [List.length_map]; omega)
    rw [et] at I ⊢
    obtain ⟨_, is1, c1, r1, g1⟩ := I.hok a _ (same _ _ _ ha)
    obtain ⟨_, is2, c2, r2, g2⟩ := I.hok P _ upd_same
    obtain ⟨done, rfl, ed⟩ := strs_back r2
    refine codeAny_builtin PySem.F.entry_list_repr_loop ?_
    show wpAny _ _ (Builtin.«list.__repr__.loop» ⟨[.ref a, .int i 0, .ref P, .int ((piled (rs.map rT) : Nat) : Int) 0], []⟩) _ _ s
    rw [repr_loop_tree]
    refine wpAny_bind (wpAny_listItems g1 rfl ?_)
    have none1 : is1.toArray[(i : Int).toNat]? = none := by
      have := r1.length
      rw [List.length_map] at this
      simp
      omega
    simp only [none1]
    unfold reprEnd
    refine wpAny_bind (wpAny_listItems g2 rfl ?_)
    rw [List.toList_toArray, repr_fold]
    refine wpAny_bind (wpAny_pure ?_)
    rw [ed]
    have hsz : (textFrom 0 "[" (rs.map rT) ++ "]" : Str).length ≤ sizeLine := by
      show (listText (rs.map rT)).length ≤ _
      omega
    refine wpAny_bind (wpAny_mkStr (wpAny_pure ?_) hsz)
    exact fin _ _ (I.tok _)
  | succ k ih =>
    intro i s hk hi I
    have hlt : i < rs.length := by omega
    obtain ⟨b, hb1, hst⟩ := two.get (List.getElem?_eq_getElem hlt)
    have htk : ((rs.map rT).take (i + 1)) = (rs.map rT).take i ++ [rT rs[i]] := by
      rw [List.take_add_one, List.getElem?_map, List.getElem?_eq_getElem hlt]
      rfl
    have hp1 := piled_take_succ (ts := rs.map rT) (i := i) (t := rT rs[i]) (by rw [List.getElem?_map, List.getElem?_eq_getElem hlt]; rfl)
    have hp2 := piled_take_le (rs.map rT) (i + 1)
    obtain ⟨_, is1, c1, r1, g1⟩ := I.hok a _ (same _ _ _ ha)
    refine codeAny_builtin PySem.F.entry_list_repr_loop ?_
    show wpAny _ _ (Builtin.«list.__repr__.loop» ⟨[.ref a, .int i 0, .ref P, .int ((piled ((rs.map rT).take i) : Nat) : Int) 0], []⟩) _ _ s
    rw [repr_loop_tree]
    refine wpAny_bind (wpAny_listItems g1 rfl ?_)
    obtain ⟨u, hu, ru⟩ := r1.get (show (as.map V.ref)[i]? = some (V.ref b) by rw [List.getElem?_map, hb1]; rfl)
    cases ru
    have some1 : is1.toArray[(i : Int).toNat]? = some (.ref b) := by
      simpa using hu
    simp only [some1]
    rw [Int.toNat_natCast]
    refine wpAny_bind (wpAny_holding (wpAny_mono (item_repr (sub_guard sb _) F hs hf hb I (StAt.same (same _) _ _ hst) (hsm _ (List.getElem_mem hlt)) (by omega) (Q := fun t s' => t = rT rs[i] ∧ Inv X pins σ (upd H P (.lst (((rs.map rT).take i).map V.str))) s') fun s' I' => ⟨rfl, I'⟩)
      (fun t s' h' => ?_) fun e s' h' => hE e s' h'))
    obtain ⟨rfl, I'⟩ := h'
    refine wpAny_bind (wpAny_mkStr ?_ (by have := rT_len (hsm _ (List.getElem_mem hlt)); omega))
    refine wpAny_bind ?_
    show wpAny _ _ (updateSeq P _) _ _ _
    obtain ⟨_, is2, c2, r2, g2⟩ := I'.hok P _ upd_same
    have l2 := r2.length
    rw [List.length_map, List.length_take, List.length_map] at l2
    obtain ⟨c3, hc3⟩ : ∃ c3, (s'.heap.update P (Obj.mapSeq (·.push (Value.str (rT rs[i]) s'.toks)))).get? P = some { cls := .type "list", data := .seq (is2 ++ [Value.str (rT rs[i]) s'.toks]).toArray c3 } := by
      have ea : (is2 ++ [Value.str (rT rs[i]) s'.toks]).toArray = is2.toArray.push (Value.str (rT rs[i]) s'.toks) := by simp
      rw [ea]
      exact ⟨_, PyProof.Rows.get?_update_seq g2 (·.push (Value.str (rT rs[i]) s'.toks))⟩
    refine wpAny_updateSeq g2 rfl (wpAny_pure ⟨PySem.F.quiet_list_repr_loop _, ?_⟩) (by rw [List.size_toArray]; omega)
    have e1 : ((i : Int) + 1) = ((i + 1 : Nat) : Int) := by omega
    have e2 : piled ((rs.map rT).take i) + ((rT rs[i]).length + 2) = piled ((rs.map rT).take (i + 1)) := by omega
    rw [e1, e2]
    refine ih (i + 1) _ (by omega) hlt ?_
    rw [htk]
    have I2 := I'.write (x := P) (e := P) (o := .lst (((rs.map rT).take i ++ [rT rs[i]]).map V.str)) (t' := s'.toks + 1) (h' := s'.heap.update P (Obj.mapSeq (·.push (Value.str (rT rs[i]) s'.toks)))) (by rw [upd_same]; trivial) (.inl rfl)
      (fun d o hd e => (Heap.get?_update_ne _ _ _ _ hd).trans e) ⟨_, hc3⟩ ⟨by rw [List.length_map, List.length_append, List.length_take, List.length_map, List.length_singleton]; omega, _, c3, by rw [List.map_append]; exact r2.append (.cons ⟨_, rfl⟩ .nil), hc3⟩
    have eu : upd (upd H P (.lst (((rs.map rT).take i).map V.str))) P (.lst (((rs.map rT).take i ++ [rT rs[i]]).map V.str)) = upd H P (.lst (((rs.map rT).take i ++ [rT rs[i]]).map V.str)) := by
      funext d
      by_cases hd : d = P
      · subst hd
        rw [upd_same, upd_same]
      · rw [upd_ne hd, upd_ne hd, upd_ne hd]
    rw [eu] at I2
    exact I2
/-- the text of a list of rows -/
def lT : List Spn → Str
  | [] => "[]"
  | r :: rs => listText ((r :: rs).map rT)
def rRep (C : Addr) : List V → Hp → VK → Prop := fun xs H Q => ∃ (a : Addr) (as : List Addr) (rs : List Spn), xs = [.ref a] ∧ H a = some (.lst (as.map V.ref)) ∧ Two (StAt C H) rs as ∧ (∀ r ∈ rs, Sm r) ∧ rs.length ≤ 1000 ∧ ∀ H', Same H H' → Q (.str (lT rs)) H'
theorem call_reprL {X : Cx} {n : Nat} (hr : Room (n + 3) X.A) (hg : X.A.guards = some []) {C f : Addr} {fd : FuncData} (F : FnOk X.prog X.w X.K X.mg X.base C8.CX0 n f fd ["self"] (spRepr C)) (hs : PySem.W.findIn X.K (.ref C) "__repr__" = some (some (.ref f)))
    (hf : PySem.W.isFn X.K (.ref f) = true) (hb : Binds X.K fd ["self"] []) : CallR X (.builtin "repr") (rRep C) := by
  intro pins s σ H xs us Q I rv h
  obtain ⟨a, as, rs, rfl, ha, two, hsm, hl, q⟩ := h
  obtain rfl := Vals.ref1 rv
  obtain ⟨_, is1, c1, r1, g1⟩ := I.hok a _ ha
  have hu : X.A.units + 1 < cLine := hu_of hr
  have hu2 : X.A.in1.units < cLine := by show X.A.units + 1 < cLine; exact hu
  refine call_repr_slot hu ⟨_, g1, rfl⟩ PySem.F.slot_list_repr.toG ?_
  cases rs with
  | nil =>
    have e0 : as = [] := List.eq_nil_of_length_eq_zero two.len
    subst e0
    cases r1
    refine call_list_repr_empty ⟨_, g1, rfl⟩ g1 rfl ?_
    exact ⟨_, _, rfl, .str "[]", H, I.tok _, ⟨_, rfl⟩, q H (Same.refl H)⟩
  | cons r rs =>
    cases is1 with
    | nil =>
      have e1 := r1.length
      rw [List.length_map, two.len] at e1
      cases e1
    | cons x l =>
      have hf0 : H s.heap.objs.size = none := I.hok.fresh (Nat.le_refl _)
      refine wpAny_call (codeAny_call_builtin PySem.F.slot_list_repr.plain PySem.F.entry_list_repr (PySem.F.slot_list_repr.check _ _ _ _ _ _ _ _ ⟨_, g1, rfl⟩ (PySem.F.args_list_repr_1 _) ?_))
      refine wpAny_list_repr_head (A := X.A.in1.in1) (b := 0) hg (fun v rest kw hm => by cases hm) g1 rfl ?_
      refine wpAny_bind (m := newList []) (wpAny_newObj_type ?_)
      refine wpAny_pure ⟨PySem.F.quiet_list_repr_loop _, ?_⟩
      have I1 : L2.Inv X pins σ (upd H s.heap.objs.size (.lst (((( r :: rs).map rT).take 0).map V.str))) { s with heap := s.heap.push { cls := .type "list", data := .seq #[] } } :=
        I.laid (t' := s.toks) (fun b o e => Heap.get?_push_of_some _ e) (Nat.le_refl _) ⟨Nat.zero_le _, [], 0, .nil, Heap.get?_push_size _ rfl⟩
      have sb : L2.Sub X (n + 1) X.A.in1 := ⟨(hr.mono (by omega)).in1, rfl⟩
      exact loop_repr sb F hs hf hb ha two hsm hf0 hl (fun e s' h => h) (fun s' u I' => ⟨_, _, rfl, .str (lT (r :: rs)), _, I', ⟨_, rfl⟩, q _ (Same.new hf0)⟩) _ 0 _ rfl (Nat.zero_le _) I1
end
end K7
namespace K7
open PySem L2 KD LamX
open C8 (Cal Mak Met Def pe_c pe_mk pe_mt pe_mt0 cal0 met0 mak0)
/-! ### sorted(rows, key=lambda pair: pair[0]) -/
section
open PySem.W (EachIs KeyPure)
/-- the lambda, called with a tuple: its first item; all stays -/
theorem first_key {pg : Program} {wd : World} {A : Around} {s : Shared} {f c' t : Addr} {q : Str} {pm ctv : Value} {params : Arguments} {body : Expr} {scope : Scope} {cl : List (Str × Addr)} {n : Int} {its : Array Value} {x : Str} {p1 p2 p3 : Pos} {k : Nat}
    (ho : s.heap.get? f = some (PySem.W.kla_obj "<lambda>" q params body scope cl pm c' ctv)) (hcd : s.heap.CodeRec (.ref c') q) (hl : s.heap.NoLimit) (hd : A.depth < recursionLimit)
    (hb : body = .Subscript (.Name x p1) (.Constant (.int 0) k p2) p3) (hs : scope.kind = .function ∧ scope.isCoroutine = false ∧ scope.isGenerator = false ∧ scope.names = [(x, .local)])
    (hbind : ∀ u : Value, bindArgs (PySem.W.kla_fn "<lambda>" q params body scope cl pm (.ref c') ctv) ⟨[u], []⟩ = pure [(x, u)]) (hx : (x == ("__debug__" : Str)) = false)
    (ht : PyProof.Rows.IsTup s.heap t its) (h0 : ∃ tk, its[0]? = some (.int n tk)) :
    wpAny (model pg wd) A (call (.ref f) [.ref t]) (KeyPure (.int n) s) (fun _ _ => False) s := by
  obtain ⟨tk, h0⟩ := h0
  obtain ⟨k1, k2, k3, k4⟩ := hs
  refine wpAny_call (PySem.W.kla_callFunE hd ho rfl k2 k3 rfl hcd ?_)
  rw [hbind]
  refine wpAny_pure (wpAny_newFunctionEnv (fun y hy => ?_) (fun y hy => ?_) (fun h₁ hns hsb => ⟨hl.fresh _ hsb, ?_⟩) k1)
  · have hy : y ∈ scope.names := hy
    rw [k4] at hy
    obtain rfl := List.mem_singleton.mp hy
    intro z
    cases z
  · obtain rfl := List.mem_singleton.mp hy
    show scope.names.lookup x = some .local
    rw [k4]
    simp
  · refine PySem.W.kla_codeExpr ?_
    have kp : ∀ b o, s.heap.get? b = some o → h₁.get? b = some o := fun b o e => hsb.extBut b o (Nat.ne_of_lt (Heap.lt_size e)) (Heap.get?_push_of_some _ e)
    have ht' : PyProof.Rows.IsTup h₁ t its := by
      obtain ⟨o, e, r⟩ := ht
      exact ⟨o, kp _ _ e, r⟩
    rw [hb]
    refine PyProof.Rows.Subscript_ ?_
    refine wpAny_Name (wpAny_loadName_local (v := .ref t) k1 (by show scope.names.lookup x = some .local; rw [k4]; simp) hns (by simp) ?_) hx
    refine wpAny_Constant_int ?_
    have hsz : 0 < its.size := by
      have := (Array.getElem?_eq_some_iff.mp h0).1
      exact this
    refine PyProof.Rows.subscriptTail_builtinR (x := .int n tk) ht'.typeIs PyProof.Rows.slot_tuple_getitem.lookup
      (PyProof.Rows.getItem_tuple (j := 0) (Q := fun r s' => r = .int n tk ∧ _) ht' (by decide) (by decide) (by simp [seqIndex?, hsz]) h0 ⟨rfl, ?_⟩) (by rfl)
    exact ⟨_, _, rfl, kp, Reads.int n tk⟩
/-- what stands in the list that is sorted, and what comes of it -/
def kSrt (K : PySem.W.Frag) (T : List (Addr × Str)) (Q : VK) : VK := fun x H1 => ∃ (a : Addr) (bs : List (Addr × Spn)), x = .ref a ∧ SqL K H1 a (bs.map fun q => V.ref q.1) ∧ (∀ q ∈ bs, TuAt H1 q.2 q.1) ∧ Tabs T H1 ∧
  ∀ (H2 : Hp) (p : Addr) (cs : List (Addr × Spn)), ExtN H1 H2 → Tabs T H2 → cs.Perm bs → cs.Pairwise (fun x y => x.2.1 ≤ y.2.1) → H2 p = none → Q (.ref p) (upd H2 p (.lst (cs.map fun q => V.ref q.1)))
def tSrt (K : PySem.W.Frag) (T : List (Addr × Str)) (te : TE) : TE := fun σ H Q => te σ H (kSrt K T Q)
theorem each_refs {P : Value → (Addr × Spn) → Prop} : ∀ {bs : List (Addr × Spn)} {vs : List Value}, Vals (bs.map fun q => V.ref q.1) vs → (∀ q ∈ bs, P (.ref q.1) q) → EachIs P vs bs
  | [], _, .nil, _ => .nil
  | q :: bs, _, .cons r rr, h => by
    cases r
    exact .cons (h q List.mem_cons_self) (each_refs rr fun x hx => h x (List.mem_cons_of_mem _ hx))
theorem refs_each {P : Value → (Addr × Spn) → Prop} (hP : ∀ v q, P v q → v = .ref q.1) : ∀ {bs : List (Addr × Spn)} {vs : List Value}, EachIs P vs bs → Vals (bs.map fun q => V.ref q.1) vs
  | [], _, .nil => .nil
  | q :: bs, _, .cons r rr => .cons (hP _ _ r) (refs_each hP rr)
theorem pe_sortedK {X : Cx} {T : List (Addr × Str)} {c P : Addr} {ql : Str} (TB : TabB X.base X.mg c P) (hcode : X.env.code = .ref c) (hql : X.env.qual ++ "<lambda>" = ql) (hmT : (P, ql) ∈ T) (hu : ∀ p ∈ T, p.1 = P → p.2 = ql) (hr : Room 3 X.A)
    {e body : Expr} {te : TE} {params : Arguments} {scope : Scope} {p kpos lpos pos p1 p2 p3 : Pos} {x : Str} {k : Nat} (hg : Gl X "sorted") (hm : X.mg "sorted" = none) (he : PE X e te) (hdef : defaultsOf params X.env = ([], []))
    (hb : body = .Subscript (.Name x p1) (.Constant (.int 0) k p2) p3) (hs : scope.kind = .function ∧ scope.isCoroutine = false ∧ scope.isGenerator = false ∧ scope.names = [(x, .local)])
    (hbind : ∀ (q : Str) (cl : List (Str × Addr)) (pm cv ctv u : Value), bindArgs (PySem.W.kla_fn "<lambda>" q params body scope cl pm cv ctv) ⟨[u], []⟩ = pure [(x, u)]) (hx : (x == ("__debug__" : Str)) = false)
    (hst : starEach [e] X.env = (false, eval e X.env) :: starEach [] X.env := by rfl) (hbk : backTo pos (starEach [e] X.env) = (false, eval e X.env) :: backTo pos (starEach [] X.env) := by rfl) (hpl : (backTo pos (starEach [e] X.env)).any (·.1) = false := by rfl) :
    PE X (.Call (.Name "sorted" p) [e] [⟨some "key", .Lambda params body scope lpos, kpos⟩] pos) (tSrt X.K T te) := by
  subst hql
  refine ⟨fun pins s σ H Q I h => ?_⟩
  refine wpAny_Call_Name_kw (ld_blt I hg hm (show bootBuiltins "sorted" = some (.builtin "sorted") by decide +kernel) ?_ (by decide) (by decide))
  refine PyProof.Rows.callWith_kw (thn ((pa_cons he pa_nil hst).run pos pins s σ H (fun xs H1 => match xs with | [x] => kSrt X.K T Q x H1 | _ => False) I h) fun us s1 hq => ?_) hbk hpl (by rfl) (by rfl)
  obtain ⟨vs, H1, I1, r1, q1⟩ := hq
  match vs, r1, q1 with
  | [x1], .cons r0 .nil, q1 =>
  obtain ⟨a, bs, e1, hS, hTu, hT, q⟩ := q1
  subst e1
  cases r0
  show wpAny _ _ (evalAll ((do let v ← eval (.Lambda params body scope lpos) X.env; standAt pos; pure v) :: [])) _ _ s1
  refine wpAny_evalAll_cons (wpAny_bind (lam_make2 I1 TB hcode hmT hu hT hdef (fun y hy z => ?_) fun f c' pm ctv H2 s2 I2 eN T2 hf hfn hfr hco => wpAny_bind (wpAny_standAt (wpAny_pure (wpAny_evalAll_nil ?_)))))
  · rw [hs.2.2.2] at hy
    obtain rfl := List.mem_singleton.mp hy
    cases z
  · show wpAny _ _ (call (.builtin "sorted") [.ref a] [(Str.ofString "key", .ref f)]) _ _ s2
    have hS2 : SqL X.K H2 a (bs.map fun q => V.ref q.1) := ExtN.seqL eN hS
    obtain ⟨its, rv, hl, hz⟩ := I2.list hS2
    rw [List.length_map] at hz
    have tu2 : ∀ q ∈ bs, H2 q.1 = some (.tup [.int q.2.1, oV q.2.2]) := fun q hq => TuAt.ext eN _ _ (hTu q hq)
    have itm : ∀ q ∈ bs, ∃ its2 : List Value, Vals [.int q.2.1, oV q.2.2] its2 ∧ PyProof.Rows.IsTup s2.heap q.1 its2.toArray := fun q hq => (I2.hok _ _ (tu2 q hq)).2
    obtain ⟨⟨oc, vs1, tk1, ho1, hd1, hv1⟩, _, _⟩ := I2.hok c' _ hco
    have hsz : sizeLine = 16777216 := by decide
    refine PySem.W.sorted_key_data (β := Addr × Spn) (b := false) (R := fun v q => v = .ref q.1 ∧ ∃ its2 : List Value, Vals [.int q.2.1, oV q.2.2] its2 ∧ PyProof.Rows.IsTup s2.heap q.1 its2.toArray) (fun q => .int q.2.1)
      hl.isList (each_refs rv fun q hq => ⟨rfl, itm q hq⟩) ?al ?so hz ?un (PyProof.Rows.ksk_s1 _ _) (fun _ => PyProof.Rows.ksk_l1 _ _) (fun _ => PyProof.Rows.ksk_t1 _ _) ?turn ?done
    case al =>
      intro d hd d' hd'
      obtain ⟨q1, _, rfl⟩ := List.mem_map.mp hd
      obtain ⟨q2, _, rfl⟩ := List.mem_map.mp hd'
      rfl
    case so =>
      refine .inr fun d hd => ?_
      obtain ⟨q1, _, rfl⟩ := List.mem_map.mp hd
      exact ⟨fun z => (by cases z), fun xs z => (by cases z)⟩
    case un =>
      intro q _
      have := hr.un
      have e0 : (PyData.int q.2.1).depth = 0 := by simp [PyData.depth]
      rw [e0]
      omega
    case turn =>
      rintro v q ⟨rfl, its2, rv2, ht⟩ _ h' tk kp
      cases rv2 with
      | cons ri rr =>
        obtain ⟨t0, rfl⟩ := ri
        have kpT : ∀ arr, PyProof.Rows.IsTup s2.heap q.1 arr → PyProof.Rows.IsTup h' q.1 arr := fun arr ⟨o, e, z⟩ => ⟨o, kp _ _ e, z⟩
        refine first_key (s := { s2 with heap := h', toks := tk }) (kp _ _ hf) ⟨c', oc, vs1, tk1, rfl, kp _ _ ho1, hd1, hv1⟩ (I2.nolimit.keeps kp) ?_ hb hs (hbind _ _ _ _ _) hx (kpT _ ht) ⟨t0, by simp⟩
        have := hr.dp
        show X.A.depth < recursionLimit
        omega
    case done =>
      intro out cc h' tk kp fresh hD hlen he
      rw [PySem.W.dataLe_int (fun q : Addr × Spn => q.2.1)] at he
      have pm := List.mergeSort_perm bs (fun a b => decide (a.2.1 ≤ b.2.1))
      have hle : ((bs.mergeSort fun a b => decide (a.2.1 ≤ b.2.1)).map fun q => V.ref q.1).length ≤ sizeLine := by
        rw [List.length_map, pm.length_eq]
        exact hz
      have vv := refs_each (fun v q z => z.1) he
      have hfr2 : H2 (s2.heap.objs.size + 1) = none := I2.hok.fresh (Nat.le_succ _)
      refine ⟨.ref _, upd H2 (s2.heap.objs.size + 1) (.lst ((bs.mergeSort fun a b => decide (a.2.1 ≤ b.2.1)).map fun q => V.ref q.1)), I2.laid (t' := tk) (fun b o e => kp b o e) (Nat.le_succ _) ⟨hle, out, cc, vv, hD⟩, rfl, q H2 _ _ eN T2 pm ?_ hfr2⟩
      have ps := List.pairwise_mergeSort (le := fun a b : Addr × Spn => decide (a.2.1 ≤ b.2.1)) (fun a b c h1 h2 => by simp at h1 h2 ⊢; omega) (fun a b => by simp; omega) bs
      exact ps.imp fun h => by simpa using h
end
end K7
namespace K7
open PySem L2 KD LamX
open C8 (Cal Mak Met Def pe_c pe_mk pe_mt pe_mt0 cal0 met0 mak0)
/-! readings opened, one word at a time -/
section
variable {σ : L2.St} {H : Hp} {Q : VK} {QT : Bool → Hp → Prop} {QA : List V → Hp → Prop} {D : Ends}
theorem i_not {t : TT} (h : t σ H fun c H1 => QT (!c) H1) : tNot t σ H QT := h
theorem i_b {t : TE} (h : t σ H fun x H1 => ∃ c, x = .bl c ∧ QT c H1) : tB t σ H QT := h
theorem i_test {t : TE} (h : t σ H fun x H1 => ∃ c, x = .bl c ∧ QT c H1) : tTest t σ H QT := h
theorem i_cb {r : List V → Hp → VK → Prop} {t : TA} (h : t σ H fun vs H1 => r vs H1 Q) : tCB r t σ H Q := h
theorem i_cons {ta : TE} {tr : TA} (h : ta σ H fun x H1 => tr σ H1 fun xs H2 => QA (x :: xs) H2) : tCons ta tr σ H QA := h
theorem i_call {sp : Sp} {dvs : List V} {E : XK} {t : TA} (h : t σ H fun vs H1 => sp (vs ++ dvs) H1 Q E) : tCall sp dvs E t σ H Q := h
theorem i_ret {te : TE} (h : te σ H D.rt) : tRet te D σ H := h
theorem i_asg {te : TE} {g : TG} (h : te σ H fun x H1 => g x σ H1 D.nx) : tAsg te g D σ H := h
theorem i_seq {t u : TS} (h : t { D with nx := u D } σ H) : tSeq t u D σ H := h
theorem i_ifs {c : TT} {t u : TS} (h : c σ H fun b H1 => if b = true then t D σ H1 else u D σ H1) : tIfS c t u D σ H := h
theorem i_op {r : R2} {ta tb : TE} (h : ta σ H fun x H1 => tb σ H1 fun y H2 => r x y H2 Q) : tOp r ta tb σ H Q := h
theorem i_lst {t : TA} (h : t σ H fun xs H1 => xs.length ≤ sizeLine ∧ ∀ p, H1 p = none → Q (.ref p) (upd H1 p (.lst xs))) : tLst t σ H Q := h
end
/-- behind a turn of a comprehension: the item is appended -/
def Aft (D : Addr) (PV : Hp → Prop) : VK := fun y H4 => ∃ acc, H4 D = some (.lst acc) ∧ acc.length < sizeLine ∧ PV (upd H4 D (.lst (acc ++ [y])))
/-- a comprehension over a list or a tuple that stays -/
theorem lc_lt {K : PySem.W.Frag} {a : Addr} {xs : List V} {g : TG} {te tl : TE} {vs : List Nat} {σ : L2.St} {H H1 : Hp} {Qd : VK} (hv : ∀ R : VK, R (.ref a) H1 → tl σ H R) (hL : LT H1 a xs) (Pv : Addr → Nat → Hp → Prop)
    (h0 : ∀ D, H1 D = none → Pv D 0 (upd H1 D (.lst []))) (hl : ∀ D i H', Pv D i H' → Same H1 H')
    (hs : ∀ D, H1 D = none → ∀ i x H', xs[i]? = some x → Pv D i H' → g x (wipe σ vs) H' fun σ2 H2 => wipe σ2 vs = wipe σ vs ∧ te σ2 H2 (Aft D (Pv D (i + 1))))
    (hg : ∀ x H' Q Q', (∀ σ2 H2, Q σ2 H2 → Q' σ2 H2) → g x (wipe σ vs) H' Q → g x (wipe σ vs) H' Q')
    (hd : ∀ D H', H1 D = none → Pv D xs.length H' → Qd (.ref D) H') : tLc (fun s H R => iList K tl s H R ∨ iTup K tl s H R) g tYes te vs σ H Qd := by
  rcases hL with hL | hL
  · exact .inl (hv _ ⟨a, rfl, ⟨_, .inl (.inl hL)⟩, fun D hD => lc_list (K := K) (a := a) (xs := xs) (Pv D) (h0 D hD) (fun i H' _ p => .inl (.inl (hl D i H' p _ _ hL))) (fun i x H' e p => hg x H' _ _ (fun σ2 H2 z => ⟨z.1, iteT (B := Pv D (i + 1) H2) z.2⟩) (hs D hD i x H' e p)) fun H' p => hd D H' hD p⟩)
  · exact .inr (hv _ ⟨a, rfl, ⟨_, .inl (.inl hL)⟩, fun D hD => lc_tup (K := K) (a := a) (xs := xs) (Pv D) (h0 D hD) (fun i H' _ p => .inl (.inl (hl D i H' p _ _ hL))) (fun i x H' e p => hg x H' _ _ (fun σ2 H2 z => ⟨z.1, iteT (B := Pv D (i + 1) H2) z.2⟩) (hs D hD i x H' e p)) fun H' p => hd D H' hD p⟩)
/-- over a list alone -/
theorem lc_l {K : PySem.W.Frag} {a : Addr} {xs : List V} {g : TG} {te tl : TE} {vs : List Nat} {σ : L2.St} {H H1 : Hp} {Qd : VK} (hv : ∀ R : VK, R (.ref a) H1 → tl σ H R) (hL : H1 a = some (.lst xs)) (Pv : Addr → Nat → Hp → Prop)
    (h0 : ∀ D, H1 D = none → Pv D 0 (upd H1 D (.lst []))) (hl : ∀ D i H', Pv D i H' → Same H1 H')
    (hs : ∀ D, H1 D = none → ∀ i x H', xs[i]? = some x → Pv D i H' → g x (wipe σ vs) H' fun σ2 H2 => wipe σ2 vs = wipe σ vs ∧ te σ2 H2 (Aft D (Pv D (i + 1))))
    (hg : ∀ x H' Q Q', (∀ σ2 H2, Q σ2 H2 → Q' σ2 H2) → g x (wipe σ vs) H' Q → g x (wipe σ vs) H' Q')
    (hd : ∀ D H', H1 D = none → Pv D xs.length H' → Qd (.ref D) H') : tLc (iList K tl) g tYes te vs σ H Qd :=
  hv _ ⟨a, rfl, ⟨_, .inl (.inl hL)⟩, fun D hD => lc_list (K := K) (a := a) (xs := xs) (Pv D) (h0 D hD) (fun i H' _ p => .inl (.inl (hl D i H' p _ _ hL))) (fun i x H' e p => hg x H' _ _ (fun σ2 H2 z => ⟨z.1, iteT (B := Pv D (i + 1) H2) z.2⟩) (hs D hD i x H' e p)) fun H' p => hd D H' hD p⟩
/-- a list that stands alone in what is new -/
theorem Same.put {H H' : Hp} {D : Addr} {o : HO} (e : Same H H') (h : H D = none) : Same H (upd H' D o) := fun b u q => by rw [upd_ne (ne_of_none q h)]; exact e b u q
theorem rep_snoc {α : Type} (i : Nat) (x : α) : List.replicate i x ++ [x] = List.replicate (i + 1) x := by
  rw [List.replicate_succ', ]
section
variable {P : Program} {w : World} {K : PySem.W.Frag} {mg : Str → Option Value} {base : Heap}
theorem SqL_of_LT {K : PySem.W.Frag} {H : Hp} {a : Addr} {xs : List V} (h : H a = some (.lst xs)) : SqL K H a xs := .inl (.inl h)
/-! ### want_stretches -/
def spWant (C : Addr) : Sp := fun vs H Q _ => ∃ (a : Addr) (as : List Addr) (rs : List Spn), vs = [.ref a] ∧ LT H a (as.map V.ref) ∧ Two (StAt C H) rs as ∧ as.length ≤ 1000000 ∧ ∀ H', Same H H' → Q .non H'
theorem scWant : FnScope ["thing", "one"] ["thing"] (C8.fnScope sWant) := ⟨rfl, rfl, rfl, by decide +kernel, rfl, by decide +kernel, by decide +kernel⟩
theorem cal_want {C f : Addr} {fd : FuncData} (F : Def K mg "want_stretches" sWant f fd) (b : Binds K fd ["thing"] []) (T : ClsS K mg C) (ic : C8.InsC K C) (cL : Cal P w K mg base 1 "is_list" spIsList []) (mI : mg "isinstance" = none) (mA : mg "all" = none) :
    Cal P w K mg base 2 "want_stretches" (spWant C) [] := by
  refine cal0 F b .nil scWant (fun vs H Q E h => ?_) (fun cdv A outer s H vs Q E hr h => ?_)
  · obtain ⟨a, as, rs, rfl, _⟩ := h
    rfl
  · obtain ⟨a, as, rs, rfl, hL, two, hlen, k⟩ := h
    refine ⟨_, pss_one (ps_if (PW.pt (pw_or (pt_not (pt_val (pe_c cL hr (by decide) (by rfl) (pa_cons (pv 0) pa_nil)))) (pw_or1 (pt_not (pt_val (pe_callB (cr_all rfl) (by rfl) mA (by decide +kernel) (pa_cons
      (pe_lc (own := [("one", 1)]) (g := gName 1) (tt := tYes) rfl scWant.nd (pi_or (pi_list (pv 0)) (pi_tup (pv 0))) (blkOk_by (own := [("one", 1)]) (N := ["thing", "one"]) (sc := C8.fnScope sWant) (by decide +kernel))
        (fun _ _ _ _ _ => pg_name (i := 1) scWant.nd rfl (Or.inl rfl)) (fun _ _ _ _ _ => pts_nil)
        (fun _ _ _ _ _ => pe_callB (C8.call_isC ic) (by rfl) mI (by decide +kernel) (pa_cons (pv 1) (pa_cons (pe_glob (v := .ref C) (by rfl) T.mgC rfl) pa_nil)))) pa_nil))))))) (pss_one ps_never) pss_nil), ?_⟩
    refine ⟨_, rfl, a, _, rfl, hL, fun H1 s1 => ⟨_, rfl, iteF ?_⟩⟩
    have hlen2 : (as.map V.ref).length ≤ 1000000 := by rw [List.length_map]; exact hlen
    have hsz : sizeLine = 16777216 := by decide
    refine i_not (i_b (i_cb (i_cons (lc_lt (a := a) (H1 := H1) (xs := as.map V.ref) (fun R h => ⟨_, rfl, h⟩) (hL.elim (fun h => .inl (s1 _ _ h)) fun h => .inr (s1 _ _ h)) (fun D i H' => H' D = some (.lst ((List.replicate i true).map V.bl)) ∧ Same H1 H')
      (fun D hD => ⟨upd_same, Same.new hD⟩) (fun D i H' p => p.2) (fun D hD i x H' hx p => ?_) (fun x H' Q Q' z q => z _ _ q) fun D H' hD p => ?_))))
    · obtain ⟨b, rfl, hb⟩ := refs_get hx
      obtain ⟨r, _, dx, hst⟩ := two.at_ i b hb
      have hi := (List.getElem?_eq_some_iff.mp hx).1
      refine ⟨rfl, _, rfl, b, dx, _, rfl, p.2 _ _ (s1 _ _ hst), _, p.1, ?_, ?_, Same.put p.2 hD⟩
      · rw [List.length_map, List.length_replicate]
        omega
      · rw [upd_same, ← rep_snoc, List.map_append]
        rfl
    · refine ⟨D, List.replicate (as.map V.ref).length true, rfl, .inl (.inl p.1), _, rfl, ?_⟩
      have e : (List.replicate (as.map V.ref).length true).all id = true := by simp
      rw [e]
      exact iteF (k _ (s1.trans p.2))
end
end K7
namespace K7
open PySem L2 KD LamX
open C8 (Cal Mak Met Def pe_c pe_mk pe_mt pe_mt0 cal0 met0 mak0)
section
variable {P : Program} {w : World} {K : PySem.W.Frag} {mg : Str → Option Value} {base : Heap}
/-- a Stretch is made -/
theorem mk_st {C : Addr} {H : Hp} {Q : VK} {E : XK} {r : Spn} (g : Gd r) (h : ∀ (x : Addr) (H' : Hp), Same H H' → H x = none → StAt C H' r x → Q (.ref x) H') :
    ∀ x dx, H x = none → H dx = none → dx ≠ x → spInit C [.ref x, .int r.1, oV r.2] (upd (upd H dx (.own x)) x (.ins C dx [])) (fun v H2 => v = .non ∧ Q (.ref x) H2) E := by
  intro x dx nx nd ne
  exact ⟨x, dx, r, rfl, upd_same, g, fun H' hs kp => ⟨rfl, h x H' (Same.made nx nd kp) nx hs⟩⟩
theorem gd_las {lo : Int} {ss : List Spn} {s : Spn} (h : Can lo ss) (h0 : -1 ≤ lo) (hs : s ∈ ss) : Gd (s.1, las s.2) := by
  have := h.firsts hs
  obtain ⟨f, b⟩ := s
  refine ⟨by have := this.1; show 0 ≤ f; simp only at this; omega, fun e z => ?_⟩
  cases b with
  | none => cases z
  | some y =>
    cases z
    have := this.2 y rfl
    show f ≤ y - 1
    simp only at this
    omega
/-! ### as_stretches -/
def spAs (C : Addr) : Sp := fun vs H Q _ => ∃ (a : Addr) (as : List Addr) (ss : List Spn), vs = [.ref a] ∧ H a = some (.lst (as.map V.ref)) ∧ Two (TuAt H) ss as ∧ Can (-1) ss ∧ as.length ≤ 1000000 ∧
  ∀ (H' : Hp) (p : Addr) (bs : List Addr), Same H H' → H' p = some (.lst (bs.map V.ref)) → Two (StAt C H') (rowsOf ss) bs → Q (.ref p) H'
theorem scAs : FnScope ["spans", "first", "behind"] ["spans"] (C8.fnScope sAsS) := ⟨rfl, rfl, rfl, by decide +kernel, rfl, by decide +kernel, by decide +kernel⟩
theorem rows_take {ss : List Spn} {i : Nat} {r : Spn} (h : ss[i]? = some r) : rowsOf (ss.take (i + 1)) = rowsOf (ss.take i) ++ [(r.1, las r.2)] := by
  unfold rowsOf
  rw [List.take_add_one, h, List.map_append]
  rfl
theorem cal_as {C f : Addr} {fd : FuncData} (F : Def K mg "as_stretches" sAsS f fd) (b : Binds K fd ["spans"] []) (m : Mak P w K mg base 2 "Stretch" C (spInit C) []) : Cal P w K mg base 4 "as_stretches" (spAs C) [] := by
  refine cal0 F b .nil scAs (fun vs H Q E h => ?_) (fun cdv A outer s H vs Q E hr h => ?_)
  · obtain ⟨a, as, ss, rfl, _⟩ := h
    rfl
  · obtain ⟨a, as, ss, rfl, hL, two, hc, hlen, k⟩ := h
    refine ⟨_, pss_one (ps_ret (pe_lc (own := [("first", 1), ("behind", 2)]) (g := gTup K 2 (gCons (gName 1) (gCons (gName 2) gNil))) (tt := tYes) rfl scAs.nd (pi_list (pv 0)) (blkOk_by (own := [("first", 1), ("behind", 2)]) (N := ["spans", "first", "behind"]) (sc := C8.fnScope sAsS) (by decide +kernel))
      (fun _ _ _ _ _ => pg_tup rfl (pgs_cons (pg_name (i := 1) scAs.nd rfl (Or.inl rfl)) (pgs_cons (pg_name (i := 2) scAs.nd rfl (Or.inl rfl)) pgs_nil))) (fun _ _ _ _ _ => pts_nil)
      (fun _ _ _ _ _ => pe_mk m hr (by decide) (by rfl) (pa_cons (pv 1) (pa_cons (pe_ifExp (pt_cmp (pc_isN (pv 2))) pe_non (pe_op op_sub (pv 2) pe_int)) pa_nil))))), ?_⟩
    have hsz : sizeLine = 16777216 := by decide
    refine i_ret (lc_l (a := a) (H1 := H) (xs := as.map V.ref) (fun R h => ⟨_, rfl, h⟩) hL (fun D i H' => ∃ bs : List Addr, H' D = some (.lst (bs.map V.ref)) ∧ Two (StAt C H') (rowsOf (ss.take i)) bs ∧ Same H H')
      (fun D hD => ⟨[], upd_same, .nil, Same.new hD⟩) (fun D i H' p => p.choose_spec.2.2) (fun D hD i x H' hx p => ?_) (fun x H' Q Q' z q => ?_) fun D H' hD p => ?_)
    · obtain ⟨b, rfl, hb⟩ := refs_get hx
      obtain ⟨r, hr1, htu⟩ := two.at_ i b hb
      obtain ⟨bs, e1, e2, e3⟩ := p
      have hi := (List.getElem?_eq_some_iff.mp hb).1
      have g := gd_las hc (Int.le_refl _) (List.mem_of_getElem? hr1)
      have hbl := e2.len
      unfold rowsOf at hbl
      rw [List.length_map, List.length_take] at hbl
      refine ⟨b, _, rfl, .inl (.inl (e3 _ _ htu)), rfl, _, _, rfl, _, _, rfl, rfl, rfl, ?_⟩
      have last : ∀ z, z = oV (las r.2) → ∀ x dx, H' x = none → H' dx = none → dx ≠ x → spInit C [.ref x, .int r.1, z] (upd (upd H' dx (.own x)) x (.ins C dx [])) (fun v H2 => v = .non ∧
          Aft D (fun H' => ∃ bs : List Addr, H' D = some (.lst (bs.map V.ref)) ∧ Two (StAt C H') (rowsOf (ss.take (i + 1))) bs ∧ Same H H') (.ref x) H2) C8.E0 := by
        rintro z rfl
        refine mk_st (r := (r.1, las r.2)) g fun x H2 s2 nx hst => ?_
        refine ⟨_, s2 _ _ e1, by rw [List.length_map]; omega, bs ++ [x], by rw [upd_same, List.map_append]; rfl, ?_, Same.put (e3.trans s2) hD⟩
        rw [rows_take hr1]
        have keep : ∀ r a, StAt C H2 r a → StAt C (upd H2 D (.lst (bs.map V.ref ++ [.ref x]))) r a := fun r a ⟨dx, h⟩ => ⟨dx, by rw [upd_ne (fun z => by rw [z, s2 _ _ e1] at h; cases h)]; exact h⟩
        exact ((e2.mono fun r a h => StAt.same s2 r a h).app (.one hst)).mono keep
      obtain ⟨f1, b1⟩ := r
      cases b1 with
      | none => exact ⟨_, rfl, _, rfl, _, rfl, iteT (last _ rfl)⟩
      | some y => exact ⟨_, rfl, _, rfl, _, rfl, iteF ⟨_, rfl, _, _, rfl, rfl, last _ rfl⟩⟩
    · obtain ⟨b, xs, e1, e2, e3, v1, l1, e4, v2, l2, e5, e6, e7⟩ := q
      exact ⟨b, xs, e1, e2, e3, v1, l1, e4, v2, l2, e5, e6, z _ _ e7⟩
    · obtain ⟨bs, e1, e2, e3⟩ := p
      refine k H' D bs e3 e1 ?_
      rw [List.length_map, two.len, List.take_length] at e2
      exact e2
end
end K7
namespace K7
open PySem L2 KD LamX
open C8 (Cal Mak Met Def pe_c pe_mk pe_mt pe_mt0 cal0 met0 mak0)
section
variable {P : Program} {w : World} {K : PySem.W.Frag} {mg : Str → Option Value} {base : Heap}
/-! ### spans_of -/
theorem i_forL {K : PySem.W.Frag} {tl : TE} {g : TG} {tb : TS} {D : Ends} {σ : L2.St} {H : Hp} (h : tl σ H fun x H1 => ∃ a, x = .ref a ∧ (∃ xs, SqL K H1 a xs) ∧ ∃ W : Nat → Nat → L2.St → Hp → Prop, (∃ m, W 0 m σ H1) ∧ ∀ i m σ H, W i m σ H →
      ((Itl K a).stop i H ∧ D.nx σ H) ∨ ((Itl K a).go i H ∧ ∃ N : L2.St → Hp → Prop, (∀ σ' H', N σ' H' → ∃ m', m' < m ∧ W (i + 1) m' σ' H') ∧ ∀ x H', (Itl K a).yld i H x H' → g x σ H' fun σ2 H2 => tb { D with nx := N, ct := N, bk := D.nx } σ2 H2)) :
    tFor (iList K tl) g tb D σ H := h
theorem i_and {t u : TT} {σ : L2.St} {H : Hp} {QT : Bool → Hp → Prop} (h : t σ H fun c H1 => if c = true then u σ H1 QT else QT false H1) : tAnd t u σ H QT := h
theorem i_or {t u : TT} {σ : L2.St} {H : Hp} {QT : Bool → Hp → Prop} (h : t σ H fun c H1 => if c = true then QT true H1 else u σ H1 QT) : tOr t u σ H QT := h
theorem i_name {i : Nat} {v : V} {σ : L2.St} {H : Hp} {Q : L2.St → Hp → Prop} (h : Q (σ.set i (some v)) H) : gName i v σ H Q := h
theorem i_setThen {te : TE} {i : Nat} {u : TS} {D : Ends} {σ : L2.St} {H : Hp} (h : te σ H fun x H1 => u D (σ.set i (some x)) H1) : tSeq (tAsg te (gName i)) u D σ H := h
theorem i_isN {ta : TE} {σ : L2.St} {H : Hp} {Q : VK} (h : ta σ H fun x H1 => Q (.bl (decide (x = .non))) H1) : tIsN ta σ H Q := h
theorem i_le {ta tb : TE} {σ : L2.St} {H : Hp} {Q : VK} (h : ta σ H fun x H1 => tb σ H1 fun y H2 => ∃ i j, x = .int i ∧ y = .int j ∧ Q (.bl (decide (i ≤ j))) H2) : tLe ta tb σ H Q := h
theorem i_tup {t : TA} {σ : L2.St} {H : Hp} {Q : VK} (h : t σ H fun xs H1 => xs.length ≤ sizeLine ∧ ∀ p, H1 p = none → Q (.ref p) (upd H1 p (.tup xs))) : tTup t σ H Q := h
theorem Two.snoc {P : Spn → Addr → Prop} {xs : List Spn} {r : Spn} {bs : List Addr} (t : Two P (xs ++ [r]) bs) : ∃ ys b, bs = ys ++ [b] ∧ Two P xs ys ∧ P r b := by
  rcases List.eq_nil_or_concat bs with rfl | ⟨ys, b, rfl⟩
  · have := t.len
    simp at this
  · simp only [List.concat_eq_append] at t ⊢
    have hl : ys.length = xs.length := by
      have := t.len
      simp at this
      exact this
    refine ⟨ys, b, rfl, ⟨hl, fun i a e => ?_⟩, ?_⟩
    · have hi := (List.getElem?_eq_some_iff.mp e).1
      obtain ⟨r', e1, p⟩ := t.at_ i a (by rw [List.getElem?_append_left hi]; exact e)
      rw [List.getElem?_append_left (by omega)] at e1
      exact ⟨r', e1, p⟩
    · obtain ⟨r', e1, p⟩ := t.at_ ys.length b (by simp)
      rw [hl] at e1
      simp at e1
      rw [e1]
      exact p
theorem i_srt {K : PySem.W.Frag} {T : List (Addr × Str)} {te : TE} {σ : L2.St} {H : Hp} {Q : VK} (h : te σ H (kSrt K T Q)) : tSrt K T te σ H Q := h
/-- None if last is None else last + 1 -/
theorem beh_ok {σ : L2.St} {H : Hp} {Q : VK} {l : Option Int} {j : Nat} (h3 : σ[j]? = some (some (oV l))) (h : Q (oV (beh l)) H) : tIf (tB (tIsN (tVar j))) (tC .non) (tOp (rI0 fun i j => .int (i + j)) (tVar j) (tC (.int 1))) σ H Q := by
  cases l with
  | none => exact ⟨_, h3, _, rfl, iteT (B := tOp (rI0 fun i j => .int (i + j)) (tVar j) (tC (.int 1)) σ H Q) h⟩
  | some y => exact ⟨_, h3, _, rfl, iteF (A := tC .non σ H Q) ⟨_, h3, _, _, rfl, rfl, h⟩⟩
/-- found[-1][1], found[-1][0] -/
theorem last1_ok {K : PySem.W.Frag} {σ : L2.St} {H : Hp} {Q : VK} {D t0 : Addr} {ys : List Addr} {f0 : Int} {b0 : Option Int} (h1 : σ[1]? = some (some (.ref D))) (hD : H D = some (.lst (ys.map V.ref ++ [.ref t0]))) (ht : TuAt H (f0, b0) t0) (q : Q (oV b0) H) :
    tOp (rIxT K) (tOp (rIxL K) (tVar 1) (tUn (rU fun i => .int (-i)) (tC (.int 1)))) (tC (.int 1)) σ H Q :=
  ⟨_, h1, _, rfl, D, _, _, _, rfl, rfl, .inl (.inl hD), atI_last _ _, t0, _, _, _, rfl, rfl, .inl (.inl ht), rfl, q⟩
theorem last0_ok {K : PySem.W.Frag} {σ : L2.St} {H : Hp} {Q : VK} {D t0 : Addr} {ys : List Addr} {f0 : Int} {b0 : Option Int} (h1 : σ[1]? = some (some (.ref D))) (hD : H D = some (.lst (ys.map V.ref ++ [.ref t0]))) (ht : TuAt H (f0, b0) t0) (q : Q (.int f0) H) :
    tOp (rIxT K) (tOp (rIxL K) (tVar 1) (tUn (rU fun i => .int (-i)) (tC (.int 1)))) (tC (.int 0)) σ H Q :=
  ⟨_, h1, _, rfl, D, _, _, _, rfl, rfl, .inl (.inl hD), atI_last _ _, t0, _, _, _, rfl, rfl, .inl (.inl ht), rfl, q⟩
theorem zip_refs {ts : List Addr} {rs : List Spn} (h : ts.length = rs.length) : (ts.zip rs).map (fun q => V.ref q.1) = ts.map V.ref := by
  have e : (ts.zip rs).map (fun q => V.ref q.1) = ((ts.zip rs).map Prod.fst).map V.ref := by rw [List.map_map]; rfl
  rw [e, List.map_fst_zip (by omega)]
theorem zip_get {ts : List Addr} {rs : List Spn} {P : Spn → Addr → Prop} (two : Two P rs ts) {q : Addr × Spn} (h : q ∈ ts.zip rs) : P q.2 q.1 ∧ q.2 ∈ rs := by
  obtain ⟨i, hi⟩ := List.mem_iff_getElem?.mp h
  rw [List.getElem?_zip_eq_some] at hi
  obtain ⟨r, e, p⟩ := two.at_ i q.1 hi.1
  rw [hi.2] at e
  cases e
  exact ⟨p, List.mem_of_getElem? hi.2⟩
theorem fold_take {rows : List Spn} {i : Nat} {r : Spn} (h : rows[i]? = some r) : (rows.take (i + 1)).foldl stp [] = stp ((rows.take i).foldl stp []) r := by
  rw [List.take_add_one, h, List.foldl_append]
  rfl
/-- the lambda's name -/
def lamQ : Str := (("spans_of" : Str) ++ (".<locals>." : Str)) ++ ("<lambda>" : Str)
def tabT (Pt : Addr) : List (Addr × Str) := [(Pt, lamQ)]
theorem tab_mem (Pt : Addr) : (Pt, lamQ) ∈ tabT Pt := List.mem_singleton.mpr rfl
theorem tab_all (Pt : Addr) : ∀ q ∈ tabT Pt, q.1 = Pt → q.2 = lamQ := fun q hq _ => by
  rw [List.mem_singleton.mp hq]
def spSpans (C Pt : Addr) : Sp := fun vs H Q _ => ∃ (a : Addr) (as : List Addr) (rs : List Spn), vs = [.ref a] ∧ LT H a (as.map V.ref) ∧ Two (StAt C H) rs as ∧ Good rs ∧ as.length ≤ 1000000 ∧ Tabs (tabT Pt) H ∧
  ∀ (H' : Hp) (p : Addr) (bs : List Addr) (ss : List Spn), ExtN H H' → Tabs (tabT Pt) H' → H' p = some (.lst (bs.map V.ref)) → Two (TuAt H') ss bs → Can (-1) ss → (∀ d, Mem ss d ↔ MemR rs d) → ss.length ≤ rs.length → Q (.ref p) H'
abbrev nSpans : List Str := ["some", "found", "first", "last", "behind", "one"]
theorem scSpans : FnScope nSpans ["some"] (C8.fnScope sSpans) := ⟨rfl, rfl, rfl, by decide +kernel, rfl, by decide +kernel, by decide +kernel⟩
theorem cal_spans {C f c Pt : Addr} {name : Str} {oc dV kV doc pm ct : Value} {od an : Option Addr} {osl : Array (Option Value)}
    (lk : K.lookup f = some ⟨oc, od, .func (PySem.W.fnOf "spans_of" "spans_of" (C8.fnArgs sSpans) (C8.fnBody sSpans) (C8.fnScope sSpans) dV kV doc pm an (.ref c) ct), osl⟩) (hcd : PySem.W.codeIn K (.ref c) "spans_of" = true) (hm : mg "spans_of" = some (.ref f)) (kp : PySem.W.keepIn K (.ref f) = true)
    (b : Binds K (PySem.W.fnOf "spans_of" "spans_of" (C8.fnArgs sSpans) (C8.fnBody sSpans) (C8.fnScope sSpans) dV kV doc pm an (.ref c) ct) ["some"] []) (TB : TabB base mg c Pt)
    (mS : mg "sorted" = none) (mF : Met P w K mg base 1 C "first" (spFirst C) []) (mL : Met P w K mg base 1 C "last" (spLast C) []) (cF : Cal P w K mg base 1 "farther_day" spFar []) : Cal P w K mg base 4 "spans_of" (spSpans C Pt) [] := by
  refine ⟨f, _, ["some"], [], fn_of lk hcd scSpans (fun vs H Q E h => ?_) (fun A outer s H vs Q E hr h => ?_), hm, kp, b, .nil⟩
  · obtain ⟨a, as, rs, rfl, _⟩ := h
    rfl
  · obtain ⟨a, as, rs, rfl, hL, two, hg, hlen, hT, k⟩ := h
    have hr0 : Room 1 _ := hr.mono (by decide)
    refine ⟨_, PSs.nox (pss_cons (ps_set (i := 1) scSpans.nd rfl (Or.inl rfl) (pe_lst pa_nil))
      (pss_cons (ps_for PassesOwn.never rfl (pi_list (pe_sortedK (T := tabT Pt) (ql := lamQ) TB rfl (by with_unfolding_all rfl) (tab_mem Pt) (tab_all Pt) hr (by rfl) mS
          (pe_lc (own := [("one", 5)]) (g := gName 5) (tt := tYes) rfl scSpans.nd (pi_or (pi_list (pv 0)) (pi_tup (pv 0))) (blkOk_by (own := [("one", 5)]) (N := nSpans) (sc := C8.fnScope sSpans) (by decide +kernel))
            (fun _ _ _ _ _ => pg_name (i := 5) scSpans.nd rfl (Or.inl rfl)) (fun _ _ _ _ _ => pts_nil)
            (fun _ _ _ _ _ => pe_tup (pa_cons (pe_mt0 mF hr (by decide) (pv 5)) (pa_cons (pe_mt0 mL hr (by decide) (pv 5)) pa_nil))))
          (by rfl) (by rfl) ⟨rfl, rfl, rfl, rfl⟩ (fun _ _ _ _ _ _ => by rfl) (by decide))) (pg_tup rfl (pgs_cons (pg_name (i := 2) scSpans.nd rfl (Or.inl rfl)) (pgs_cons (pg_name (i := 3) scSpans.nd rfl (Or.inl rfl)) pgs_nil)))
        (pss_cons (ps_set (i := 4) scSpans.nd rfl (Or.inl rfl) (pe_ifExp (pt_cmp (pc_isN (pv 3))) pe_non (pe_op op_add (pv 3) pe_int)))
        (pss_one (ps_if (PW.pt (pw_and (pt_cmpR (op_neG (n := 0) mon_flat eqG_flat hr0) (pv 1) (pe_lst pa_nil) (nomark _))
            (pw_and1 (PW.pt (pw_or (pt_cmp (pc_isN (pe_ix ix_tup (pe_ix ix_list (pv 1) (pe_un un_neg pe_int) (fun _ _ => rfl)) pe_int (fun _ _ => rfl)))) (pw_or1 (pt_cmp (pc_le (pv 2) (pe_ix ix_tup (pe_ix ix_list (pv 1) (pe_un un_neg pe_int) (fun _ _ => rfl)) pe_int (fun _ _ => rfl))))))))))
          (pss_one (ps_asg (pe_tup (pa_cons (pe_ix ix_tup (pe_ix ix_list (pv 1) (pe_un un_neg pe_int) (fun _ _ => rfl)) pe_int (fun _ _ => rfl))
            (pa_cons (pe_c cF hr (by decide) (by rfl) (pa_cons (pe_ix ix_tup (pe_ix ix_list (pv 1) (pe_un un_neg pe_int) (fun _ _ => rfl)) pe_int (fun _ _ => rfl)) (pa_cons (pv 4) pa_nil))) pa_nil))) (pg_sub (pv 1) (pe_un un_neg pe_int) set_list)))
          (pss_one (ps_expr (pe_bm PySem.F.plainAttrs_list PySem.F.slot_list_append PySem.F.type_list_append mt_append (pv 1) (pa_cons (pe_tup (pa_cons (pv 2) (pa_cons (pv 4) pa_nil))) pa_nil))))))))
      (pss_one (ps_ret (pv 1))))), ?_⟩
    have hsz : sizeLine = 16777216 := by decide
    refine ⟨Nat.zero_le _, fun D hD => ?_⟩
    have sD : Same H (upd H D (.lst [])) := Same.new hD
    refine i_seq (i_forL (i_srt (lc_lt (a := a) (H1 := upd H D (.lst [])) (xs := as.map V.ref) (fun R h => ⟨_, rfl, h⟩) (hL.elim (fun h => .inl (sD _ _ h)) fun h => .inr (sD _ _ h))
      (fun L i H' => ∃ ts : List Addr, H' L = some (.lst (ts.map V.ref)) ∧ Two (TuAt H') (rs.take i) ts ∧ Same (upd H D (.lst [])) H') (fun L hLn => ⟨[], upd_same, .nil, Same.new hLn⟩) (fun L i H' p => p.choose_spec.2.2) (fun L hLn i x H' hx p => ?_)
      (fun x H' Q Q' z q => z _ _ q) fun L H' hLn p => ?_)))
    · obtain ⟨b1, rfl, hb⟩ := refs_get hx
      obtain ⟨r, hr1, dx, hst⟩ := two.at_ i b1 hb
      obtain ⟨ts, e1, e2, e3⟩ := p
      have hi := (List.getElem?_eq_some_iff.mp hb).1
      have hin := e3 _ _ (sD _ _ hst)
      have htl := e2.len
      rw [List.length_take] at htl
      refine ⟨rfl, _, rfl, b1, dx, _, rfl, hin, fl_no _ (by decide +kernel) (by decide +kernel), b1, r, rfl, ⟨dx, hin⟩, _, rfl, b1, dx, _, rfl, hin, fl_no _ (by decide +kernel) (by decide +kernel), b1, r, rfl, ⟨dx, hin⟩, (by show 2 ≤ sizeLine; decide), fun t ht => ?_⟩
      have nLt : L ≠ t := ne_of_none e1 ht
      refine ⟨_, by rw [upd_ne nLt]; exact e1, by rw [List.length_map]; omega, ts ++ [t], by rw [upd_same, List.map_append]; rfl, ?_, Same.put (e3.trans (Same.new ht)) hLn⟩
      rw [List.take_add_one, hr1]
      have keep : ∀ r a, TuAt (upd H' t (.tup [.int r.1, oV r.2])) r a → True := fun _ _ _ => trivial
      refine (Two.app (e2.mono fun r a h => ?_) (Two.one ?_))
      · show upd (upd H' t _) L _ a = _
        have h : H' a = some (.tup [.int r.1, oV r.2]) := h
        rw [upd_ne (fun z => by rw [z, e1] at h; cases h), upd_ne (ne_of_none h ht)]
        exact h
      · show upd (upd H' t _) L _ t = _
        rw [upd_ne nLt.symm, upd_same]
    · obtain ⟨ts, e1, e2, e3⟩ := p
      rw [List.length_map, two.len, List.take_length] at e2
      have hzl : ts.length = rs.length := e2.len
      have sHH' : Same H H' := sD.trans e3
      refine ⟨L, ts.zip rs, rfl, .inl (.inl (by rw [zip_refs hzl]; exact e1)), fun q hq => (zip_get e2 hq).1, hT.ext sHH', fun H2 S cs ext tabs perm pw hS => ?_⟩
      have hDB : upd H2 S (.lst (cs.map fun q => V.ref q.1)) D = some (.lst []) := by
        have h1 : H2 D = some (.lst []) := ext _ _ (e3 _ _ upd_same) fun ps z => by cases z
        rw [upd_ne (ne_of_none h1 hS)]
        exact h1
      have nDS : S ≠ D := fun z => by
        have h1 : H2 D = some (.lst []) := ext _ _ (e3 _ _ upd_same) fun ps z => by cases z
        rw [z, h1] at hS
        cases hS
      have rowsP : (cs.map (·.2)).Perm rs := by
        have := perm.map (·.2)
        have e : (ts.zip rs).map (fun q => q.2) = rs := List.map_snd_zip (by omega)
        rw [e] at this
        exact this
      have rowsG : Good (cs.map (·.2)) := fun r hr => hg r (rowsP.mem_iff.mp hr)
      have rowsS : (cs.map (·.2)).Pairwise (fun a b => a.1 ≤ b.1) := by
        rw [List.pairwise_map]
        exact pw
      obtain ⟨o1, o2, o3⟩ := spans_ok rowsG rowsS
      have csT : ∀ q ∈ cs, TuAt (upd H2 S (.lst (cs.map fun q => V.ref q.1))) q.2 q.1 := fun q hq => by
        have h1 : H2 q.1 = some (.tup [.int q.2.1, oV q.2.2]) := TuAt.ext ext _ _ (zip_get e2 (perm.mem_iff.mp hq)).1
        show upd H2 S _ q.1 = _
        rw [upd_ne (ne_of_none h1 hS)]
        exact h1
      refine ⟨S, rfl, ⟨_, SqL.of upd_same⟩, for_list (K := K) (a := S) (xs := cs.map fun q => V.ref q.1) (fun i σ' H' => ∃ (bs : List Addr) (v2 v3 v4 : Option V), σ' = [some (.ref a), some (.ref D), v2, v3, v4, none] ∧ H' D = some (.lst (bs.map V.ref)) ∧
        Two (TuAt H') (((cs.map (·.2)).take i).foldl stp []) bs ∧ But D (upd H2 S (.lst (cs.map fun q => V.ref q.1))) H') ⟨[], none, none, none, rfl, hDB, .nil, But.refl _ _⟩ (fun i σ' H' _ p => ?_) (fun i x σ' H' hx p => ?_) fun σ' H' p => ?_⟩
      · obtain ⟨bs, v2, v3, v4, rfl, p1, p2, p3⟩ := p
        exact SqL.of (p3 _ _ nDS upd_same)
      · obtain ⟨bs, v2, v3, v4, rfl, p1, p2, p3⟩ := p
        rw [List.getElem?_map] at hx
        obtain ⟨⟨t, ⟨fi, la⟩⟩, hc, rfl⟩ := Option.map_eq_some_iff.mp hx
        have hil := (List.getElem?_eq_some_iff.mp hc).1
        have hrow : (cs.map (·.2))[i]? = some (fi, la) := by rw [List.getElem?_map, hc]; rfl
        have htB := csT _ (List.mem_of_getElem? hc)
        have htD : t ≠ D := fun z => by
          have h : upd H2 S _ t = some (HO.tup _) := htB
          rw [z, hDB] at h
          cases h
        have htu : H' t = some (.tup [.int fi, oV la]) := p3 _ _ htD htB
        have cslen : cs.length ≤ 1000000 := by
          have h1 := rowsP.length_eq
          rw [List.length_map] at h1
          have h2 := two.len
          omega
        have bsl := p2.len
        have fl2 : (((cs.map (·.2)).take i).foldl stp []).length ≤ i := by
          have h1 := (fold_ok ((cs.map (·.2)).take i) [] (fun r hr => rowsG r (List.mem_of_mem_take hr)) (rowsS.sublist (List.take_sublist _ _)) trivial (fun r _ s hs => by cases hs)).2.2
          rw [List.length_take] at h1
          simp only [List.length_nil] at h1
          omega
        refine ⟨t, _, rfl, .inl (.inl htu), rfl, _, _, rfl, _, _, rfl, rfl, ?_⟩
        refine i_setThen (beh_ok (l := la) rfl ?_)
        generalize hss : (((cs.map (·.2)).take i).foldl stp []) = ss at p2 bsl fl2
        have key : ∀ (H5 : Hp) (bs' : List Addr) (v2 v3 v4 : Option V), H5 D = some (.lst (bs'.map V.ref)) → Two (TuAt H5) (stp ss (fi, la)) bs' → But D (upd H2 S (.lst (cs.map fun q => V.ref q.1))) H5 →
            ∃ (bs : List Addr) (u2 u3 u4 : Option V), ([some (.ref a), some (.ref D), v2, v3, v4, none] : L2.St) = [some (.ref a), some (.ref D), u2, u3, u4, none] ∧ H5 D = some (.lst (bs.map V.ref)) ∧
              Two (TuAt H5) (((cs.map (·.2)).take (i + 1)).foldl stp []) bs ∧ But D (upd H2 S (.lst (cs.map fun q => V.ref q.1))) H5 := fun H5 bs' v2 v3 v4 h1 h2 h3 =>
          ⟨bs', v2, v3, v4, rfl, h1, by rw [fold_take hrow, hss]; exact h2, h3⟩
        -- the new tuple (first, behind) behind all that stands
        have addT : ∀ (H4 : Hp), Same H' H4 → ∀ t2, H4 t2 = none → ∀ (r : Spn) (xs : List Spn) (ys : List Addr) (ys' : List Addr), Two (TuAt H') xs ys → ys' = ys ++ [t2] →
            Two (TuAt (upd (upd H4 t2 (.tup [.int r.1, oV r.2])) D (.lst (ys'.map V.ref)))) (xs ++ [r]) ys' ∧ But D (upd H2 S (.lst (cs.map fun q => V.ref q.1))) (upd (upd H4 t2 (.tup [.int r.1, oV r.2])) D (.lst (ys'.map V.ref))) := by
          rintro H4 s4 t2 ht2 r xs ys ys' tw rfl
          have nD : t2 ≠ D := fun z => by
            have := s4 _ _ p1
            rw [← z, ht2] at this
            cases this
          refine ⟨Two.app (tw.mono fun r' a' h => ?_) (.one ?_), fun b o hb e => ?_⟩
          · have h : H' a' = some (.tup [.int r'.1, oV r'.2]) := h
            show upd (upd H4 t2 _) D _ a' = _
            rw [upd_ne (fun z => by rw [z, p1] at h; cases h), upd_ne (ne_of_none (s4 _ _ h) ht2)]
            exact s4 _ _ h
          · show upd (upd H4 t2 _) D _ t2 = _
            rw [upd_ne nD, upd_same]
          · have h5 := s4 _ _ (p3 b o hb e)
            rw [upd_ne hb, upd_ne (ne_of_none h5 ht2)]
            exact h5
        rcases List.eq_nil_or_concat ss with rfl | ⟨xs, ⟨f0, b0⟩, rfl⟩
        · obtain rfl : bs = [] := List.eq_nil_of_length_eq_zero p2.len
          refine i_ifs ?_
          refine (i_and (i_test ⟨_, rfl, Nat.zero_le _, fun q hq => .inl ⟨⟨D, q, [], [], rfl, rfl, by rw [upd_ne (ne_of_none p1 hq)]; exact p1, upd_same, Prs.nil⟩, fun H3 e3 => ⟨_, rfl, ?_⟩⟩⟩))
          have s3 : Same H' H3 := (Same.new hq).trans e3
          refine iteF (iteF ?_)
          refine ⟨_, rfl, .inl ⟨rfl, _, SqL.of (s3 _ _ p1)⟩, _, rfl, _, rfl, (by show 2 ≤ sizeLine; decide), fun t2 ht2 => ?_⟩
          have nD : D ≠ t2 := ne_of_none (s3 _ _ p1) ht2
          refine ⟨D, [], _, rfl, rfl, by rw [upd_ne nD]; exact s3 _ _ p1, by show 0 < sizeLine; decide, ?_⟩
          obtain ⟨k1, k2⟩ := addT H3 s3 t2 ht2 (fi, beh la) [] [] [t2] .nil rfl
          exact key _ [t2] _ _ _ upd_same k1 k2
        · simp only [List.concat_eq_append] at p2 bsl key fl2
          obtain ⟨ys, t0, rfl, two2, ht0⟩ := p2.snoc
          have p1' : H' D = some (.lst (ys.map V.ref ++ [.ref t0])) := by rw [p1, List.map_append]; rfl
          have ylen : ys.length ≤ 1000000 := by
            have h1 := two2.len
            rw [List.length_append] at fl2
            omega
          refine i_ifs ?_
          refine i_and (i_test ⟨_, rfl, Nat.zero_le _, fun q hq => .inr ⟨D, q, _, [], rfl, rfl, by rw [upd_ne (ne_of_none p1 hq)]; exact p1, upd_same, by simp, _, rfl, ?_⟩⟩)
          have s3 : Same H' (upd H' q (.lst [])) := Same.new hq
          generalize upd H' q (.lst []) = H3 at s3 ⊢
          have hD3 := s3 _ _ p1'
          have ht3 : TuAt H3 (f0, b0) t0 := TuAt.same s3 _ _ ht0
          refine iteT ?_
          have esn := stp_snoc xs f0 b0 (fi, la)
          refine i_or (i_b (i_isN (last1_ok (ys := ys) rfl hD3 ht3 ⟨_, rfl, ?_⟩)))
          -- found[-1] = (found[-1][0], farther_day(found[-1][1], behind))
          have app : ∀ (t2 : Addr), H3 t2 = none → meets b0 fi = false → ∃ (bs : List Addr) (u2 u3 u4 : Option V), ([some (.ref a), some (.ref D), some (.int fi), some (oV la), some (oV (beh la)), none] : L2.St) = [some (.ref a), some (.ref D), u2, u3, u4, none] ∧
              upd (upd H3 t2 (.tup [.int fi, oV (beh la)])) D (.lst ((ys.map V.ref ++ [.ref t0]) ++ [.ref t2])) D = some (.lst (bs.map V.ref)) ∧ Two (TuAt (upd (upd H3 t2 (.tup [.int fi, oV (beh la)])) D (.lst ((ys.map V.ref ++ [.ref t0]) ++ [.ref t2])))) (((cs.map (·.2)).take (i + 1)).foldl stp []) bs ∧
              But D (upd H2 S (.lst (cs.map fun q => V.ref q.1))) (upd (upd H3 t2 (.tup [.int fi, oV (beh la)])) D (.lst ((ys.map V.ref ++ [.ref t0]) ++ [.ref t2]))) := fun t2 ht2 hm => by
            rw [if_neg (by rw [hm]; simp)] at esn
            obtain ⟨k1, k2⟩ := addT H3 s3 t2 ht2 (fi, beh la) _ _ (ys ++ [t0] ++ [t2]) p2 rfl
            have el : ((ys ++ [t0] ++ [t2]).map V.ref) = (ys.map V.ref ++ [.ref t0]) ++ [.ref t2] := by simp
            rw [el] at k1 k2
            exact key _ (ys ++ [t0] ++ [t2]) _ _ _ (by rw [upd_same, el]) (by rw [esn]; exact k1) k2
          have put : ∀ (t2 : Addr), H3 t2 = none → meets b0 fi = true → ∃ (bs : List Addr) (u2 u3 u4 : Option V), ([some (.ref a), some (.ref D), some (.int fi), some (oV la), some (oV (beh la)), none] : L2.St) = [some (.ref a), some (.ref D), u2, u3, u4, none] ∧
              upd (upd H3 t2 (.tup [.int f0, oV (far b0 (beh la))])) D (.lst ((ys.map V.ref ++ [V.ref t0]).set ys.length (V.ref t2))) D = some (.lst (bs.map V.ref)) ∧ Two (TuAt (upd (upd H3 t2 (.tup [.int f0, oV (far b0 (beh la))])) D (.lst ((ys.map V.ref ++ [V.ref t0]).set ys.length (V.ref t2))))) (((cs.map (·.2)).take (i + 1)).foldl stp []) bs ∧
              But D (upd H2 S (.lst (cs.map fun q => V.ref q.1))) (upd (upd H3 t2 (.tup [.int f0, oV (far b0 (beh la))])) D (.lst ((ys.map V.ref ++ [V.ref t0]).set ys.length (V.ref t2)))) := fun t2 ht2 hm => by
            rw [if_pos hm] at esn
            obtain ⟨k1, k2⟩ := addT H3 s3 t2 ht2 (f0, far b0 (beh la)) _ _ (ys ++ [t2]) two2 rfl
            have el : (ys.map V.ref ++ [V.ref t0]).set ys.length (V.ref t2) = (ys ++ [t2]).map V.ref := by
              rw [List.set_append_right _ _ (by simp)]
              simp
            rw [el]
            exact key _ (ys ++ [t2]) _ _ _ upd_same (by rw [esn]; exact k1) k2
          have eix : ixN (ys.map V.ref ++ [V.ref t0]).length (-1) = some ys.length := by
            unfold ixN
            have e1 : (ys.map V.ref ++ [V.ref t0]).length = ys.length + 1 := by simp
            rw [e1, if_neg (by decide), if_pos (by omega)]
            congr 1
            omega
          cases b0 with
          | none =>
            refine iteT (iteT ?_)
            refine i_asg (i_tup (i_cons (last0_ok (ys := ys) rfl hD3 ht3 (i_cons (i_call (i_cons (last1_ok (ys := ys) rfl hD3 ht3 (i_cons ⟨_, rfl, ⟨none, beh la, rfl, (by show 2 ≤ sizeLine; decide), fun t2 ht2 => ?_⟩⟩))))))))
            have nD : D ≠ t2 := ne_of_none hD3 ht2
            exact ⟨_, rfl, _, rfl, D, _, _, _, rfl, rfl, by rw [upd_ne nD]; exact hD3, eix, put t2 ht2 rfl⟩
          | some e =>
            refine iteF (i_b (i_le ⟨_, rfl, last1_ok (ys := ys) rfl hD3 ht3 ⟨fi, e, rfl, rfl, _, rfl, ite2 (fun hle => ?_) fun hle => ?_⟩⟩))
            · refine i_asg (i_tup (i_cons (last0_ok (ys := ys) rfl hD3 ht3 (i_cons (i_call (i_cons (last1_ok (ys := ys) rfl hD3 ht3 (i_cons ⟨_, rfl, ⟨some e, beh la, rfl, (by show 2 ≤ sizeLine; decide), fun t2 ht2 => ?_⟩⟩))))))))
              have nD : D ≠ t2 := ne_of_none hD3 ht2
              exact ⟨_, rfl, _, rfl, D, _, _, _, rfl, rfl, by rw [upd_ne nD]; exact hD3, eix, put t2 ht2 hle⟩
            · refine ⟨_, rfl, .inl ⟨rfl, _, SqL.of hD3⟩, _, rfl, _, rfl, (by show 2 ≤ sizeLine; decide), fun t2 ht2 => ?_⟩
              have nD : D ≠ t2 := ne_of_none hD3 ht2
              refine ⟨D, _, _, rfl, rfl, by rw [upd_ne nD]; exact hD3, by rw [List.length_append, List.length_map, List.length_singleton]; omega, ?_⟩
              exact app t2 ht2 (by
                show decide (fi ≤ e) = false
                cases hq : decide (fi ≤ e) with
                | false => rfl
                | true => exact (hle hq).elim)
      · obtain ⟨bs, v2, v3, v4, rfl, p1, p2, p3⟩ := p
        rw [List.length_map, ← List.length_map (f := (·.2)) (as := cs), List.take_length] at p2
        have fext : ExtN H H' := fun b o e n => by
          have h1 := ext _ _ (sHH' _ _ e) n
          exact p3 _ _ (ne_of_none e hD) (by rw [upd_ne (ne_of_none h1 hS)]; exact h1)
        refine ⟨_, rfl, k H' D bs _ fext (Tabs.but (Tabs.ext tabs (Same.new hS)) p3 hDB) p1 p2 o1 (fun d => (o2 d).trans ?_) (Nat.le_trans o3 (Nat.le_of_eq rowsP.length_eq))⟩
        exact ⟨fun ⟨r, h1, h2⟩ => ⟨r, rowsP.mem_iff.mp h1, h2⟩, fun ⟨r, h1, h2⟩ => ⟨r, rowsP.mem_iff.mpr h1, h2⟩⟩
end
end K7
namespace K7
open PySem L2 KD LamX
open C8 (Cal Mak Met Def pe_c pe_mk pe_mt pe_mt0 cal0 met0 mak0)
section
variable {P : Program} {w : World} {K : PySem.W.Frag} {mg : Str → Option Value} {base : Heap}
/-! ### spans_of_both -/
def spBoth : Sp := fun vs H Q _ => ∃ (a b : Addr) (as bs : List Addr) (ss oo : List Spn), vs = [.ref a, .ref b] ∧ H a = some (.lst (as.map V.ref)) ∧ H b = some (.lst (bs.map V.ref)) ∧ Two (TuAt H) ss as ∧ Two (TuAt H) oo bs ∧ as.length ≤ 1000 ∧ bs.length ≤ 1000 ∧
  ∀ (H' : Hp) (p : Addr) (cs : List Addr), Same H H' → H' p = some (.lst (cs.map V.ref)) → Two (TuAt H') (KD.both ss oo) cs → Q (.ref p) H'
abbrev nBoth : List Str := ["spans", "others", "found", "first", "behind", "begin", "end", "start", "stop"]
theorem scBoth : FnScope nBoth ["spans", "others"] (C8.fnScope sBoth) := ⟨rfl, rfl, rfl, by decide +kernel, rfl, by decide +kernel, by decide +kernel⟩
theorem flat_take {α : Type} {l : List α} {F : α → List Spn} {i : Nat} {x : α} (h : l[i]? = some x) : (l.take (i + 1)).flatMap F = (l.take i).flatMap F ++ F x := by
  rw [List.take_add_one, h, List.flatMap_append]
  simp
/-- a tuple is made and appended -/
theorem add_tup {H0 H' : Hp} {D t : Addr} {cs : List Addr} {xs : List Spn} {r : Spn} (p1 : H' D = some (.lst (cs.map V.ref))) (p2 : Two (TuAt H') xs cs) (p3 : But D H0 H') (ht : H' t = none) :
    upd (upd H' t (.tup [.int r.1, oV r.2])) D (.lst (cs.map V.ref ++ [.ref t])) D = some (.lst ((cs ++ [t]).map V.ref)) ∧ Two (TuAt (upd (upd H' t (.tup [.int r.1, oV r.2])) D (.lst (cs.map V.ref ++ [.ref t])))) (xs ++ [r]) (cs ++ [t]) ∧
      But D H0 (upd (upd H' t (.tup [.int r.1, oV r.2])) D (.lst (cs.map V.ref ++ [.ref t]))) := by
  have nD : D ≠ t := ne_of_none p1 ht
  refine ⟨by rw [upd_same, List.map_append]; rfl, Two.app (p2.mono fun r' a' h => ?_) (.one ?_), fun b o hb e => ?_⟩
  · have h : H' a' = some (.tup [.int r'.1, oV r'.2]) := h
    show upd (upd H' t _) D _ a' = _
    rw [upd_ne (fun z => by rw [z, p1] at h; cases h), upd_ne (ne_of_none h ht)]
    exact h
  · show upd (upd H' t _) D _ t = _
    rw [upd_ne nD.symm, upd_same]
  · have h5 := p3 b o hb e
    rw [upd_ne hb, upd_ne (ne_of_none h5 ht)]
    exact h5
theorem tu_ne {H : Hp} {D t : Addr} {xs ys : List V} (h : H D = some (.lst xs)) (ht : H t = some (.tup ys)) : t ≠ D := fun z => by
  rw [z, h] at ht
  cases ht
theorem but_same {H H' : Hp} {D : Addr} (hD : H D = none) (h : But D (upd H D (.lst [])) H') : Same H H' := fun b o e =>
  h b o (ne_of_none e hD) (by rw [upd_ne (ne_of_none e hD)]; exact e)
theorem cal_both {f : Addr} {fd : FuncData} (F : Def K mg "spans_of_both" sBoth f fd) (b : Binds K fd ["spans", "others"] []) (mM : mg "max" = none) (cN : Cal P w K mg base 1 "nearer_day" spNear []) : Cal P w K mg base 2 "spans_of_both" spBoth [] := by
  refine cal0 F b .nil scBoth (fun vs H Q E h => ?_) (fun cdv A outer s H vs Q E hr h => ?_)
  · obtain ⟨a, b, as, bs, ss, oo, rfl, _⟩ := h
    rfl
  · obtain ⟨a, b, as, bs, ss, oo, rfl, ha, hb, ta, tb, la, lb, k⟩ := h
    refine ⟨_, pss_cons (ps_set (i := 2) scBoth.nd rfl (Or.inl rfl) (pe_lst pa_nil))
      (pss_cons (ps_for PassesOwn.never rfl (pi_list (pv 0)) (pg_tup rfl (pgs_cons (pg_name (i := 3) scBoth.nd rfl (Or.inl rfl)) (pgs_cons (pg_name (i := 4) scBoth.nd rfl (Or.inl rfl)) pgs_nil)))
        (pss_one (ps_for PassesOwn.never rfl (pi_list (pv 1)) (pg_tup rfl (pgs_cons (pg_name (i := 5) scBoth.nd rfl (Or.inl rfl)) (pgs_cons (pg_name (i := 6) scBoth.nd rfl (Or.inl rfl)) pgs_nil)))
          (pss_cons (ps_set (i := 7) scBoth.nd rfl (Or.inl rfl) (pe_callB (call_max2 rfl) (by rfl) mM (by decide +kernel) (pa_cons (pv 3) (pa_cons (pv 5) pa_nil))))
          (pss_cons (ps_set (i := 8) scBoth.nd rfl (Or.inl rfl) (pe_c cN hr (by decide) (by rfl) (pa_cons (pv 4) (pa_cons (pv 6) pa_nil))))
          (pss_one (ps_if (PW.pt (pw_or (pt_cmp (pc_isN (pv 8))) (pw_or1 (pt_cmp (pc_lt (pv 7) (pv 8))))))
            (pss_one (ps_expr (pe_bm PySem.F.plainAttrs_list PySem.F.slot_list_append PySem.F.type_list_append mt_append (pv 2) (pa_cons (pe_tup (pa_cons (pv 7) (pa_cons (pv 8) pa_nil))) pa_nil)))) pss_nil)))))))
      (pss_one (ps_ret (pv 2)))), ?_⟩
    have hsz : sizeLine = 16777216 := by decide
    refine i_setThen ⟨Nat.zero_le _, fun D hD => ?_⟩
    have sD : Same H (upd H D (.lst [])) := Same.new hD
    have nDa : a ≠ D := ne_of_none ha hD
    have nDb : b ≠ D := ne_of_none hb hD
    refine i_seq (i_forL ⟨_, rfl, a, rfl, ⟨_, .inl (.inl (sD _ _ ha))⟩, for_list (K := K) (a := a) (xs := as.map V.ref) (fun i σ H' => ∃ (cs : List Addr) (v3 v4 v5 v6 v7 v8 : Option V), σ = [some (.ref a), some (.ref b), some (.ref D), v3, v4, v5, v6, v7, v8] ∧ H' D = some (.lst (cs.map V.ref)) ∧
      Two (TuAt H') ((ss.take i).flatMap fun s => oo.flatMap (inter s)) cs ∧ But D (upd H D (.lst [])) H') ⟨[], none, none, none, none, none, none, rfl, upd_same, .nil, But.refl _ _⟩ (fun i σ H' _ p => ?_) (fun i x σ H' hx p => ?_) fun σ H' p => ?_⟩)
    · obtain ⟨cs, v3, v4, v5, v6, v7, v8, rfl, p1, p2, p3⟩ := p
      exact .inl (.inl (p3 _ _ nDa (sD _ _ ha)))
    · obtain ⟨cs, v3, v4, v5, v6, v7, v8, rfl, p1, p2, p3⟩ := p
      obtain ⟨t, rfl, ht⟩ := refs_get hx
      obtain ⟨⟨fi, be⟩, hs1, htu⟩ := ta.at_ i t ht
      have hil := (List.getElem?_eq_some_iff.mp ht).1
      have htu1 : H t = some (.tup [.int fi, oV be]) := htu
      have htu2 : H' t = some (.tup [.int fi, oV be]) := but_same hD p3 _ _ htu1
      refine ⟨t, _, rfl, .inl (.inl htu2), rfl, _, _, rfl, _, _, rfl, rfl, ?_⟩
      refine i_forL ⟨_, rfl, b, rfl, ⟨_, .inl (.inl (p3 _ _ nDb (sD _ _ hb)))⟩, for_list (K := K) (a := b) (xs := bs.map V.ref) (fun j σ H' => ∃ (cs : List Addr) (v5 v6 v7 v8 : Option V), σ = [some (.ref a), some (.ref b), some (.ref D), some (.int fi), some (oV be), v5, v6, v7, v8] ∧ H' D = some (.lst (cs.map V.ref)) ∧
        Two (TuAt H') (((ss.take i).flatMap fun s => oo.flatMap (inter s)) ++ (oo.take j).flatMap (inter (fi, be))) cs ∧ But D (upd H D (.lst [])) H') ⟨cs, v5, v6, v7, v8, rfl, p1, by simpa using p2, p3⟩ (fun j σ H' _ p => ?_) (fun j x σ H' hx p => ?_) fun σ H' p => ?_⟩
      · obtain ⟨cs, v5, v6, v7, v8, rfl, p1, p2, p3⟩ := p
        exact .inl (.inl (p3 _ _ nDb (sD _ _ hb)))
      · obtain ⟨cs, v5, v6, v7, v8, rfl, p1, p2, p3⟩ := p
        obtain ⟨u, rfl, hu⟩ := refs_get hx
        obtain ⟨⟨g, en⟩, ho1, hutu⟩ := tb.at_ j u hu
        have hjl := (List.getElem?_eq_some_iff.mp hu).1
        have hutu1 : H u = some (.tup [.int g, oV en]) := hutu
        have hutu2 : H' u = some (.tup [.int g, oV en]) := but_same hD p3 _ _ hutu1
        have hcs : cs.length ≤ 1001000 := by
          have h1 := p2.len
          rw [List.length_append] at h1
          have h2 := flat_len (F := fun s => oo.flatMap (inter s)) (k := oo.length) (l := ss.take i) fun s _ => inner_len s oo
          have h3 := inner_len (fi, be) (oo.take j)
          have h4 : (ss.take i).length * oo.length ≤ 1000 * 1000 := Nat.mul_le_mul (by rw [List.length_take, ← ta.len]; omega) (by rw [← tb.len]; omega)
          have h5 : (oo.take j).length ≤ 1000 := by rw [List.length_take, ← tb.len]; omega
          omega
        refine ⟨u, _, rfl, .inl (.inl hutu2), rfl, _, _, rfl, _, _, rfl, rfl, ?_⟩
        refine i_setThen ⟨_, rfl, _, rfl, fi, g, rfl, ?_⟩
        refine i_setThen ⟨_, rfl, _, rfl, be, en, rfl, ?_⟩
        have key : ∀ (H5 : Hp) (cs' : List Addr) (v7 v8 : Option V), H5 D = some (.lst (cs'.map V.ref)) → Two (TuAt H5) ((((ss.take i).flatMap fun s => oo.flatMap (inter s)) ++ (oo.take j).flatMap (inter (fi, be))) ++ inter (fi, be) (g, en)) cs' → But D (upd H D (.lst [])) H5 →
            ∃ (cs : List Addr) (u5 u6 u7 u8 : Option V), ([some (.ref a), some (.ref b), some (.ref D), some (.int fi), some (oV be), some (.int g), some (oV en), v7, v8] : L2.St) = [some (.ref a), some (.ref b), some (.ref D), some (.int fi), some (oV be), u5, u6, u7, u8] ∧ H5 D = some (.lst (cs.map V.ref)) ∧
              Two (TuAt H5) (((ss.take i).flatMap fun s => oo.flatMap (inter s)) ++ (oo.take (j + 1)).flatMap (inter (fi, be))) cs ∧ But D (upd H D (.lst [])) H5 := fun H5 cs' v7 v8 h1 h2 h3 =>
          ⟨cs', _, _, v7, v8, rfl, h1, by rw [flat_take ho1, ← List.append_assoc]; exact h2, h3⟩
        rw [inter_pc] at key
        refine i_ifs (i_or (i_b (i_isN ⟨_, rfl, ?_⟩)))
        simp only at key
        cases hn : near be en with
        | none =>
          rw [hn] at key
          refine ⟨_, rfl, iteT (iteT ?_)⟩
          refine ⟨_, rfl, .inl ⟨rfl, _, SqL.of p1⟩, _, rfl, _, rfl, (by show 2 ≤ sizeLine; decide), fun t2 ht2 => ?_⟩
          refine ⟨D, _, _, rfl, rfl, by rw [upd_ne (ne_of_none p1 ht2)]; exact p1, by rw [List.length_map]; omega, ?_⟩
          obtain ⟨k1, k2, k3⟩ := add_tup (r := ((if g > fi then g else fi), none)) p1 p2 p3 ht2
          exact key _ (cs ++ [t2]) _ _ k1 k2 k3
        | some p =>
          rw [hn] at key
          refine ⟨_, rfl, iteF ?_⟩
          refine ⟨_, rfl, _, rfl, _, p, rfl, rfl, _, rfl, ite2 (fun hlt => ?_) fun hlt => ?_⟩
          · have hlt' : (if g > fi then g else fi) < p := of_decide_eq_true hlt
            refine ⟨_, rfl, .inl ⟨rfl, _, SqL.of p1⟩, _, rfl, _, rfl, (by show 2 ≤ sizeLine; decide), fun t2 ht2 => ?_⟩
            refine ⟨D, _, _, rfl, rfl, by rw [upd_ne (ne_of_none p1 ht2)]; exact p1, by rw [List.length_map]; omega, ?_⟩
            obtain ⟨k1, k2, k3⟩ := add_tup (r := ((if g > fi then g else fi), some p)) p1 p2 p3 ht2
            exact key _ (cs ++ [t2]) _ _ k1 (by show Two _ (_ ++ (if _ then _ else _)) _; rw [if_pos hlt']; exact k2) k3
          · have hlt' : ¬ (if g > fi then g else fi) < p := fun z => hlt (decide_eq_true z)
            exact key H' cs _ _ p1 (by show Two _ (_ ++ (if _ then _ else _)) _; rw [if_neg hlt', List.append_nil]; exact p2) p3
      · obtain ⟨cs, v5, v6, v7, v8, rfl, p1, p2, p3⟩ := p
        rw [List.length_map, tb.len, List.take_length] at p2
        exact ⟨cs, _, _, _, _, _, _, rfl, p1, by rw [flat_take hs1]; exact p2, p3⟩
    · obtain ⟨cs, v3, v4, v5, v6, v7, v8, rfl, p1, p2, p3⟩ := p
      rw [List.length_map, ta.len, List.take_length] at p2
      exact ⟨_, rfl, k H' D cs (but_same hD p3) p1 p2⟩
end
end K7
namespace K7
open PySem L2 KD LamX
open C8 (Cal Mak Met Def pe_c pe_mk pe_mt pe_mt0 cal0 met0 mak0)
section
variable {P : Program} {w : World} {K : PySem.W.Frag} {mg : Str → Option Value} {base : Heap}
/-! ### spans_between -/
def spBetw : Sp := fun vs H Q _ => ∃ (a : Addr) (as : List Addr) (ss : List Spn), vs = [.ref a] ∧ H a = some (.lst (as.map V.ref)) ∧ Two (TuAt H) ss as ∧ as.length ≤ 1000 ∧
  ∀ (H' : Hp) (p : Addr) (cs : List Addr), Same H H' → H' p = some (.lst (cs.map V.ref)) → Two (TuAt H') (KD.betw 0 ss) cs → Q (.ref p) H'
abbrev nBetw : List Str := ["spans", "found", "start", "first", "behind"]
theorem scBetw : FnScope nBetw ["spans"] (C8.fnScope sBetw) := ⟨rfl, rfl, rfl, by decide +kernel, rfl, by decide +kernel, by decide +kernel⟩
theorem drop_at {α : Type} {l : List α} {i : Nat} {x : α} (h : l[i]? = some x) : l.drop i = x :: l.drop (i + 1) := by
  have hi := (List.getElem?_eq_some_iff.mp h).1
  rw [List.drop_eq_getElem_cons hi]
  congr 1
  rw [List.getElem?_eq_getElem hi] at h
  exact Option.some.inj h
theorem i_then {t u : TS} {D : Ends} {σ : L2.St} {H : Hp} {c : TT} {p q : TS} (e : t = tIfS c p q) (h : c σ H fun b H1 => if b = true then p { D with nx := u D } σ H1 else q { D with nx := u D } σ H1) : tSeq t u D σ H := by
  subst e
  exact h
/-- what holds between two turns -/
def PBetw (a D : Addr) (H0 : Hp) (ss : List Spn) (i : Nat) : L2.St → Hp → Prop := fun σ H' => ∃ (cs : List Addr) (xs : List Spn) (st : Int) (v3 v4 : Option V), σ = [some (.ref a), some (.ref D), some (.int st), v3, v4] ∧ H' D = some (.lst (cs.map V.ref)) ∧
  Two (TuAt H') xs cs ∧ But D H0 H' ∧ ((xs ++ betw st (ss.drop i) = betw 0 ss) ∧ xs.length ≤ i)
theorem betw_some {st f e : Int} {r : List Spn} : betw st ((f, some e) :: r) = (if st < f then [(st, some f)] else []) ++ betw e r := rfl
theorem betw_none {st f : Int} {r : List Spn} : betw st ((f, none) :: r) = (if st < f then [(st, some f)] else []) := rfl
theorem cal_betw {f : Addr} {fd : FuncData} (F : Def K mg "spans_between" sBetw f fd) (b : Binds K fd ["spans"] []) : Cal P w K mg base 1 "spans_between" spBetw [] := by
  refine cal0 F b .nil scBetw (fun vs H Q E h => ?_) (fun cdv A outer s H vs Q E hr h => ?_)
  · obtain ⟨a, as, ss, rfl, _⟩ := h
    rfl
  · obtain ⟨a, as, ss, rfl, ha, ta, la, k⟩ := h
    refine ⟨_, pss_cons (ps_set (i := 1) scBetw.nd rfl (Or.inl rfl) (pe_lst pa_nil)) (pss_cons (ps_set (i := 2) scBetw.nd rfl (Or.inl rfl) pe_int)
      (pss_cons (ps_for PassesOwn.never rfl (pi_list (pv 0)) (pg_tup rfl (pgs_cons (pg_name (i := 3) scBetw.nd rfl (Or.inl rfl)) (pgs_cons (pg_name (i := 4) scBetw.nd rfl (Or.inl rfl)) pgs_nil)))
        (pss_cons (ps_if (pt_cmp (pc_lt (pv 2) (pv 3))) (pss_one (ps_expr (pe_bm PySem.F.plainAttrs_list PySem.F.slot_list_append PySem.F.type_list_append mt_append (pv 1) (pa_cons (pe_tup (pa_cons (pv 2) (pa_cons (pv 3) pa_nil))) pa_nil)))) pss_nil)
        (pss_cons (ps_if (pt_cmp (pc_isN (pv 4))) (pss_one (ps_ret (pv 1))) pss_nil)
        (pss_one (ps_set (i := 2) scBetw.nd rfl (Or.inl rfl) (pv 4))))))
      (pss_one (ps_ret (pe_op op_cat (pv 1) (pe_lst (pa_cons (pe_tup (pa_cons (pv 2) (pa_cons pe_non pa_nil))) pa_nil))))))), ?_⟩
    have hsz : sizeLine = 16777216 := by decide
    refine i_setThen ⟨Nat.zero_le _, fun D hD => i_setThen ?_⟩
    have sD : Same H (upd H D (.lst [])) := Same.new hD
    have nDa : a ≠ D := ne_of_none ha hD
    refine i_seq (i_forL ⟨_, rfl, a, rfl, ⟨_, .inl (.inl (sD _ _ ha))⟩, for_list (K := K) (a := a) (xs := as.map V.ref) (PBetw a D (upd H D (.lst [])) ss) ⟨[], [], 0, none, none, rfl, upd_same, .nil, But.refl _ _, rfl, Nat.le_refl _⟩ (fun i σ H' _ p => ?_) (fun i x σ H' hx p => ?_) fun σ H' p => ?_⟩)
    · obtain ⟨cs, xs, st, v3, v4, rfl, p1, p2, p3, p4, p5⟩ := p
      exact .inl (.inl (p3 _ _ nDa (sD _ _ ha)))
    · obtain ⟨cs, xs, st, v3, v4, rfl, p1, p2, p3, p4, p5⟩ := p
      obtain ⟨t, rfl, ht⟩ := refs_get hx
      obtain ⟨⟨fi, be⟩, hs1, htu⟩ := ta.at_ i t ht
      have hil := (List.getElem?_eq_some_iff.mp ht).1
      have htu1 : H t = some (.tup [.int fi, oV be]) := htu
      have htu2 : H' t = some (.tup [.int fi, oV be]) := but_same hD p3 _ _ htu1
      have hcs := p2.len
      refine ⟨t, _, rfl, .inl (.inl htu2), rfl, _, _, rfl, _, _, rfl, rfl, ?_⟩
      rw [drop_at hs1] at p4
      -- if behind is None: return found; start = behind
      have rest : ∀ (Dn : Ends) (H5 : Hp) (cs' : List Addr) (xs' : List Spn), (∀ σ' H', PBetw a D (upd H D (.lst [])) ss (i + 1) σ' H' → Dn.nx σ' H') → (∀ H', Q (.ref D) H' → Dn.rt (.ref D) H') → H5 D = some (.lst (cs'.map V.ref)) → Two (TuAt H5) xs' cs' → But D (upd H D (.lst [])) H5 →
          xs' = xs ++ (if st < fi then [(st, some fi)] else []) →
          tSeq (tIfS (tB (tIsN (tVar 4))) (tRet (tVar 1)) tNext) (tAsg (tVar 4) (gName 2)) Dn [some (.ref a), some (.ref D), some (.int st), some (.int fi), some (oV be)] H5 := by
        intro Dn H5 cs' xs' hn hq h1 h2 h3 h4
        have hx4 : xs'.length ≤ i + 1 := by
          rw [h4, List.length_append]
          split <;> simp <;> omega
        cases be with
        | none =>
          refine i_seq (i_ifs (i_b (i_isN ⟨_, rfl, _, rfl, iteT ?_⟩)))
          refine ⟨_, rfl, hq H5 (k H5 D cs' (but_same hD h3) h1 ?_)⟩
          rw [← p4, betw_none, ← h4]
          exact h2
        | some e =>
          refine i_seq (i_ifs (i_b (i_isN ⟨_, rfl, _, rfl, iteF ?_⟩)))
          refine ⟨_, rfl, hn _ _ ⟨cs', xs', e, _, _, rfl, h1, h2, h3, ?_, hx4⟩⟩
          rw [h4, List.append_assoc, ← betw_some]
          exact p4
      refine i_seq (i_ifs (i_b ⟨_, rfl, _, rfl, st, fi, rfl, rfl, _, rfl, ite2 (fun hlt => ?_) fun hlt => ?_⟩))
      · have hlt' : st < fi := of_decide_eq_true hlt
        refine ⟨_, rfl, .inl ⟨rfl, _, SqL.of p1⟩, _, rfl, _, rfl, (by show 2 ≤ sizeLine; decide), fun t2 ht2 => ?_⟩
        have hil2 := (List.getElem?_eq_some_iff.mp ht).1
        refine ⟨D, _, _, rfl, rfl, by rw [upd_ne (ne_of_none p1 ht2)]; exact p1, by rw [List.length_map]; omega, ?_⟩
        obtain ⟨k1, k2, k3⟩ := add_tup (r := (st, some fi)) p1 p2 p3 ht2
        exact rest _ _ (cs ++ [t2]) (xs ++ [(st, some fi)]) (fun _ _ z => z) (fun _ z => z) k1 k2 k3 (by rw [if_pos hlt'])
      · have hlt' : ¬ st < fi := fun z => hlt (decide_eq_true z)
        exact rest _ _ cs xs (fun _ _ z => z) (fun _ z => z) p1 p2 p3 (by rw [if_neg hlt', List.append_nil])
    · obtain ⟨cs, xs, st, v3, v4, rfl, p1, p2, p3, p4, p5⟩ := p
      have hcs := p2.len
      rw [List.length_map] at p5
      refine ⟨_, rfl, _, rfl, (by show 2 ≤ sizeLine; decide), fun t ht => ⟨(by show 1 ≤ sizeLine; decide), fun l hl => ?_⟩⟩
      have nDt : D ≠ t := ne_of_none p1 ht
      have h1 : upd H' t (.tup [.int st, .non]) D = some (.lst (cs.map V.ref)) := by rw [upd_ne nDt]; exact p1
      have nDl : D ≠ l := ne_of_none h1 hl
      refine ⟨D, l, _, _, rfl, rfl, by rw [upd_ne nDl]; exact h1, upd_same, by rw [List.length_map]; show cs.length + 1 ≤ sizeLine; omega, fun p hp => ?_⟩
      have hfree : H' p = none := by
        have e1 : upd (upd H' t (.tup [.int st, .non])) l (.lst [.ref t]) p = none := hp
        cases q : H' p with
        | none => rfl
        | some o =>
          have h2 := (Same.new (o := .tup [.int st, .non]) ht) _ _ q
          rw [Same.new hl _ _ h2] at e1
          cases e1
      have s1 : Same H' (upd (upd (upd H' t (.tup [.int st, .non])) l (.lst [.ref t])) p (.lst (cs.map V.ref ++ [.ref t]))) := ((Same.new ht).trans (Same.new hl)).trans (Same.new hp)
      refine k _ p (cs ++ [t]) ((but_same hD p3).trans s1) (by rw [upd_same, List.map_append]; rfl) ?_
      rw [← p4, List.length_map, ta.len, List.drop_length]
      refine Two.app (p2.mono fun r a h => TuAt.same s1 r a h) (.one ?_)
      show upd (upd (upd H' t _) l _) p _ t = _
      have n1 : t ≠ l := fun z => by
        rw [z, ] at hl
        rw [upd_same] at hl
        cases hl
      have n2 : t ≠ p := fun z => by
        have h3 : upd (upd H' t (.tup [.int st, .non])) l (.lst [.ref t]) t = some (.tup [.int st, .non]) := by rw [upd_ne n1, upd_same]
        rw [← z, h3] at hp
        cases hp
      rw [upd_ne n2, upd_ne n1, upd_same]
      rfl
end
end K7
namespace K7
open PySem L2 KD LamX
open C8 (Cal Mak Met Def pe_c pe_mk pe_mt pe_mt0 cal0 met0 mak0)
section
variable {P : Program} {w : World} {K : PySem.W.Frag} {mg : Str → Option Value} {base : Heap}
/-- a list or tuple of stretches is handed in at a -/
def Arg (C : Addr) (H : Hp) (a : Addr) (rs : List Spn) : Prop := ∃ as : List Addr, LT H a (as.map V.ref) ∧ Two (StAt C H) rs as ∧ Good rs ∧ rs.length ≤ 400
theorem Arg.ext {C : Addr} {H H' : Hp} {a : Addr} {rs : List Spn} (e : ExtN H H') (h : Arg C H a rs) : Arg C H' a rs :=
  let ⟨as, h1, h2, h3, h4⟩ := h
  ⟨as, h1.ext e, h2.mono fun r a z => StAt.ext e r a z, h3, h4⟩
/-- a list is told: new stretches, in one way, whose days are M's -/
def Got (C Pt : Addr) (H : Hp) (Q : VK) (M : Int → Prop) (n : Nat) : Prop := ∀ (H' : Hp) (p : Addr) (bs : List Addr) (ss : List Spn), ExtN H H' → Tabs (tabT Pt) H' → H' p = some (.lst (bs.map V.ref)) → Two (StAt C H') (rowsOf ss) bs → Can (-1) ss → (∀ d, Mem ss d ↔ M d) → ss.length ≤ n → Q (.ref p) H'
def spDays (C Pt : Addr) : Sp := fun vs H Q _ => ∃ (a : Addr) (rs : List Spn), vs = [.ref a] ∧ Arg C H a rs ∧ Tabs (tabT Pt) H ∧ Got C Pt H Q (MemR rs) rs.length
theorem scDaysIn : FnScope ["some"] ["some"] (C8.fnScope sDaysIn) := ⟨rfl, rfl, rfl, by decide +kernel, rfl, by decide +kernel, by decide +kernel⟩
/-- spans told as stretches -/
theorem as_got {C Pt : Addr} {H H1 : Hp} {Q : VK} {E : XK} {M : Int → Prop} {n : Nat} {p : Addr} {bs : List Addr} {ss : List Spn} (e : ExtN H H1) (t : Tabs (tabT Pt) H1) (h1 : H1 p = some (.lst (bs.map V.ref))) (h2 : Two (TuAt H1) ss bs) (hc : Can (-1) ss) (hm : ∀ d, Mem ss d ↔ M d) (hn : ss.length ≤ n) (hl : n ≤ 1000000)
    (g : Got C Pt H Q M n) : spAs C [.ref p] H1 Q E :=
  ⟨p, bs, ss, rfl, h1, h2, hc, by have := h2.len; omega, fun H' q cs s1 k1 k2 => g H' q cs ss (e.trans (.of s1)) (Tabs.ext t s1) k1 k2 hc hm hn⟩
theorem cal_daysIn {C Pt f : Addr} {fd : FuncData} (F : Def K mg "days_in" sDaysIn f fd) (b : Binds K fd ["some"] []) (cW : Cal P w K mg base 2 "want_stretches" (spWant C) []) (cA : Cal P w K mg base 4 "as_stretches" (spAs C) []) (cS : Cal P w K mg base 4 "spans_of" (spSpans C Pt) []) :
    Cal P w K mg base 5 "days_in" (spDays C Pt) [] := by
  refine cal0 F b .nil scDaysIn (fun vs H Q E h => ?_) (fun cdv A outer s H vs Q E hr h => ?_)
  · obtain ⟨a, rs, rfl, _⟩ := h
    rfl
  · obtain ⟨a, rs, rfl, ⟨as, hL, two, hg, hl⟩, hT, k⟩ := h
    refine ⟨_, pss_cons (ps_expr (pe_c cW hr (by decide) (by rfl) (pa_cons (pv 0) pa_nil))) (pss_one (ps_ret (pe_c cA hr (by decide) (by rfl) (pa_cons (pe_c cS hr (by decide) (by rfl) (pa_cons (pv 0) pa_nil)) pa_nil)))), ?_⟩
    have hlen := two.len
    refine ⟨_, rfl, a, as, rs, rfl, hL, two, by omega, fun H1 s1 => ?_⟩
    refine ⟨_, rfl, a, as, rs, rfl, hL.ext (.of s1), two.mono fun r a z => StAt.same s1 r a z, hg, by omega, Tabs.ext hT s1, fun H2 p bs ss e t h1 h2 hc hm hn => ?_⟩
    exact as_got (E := C8.E0) (Pt := Pt) (H := H) (ExtN.trans (.of s1) e) t h1 h2 hc hm hn (by omega) k
def spEither (C Pt : Addr) : Sp := fun vs H Q _ => ∃ (a b : Addr) (rs qs : List Spn), vs = [.ref a, .ref b] ∧ Arg C H a rs ∧ Arg C H b qs ∧ Tabs (tabT Pt) H ∧ Got C Pt H Q (fun d => MemR rs d ∨ MemR qs d) (rs.length + qs.length)
def spBothD (C Pt : Addr) : Sp := fun vs H Q _ => ∃ (a b : Addr) (rs qs : List Spn), vs = [.ref a, .ref b] ∧ Arg C H a rs ∧ Arg C H b qs ∧ Tabs (tabT Pt) H ∧ Got C Pt H Q (fun d => MemR rs d ∧ MemR qs d) (rs.length * qs.length)
def spOnly (C Pt : Addr) : Sp := fun vs H Q _ => ∃ (a b : Addr) (rs qs : List Spn), vs = [.ref a, .ref b] ∧ Arg C H a rs ∧ Arg C H b qs ∧ Tabs (tabT Pt) H ∧ Got C Pt H Q (fun d => MemR rs d ∧ ¬ MemR qs d) (rs.length * (qs.length + 1))
theorem scEither : FnScope ["some", "others"] ["some", "others"] (C8.fnScope sEither) := ⟨rfl, rfl, rfl, by decide +kernel, rfl, by decide +kernel, by decide +kernel⟩
theorem scBothD : FnScope ["some", "others"] ["some", "others"] (C8.fnScope sBothD) := ⟨rfl, rfl, rfl, by decide +kernel, rfl, by decide +kernel, by decide +kernel⟩
theorem scOnly : FnScope ["some", "others"] ["some", "others"] (C8.fnScope sOnly) := ⟨rfl, rfl, rfl, by decide +kernel, rfl, by decide +kernel, by decide +kernel⟩
theorem MemR_app {xs ys : List Spn} {d : Int} : MemR (xs ++ ys) d ↔ MemR xs d ∨ MemR ys d := by
  constructor
  · rintro ⟨x, hx, h⟩
    rcases List.mem_append.mp hx with hx | hx
    · exact .inl ⟨x, hx, h⟩
    · exact .inr ⟨x, hx, h⟩
  · rintro (⟨x, hx, h⟩ | ⟨x, hx, h⟩)
    · exact ⟨x, List.mem_append_left _ hx, h⟩
    · exact ⟨x, List.mem_append_right _ hx, h⟩
theorem cal_either {C Pt f : Addr} {fd : FuncData} (F : Def K mg "either_days" sEither f fd) (b : Binds K fd ["some", "others"] []) (mL : mg "list" = none) (cW : Cal P w K mg base 2 "want_stretches" (spWant C) []) (cA : Cal P w K mg base 4 "as_stretches" (spAs C) []) (cS : Cal P w K mg base 4 "spans_of" (spSpans C Pt) []) :
    Cal P w K mg base 5 "either_days" (spEither C Pt) [] := by
  refine cal0 F b .nil scEither (fun vs H Q E h => ?_) (fun cdv A outer s H vs Q E hr h => ?_)
  · obtain ⟨a, b, rs, qs, rfl, _⟩ := h
    rfl
  · obtain ⟨a, b, rs, qs, rfl, ⟨as, hL, two, hg, hl⟩, ⟨bs, hL2, two2, hg2, hl2⟩, hT, k⟩ := h
    refine ⟨_, pss_cons (ps_expr (pe_c cW hr (by decide) (by rfl) (pa_cons (pv 0) pa_nil))) (pss_cons (ps_expr (pe_c cW hr (by decide) (by rfl) (pa_cons (pv 1) pa_nil)))
      (pss_one (ps_ret (pe_c cA hr (by decide) (by rfl) (pa_cons (pe_c cS hr (by decide) (by rfl) (pa_cons (pe_op op_cat (pe_callTy call_list_of (by rfl) mL (by decide +kernel) (pa_cons (pv 0) pa_nil)) (pe_callTy call_list_of (by rfl) mL (by decide +kernel) (pa_cons (pv 1) pa_nil))) pa_nil)) pa_nil))))), ?_⟩
    have hlen := two.len
    have hlen2 := two2.len
    have hsz : sizeLine = 16777216 := by decide
    refine ⟨_, rfl, a, as, rs, rfl, hL, two, by omega, fun H1 s1 => ?_⟩
    refine ⟨_, rfl, b, bs, qs, rfl, hL2.ext (.of s1), two2.mono fun r a z => StAt.same s1 r a z, by omega, fun H2 s2 => ?_⟩
    have s12 := s1.trans s2
    refine ⟨_, rfl, a, _, rfl, (hL.ext (.of s12)).elim (fun z => .inl (.inl (.inl z))) (fun z => .inr (.inl (.inl z))), fun l1 hl1 => ?_⟩
    have s13 : Same H (upd H2 l1 (.lst (as.map V.ref))) := s12.trans (Same.new hl1)
    refine ⟨_, rfl, b, _, rfl, (hL2.ext (.of s13)).elim (fun z => .inl (.inl (.inl z))) (fun z => .inr (.inl (.inl z))), fun l2 hn2 => ?_⟩
    have nl : l1 ≠ l2 := ne_of_none upd_same hn2
    refine ⟨l1, l2, _, _, rfl, rfl, by rw [upd_ne nl, upd_same], upd_same, by rw [List.length_map, List.length_map]; omega, fun l3 hn3 => ?_⟩
    have s14 : Same H (upd (upd (upd H2 l1 (.lst (as.map V.ref))) l2 (.lst (bs.map V.ref))) l3 (.lst (as.map V.ref ++ bs.map V.ref))) := (s13.trans (Same.new hn2)).trans (Same.new hn3)
    refine ⟨l3, as ++ bs, rs ++ qs, rfl, .inl (by rw [upd_same, List.map_append]), (two.mono fun r a z => StAt.same s14 r a z).app (two2.mono fun r a z => StAt.same s14 r a z), fun r hr => ?_, by rw [List.length_append]; omega, Tabs.ext hT s14, fun H3 p cs ss e t h1 h2 hc hm hn => ?_⟩
    · rcases List.mem_append.mp hr with hr | hr
      · exact hg r hr
      · exact hg2 r hr
    · rw [List.length_append] at hn
      exact as_got (E := C8.E0) (Pt := Pt) (H := H) (ExtN.trans (.of s14) e) t h1 h2 hc (fun d => (hm d).trans MemR_app) hn (by omega) k
theorem cal_bothD {C Pt f : Addr} {fd : FuncData} (F : Def K mg "both_days" sBothD f fd) (b : Binds K fd ["some", "others"] []) (cW : Cal P w K mg base 2 "want_stretches" (spWant C) []) (cA : Cal P w K mg base 4 "as_stretches" (spAs C) []) (cS : Cal P w K mg base 4 "spans_of" (spSpans C Pt) [])
    (cB : Cal P w K mg base 2 "spans_of_both" spBoth []) : Cal P w K mg base 5 "both_days" (spBothD C Pt) [] := by
  refine cal0 F b .nil scBothD (fun vs H Q E h => ?_) (fun cdv A outer s H vs Q E hr h => ?_)
  · obtain ⟨a, b, rs, qs, rfl, _⟩ := h
    rfl
  · obtain ⟨a, b, rs, qs, rfl, ⟨as, hL, two, hg, hl⟩, ⟨bs, hL2, two2, hg2, hl2⟩, hT, k⟩ := h
    refine ⟨_, pss_cons (ps_expr (pe_c cW hr (by decide) (by rfl) (pa_cons (pv 0) pa_nil))) (pss_cons (ps_expr (pe_c cW hr (by decide) (by rfl) (pa_cons (pv 1) pa_nil)))
      (pss_one (ps_ret (pe_c cA hr (by decide) (by rfl) (pa_cons (pe_c cB hr (by decide) (by rfl) (pa_cons (pe_c cS hr (by decide) (by rfl) (pa_cons (pv 0) pa_nil)) (pa_cons (pe_c cS hr (by decide) (by rfl) (pa_cons (pv 1) pa_nil)) pa_nil))) pa_nil))))), ?_⟩
    have hlen := two.len
    have hlen2 := two2.len
    refine ⟨_, rfl, a, as, rs, rfl, hL, two, by omega, fun H1 s1 => ?_⟩
    refine ⟨_, rfl, b, bs, qs, rfl, hL2.ext (.of s1), two2.mono fun r a z => StAt.same s1 r a z, by omega, fun H2 s2 => ?_⟩
    have s12 := s1.trans s2
    refine ⟨_, rfl, a, as, rs, rfl, hL.ext (.of s12), two.mono fun r a z => StAt.same s12 r a z, hg, by omega, Tabs.ext hT s12, fun H3 p1 cs1 ss1 e1 t1 h11 h12 hc1 hm1 hn1 => ?_⟩
    have e13 : ExtN H H3 := ExtN.trans (.of s12) e1
    refine ⟨_, rfl, b, bs, qs, rfl, hL2.ext e13, two2.mono fun r a z => StAt.ext e13 r a z, hg2, by omega, t1, fun H4 p2 cs2 ss2 e2 t2 h21 h22 hc2 hm2 hn2 => ?_⟩
    have hcl1 := h12.len
    have hcl2 := h22.len
    refine ⟨p1, p2, cs1, cs2, ss1, ss2, rfl, e2 _ _ h11 (fun ps z => by cases z), h21, h12.mono fun r a z => TuAt.ext e2 r a z, h22, by omega, by omega, fun H5 p3 cs3 s3 h31 h32 => ?_⟩
    have hmul : rs.length * qs.length ≤ 400 * 400 := Nat.mul_le_mul hl hl2
    have hmul2 : ss1.length * ss2.length ≤ rs.length * qs.length := Nat.mul_le_mul hn1 hn2
    exact as_got (E := C8.E0) (Pt := Pt) (H := H) ((e13.trans e2).trans (.of s3)) (Tabs.ext t2 s3) h31 h32 (hc1.both hc2) (fun d => Mem_both.trans (by rw [hm1 d, hm2 d])) (Nat.le_trans (both_len _ _) hmul2) (by omega) k
theorem cal_only {C Pt f : Addr} {fd : FuncData} (F : Def K mg "only_days" sOnly f fd) (b : Binds K fd ["some", "others"] []) (cW : Cal P w K mg base 2 "want_stretches" (spWant C) []) (cA : Cal P w K mg base 4 "as_stretches" (spAs C) []) (cS : Cal P w K mg base 4 "spans_of" (spSpans C Pt) [])
    (cB : Cal P w K mg base 2 "spans_of_both" spBoth []) (cT : Cal P w K mg base 1 "spans_between" spBetw []) : Cal P w K mg base 5 "only_days" (spOnly C Pt) [] := by
  refine cal0 F b .nil scOnly (fun vs H Q E h => ?_) (fun cdv A outer s H vs Q E hr h => ?_)
  · obtain ⟨a, b, rs, qs, rfl, _⟩ := h
    rfl
  · obtain ⟨a, b, rs, qs, rfl, ⟨as, hL, two, hg, hl⟩, ⟨bs, hL2, two2, hg2, hl2⟩, hT, k⟩ := h
    refine ⟨_, pss_cons (ps_expr (pe_c cW hr (by decide) (by rfl) (pa_cons (pv 0) pa_nil))) (pss_cons (ps_expr (pe_c cW hr (by decide) (by rfl) (pa_cons (pv 1) pa_nil)))
      (pss_one (ps_ret (pe_c cA hr (by decide) (by rfl) (pa_cons (pe_c cB hr (by decide) (by rfl) (pa_cons (pe_c cS hr (by decide) (by rfl) (pa_cons (pv 0) pa_nil)) (pa_cons (pe_c cT hr (by decide) (by rfl) (pa_cons (pe_c cS hr (by decide) (by rfl) (pa_cons (pv 1) pa_nil)) pa_nil)) pa_nil))) pa_nil))))), ?_⟩
    have hlen := two.len
    have hlen2 := two2.len
    refine ⟨_, rfl, a, as, rs, rfl, hL, two, by omega, fun H1 s1 => ?_⟩
    refine ⟨_, rfl, b, bs, qs, rfl, hL2.ext (.of s1), two2.mono fun r a z => StAt.same s1 r a z, by omega, fun H2 s2 => ?_⟩
    have s12 := s1.trans s2
    refine ⟨_, rfl, a, as, rs, rfl, hL.ext (.of s12), two.mono fun r a z => StAt.same s12 r a z, hg, by omega, Tabs.ext hT s12, fun H3 p1 cs1 ss1 e1 t1 h11 h12 hc1 hm1 hn1 => ?_⟩
    have e13 : ExtN H H3 := ExtN.trans (.of s12) e1
    refine ⟨_, rfl, b, bs, qs, rfl, hL2.ext e13, two2.mono fun r a z => StAt.ext e13 r a z, hg2, by omega, t1, fun H4 p2 cs2 ss2 e2 t2 h21 h22 hc2 hm2 hn2 => ?_⟩
    have hcl1 := h12.len
    have hcl2 := h22.len
    refine ⟨p2, cs2, ss2, rfl, h21, h22, by omega, fun H5 p3 cs3 s3 h31 h32 => ?_⟩
    have hcl3 := h32.len
    have hbl := betw_len ss2 0
    have e35 : ExtN H3 H5 := e2.trans (.of s3)
    refine ⟨p1, p3, cs1, cs3, ss1, betw 0 ss2, rfl, e35 _ _ h11 (fun ps z => by cases z), h31, h12.mono fun r a z => TuAt.ext e35 r a z, h32, by omega, by omega, fun H6 p4 cs4 s4 h41 h42 => ?_⟩
    obtain ⟨o1, o2, o3⟩ := only_ok hc1 hc2
    have hmul : rs.length * (qs.length + 1) ≤ 400 * 401 := Nat.mul_le_mul hl (by omega)
    have hmul2 : ss1.length * (ss2.length + 1) ≤ rs.length * (qs.length + 1) := Nat.mul_le_mul hn1 (by omega)
    exact as_got (E := C8.E0) (Pt := Pt) (H := H) ((e13.trans e35).trans (.of s4)) (Tabs.ext (Tabs.ext t2 s3) s4) h41 h42 o1 (fun d => (o2 d).trans (by rw [hm1 d, hm2 d])) (Nat.le_trans o3 hmul2) (by omega) k
/-! ### many_days -/
def spMany (C Pt : Addr) : Sp := fun vs H Q _ => ∃ (a : Addr) (rs : List Spn), vs = [.ref a] ∧ Arg C H a rs ∧ Tabs (tabT Pt) H ∧ ∀ (H' : Hp) (ss : List Spn), ExtN H H' → Tabs (tabT Pt) H' → Can (-1) ss → (∀ d, Mem ss d ↔ MemR rs d) → Q (oV (many ss)) H'
abbrev nMany : List Str := ["some", "found", "first", "behind"]
theorem scMany : FnScope nMany ["some"] (C8.fnScope sMany) := ⟨rfl, rfl, rfl, by decide +kernel, rfl, by decide +kernel, by decide +kernel⟩
theorem cal_many {C Pt f : Addr} {fd : FuncData} (F : Def K mg "many_days" sMany f fd) (b : Binds K fd ["some"] []) (cW : Cal P w K mg base 2 "want_stretches" (spWant C) []) (cS : Cal P w K mg base 4 "spans_of" (spSpans C Pt) []) :
    Cal P w K mg base 5 "many_days" (spMany C Pt) [] := by
  refine cal0 F b .nil scMany (fun vs H Q E h => ?_) (fun cdv A outer s H vs Q E hr h => ?_)
  · obtain ⟨a, rs, rfl, _⟩ := h
    rfl
  · obtain ⟨a, rs, rfl, ⟨as, hL, two, hg, hl⟩, hT, k⟩ := h
    refine ⟨_, pss_cons (ps_expr (pe_c cW hr (by decide) (by rfl) (pa_cons (pv 0) pa_nil))) (pss_cons (ps_set (i := 1) scMany.nd rfl (Or.inl rfl) pe_int)
      (pss_cons (ps_for PassesOwn.never rfl (pi_list (pe_c cS hr (by decide) (by rfl) (pa_cons (pv 0) pa_nil))) (pg_tup rfl (pgs_cons (pg_name (i := 2) scMany.nd rfl (Or.inl rfl)) (pgs_cons (pg_name (i := 3) scMany.nd rfl (Or.inl rfl)) pgs_nil)))
        (pss_cons (ps_if (pt_cmp (pc_isN (pv 3))) (pss_one (ps_ret pe_non)) pss_nil) (pss_one (ps_aug (i := 1) scMany.nd rfl (Or.inl rfl) (pe_op op_sub (pv 3) (pv 2)) ip_add))))
      (pss_one (ps_ret (pv 1))))), ?_⟩
    have hlen := two.len
    refine ⟨_, rfl, a, as, rs, rfl, hL, two, by omega, fun H1 s1 => ?_⟩
    dsimp only
    refine i_setThen ?_
    show tSeq (tFor _ _ _) _ _ _ _
    refine i_seq ?_
    refine i_forL ⟨_, rfl, a, as, rs, rfl, hL.ext (.of s1), two.mono fun r a z => StAt.same s1 r a z, hg, by omega, Tabs.ext hT s1, fun H2 p bs ss e tb h1 h2 hc hm hn => ?_⟩
    have e12 : ExtN H H2 := ExtN.trans (.of s1) e
    refine ⟨p, rfl, ⟨_, .inl (.inl h1)⟩, for_list (K := K) (a := p) (xs := bs.map V.ref) (fun i σ H' => ∃ (n : Int) (v2 v3 : Option V), σ = [some (.ref a), some (.int n), v2, v3] ∧ H' = H2 ∧ (many (ss.drop i)).map (n + ·) = many ss) ⟨0, none, none, rfl, rfl, ?_⟩ (fun i σ H' _ p => ?_) (fun i x σ H' hx p => ?_) fun σ H' p => ?_⟩
    · rw [List.drop_zero]
      cases many ss with
      | none => rfl
      | some y => simp
    · obtain ⟨n, v2, v3, rfl, rfl, _⟩ := p
      exact .inl (.inl h1)
    · obtain ⟨n, v2, v3, rfl, rfl, pn⟩ := p
      obtain ⟨t, rfl, ht⟩ := refs_get hx
      obtain ⟨⟨fi, be⟩, hs1, htu⟩ := h2.at_ i t ht
      have htu1 : H' t = some (.tup [.int fi, oV be]) := htu
      refine ⟨t, _, rfl, .inl (.inl htu1), rfl, _, _, rfl, _, _, rfl, rfl, ?_⟩
      rw [drop_at hs1] at pn
      cases be with
      | none =>
        refine i_seq (i_ifs (i_b (i_isN ⟨_, rfl, _, rfl, iteT ?_⟩)))
        have em : many ss = none := pn.symm
        have := k H' ss e12 tb hc hm
        rw [em] at this
        exact this
      | some y =>
        refine i_seq (i_ifs (i_b (i_isN ⟨_, rfl, _, rfl, iteF ?_⟩)))
        refine ⟨_, rfl, _, rfl, _, rfl, y, fi, rfl, rfl, _, _, rfl, rfl, n + (y - fi), _, _, rfl, rfl, ?_⟩
        have em : many ((fi, some y) :: ss.drop (i + 1)) = (many (ss.drop (i + 1))).map (· + (y - fi)) := rfl
        rw [em, Option.map_map] at pn
        rw [← pn]
        congr 1
        funext z
        show n + (y - fi) + z = n + (z + (y - fi))
        omega
    · obtain ⟨n, v2, v3, rfl, rfl, pn⟩ := p
      rw [List.length_map, h2.len, List.drop_length] at pn
      have em : many ss = some (n + 0) := pn.symm
      rw [Int.add_zero] at em
      have := k H' ss e12 tb hc hm
      rw [em] at this
      exact ⟨_, rfl, this⟩
end
end K7
namespace K7
open PySem L2 KD LamX
open C8 (Cal Mak Met Def pe_c pe_mk pe_mt pe_mt0 cal0 met0 mak0)
section
variable {P : Program} {w : World} {K : PySem.W.Frag} {mg : Str → Option Value} {base : Heap}
theorem i_next {D : Ends} {σ : L2.St} {H : Hp} (h : D.nx σ H) : tNext D σ H := h
/-! ### the law's own helpers: cells, pots, draws -/
def spCellK (K : PySem.W.Frag) : Sp := fun vs H Q _ => ∃ (l : Addr) (ns : List Int) (j : Nat), vs = [.ref l, .int (j : Nat)] ∧ SqL K H l (ns.map V.int) ∧ ∀ z : Int, Q (.int z) H
theorem scCell : FnScope ["_law_script", "_law_k"] ["_law_script", "_law_k"] (C8.fnScope sCell) := ⟨rfl, rfl, rfl, by decide +kernel, rfl, by decide +kernel, by decide +kernel⟩
theorem cal_cell {f : Addr} {fd : FuncData} (F : Def K mg "_law_cell" sCell f fd) (b : Binds K fd ["_law_script", "_law_k"] []) (mL : mg "len" = none) : Cal P w K mg base 1 "_law_cell" (spCellK K) [] := by
  refine cal0 F b .nil scCell (fun vs H Q E h => ?_) (fun cdv A outer s H vs Q E hr h => ?_)
  · obtain ⟨l, ns, j, rfl, _⟩ := h
    rfl
  · obtain ⟨l, ns, j, rfl, hs, k⟩ := h
    refine ⟨_, pss_one (ps_ret (pe_ifExp (pt_cmp (pc_lt (pv 1) (pe_callB call_len (by rfl) mL (by decide +kernel) (pa_cons (pv 0) pa_nil)))) (pe_ix ix_list (pv 0) (pv 1) (fun _ _ => rfl)) pe_int)), ?_⟩
    refine ⟨_, rfl, _, rfl, _, (ns.map V.int).length, rfl, .inl ⟨_, hs, rfl⟩, (j : Nat), ((ns.map V.int).length : Nat), rfl, rfl, _, rfl, ite2 (fun hlt => ?_) fun _ => k 0⟩
    have hj : j < ns.length := by
      have := of_decide_eq_true hlt
      rw [List.length_map] at this
      omega
    exact ⟨_, rfl, _, rfl, l, _, _, _, rfl, rfl, hs, L2.atI_cell hj, k _⟩
/-- a pot stands at p -/
def PotAt (H : Hp) (p : Addr) : Prop := ∃ a b : Int, H p = some (.lst [.int a, .int b]) ∧ 0 ≤ a ∧ 0 ≤ b ∧ b < 2147483648
def spPot (K : PySem.W.Frag) : Sp := fun vs H Q _ => ∃ (l : Addr) (ns : List Int) (j : Nat), vs = [.ref l, .int (j : Nat)] ∧ j ≤ 1000 ∧ SqL K H l (ns.map V.int) ∧ ∀ (H' : Hp) (p : Addr), Same H H' → H p = none → PotAt H' p → Q (.ref p) H'
abbrev nPot : List Str := ["_law_script", "_law_k", "_law_cell_here"]
theorem scPot : FnScope nPot ["_law_script", "_law_k"] (C8.fnScope sPot) := ⟨rfl, rfl, rfl, by decide +kernel, rfl, by decide +kernel, by decide +kernel⟩
theorem cal_pot {f : Addr} {fd : FuncData} (F : Def K mg "_law_pot" sPot f fd) (b : Binds K fd ["_law_script", "_law_k"] []) (mA : mg "abs" = none) (mM : mg "max" = none) (cC : Cal P w K mg base 1 "_law_cell" (spCellK K) []) : Cal P w K mg base 2 "_law_pot" (spPot K) [] := by
  refine cal0 F b .nil scPot (fun vs H Q E h => ?_) (fun cdv A outer s H vs Q E hr h => ?_)
  · obtain ⟨l, ns, j, rfl, _⟩ := h
    rfl
  · obtain ⟨l, ns, j, rfl, hj, hs, k⟩ := h
    refine ⟨_, pss_cons (ps_set (i := 2) scPot.nd rfl (Or.inl rfl) (pe_callB call_abs (by rfl) mA (by decide +kernel) (pa_cons (pe_c cC hr (by decide) (by rfl) (pa_cons (pv 0) (pa_cons (pv 1) pa_nil))) pa_nil)))
      (pss_one (ps_ret (pe_lst (pa_cons (pe_callB (call_max2 rfl) (by rfl) mM (by decide +kernel) (pa_cons pe_int (pa_cons (pe_op op_sub (pv 2) (pe_op op_pow pe_int pe_int)) pa_nil)))
        (pa_cons (pe_op op_mod (pe_op op_add (pe_op op_add (pe_op op_add (pe_op op_mul (pe_op op_mod (pv 2) pe_int) pe_int) (pe_op op_mul (pe_op op_mul pe_int (pv 1)) (pv 1))) (pe_op op_mul pe_int (pv 1))) pe_int) pe_int) pa_nil))))), ?_⟩
    refine i_setThen ⟨_, rfl, _, rfl, l, ns, j, rfl, hs, fun z => ?_⟩
    refine ⟨z, rfl, ?_⟩
    have hz : (0 : Int) ≤ if z < 0 then -z else z := by split <;> omega
    generalize (if z < 0 then -z else z) = c at hz
    have m1 : 0 ≤ c % 2147483563 := Int.emod_nonneg _ (by decide)
    have m2 : c % 2147483563 < 2147483563 := Int.emod_lt_of_pos _ (by decide)
    refine i_ret (i_lst ?_)
    refine ⟨_, rfl, _, _, rfl, rfl, ⟨by decide, by decide, by decide⟩, _, _, rfl, rfl, _, _, rfl, ?_⟩
    refine ⟨_, rfl, _, _, rfl, rfl, (by show (0 : Int) < 2147483563; decide), _, _, rfl, rfl, .inl ⟨by omega, by omega⟩, _, rfl, _, _, rfl, rfl, .inl ⟨by decide, by decide⟩, _, rfl, _, _, rfl, rfl, .inr ⟨by omega, by omega⟩, _, _, rfl, rfl, ?_⟩
    refine ⟨_, rfl, _, _, rfl, rfl, .inl ⟨by decide, by decide⟩, _, _, rfl, rfl, _, _, rfl, rfl, _, _, rfl, rfl, (by show (0 : Int) < 2147483563; decide), (by show 2 ≤ sizeLine; decide), fun p hp => ?_⟩
    refine k _ p (Same.new hp) hp ⟨_, _, upd_same, by split <;> omega, Int.emod_nonneg _ (by decide), ?_⟩
    have := Int.emod_lt_of_pos (c % 2147483563 * 40692 + 52774 * (j : Int) * (j : Int) + 7919 * (j : Int) + 17) (show (0 : Int) < 2147483563 by decide)
    omega
/-! ### _law_take -/
theorem PotAt.but {H H' : Hp} {p q : Addr} {xs : List V} (h : PotAt H p) (e : But q H H') (n : p ≠ q) : PotAt H' p := let ⟨a, b, h1, h2⟩ := h; ⟨a, b, e _ _ n h1, h2⟩
theorem PotAt.ext {H H' : Hp} {p : Addr} (h : PotAt H p) (e : ExtN H H') : PotAt H' p := let ⟨a, b, h1, h2⟩ := h; ⟨a, b, e _ _ h1 (fun ps z => by cases z), h2⟩
theorem PotAt.same {H H' : Hp} {p : Addr} (h : PotAt H p) (e : Same H H') : PotAt H' p := h.ext (.of e)
def spTake : Sp := fun vs H Q _ => ∃ (p : Addr) (room : Int), vs = [.ref p, .int room] ∧ PotAt H p ∧ 1 ≤ room ∧ room ≤ 100000000 ∧ ∀ (d : Int) (H' : Hp), 0 ≤ d → d < room → PotAt H' p → But p H H' → Q (.int d) H'
abbrev nTake : List Str := ["_law_pot_here", "_law_room", "_law_digit"]
theorem scTake : FnScope nTake ["_law_pot_here", "_law_room"] (C8.fnScope sTake) := ⟨rfl, rfl, rfl, by decide +kernel, rfl, by decide +kernel, by decide +kernel⟩
theorem cal_take {f : Addr} {fd : FuncData} (F : Def K mg "_law_take" sTake f fd) (b : Binds K fd ["_law_pot_here", "_law_room"] []) (mD : mg "divmod" = none) : Cal P w K mg base 1 "_law_take" spTake [] := by
  refine cal0 F b .nil scTake (fun vs H Q E h => ?_) (fun cdv A outer s H vs Q E hr h => ?_)
  · obtain ⟨p, room, rfl, _⟩ := h
    rfl
  · obtain ⟨p, room, rfl, ⟨a, c, hp, ha, hc, hc2⟩, h1, h2, k⟩ := h
    refine ⟨_, pss_cons (ps_if (pt_cmp (pc_gt (pe_ix ix_list (pv 0) pe_int (fun _ _ => rfl)) pe_int))
        (pss_cons (ps_asg (pe_callB call_divmodW (by rfl) mD (by decide +kernel) (pa_cons (pe_ix ix_list (pv 0) pe_int (fun _ _ => rfl)) (pa_cons (pv 1) pa_nil))) (pg_tup rfl (pgs_cons (pg_sub (pv 0) pe_int set_list) (pgs_cons (pg_name (i := 2) scTake.nd rfl (Or.inl rfl)) pgs_nil))))
          (pss_one (ps_ret (pv 2)))) pss_nil)
      (pss_cons (ps_asg (pe_op op_mod (pe_op op_add (pe_op op_mul (pe_ix ix_list (pv 0) pe_int (fun _ _ => rfl)) pe_int) pe_int) pe_int) (pg_sub (pv 0) pe_int set_list))
      (pss_one (ps_ret (pe_op op_mod (pe_op op_fdiv (pe_op op_mod (pe_op op_mul (pe_ix ix_list (pv 0) pe_int (fun _ _ => rfl)) (pe_ix ix_list (pv 0) pe_int (fun _ _ => rfl))) pe_int) pe_int) (pv 1))))), ?_⟩
    refine i_seq (i_ifs ⟨_, rfl, p, _, _, _, rfl, rfl, .inl (.inl hp), rfl, _, _, rfl, rfl, _, rfl, ite2 (fun hd => ?_) fun hd => ?_⟩)
    · refine i_seq (i_asg ⟨_, rfl, p, _, _, _, rfl, rfl, .inl (.inl hp), rfl, _, rfl, a, room, rfl, ⟨by omega, PyProof.noPylong_small (by omega)⟩, fun t ht => ?_⟩)
      have nt : p ≠ t := ne_of_none hp ht
      refine ⟨t, _, rfl, .inl (.inl upd_same), rfl, _, _, rfl, _, rfl, p, _, _, 0, rfl, rfl, by rw [upd_ne nt]; exact hp, rfl, _, _, rfl, rfl, ?_⟩
      refine ⟨_, rfl, k _ _ (Int.emod_nonneg _ (by omega)) (Int.emod_lt_of_pos _ (by omega)) ⟨_, _, upd_same, Int.ediv_nonneg ha (by omega), hc, hc2⟩ fun b o nb e => ?_⟩
      rw [upd_ne nb, upd_ne (ne_of_none e ht)]
      exact e
    · refine i_next ?_
      dsimp only
      refine i_seq (i_asg ⟨_, rfl, p, _, _, _, rfl, rfl, .inl (.inl hp), rfl, _, _, rfl, rfl, .inr ⟨by decide, by decide⟩, _, _, rfl, rfl, _, _, rfl, rfl, (by show (0 : Int) < 2147483647; decide), ?_⟩)
      have m1 : 0 ≤ (c * 48271 + 12347) % 2147483647 := Int.emod_nonneg _ (by decide)
      have m2 : (c * 48271 + 12347) % 2147483647 < 2147483647 := Int.emod_lt_of_pos _ (by decide)
      refine ⟨_, rfl, p, _, _, 1, rfl, rfl, hp, rfl, ?_⟩
      have hp2 : upd H p (.lst ([V.int a, V.int c].set 1 (.int ((c * 48271 + 12347) % 2147483647)))) p = some (.lst [V.int a, .int ((c * 48271 + 12347) % 2147483647)]) := upd_same
      dsimp only
      generalize (c * 48271 + 12347) % 2147483647 = e at m1 m2 hp2 ⊢
      refine ⟨_, rfl, p, _, _, _, rfl, rfl, .inl (.inl hp2), rfl, _, rfl, p, _, _, _, rfl, rfl, .inl (.inl hp2), rfl, _, _, rfl, rfl, .inl ⟨by omega, by omega⟩, _, _, rfl, rfl, (by show (0 : Int) < 2147483629; decide), _, _, rfl, rfl, ⟨by decide, by decide⟩, _, rfl, _, _, rfl, rfl, (by show (0 : Int) < room; omega), ?_⟩
      refine k _ _ (Int.emod_nonneg _ (by omega)) (Int.emod_lt_of_pos _ (by omega)) ⟨_, _, hp2, ha, m1, by omega⟩ fun b o nb e => ?_
      rw [upd_ne nb]
      exact e
/-! ### _law_far -/
def spFarL : Sp := fun vs H Q _ => ∃ p : Addr, vs = [.ref p] ∧ PotAt H p ∧ ∀ (d : Int) (H' : Hp), 0 ≤ d → d < 10 ^ 56 → PotAt H' p → But p H H' → Q (.int d) H'
abbrev nFar : List Str := ["_law_pot_here", "_law_number", "_law_k"]
theorem scFarL : FnScope nFar ["_law_pot_here"] (C8.fnScope sFarL) := ⟨rfl, rfl, rfl, by decide +kernel, rfl, by decide +kernel, by decide +kernel⟩
theorem i_for {w : TI} {g : TG} {tb : TS} {D : Ends} {σ : L2.St} {H : Hp} (h : w σ H fun it H1 => ∃ W : Nat → Nat → L2.St → Hp → Prop, (∃ m, W 0 m σ H1) ∧ ∀ i m σ H, W i m σ H →
      (it.stop i H ∧ D.nx σ H) ∨ (it.go i H ∧ ∃ N : L2.St → Hp → Prop, (∀ σ' H', N σ' H' → ∃ m', m' < m ∧ W (i + 1) m' σ' H') ∧ ∀ x H', it.yld i H x H' → g x σ H' fun σ2 H2 => tb { D with nx := N, ct := N, bk := D.nx } σ2 H2)) : tFor w g tb D σ H := h
theorem cal_farL {f : Addr} {fd : FuncData} (F : Def K mg "_law_far" sFarL f fd) (b : Binds K fd ["_law_pot_here"] []) (mR : mg "range" = none) (cT : Cal P w K mg base 1 "_law_take" spTake []) : Cal P w K mg base 2 "_law_far" spFarL [] := by
  refine cal0 F b .nil scFarL (fun vs H Q E h => ?_) (fun cdv A outer s H vs Q E hr h => ?_)
  · obtain ⟨p, rfl, _⟩ := h
    rfl
  · obtain ⟨p, rfl, hp, k⟩ := h
    refine ⟨_, pss_cons (ps_set (i := 1) scFarL.nd rfl (Or.inl rfl) pe_int)
      (pss_cons (ps_for PassesOwn.never rfl (pi_range1 (by rfl) mR (pa_cons (pe_op op_add pe_int (pe_c cT hr (by decide) (by rfl) (pa_cons (pv 0) (pa_cons pe_int pa_nil)))) pa_nil)) (pg_name (i := 2) scFarL.nd rfl (Or.inl rfl))
        (pss_one (ps_set (i := 1) scFarL.nd rfl (Or.inl rfl) (pe_op op_add (pe_op op_mul (pv 1) (pe_op op_pow pe_int pe_int)) (pe_c cT hr (by decide) (by rfl) (pa_cons (pv 0) (pa_cons (pe_op op_pow pe_int pe_int) pa_nil)))))))
      (pss_one (ps_ret (pv 1)))), ?_⟩
    refine i_setThen ?_
    refine i_seq (i_for ?_)
    refine ⟨_, rfl, p, 7, rfl, hp, by decide, by decide, fun n H1 n0 n1 hp1 bt1 => ?_⟩
    refine ⟨_, _, rfl, rfl, _, rfl, by omega, by omega, for_range (fun i σ H' => ∃ (z : Int) (v : Option V), σ = [some (.ref p), some (.int z), v] ∧ 0 ≤ z ∧ z < (10 ^ 8) ^ i ∧ PotAt H' p ∧ But p H H') ⟨0, none, rfl, Int.le_refl _, by decide, hp1, bt1⟩ (fun i σ H' hi q => ?_) fun σ H' q => ?_⟩
    · obtain ⟨z, v, rfl, z0, z1, q1, q2⟩ := q
      refine i_name ?_
      refine i_asg ⟨_, rfl, _, _, rfl, rfl, ⟨by decide, by decide, by decide⟩, _, _, rfl, rfl, .inr ⟨by decide, by decide⟩, _, rfl, _, _, rfl, rfl, ⟨by decide, by decide, by decide⟩, p, _, rfl, q1, by decide, by decide, fun d H2 d0 d1 hp2 bt2 => ?_⟩
      refine ⟨_, _, rfl, rfl, z * 10 ^ 8 + d, _, rfl, by omega, ?_, hp2, q2.trans bt2⟩
      rw [Int.pow_succ]
      have d1 : d < 100000000 := d1
      show z * 100000000 + d < (10 ^ 8) ^ i * 100000000
      generalize ((10 : Int) ^ 8) ^ i = g at z1 ⊢
      omega
    · obtain ⟨z, v, rfl, z0, z1, q1, q2⟩ := q
      refine ⟨_, rfl, k z H' z0 (Int.lt_of_lt_of_le z1 ?_) q1 q2⟩
      have hn : (1 + n).toNat ≤ 7 := by omega
      have key : ∀ m : Nat, m ≤ 7 → ((10 : Int) ^ 8) ^ m ≤ 10 ^ 56 := by decide +kernel
      exact key _ hn
end
end K7
namespace K7
open PySem L2 KD LamX
open C8 (Cal Mak Met Def pe_c pe_mk pe_mt pe_mt0 cal0 met0 mak0)
theorem i_seqP {t u : TS} {D : Ends} {σ : L2.St} {H : Hp} (Pst : L2.St → Hp → Prop) (k : ∀ σ' H', Pst σ' H' → u D σ' H') (h : ∀ N : L2.St → Hp → Prop, (∀ σ' H', Pst σ' H' → N σ' H') → t { D with nx := N } σ H) : tSeq t u D σ H := h _ k
theorem i_nx {N : L2.St → Hp → Prop} {σ : L2.St} {H : Hp} {D : Ends} (h : N σ H) : tNext { D with nx := N } σ H := h
/-- what is new in a heap that But keeps was new ahead of it -/
theorem But.none {p D : Addr} {H H' : Hp} (e : But p H H') (hp : PotAt H' p) (h : H' D = none) : D ≠ p ∧ H D = none := by
  have n : D ≠ p := fun z => by
    obtain ⟨a, b, h1, _⟩ := hp
    rw [z, h1] at h
    cases h
  refine ⟨n, ?_⟩
  cases q : H D with
  | none => rfl
  | some o =>
    have := e D o n q
    rw [h] at this
    cases this
/-- rows of bounded days -/
def Bnd (B : Int) (rs : List Spn) : Prop := ∀ r ∈ rs, r.1 < B ∧ ∀ e, r.2 = some e → e < B
structure LoopS (p D : Addr) (H : Hp) (rs : List Spn) (ts : List Addr) (H' : Hp) : Prop where
  d : H' D = some (.lst (ts.map V.ref))
  two : Two (TuAt H') rs ts
  pot : PotAt H' p
  but : But p H H'
  ne : D ≠ p
theorem LoopS.step {p D : Addr} {H H' H2 : Hp} {rs : List Spn} {ts : List Addr} (l : LoopS p D H rs ts H') (e : But p H' H2) (q : PotAt H2 p) : LoopS p D H rs ts H2 := by
  obtain ⟨a, b, hp, _⟩ := l.pot
  exact ⟨e _ _ l.ne l.d, l.two.mono fun r a h => TuAt.but e hp r a h, q, l.but.trans e, l.ne⟩
theorem LoopS.add {p D t : Addr} {H H' : Hp} {rs : List Spn} {ts : List Addr} {r : Spn} (l : LoopS p D H rs ts H') (hD : H D = none) (ht : H' t = none) :
    LoopS p D H (rs ++ [r]) (ts ++ [t]) (upd (upd H' t (.tup [.int r.1, oV r.2])) D (.lst (ts.map V.ref ++ [.ref t]))) := by
  obtain ⟨k1, k2, k3⟩ := add_tup (r := r) l.d l.two (But.refl D H') ht
  obtain ⟨a, b, hp, hr⟩ := l.pot
  refine ⟨k1, k2, ⟨a, b, k3 _ _ l.ne.symm hp, hr⟩, fun c o nc e => ?_, l.ne⟩
  exact k3 _ _ (fun z => by rw [z, hD] at e; cases e) (l.but c o nc e)
theorem good_snoc {rs : List Spn} {r : Spn} (h : Good rs) (g : 0 ≤ r.1 ∧ ∀ e, r.2 = some e → r.1 ≤ e) : Good (rs ++ [r]) := fun x hx => by
  rcases List.mem_append.mp hx with hx | hx
  · exact h x hx
  · rw [List.mem_singleton.mp hx]; exact g
theorem bnd_snoc {B : Int} {rs : List Spn} {r : Spn} (h : Bnd B rs) (g : r.1 < B ∧ ∀ e, r.2 = some e → e < B) : Bnd B (rs ++ [r]) := fun x hx => by
  rcases List.mem_append.mp hx with hx | hx
  · exact h x hx
  · rw [List.mem_singleton.mp hx]; exact g
section
variable {P : Program} {w : World} {K : PySem.W.Frag} {mg : Str → Option Value} {base : Heap}
/-! ### _law_rows -/
def spRows : Sp := fun vs H Q _ => ∃ p : Addr, vs = [.ref p, .int 10] ∧ PotAt H p ∧ ∀ (H' : Hp) (l : Addr) (ts : List Addr) (rs : List Spn), But p H H' → PotAt H' p → l ≠ p → H l = none → H' l = some (.lst (ts.map V.ref)) → Two (TuAt H') rs ts → Good rs → Bnd (10 ^ 58) rs → rs.length ≤ 10 → Q (.ref l) H'
abbrev nRows : List Str := ["_law_pot_here", "_law_most", "_law_base", "_law_found", "_law_k", "_law_way", "_law_first", "_law_last"]
theorem scRows : FnScope nRows ["_law_pot_here", "_law_most"] (C8.fnScope sRows) := ⟨rfl, rfl, rfl, by decide +kernel, rfl, by decide +kernel, by decide +kernel⟩
theorem cal_rows {f : Addr} {fd : FuncData} (F : Def K mg "_law_rows" sRows f fd) (b : Binds K fd ["_law_pot_here", "_law_most"] []) (mR : mg "range" = none) (cT : Cal P w K mg base 1 "_law_take" spTake []) (cF : Cal P w K mg base 2 "_law_far" spFarL []) : Cal P w K mg base 3 "_law_rows" spRows [] := by
  refine cal0 F b .nil scRows (fun vs H Q E h => ?_) (fun cdv A outer s H vs Q E hr h => ?_)
  · obtain ⟨p, rfl, _⟩ := h
    rfl
  · obtain ⟨p, rfl, hp, k⟩ := h
    refine ⟨_, pss_cons (ps_set (i := 2) scRows.nd rfl (Or.inl rfl) pe_int)
      (pss_cons (ps_if (pt_cmp (pc_eqI (pe_c cT hr (by decide) (by rfl) (pa_cons (pv 0) (pa_cons pe_int pa_nil))) pe_int)) (pss_one (ps_set (i := 2) scRows.nd rfl (Or.inl rfl) (pe_c cF hr (by decide) (by rfl) (pa_cons (pv 0) pa_nil)))) pss_nil)
      (pss_cons (ps_set (i := 3) scRows.nd rfl (Or.inl rfl) (pe_lst pa_nil))
      (pss_cons (ps_for PassesOwn.never rfl (pi_range1 (by rfl) mR (pa_cons (pe_c cT hr (by decide) (by rfl) (pa_cons (pv 0) (pa_cons (pe_op op_add (pv 1) pe_int) pa_nil))) pa_nil)) (pg_name (i := 4) scRows.nd rfl (Or.inl rfl))
        (pss_cons (ps_set (i := 5) scRows.nd rfl (Or.inl rfl) (pe_c cT hr (by decide) (by rfl) (pa_cons (pv 0) (pa_cons pe_int pa_nil))))
        (pss_cons (ps_set (i := 6) scRows.nd rfl (Or.inl rfl) (pe_op op_add (pv 2) (pe_c cT hr (by decide) (by rfl) (pa_cons (pv 0) (pa_cons pe_int pa_nil)))))
        (pss_cons (ps_if (pt_cmp (pc_eqI (pv 5) pe_int)) (pss_one (ps_set (i := 6) scRows.nd rfl (Or.inl rfl) (pe_c cF hr (by decide) (by rfl) (pa_cons (pv 0) pa_nil)))) pss_nil)
        (pss_cons (ps_set (i := 7) scRows.nd rfl (Or.inl rfl) (pe_op op_add (pv 6) (pe_c cT hr (by decide) (by rfl) (pa_cons (pv 0) (pa_cons pe_int pa_nil)))))
        (pss_cons (ps_if (pt_cmp (pc_eqI (pv 5) pe_int)) (pss_one (ps_set (i := 7) scRows.nd rfl (Or.inl rfl) (pe_op op_add (pv 6) (pe_c cF hr (by decide) (by rfl) (pa_cons (pv 0) pa_nil))))) pss_nil)
        (pss_cons (ps_if (PW.pt (pw_and (pt_cmp (pc_eqI (pv 5) pe_int)) (pw_and1 (pt_cmp (pc_eqI (pe_c cT hr (by decide) (by rfl) (pa_cons (pv 0) (pa_cons pe_int pa_nil))) pe_int))))) (pss_one (ps_set (i := 7) scRows.nd rfl (Or.inl rfl) pe_non)) pss_nil)
        (pss_one (ps_expr (pe_bm PySem.F.plainAttrs_list PySem.F.slot_list_append PySem.F.type_list_append mt_append (pv 3) (pa_cons (pe_tup (pa_cons (pv 6) (pa_cons (pv 7) pa_nil))) pa_nil)))))))))))
      (pss_one (ps_ret (pv 3)))))), ?_⟩
    have hsz : sizeLine = 16777216 := by decide
    refine i_setThen ?_
    refine i_seqP (fun σ' H' => ∃ ba : Int, σ' = [some (.ref p), some (.int 10), some (.int ba), none, none, none, none, none] ∧ 0 ≤ ba ∧ ba < 10 ^ 56 ∧ PotAt H' p ∧ But p H H') ?_ fun N hN => ?_
    rotate_left
    · refine i_ifs ⟨_, rfl, p, 3, rfl, hp, by decide, by decide, fun d H1 d0 d1 hp1 bt1 => ⟨_, _, rfl, rfl, _, rfl, ite2 (fun _ => ?_) fun _ => ?_⟩⟩
      · refine i_asg ⟨_, rfl, p, rfl, hp1, fun fa H2 f0 f1 hp2 bt2 => ?_⟩
        exact hN _ _ ⟨fa, rfl, f0, f1, hp2, bt1.trans bt2⟩
      · exact i_nx (hN _ _ ⟨0, rfl, Int.le_refl _, by decide, hp1, bt1⟩)
    · rintro σ1 H1 ⟨ba, rfl, b0, b1, hp1, bt1⟩
      refine i_setThen ⟨Nat.zero_le _, fun D hD => ?_⟩
      obtain ⟨nD, hD0⟩ := bt1.none hp1 hD
      have l0 : LoopS p D H [] [] (upd H1 D (.lst [])) := ⟨upd_same, .nil, hp1.same (Same.new hD), bt1.trans (.of (Same.new hD)), nD⟩
      refine i_seq (i_for ?_)
      refine ⟨_, rfl, _, rfl, _, _, rfl, rfl, p, 11, rfl, l0.pot, by decide, by decide, fun n H2 n0 n1 hp2 bt2 => ?_⟩
      refine ⟨_, rfl, by omega, by omega, for_range (fun i σ H' => ∃ (rs : List Spn) (ts : List Addr) (v4 v5 v6 v7 : Option V), σ = [some (.ref p), some (.int 10), some (.int ba), some (.ref D), v4, v5, v6, v7] ∧ LoopS p D H rs ts H' ∧ Good rs ∧ Bnd (10 ^ 58) rs ∧ rs.length ≤ i)
        ⟨[], [], none, none, none, none, rfl, l0.step bt2 hp2, (fun r hr => by cases hr), (fun r hr => by cases hr), Nat.le_refl _⟩ (fun i σ H' hi q => ?_) fun σ H' q => ?_⟩
      · obtain ⟨rs, ts, v4, v5, v6, v7, rfl, l3, g3, bd3, ln3⟩ := q
        refine i_name ?_
        refine i_setThen ⟨_, rfl, p, 6, rfl, l3.pot, by decide, by decide, fun wy H4 w0 w1 hp4 bt4 => ?_⟩
        have l4 := l3.step bt4 hp4
        refine i_setThen ⟨_, rfl, _, rfl, p, 41, rfl, l4.pot, by decide, by decide, fun f5 H5 f50 f51 hp5 bt5 => ⟨_, _, rfl, rfl, ?_⟩⟩
        have l5 := l4.step bt5 hp5
        refine i_seqP (fun σ' H' => ∃ fi : Int, σ' = [some (.ref p), some (.int 10), some (.int ba), some (.ref D), some (.int (0 + (i : Int))), some (.int wy), some (.int fi), v7] ∧ 0 ≤ fi ∧ fi < 10 ^ 57 ∧ LoopS p D H rs ts H') ?_ fun N hN => ?_
        rotate_left
        · refine i_ifs ⟨_, rfl, _, _, rfl, rfl, _, rfl, ite2 (fun _ => ?_) fun _ => ?_⟩
          · refine i_asg ⟨_, rfl, p, rfl, l5.pot, fun fa H6 a0 a1 hp6 bt6 => ?_⟩
            exact hN _ _ ⟨fa, rfl, a0, by omega, l5.step bt6 hp6⟩
          · exact i_nx (hN _ _ ⟨ba + f5, rfl, by omega, by omega, l5⟩)
        · rintro σ6 H6 ⟨fi, rfl, fi0, fi1, l6⟩
          refine i_setThen ⟨_, rfl, _, rfl, p, 8, rfl, l6.pot, by decide, by decide, fun e7 H7 e70 e71 hp7 bt7 => ⟨_, _, rfl, rfl, ?_⟩⟩
          have l7 := l6.step bt7 hp7
          refine i_seqP (fun σ' H' => ∃ la : Int, σ' = [some (.ref p), some (.int 10), some (.int ba), some (.ref D), some (.int (0 + (i : Int))), some (.int wy), some (.int fi), some (.int la)] ∧ fi ≤ la ∧ la < 10 ^ 58 ∧ LoopS p D H rs ts H') ?_ fun N hN => ?_
          rotate_left
          · refine i_ifs ⟨_, rfl, _, _, rfl, rfl, _, rfl, ite2 (fun _ => ?_) fun _ => ?_⟩
            · refine i_asg ⟨_, rfl, _, rfl, p, rfl, l7.pot, fun fa H8 a0 a1 hp8 bt8 => ⟨_, _, rfl, rfl, ?_⟩⟩
              exact hN _ _ ⟨fi + fa, rfl, by omega, by omega, l7.step bt8 hp8⟩
            · exact i_nx (hN _ _ ⟨fi + e7, rfl, by omega, by omega, l7⟩)
          · rintro σ8 H8 ⟨la, rfl, la0, la1, l8⟩
            refine i_seqP (fun σ' H' => ∃ lo : Option Int, σ' = [some (.ref p), some (.int 10), some (.int ba), some (.ref D), some (.int (0 + (i : Int))), some (.int wy), some (.int fi), some (oV lo)] ∧ (∀ e, lo = some e → fi ≤ e ∧ e < 10 ^ 58) ∧ LoopS p D H rs ts H') ?_ fun N hN => ?_
            rotate_left
            · have same := hN _ _ ⟨some la, rfl, fun e z => by cases z; exact ⟨la0, la1⟩, l8⟩
              refine i_ifs (i_and ⟨_, rfl, _, _, rfl, rfl, _, rfl, ite2 (fun _ => ?_) fun _ => ?_⟩)
              · refine ⟨_, rfl, p, 3, rfl, l8.pot, by decide, by decide, fun d9 H9 d90 d91 hp9 bt9 => ⟨_, _, rfl, rfl, _, rfl, ite2 (fun _ => ?_) fun _ => ?_⟩⟩
                · exact i_asg (hN _ _ ⟨none, rfl, (fun e z => by cases z), l8.step bt9 hp9⟩)
                · exact i_nx (hN _ _ ⟨some la, rfl, fun e z => by cases z; exact ⟨la0, la1⟩, l8.step bt9 hp9⟩)
              · exact iteF (i_nx same)
            · rintro σ9 H9 ⟨lo, rfl, hlo, l9⟩
              have tl := l9.two.len
              refine ⟨_, rfl, .inl ⟨rfl, _, SqL.of l9.d⟩, _, rfl, _, rfl, (by show 2 ≤ sizeLine; decide), fun t ht => ?_⟩
              refine ⟨D, _, _, rfl, rfl, by rw [upd_ne (ne_of_none l9.d ht)]; exact l9.d, by rw [List.length_map]; omega, ?_⟩
              exact ⟨rs ++ [(fi, lo)], ts ++ [t], _, _, _, _, rfl, l9.add (r := (fi, lo)) hD0 ht, good_snoc g3 ⟨fi0, fun e z => (hlo e z).1⟩, bnd_snoc bd3 ⟨by show fi < 10 ^ 58; omega, fun e z => (hlo e z).2⟩, by rw [List.length_append]; exact Nat.succ_le_succ ln3⟩
      · obtain ⟨rs, ts, v4, v5, v6, v7, rfl, l3, g3, bd3, ln3⟩ := q
        exact ⟨_, rfl, k H' D ts rs l3.but l3.pot nD hD0 l3.d l3.two g3 bd3 (by omega)⟩
end
end K7
namespace K7
open PySem L2 KD LamX
open C8 (Cal Mak Met Def pe_c pe_mk pe_mt pe_mt0 cal0 met0 mak0)
/-- a comprehension over a list, with a test -/
theorem lc_f {K : PySem.W.Frag} {a : Addr} {xs : List V} {g : TG} {tt : TT} {te tl : TE} {vs : List Nat} {σ : L2.St} {H H1 : Hp} {Qd : VK} (hv : ∀ R : VK, R (.ref a) H1 → tl σ H R) (hL : H1 a = some (.lst xs)) (Pv : Addr → Nat → Hp → Prop)
    (h0 : ∀ D, H1 D = none → Pv D 0 (upd H1 D (.lst []))) (hl : ∀ D i H', Pv D i H' → Same H1 H')
    (hs : ∀ D, H1 D = none → ∀ i x H', xs[i]? = some x → Pv D i H' → g x (wipe σ vs) H' fun σ2 H2 => wipe σ2 vs = wipe σ vs ∧ tt σ2 H2 fun b H3 => if b = true then te σ2 H3 (Aft D (Pv D (i + 1))) else Pv D (i + 1) H3)
    (hd : ∀ D H', H1 D = none → Pv D xs.length H' → Qd (.ref D) H') : tLc (iList K tl) g tt te vs σ H Qd :=
  hv _ ⟨a, rfl, ⟨_, .inl (.inl hL)⟩, fun D hD => lc_list (K := K) (a := a) (xs := xs) (Pv D) (h0 D hD) (fun i H' _ p => .inl (.inl (hl D i H' p _ _ hL))) (fun i x H' e p => hs D hD i x H' e p) fun H' p => hd D H' hD p⟩
theorem MemR_iff {qs rs : List Spn} (h : ∀ q, q ∈ qs ↔ q ∈ rs) (d : Int) : MemR qs d ↔ MemR rs d :=
  ⟨fun ⟨x, hx, k⟩ => ⟨x, (h x).mp hx, k⟩, fun ⟨x, hx, k⟩ => ⟨x, (h x).mpr hx, k⟩⟩
theorem Arg.but {C : Addr} {H H' : Hp} {a p : Addr} {rs : List Spn} (h : Arg C H a rs) (e : But p H H') (hp : PotAt H p) (n : a ≠ p) : Arg C H' a rs := by
  obtain ⟨as, h1, h2, h3, h4⟩ := h
  obtain ⟨x, y, hq, _⟩ := hp
  exact ⟨as, h1.elim (fun z => .inl (e _ _ n z)) (fun z => .inr (e _ _ n z)), h2.mono fun r a z => StAt.but e hq r a z, h3, h4⟩
theorem anyB_iff {rs : List Spn} {d : Int} : rs.any (fun r => hasB r d) = true ↔ MemR rs d := by
  rw [List.any_eq_true]
  constructor
  · rintro ⟨x, hx, h⟩
    exact ⟨x, hx, hasB_iff.mp h⟩
  · rintro ⟨x, hx, h⟩
    exact ⟨x, hx, hasB_iff.mpr h⟩
section
variable {P : Program} {w : World} {K : PySem.W.Frag} {mg : Str → Option Value} {base : Heap}
/-! ### _law_in, _law_has, _law_marks -/
def spIn : Sp := fun vs H Q _ => ∃ (l : Addr) (ts : List Addr) (rs : List Spn) (d : Int), vs = [.ref l, .int d] ∧ H l = some (.lst (ts.map V.ref)) ∧ Two (TuAt H) rs ts ∧ rs.length ≤ 1000 ∧ ∀ H', Same H H' → Q (.bl (rs.any fun r => hasB r d)) H'
abbrev nIn : List Str := ["_law_rows_here", "_law_day", "_law_first", "_law_last"]
theorem scIn : FnScope nIn ["_law_rows_here", "_law_day"] (C8.fnScope sIn) := ⟨rfl, rfl, rfl, by decide +kernel, rfl, by decide +kernel, by decide +kernel⟩
theorem take_map {α β : Type} {xs : List α} {i : Nat} {x : α} (f : α → β) (h : xs[i]? = some x) : (xs.take (i + 1)).map f = (xs.take i).map f ++ [f x] := by
  rw [List.take_add_one, h, List.map_append]
  rfl
theorem cal_in {f : Addr} {fd : FuncData} (F : Def K mg "_law_in" sIn f fd) (b : Binds K fd ["_law_rows_here", "_law_day"] []) (mA : mg "any" = none) : Cal P w K mg base 1 "_law_in" spIn [] := by
  refine cal0 F b .nil scIn (fun vs H Q E h => ?_) (fun cdv A outer s H vs Q E hr h => ?_)
  · obtain ⟨l, ts, rs, d, rfl, _⟩ := h
    rfl
  · obtain ⟨l, ts, rs, d, rfl, hL, two, hln, k⟩ := h
    refine ⟨_, pss_one (ps_ret (pe_callB (cr_any rfl) (by rfl) mA (by decide +kernel) (pa_cons
      (pe_lc (own := [("_law_first", 2), ("_law_last", 3)]) (g := gTup K 2 (gCons (gName 2) (gCons (gName 3) gNil))) (tt := tYes) rfl scIn.nd (pi_list (pv 0)) (blkOk_by (own := [("_law_first", 2), ("_law_last", 3)]) (N := nIn) (sc := C8.fnScope sIn) (by decide +kernel))
        (fun _ _ _ _ _ => pg_tup rfl (pgs_cons (pg_name (i := 2) scIn.nd rfl (Or.inl rfl)) (pgs_cons (pg_name (i := 3) scIn.nd rfl (Or.inl rfl)) pgs_nil))) (fun _ _ _ _ _ => pts_nil)
        (fun _ _ _ _ _ => pe_and (pe_cmp (pc_le (pv 2) (pv 1)) rfl) (pe_one (pe_or (pe_cmp (pc_isN (pv 3)) rfl) (pe_one (pe_cmp (pc_le (pv 1) (pv 3)) rfl)))))) pa_nil))), ?_⟩
    have hsz : sizeLine = 16777216 := by decide
    have htl := two.len
    refine i_ret (i_cb (i_cons (lc_l (a := l) (H1 := H) (xs := ts.map V.ref) (fun R h => ⟨_, rfl, h⟩) hL (fun D i H' => H' D = some (.lst (((rs.take i).map fun r => hasB r d).map V.bl)) ∧ Same H H')
      (fun D hD => ⟨upd_same, Same.new hD⟩) (fun D i H' p => p.2) (fun D hD i x H' hx p => ?_) (fun x H' Q Q' z q => ?_) fun D H' hD p => ?_)))
    · obtain ⟨t, rfl, ht⟩ := refs_get hx
      obtain ⟨⟨fi, la⟩, hr1, htu⟩ := two.at_ i t ht
      have htu1 : H' t = some (.tup [.int fi, oV la]) := p.2 _ _ htu
      have hi := (List.getElem?_eq_some_iff.mp hr1).1
      refine ⟨t, _, rfl, .inl (.inl htu1), rfl, _, _, rfl, _, _, rfl, rfl, rfl, ?_⟩
      have fin : ∀ c, c = hasB (fi, la) d → Aft D (fun H' => H' D = some (.lst (((rs.take (i + 1)).map fun r => hasB r d).map V.bl)) ∧ Same H H') (.bl c) H' := by
        rintro c rfl
        refine ⟨_, p.1, by rw [List.length_map, List.length_map, List.length_take]; omega, ?_, Same.put p.2 hD⟩
        rw [upd_same, take_map _ hr1, List.map_append]
        rfl
      refine ⟨_, rfl, _, rfl, _, _, rfl, rfl, _, rfl, ite2 (fun hd => ?_) (fun hd => ?_)⟩
      · have hd' : fi ≤ d := of_decide_eq_true hd
        cases la with
        | none => exact ⟨_, rfl, _, rfl, iteT (fin _ (by simp [hasB, hd']))⟩
        | some y => exact ⟨_, rfl, _, rfl, iteF ⟨_, rfl, _, rfl, _, _, rfl, rfl, fin _ (by simp [hasB, hd'])⟩⟩
      · have hd' : ¬ fi ≤ d := fun z => hd (decide_eq_true z)
        exact fin _ (by simp [hasB, hd'])
    · obtain ⟨b, xs, e1, e2, e3, v1, l1, e4, v2, l2, e5, e6, e7⟩ := q
      exact ⟨b, xs, e1, e2, e3, v1, l1, e4, v2, l2, e5, e6, z _ _ e7⟩
    · rw [List.length_map, htl, List.take_length] at p
      refine ⟨D, _, rfl, .inl (.inl p.1), ?_⟩
      rw [List.any_map]
      exact k _ p.2
def spHasL (C : Addr) : Sp := fun vs H Q _ => ∃ (l : Addr) (as : List Addr) (rs : List Spn) (d : Int), vs = [.ref l, .int d] ∧ H l = some (.lst (as.map V.ref)) ∧ Two (StAt C H) rs as ∧ 0 ≤ d ∧ rs.length ≤ 1000000 ∧ ∀ H', Same H H' → Q (.bl (rs.any fun r => hasB r d)) H'
abbrev nHasL : List Str := ["_law_told", "_law_day", "_law_one"]
theorem scHasL : FnScope nHasL ["_law_told", "_law_day"] (C8.fnScope sHasL) := ⟨rfl, rfl, rfl, by decide +kernel, rfl, by decide +kernel, by decide +kernel⟩
theorem cal_hasL {C f : Addr} {fd : FuncData} (F : Def K mg "_law_has" sHasL f fd) (b : Binds K fd ["_law_told", "_law_day"] []) (mA : mg "any" = none) (mH : Met P w K mg base 2 C "has" (spHas C) []) : Cal P w K mg base 3 "_law_has" (spHasL C) [] := by
  refine cal0 F b .nil scHasL (fun vs H Q E h => ?_) (fun cdv A outer s H vs Q E hr h => ?_)
  · obtain ⟨l, ts, rs, d, rfl, _⟩ := h
    rfl
  · obtain ⟨l, ts, rs, d, rfl, hL, two, h0, hln, k⟩ := h
    refine ⟨_, pss_one (ps_ret (pe_callB (cr_any rfl) (by rfl) mA (by decide +kernel) (pa_cons
      (pe_lc (own := [("_law_one", 2)]) (g := gName 2) (tt := tYes) rfl scHasL.nd (pi_list (pv 0)) (blkOk_by (own := [("_law_one", 2)]) (N := nHasL) (sc := C8.fnScope sHasL) (by decide +kernel))
        (fun _ _ _ _ _ => pg_name (i := 2) scHasL.nd rfl (Or.inl rfl)) (fun _ _ _ _ _ => pts_nil)
        (fun _ _ _ _ _ => pe_mt mH hr (by decide) (pv 2) (pa_cons (pv 1) pa_nil))) pa_nil))), ?_⟩
    have hsz : sizeLine = 16777216 := by decide
    have htl := two.len
    refine i_ret (i_cb (i_cons (lc_l (a := l) (H1 := H) (xs := ts.map V.ref) (fun R h => ⟨_, rfl, h⟩) hL (fun D i H' => H' D = some (.lst (((rs.take i).map fun r => hasB r d).map V.bl)) ∧ Same H H')
      (fun D hD => ⟨upd_same, Same.new hD⟩) (fun D i H' p => p.2) (fun D hD i x H' hx p => ?_) (fun x H' Q Q' z q => z _ _ q) fun D H' hD p => ?_)))
    · obtain ⟨t, rfl, ht⟩ := refs_get hx
      obtain ⟨r, hr1, dx, hst⟩ := two.at_ i t ht
      have hi := (List.getElem?_eq_some_iff.mp hr1).1
      have hst1 := p.2 _ _ hst
      refine ⟨rfl, _, rfl, t, dx, _, rfl, hst1, fl_no _ (by decide +kernel) (by decide +kernel), _, rfl, t, r, d, rfl, ⟨dx, hst1⟩, h0, ?_⟩
      refine ⟨_, p.1, by rw [List.length_map, List.length_map, List.length_take]; omega, ?_, Same.put p.2 hD⟩
      rw [upd_same, take_map _ hr1, List.map_append]
      rfl
    · rw [List.length_map, htl, List.take_length] at p
      refine ⟨D, _, rfl, .inl (.inl p.1), ?_⟩
      rw [List.any_map]
      exact k _ p.2
/-- the first days, the days behind the last ones -/
def spMarks : Sp := fun vs H Q _ => ∃ (l : Addr) (ts : List Addr) (rs : List Spn), vs = [.ref l] ∧ H l = some (.lst (ts.map V.ref)) ∧ Two (TuAt H) rs ts ∧ Good rs ∧ rs.length ≤ 1000 ∧
  ∀ (H' : Hp) (m : Addr) (ns : List Int), Same H H' → H' m = some (.lst (ns.map V.int)) → (∀ n ∈ ns, 0 ≤ n) → ns.length ≤ 2001 → Q (.ref m) H'
abbrev nMarks : List Str := ["_law_rows_here", "_law_first", "_law_last"]
theorem scMarks : FnScope nMarks ["_law_rows_here"] (C8.fnScope sMarks) := ⟨rfl, rfl, rfl, by decide +kernel, rfl, by decide +kernel, by decide +kernel⟩
theorem cal_marks {f : Addr} {fd : FuncData} (F : Def K mg "_law_marks" sMarks f fd) (b : Binds K fd ["_law_rows_here"] []) : Cal P w K mg base 1 "_law_marks" spMarks [] := by
  refine cal0 F b .nil scMarks (fun vs H Q E h => ?_) (fun cdv A outer s H vs Q E hr h => ?_)
  · obtain ⟨l, ts, rs, rfl, _⟩ := h
    rfl
  · obtain ⟨l, ts, rs, rfl, hL, two, hg, hln, k⟩ := h
    refine ⟨_, pss_one (ps_ret (pe_op op_cat (pe_op op_cat (pe_lst (pa_cons pe_int pa_nil))
      (pe_lc (own := [("_law_first", 1), ("_law_last", 2)]) (g := gTup K 2 (gCons (gName 1) (gCons (gName 2) gNil))) (tt := tYes) rfl scMarks.nd (pi_list (pv 0)) (blkOk_by (own := [("_law_first", 1), ("_law_last", 2)]) (N := nMarks) (sc := C8.fnScope sMarks) (by decide +kernel))
        (fun _ _ _ _ _ => pg_tup rfl (pgs_cons (pg_name (i := 1) scMarks.nd rfl (Or.inl rfl)) (pgs_cons (pg_name (i := 2) scMarks.nd rfl (Or.inl rfl)) pgs_nil))) (fun _ _ _ _ _ => pts_nil)
        (fun _ _ _ _ _ => pv 1)))
      (pe_lc (own := [("_law_first", 1), ("_law_last", 2)]) (g := gTup K 2 (gCons (gName 1) (gCons (gName 2) gNil))) (tt := tB (tNotN (tVar 2))) rfl scMarks.nd (pi_list (pv 0)) (blkOk_by (own := [("_law_first", 1), ("_law_last", 2)]) (N := nMarks) (sc := C8.fnScope sMarks) (by decide +kernel))
        (fun _ _ _ _ _ => pg_tup rfl (pgs_cons (pg_name (i := 1) scMarks.nd rfl (Or.inl rfl)) (pgs_cons (pg_name (i := 2) scMarks.nd rfl (Or.inl rfl)) pgs_nil))) (fun _ _ _ _ _ => pts_one (pt_cmp (pc_notN (pv 2))))
        (fun _ _ _ _ _ => pe_op op_add (pv 2) pe_int)))), ?_⟩
    have hsz : sizeLine = 16777216 := by decide
    have htl := two.len
    refine i_ret (i_op (i_op (i_lst ⟨by show 1 ≤ sizeLine; decide, fun Z hZ => ?_⟩)))
    have sZ : Same H (upd H Z (.lst [.int 0])) := Same.new hZ
    refine lc_l (a := l) (H1 := upd H Z (.lst [.int 0])) (xs := ts.map V.ref) (fun R h => ⟨_, rfl, h⟩) (sZ _ _ hL) (fun D i H' => H' D = some (.lst (((rs.take i).map fun r => r.1).map V.int)) ∧ Same (upd H Z (.lst [.int 0])) H')
      (fun D hD => ⟨upd_same, Same.new hD⟩) (fun D i H' p => p.2) (fun D hD i x H' hx p => ?_) (fun x H' Q Q' z q => ?_) fun D H' hD p => ?_
    · obtain ⟨t, rfl, ht⟩ := refs_get hx
      obtain ⟨⟨fi, la⟩, hr1, htu⟩ := two.at_ i t ht
      have htu1 : H' t = some (.tup [.int fi, oV la]) := p.2 _ _ (sZ _ _ htu)
      have hi := (List.getElem?_eq_some_iff.mp hr1).1
      refine ⟨t, _, rfl, .inl (.inl htu1), rfl, _, _, rfl, _, _, rfl, rfl, rfl, _, rfl, ?_⟩
      refine ⟨_, p.1, by rw [List.length_map, List.length_map, List.length_take]; omega, ?_, Same.put p.2 hD⟩
      rw [upd_same, take_map _ hr1, List.map_append]
      rfl
    · obtain ⟨b, xs, e1, e2, e3, v1, l1, e4, v2, l2, e5, e6, e7⟩ := q
      exact ⟨b, xs, e1, e2, e3, v1, l1, e4, v2, l2, e5, e6, z _ _ e7⟩
    · rw [List.length_map, htl, List.take_length] at p
      have zd : H' Z = some (.lst [.int 0]) := p.2 _ _ upd_same
      refine ⟨Z, D, [.int 0], _, rfl, rfl, zd, p.1, by rw [List.length_map, List.length_map]; show 1 + _ ≤ _; omega, fun U hU => ?_⟩
      have sU : Same H (upd H' U (.lst ([.int 0] ++ (rs.map fun r => r.1).map V.int))) := (sZ.trans p.2).trans (Same.new hU)
      refine lc_f (a := l) (H1 := upd H' U (.lst ([.int 0] ++ (rs.map fun r => r.1).map V.int))) (xs := ts.map V.ref) (fun R h => ⟨_, rfl, h⟩) (sU _ _ hL) (fun D2 i H2 => ∃ ns : List Int, H2 D2 = some (.lst (ns.map V.int)) ∧ (∀ n ∈ ns, 0 ≤ n) ∧ ns.length ≤ i ∧ Same (upd H' U (.lst ([.int 0] ++ (rs.map fun r => r.1).map V.int))) H2)
        (fun D2 hD2 => ⟨[], upd_same, (fun n z => by cases z), Nat.le_refl _, Same.new hD2⟩) (fun D2 i H2 q => q.choose_spec.2.2.2) (fun D2 hD2 i x H2 hx q => ?_) fun D2 H2 hD2 q => ?_
      · obtain ⟨t, rfl, ht⟩ := refs_get hx
        obtain ⟨⟨fi, la⟩, hr1, htu⟩ := two.at_ i t ht
        obtain ⟨ns, q1, q2, q3, q4⟩ := q
        have htu1 : H2 t = some (.tup [.int fi, oV la]) := q4 _ _ (sU _ _ htu)
        have hi := (List.getElem?_eq_some_iff.mp hr1).1
        refine ⟨t, _, rfl, .inl (.inl htu1), rfl, _, _, rfl, _, _, rfl, rfl, rfl, _, rfl, _, rfl, ?_⟩
        cases la with
        | none => exact iteF ⟨ns, q1, q2, by omega, q4⟩
        | some y =>
          refine iteT ⟨_, rfl, _, _, rfl, rfl, _, q1, by rw [List.length_map]; omega, ns ++ [y + 1], ?_, ?_, by rw [List.length_append]; exact Nat.succ_le_succ q3, Same.put q4 hD2⟩
          · rw [upd_same, List.map_append]
            rfl
          · intro n hn
            rcases List.mem_append.mp hn with hn | hn
            · exact q2 n hn
            · rw [List.mem_singleton.mp hn]
              have := hg _ (List.mem_of_getElem? hr1)
              have h1 := this.1
              have h2 := this.2 y rfl
              simp only at h1 h2
              omega
      · obtain ⟨ns, q1, q2, q3, q4⟩ := q
        rw [List.length_map, htl] at q3
        have hU2 := q4 _ _ upd_same
        refine ⟨U, D2, _, _, rfl, rfl, hU2, q1, by rw [List.length_append, List.length_map, List.length_map, List.length_map]; show 1 + _ + _ ≤ _; omega, fun R hR => ?_⟩
        refine k _ R ([0] ++ (rs.map fun r => r.1) ++ ns) ((sU.trans q4).trans (Same.new hR)) (by rw [upd_same, List.map_append, List.map_append]; rfl) (fun n hn => ?_) (by rw [List.length_append, List.length_append, List.length_map]; show 1 + _ + _ ≤ _; omega)
        rcases List.mem_append.mp hn with hn | hn
        · rcases List.mem_append.mp hn with hn | hn
          · rw [List.mem_singleton.mp hn]; exact Int.le_refl _
          · obtain ⟨r, hr, rfl⟩ := List.mem_map.mp hn
            exact (hg r hr).1
        · exact q2 n hn
end
end K7
namespace K7
open PySem L2 KD LamX
open C8 (Cal Mak Met Def pe_c pe_mk pe_mt pe_mt0 cal0 met0 mak0)
section
variable {P : Program} {w : World} {K : PySem.W.Frag} {mg : Str → Option Value} {base : Heap}
/-! ### _law_handed -/
def spHanded (C : Addr) : Sp := fun vs H Q _ => ∃ (p l : Addr) (ts : List Addr) (rs : List Spn), vs = [.ref p, .ref l] ∧ PotAt H p ∧ H l = some (.lst (ts.map V.ref)) ∧ Two (TuAt H) rs ts ∧ Good rs ∧ rs.length ≤ 10 ∧
  ∀ (H' : Hp) (a : Addr) (qs : List Spn), But p H H' → PotAt H' p → a ≠ p → Arg C H' a qs → (∀ d, MemR qs d ↔ MemR rs d) → qs.length ≤ 11 → Q (.ref a) H'
abbrev nHanded : List Str := ["_law_pot_here", "_law_rows_here", "_law_found", "_law_first", "_law_last"]
theorem scHanded : FnScope nHanded ["_law_pot_here", "_law_rows_here"] (C8.fnScope sHanded) := ⟨rfl, rfl, rfl, by decide +kernel, rfl, by decide +kernel, by decide +kernel⟩
theorem cal_handed {C f : Addr} {fd : FuncData} (F : Def K mg "_law_handed" sHanded f fd) (b : Binds K fd ["_law_pot_here", "_law_rows_here"] []) (mL : mg "len" = none) (mU : mg "tuple" = none) (cT : Cal P w K mg base 1 "_law_take" spTake []) (m : Mak P w K mg base 2 "Stretch" C (spInit C) []) :
    Cal P w K mg base 4 "_law_handed" (spHanded C) [] := by
  refine cal0 F b .nil scHanded (fun vs H Q E h => ?_) (fun cdv A outer s H vs Q E hr h => ?_)
  · obtain ⟨p, l, ts, rs, rfl, _⟩ := h
    rfl
  · obtain ⟨p, l, ts, rs, rfl, hp, hL, two, hg, hln, k⟩ := h
    have hr0 : Room 1 _ := hr.mono (by decide)
    refine ⟨_, pss_cons (ps_setLc (i := 2) (own := [("_law_first", 3), ("_law_last", 4)]) (g := gTup K 2 (gCons (gName 3) (gCons (gName 4) gNil))) (tt := tYes) rfl scHanded.nd rfl (by rfl) (by exact sw_true rfl (by rfl) (by rfl) (by rfl)) (pi_list (pv 1)) (blkOk_by (own := [("_law_first", 3), ("_law_last", 4)]) (N := nHanded) (sc := C8.fnScope sHanded) (by decide +kernel))
        (fun _ _ _ _ _ => pg_tup rfl (pgs_cons (pg_name (i := 3) scHanded.nd rfl (Or.inl rfl)) (pgs_cons (pg_name (i := 4) scHanded.nd rfl (Or.inl rfl)) pgs_nil))) (fun _ _ _ _ _ => pts_nil)
        (fun _ _ _ _ _ => pe_mk m hr (by decide) (by rfl) (pa_cons (pv 3) (pa_cons (pv 4) pa_nil))))
      (pss_cons (ps_if (PW.pt (pw_and (pt_cmpR (op_neG (n := 0) mon_flat eqG_flat hr0) (pv 2) (pe_lst pa_nil) (nomark _)) (pw_and1 (pt_cmp (pc_eqI (pe_c cT hr (by decide) (by rfl) (pa_cons (pv 0) (pa_cons pe_int pa_nil))) pe_int)))))
        (pss_one (ps_expr (pe_bm PySem.F.plainAttrs_list PySem.F.slot_list_append PySem.F.type_list_append mt_append (pv 2) (pa_cons (pe_ix ix_list (pv 2) (pe_c cT hr (by decide) (by rfl) (pa_cons (pv 0) (pa_cons (pe_callB call_len (by rfl) mL (by decide +kernel) (pa_cons (pv 2) pa_nil)) pa_nil))) (fun _ _ => rfl)) pa_nil)))) pss_nil)
      (pss_one (ps_ret (pe_ix ix_list (pe_lst (pa_cons (pv 2) (pa_cons (pe_callTy call_tuple_of (by rfl) mU (by decide +kernel) (pa_cons (pv 2) pa_nil)) pa_nil))) (pe_c cT hr (by decide) (by rfl) (pa_cons (pv 0) (pa_cons pe_int pa_nil))) (fun _ _ => rfl))))), ?_⟩
    have hsz : sizeLine = 16777216 := by decide
    have htl := two.len
    refine i_setThen (lc_l (a := l) (H1 := H) (xs := ts.map V.ref) (fun R h => ⟨_, rfl, h⟩) hL (fun D i H' => ∃ bs : List Addr, H' D = some (.lst (bs.map V.ref)) ∧ Two (StAt C H') (rs.take i) bs ∧ Same H H')
      (fun D hD => ⟨[], upd_same, .nil, Same.new hD⟩) (fun D i H' p => p.choose_spec.2.2) (fun D hD i x H' hx q => ?_) (fun x H' Q Q' z q => ?_) fun D H' hD q => ?_)
    · obtain ⟨t, rfl, ht⟩ := refs_get hx
      obtain ⟨r, hr1, htu⟩ := two.at_ i t ht
      obtain ⟨bs, e1, e2, e3⟩ := q
      have hi := (List.getElem?_eq_some_iff.mp hr1).1
      have hbl := e2.len
      rw [List.length_take] at hbl
      refine ⟨t, _, rfl, .inl (.inl (e3 _ _ htu)), rfl, _, _, rfl, _, _, rfl, rfl, rfl, _, rfl, _, rfl, ?_⟩
      refine mk_st (r := r) (hg r (List.mem_of_getElem? hr1)) fun x H2 s2 nx hst => ?_
      refine ⟨_, s2 _ _ e1, by rw [List.length_map]; omega, bs ++ [x], by rw [upd_same, List.map_append]; rfl, ?_, Same.put (e3.trans s2) hD⟩
      have et : rs.take (i + 1) = rs.take i ++ [r] := by rw [List.take_add_one, hr1]; rfl
      rw [et]
      have keep : ∀ r a, StAt C H2 r a → StAt C (upd H2 D (.lst (bs.map V.ref ++ [.ref x]))) r a := fun r a ⟨dx, h⟩ => ⟨dx, by rw [upd_ne (fun z => by rw [z, s2 _ _ e1] at h; cases h)]; exact h⟩
      exact ((e2.mono fun r a h => StAt.same s2 r a h).app (.one hst)).mono keep
    · obtain ⟨b, xs, e1, e2, e3, v1, l1, e4, v2, l2, e5, e6, e7⟩ := q
      exact ⟨b, xs, e1, e2, e3, v1, l1, e4, v2, l2, e5, e6, z _ _ e7⟩
    · obtain ⟨bs, e1, e2, e3⟩ := q
      rw [List.length_map, two.len, List.take_length] at e2
      have hbl := e2.len
      have hp1 : PotAt H' p := hp.same e3
      have nD : D ≠ p := fun z => by
        obtain ⟨x, y, h, _⟩ := hp
        rw [z, h] at hD
        cases hD
      refine i_seqP (fun σ' H2 => ∃ (as : List Addr) (qs : List Spn), σ' = [some (.ref p), some (.ref l), some (.ref D), none, none] ∧ H2 D = some (.lst (as.map V.ref)) ∧ Two (StAt C H2) qs as ∧ (∀ q, q ∈ qs ↔ q ∈ rs) ∧ qs.length ≤ 11 ∧ PotAt H2 p ∧ But p H H2) ?_ fun N hN => ?_
      rotate_left
      · have plain : ∀ H2, But p H' H2 → PotAt H2 p → N [some (.ref p), some (.ref l), some (.ref D), none, none] H2 := fun H2 bt hp2 => by
          obtain ⟨x, y, hq, _⟩ := hp1
          exact hN _ _ ⟨bs, rs, rfl, bt _ _ nD e1, e2.mono fun r a h => StAt.but bt hq r a h, fun _ => Iff.rfl, by omega, hp2, (But.of e3).trans bt⟩
        refine i_ifs (i_and ⟨_, rfl, Nat.zero_le _, fun Z hZ => ?_⟩)
        have hDZ : upd H' Z (.lst []) D = some (.lst (bs.map V.ref)) := by rw [upd_ne (ne_of_none e1 hZ)]; exact e1
        have sZ : Same H' (upd H' Z (.lst [])) := Same.new hZ
        by_cases hb : bs = []
        · subst hb
          exact .inl ⟨⟨D, Z, _, _, rfl, rfl, hDZ, upd_same, Prs.nil⟩, fun H2 ex => ⟨_, rfl, iteF (iteF (i_nx (plain H2 (But.of (sZ.trans ex)) (hp1.same (sZ.trans ex)))))⟩⟩
        · refine .inr ⟨D, Z, _, _, rfl, rfl, hDZ, upd_same, (by rw [List.length_map]; intro z; exact hb (List.eq_nil_of_length_eq_zero z)), _, rfl, iteT ?_⟩
          refine ⟨_, rfl, p, 3, rfl, hp1.same sZ, by decide, by decide, fun d3 H3 d30 d31 hp3 bt3 => ⟨_, _, rfl, rfl, _, rfl, ite2 (fun _ => ?_) fun _ => ?_⟩⟩
          · have hD3 : H3 D = some (.lst (bs.map V.ref)) := bt3 _ _ nD hDZ
            refine ⟨_, rfl, .inl ⟨rfl, _, SqL.of hD3⟩, _, rfl, _, rfl, _, rfl, _, bs.length, rfl, .inl ⟨_, .inl (.inl hD3), by rw [List.length_map]⟩, p, _, rfl, hp3, ?_, by omega, fun d4 H4 d40 d41 hp4 bt4 => ?_⟩
            · have : bs.length ≠ 0 := fun z => hb (List.eq_nil_of_length_eq_zero z)
              omega
            · have hD4 : H4 D = some (.lst (bs.map V.ref)) := bt4 _ _ nD hD3
              have hj : d4.toNat < bs.length := by omega
              obtain ⟨r, hr1, hst⟩ := e2.at_ _ _ (List.getElem?_eq_getElem hj)
              have ed : d4 = ((d4.toNat : Nat) : Int) := by omega
              rw [ed]
              refine ⟨D, _, _, _, rfl, rfl, .inl (.inl hD4), atI_nat (show (bs.map V.ref)[d4.toNat]? = some (V.ref bs[d4.toNat]) by rw [List.getElem?_map, List.getElem?_eq_getElem hj]; rfl), D, _, _, rfl, rfl, hD4, by rw [List.length_map]; omega, ?_⟩
              have all : But p H' H4 := (But.of sZ).trans (bt3.trans bt4)
              obtain ⟨x, y, hq, hq2⟩ := hp1
              have keep : ∀ r a, StAt C H' r a → StAt C (upd H4 D (.lst (bs.map V.ref ++ [.ref bs[d4.toNat]]))) r a := fun r a h => by
                obtain ⟨dx, h⟩ := StAt.but all hq r a h
                exact ⟨dx, by rw [upd_ne (fun z => by rw [z, hD4] at h; cases h)]; exact h⟩
              refine hN _ _ ⟨bs ++ [bs[d4.toNat]], rs ++ [r], rfl, by rw [upd_same, List.map_append]; rfl, (e2.mono keep).app (.one (keep _ _ hst)), fun q => ?_, by rw [List.length_append]; exact Nat.succ_le_succ hln, ?_, fun c o nc e => ?_⟩
              · rw [List.mem_append]
                constructor
                · rintro (h | h)
                  · exact h
                  · rw [List.mem_singleton.mp h]; exact List.mem_of_getElem? hr1
                · exact .inl
              · obtain ⟨x4, y4, h4, h5⟩ := hp4
                exact ⟨x4, y4, by rw [upd_ne nD.symm]; exact h4, h5⟩
              · rw [upd_ne (fun z => by rw [z, hD] at e; cases e)]
                exact all _ _ nc (e3 _ _ e)
          · exact i_nx (plain H3 ((But.of sZ).trans bt3) hp3)
      · rintro σ2 H2 ⟨as, qs, rfl, h1, h2, h3, h4, hp2, bt2⟩
        refine i_ret ⟨_, rfl, _, rfl, D, _, rfl, .inl ⟨.inl (.inl h1), fun t ht => ⟨by show 2 ≤ sizeLine; decide, fun L hL2 => ⟨_, rfl, p, 2, rfl, ?_, by decide, by decide, fun d5 H5 d50 d51 hp5 bt5 => ?_⟩⟩⟩⟩
        · exact (hp2.same (Same.new ht)).same (Same.new hL2)
        · have s2L : Same H2 (upd (upd H2 t (.tup (as.map V.ref))) L (.lst [.ref D, .ref t])) := (Same.new ht).trans (Same.new hL2)
          have ntL : t ≠ L := ne_of_none upd_same hL2
          have hp2' := hp2
          obtain ⟨x, y, hq, hq2⟩ := hp2'
          have nt : t ≠ p := fun z => by rw [z, hq] at ht; cases ht
          have nL : L ≠ p := fun z => by
            have := (Same.new ht (o := .tup (as.map V.ref))) _ _ hq
            rw [← z, hL2] at this
            cases this
          have all : But p H2 H5 := (But.of s2L).trans bt5
          have hL5 : H5 L = some (.lst [.ref D, .ref t]) := bt5 _ _ nL upd_same
          have gq : Good qs := fun q hq => hg q ((h3 q).mp hq)
          have st5 : Two (StAt C H5) qs as := h2.mono fun r a h => StAt.but all hq r a h
          have fin : ∀ a, a ≠ p → LT H5 a (as.map V.ref) → Q (.ref a) H5 := fun a na hlt =>
            k H5 a qs (bt2.trans all) hp5 na ⟨as, hlt, st5, gq, by omega⟩ (MemR_iff h3) h4
          have hd : d5 = 0 ∨ d5 = 1 := by omega
          rcases hd with rfl | rfl
          · exact ⟨L, _, 0, .ref D, rfl, rfl, .inl (.inl hL5), rfl, fin D nD (.inl (all _ _ nD h1))⟩
          · refine ⟨L, _, 1, .ref t, rfl, rfl, .inl (.inl hL5), rfl, fin t nt (.inr (bt5 _ _ nt ?_))⟩
            rw [upd_ne ntL, upd_same]
end
end K7
namespace K7
open PySem L2 KD LamX
open C8 (Cal Mak Met Def pe_c pe_mk pe_mt pe_mt0 cal0 met0 mak0)
/-! ### _law_parted -/
structure BasS (C p D : Addr) (H : Hp) (qs : List Spn) (as : List Addr) (H' : Hp) : Prop where
  d : H' D = some (.lst (as.map V.ref))
  two : Two (StAt C H') qs as
  pot : PotAt H' p
  but : But p H H'
  ne : D ≠ p
theorem BasS.step {C p D : Addr} {H H' H2 : Hp} {rs : List Spn} {ts : List Addr} (l : BasS C p D H rs ts H') (e : But p H' H2) (q : PotAt H2 p) : BasS C p D H rs ts H2 := by
  obtain ⟨a, b, hp, _⟩ := l.pot
  exact ⟨e _ _ l.ne l.d, l.two.mono fun r a h => StAt.but e hp r a h, q, l.but.trans e, l.ne⟩
/-- an item set in at the j-th place -/
def insAt {α : Type} (xs : List α) (j : Nat) (x : α) : List α := xs.take j ++ [x] ++ xs.drop j
theorem mem_insAt {α : Type} {xs : List α} {j : Nat} {x y : α} : y ∈ insAt xs j x ↔ y ∈ xs ∨ y = x := by
  have e : y ∈ xs ↔ y ∈ xs.take j ∨ y ∈ xs.drop j := by rw [← List.mem_append, List.take_append_drop]
  unfold insAt
  rw [List.mem_append, List.mem_append, List.mem_singleton, e]
  constructor
  · rintro ((h | h) | h)
    · exact .inl (.inl h)
    · exact .inr h
    · exact .inl (.inr h)
  · rintro ((h | h) | h)
    · exact .inl (.inl h)
    · exact .inr h
    · exact .inl (.inr h)
theorem len_insAt {α : Type} {xs : List α} {j : Nat} {x : α} : (insAt xs j x).length = xs.length + 1 := by
  unfold insAt
  rw [List.length_append, List.length_append, List.length_take, List.length_drop, List.length_singleton]
  omega
theorem BasS.ins {C p D x : Addr} {H H' H2 : Hp} {qs : List Spn} {as : List Addr} {r : Spn} (l : BasS C p D H qs as H') (hD : H D = none) (s : Same H' H2) (hx : StAt C H2 r x) (j : Nat) :
    BasS C p D H (insAt qs j r) (insAt as j x) (upd H2 D (.lst ((as.map V.ref).take j ++ [.ref x] ++ (as.map V.ref).drop j))) := by
  have hd2 := s _ _ l.d
  have keep : ∀ r a, StAt C H2 r a → StAt C (upd H2 D (.lst ((as.map V.ref).take j ++ [.ref x] ++ (as.map V.ref).drop j))) r a := fun r a ⟨dx, h⟩ => ⟨dx, by rw [upd_ne (fun z => by rw [z, hd2] at h; cases h)]; exact h⟩
  have t2 : Two (StAt C H2) qs as := l.two.mono fun r a h => StAt.same s r a h
  obtain ⟨a, b, h1, h2⟩ := l.pot
  refine ⟨?_, ?_, ⟨a, b, by rw [upd_ne l.ne.symm]; exact s _ _ h1, h2⟩, fun c o nc e => ?_, l.ne⟩
  · rw [upd_same]
    unfold insAt
    rw [List.map_append, List.map_append, List.map_take, List.map_drop]
    rfl
  · exact (((t2.take j).app (.one hx)).app (t2.drop j)).mono keep
  · rw [upd_ne (fun z => by rw [z, hD] at e; cases e)]
    exact s _ _ (l.but c o nc e)
/-- what the stretches set in so far have -/
def PartP (ss qs : List Spn) : Prop := (∀ d, MemR qs d ↔ MemR ss d) ∧ Good qs ∧ Bnd (10 ^ 59) qs
theorem MemR_ins {qs : List Spn} {j : Nat} {r : Spn} {d : Int} : MemR (insAt qs j r) d ↔ MemR qs d ∨ inR r d := by
  constructor
  · rintro ⟨x, hx, h⟩
    rcases mem_insAt.mp hx with hx | rfl
    · exact .inl ⟨x, hx, h⟩
    · exact .inr h
  · rintro (⟨x, hx, h⟩ | h)
    · exact ⟨x, mem_insAt.mpr (.inl hx), h⟩
    · exact ⟨r, mem_insAt.mpr (.inr rfl), h⟩
theorem MemR_one {r : Spn} {d : Int} : MemR [r] d ↔ inR r d := ⟨fun ⟨x, hx, h⟩ => by rw [← List.mem_singleton.mp hx]; exact h, fun h => ⟨r, List.mem_singleton.mpr rfl, h⟩⟩
theorem PartP.one {ss qs : List Spn} {j : Nat} {r : Spn} (h : PartP ss qs) (g : 0 ≤ r.1 ∧ ∀ e, r.2 = some e → r.1 ≤ e) (b : r.1 < 10 ^ 59 ∧ ∀ e, r.2 = some e → e < 10 ^ 59) : PartP (ss ++ [r]) (insAt qs j r) := by
  obtain ⟨h1, h2, h3⟩ := h
  refine ⟨fun d => by rw [MemR_ins, MemR_app, MemR_one, h1 d], fun q hq => ?_, fun q hq => ?_⟩
  · rcases mem_insAt.mp hq with hq | rfl
    · exact h2 q hq
    · exact g
  · rcases mem_insAt.mp hq with hq | rfl
    · exact h3 q hq
    · exact b
theorem PartP.two {ss qs : List Spn} {j k : Nat} {fi x : Int} {la : Option Int} (h : PartP ss qs) (g0 : 0 ≤ fi) (g1 : fi ≤ x) (g2 : x + 1 < 10 ^ 59) (hl : ∀ e, la = some e → x < e ∧ e < 10 ^ 59) : PartP (ss ++ [(fi, la)]) (insAt (insAt qs j (x + 1, la)) k (fi, some x)) := by
  obtain ⟨h1, h2, h3⟩ := h
  refine ⟨fun d => ?_, fun q hq => ?_, fun q hq => ?_⟩
  · rw [MemR_ins, MemR_ins, MemR_app, MemR_one, h1 d, or_assoc]
    have e : inR (fi, la) d ↔ inR (x + 1, la) d ∨ inR (fi, some x) d := by
      cases la with
      | none =>
        rw [inR_none, inR_none, inR_some]
        omega
      | some y =>
        have := hl y rfl
        rw [inR_some, inR_some, inR_some]
        omega
    rw [e]
  · rcases mem_insAt.mp hq with hq | rfl
    · rcases mem_insAt.mp hq with hq | rfl
      · exact h2 q hq
      · refine ⟨by show 0 ≤ x + 1; omega, fun e z => ?_⟩
        have := (hl e z).1
        show x + 1 ≤ e
        omega
    · refine ⟨g0, fun e z => ?_⟩
      cases z
      exact g1
  · rcases mem_insAt.mp hq with hq | rfl
    · rcases mem_insAt.mp hq with hq | rfl
      · exact h3 q hq
      · exact ⟨g2, fun e z => (hl e z).2⟩
    · refine ⟨by show fi < 10 ^ 59; omega, fun e z => ?_⟩
      cases z
      omega
/-- a Stretch is made, whatever is asked behind it -/
theorem mk_go {C x dx : Addr} {H : Hp} {Qv : VK} {E : XK} {r : Spn} (nx : H x = none) (nd : H dx = none) (ne : dx ≠ x) (g : Gd r) (h : ∀ H' : Hp, Same H H' → StAt C H' r x → Qv .non H') :
    spInit C [.ref x, .int r.1, oV r.2] (upd (upd H dx (.own x)) x (.ins C dx [])) Qv E := ⟨x, dx, r, rfl, upd_same, g, fun H' hs kp => h H' (Same.made nx nd kp) hs⟩
/-- last is None or at < last -/
def untilB (x : Int) : Option Int → Bool
  | none => true
  | some e => decide (x < e)
theorem or_none {la : Option Int} {x : Int} {σ : L2.St} {H : Hp} {QT : Bool → Hp → Prop} (h5 : σ[5]? = some (some (.int x))) (h4 : σ[4]? = some (some (oV la))) (h : QT (untilB x la) H) : tOr (tB (tIsN (tVar 4))) (tB (tLt (tVar 5) (tVar 4))) σ H QT := by
  cases la with
  | none => exact ⟨_, h4, _, rfl, iteT (B := tB (tLt (tVar 5) (tVar 4)) σ H QT) h⟩
  | some y => exact ⟨_, h4, _, rfl, iteF (A := QT true H) ⟨_, h5, _, h4, _, _, rfl, rfl, _, rfl, h⟩⟩
section
variable {P : Program} {w : World} {K : PySem.W.Frag} {mg : Str → Option Value} {base : Heap}
def spParted (C : Addr) : Sp := fun vs H Q _ => ∃ (p l : Addr) (ts : List Addr) (rs : List Spn), vs = [.ref p, .ref l] ∧ PotAt H p ∧ H l = some (.lst (ts.map V.ref)) ∧ Two (TuAt H) rs ts ∧ Good rs ∧ Bnd (10 ^ 58) rs ∧ rs.length ≤ 10 ∧
  ∀ (H' : Hp) (a : Addr) (qs : List Spn), But p H H' → PotAt H' p → a ≠ p → Arg C H' a qs → (∀ d, MemR qs d ↔ MemR rs d) → Bnd (10 ^ 59) qs → qs.length ≤ 20 → Q (.ref a) H'
abbrev nParted : List Str := ["_law_pot_here", "_law_rows_here", "_law_found", "_law_first", "_law_last", "_law_at", "_law_place"]
theorem scParted : FnScope nParted ["_law_pot_here", "_law_rows_here"] (C8.fnScope sParted) := ⟨rfl, rfl, rfl, by decide +kernel, rfl, by decide +kernel, by decide +kernel⟩
theorem cal_parted {C f : Addr} {fd : FuncData} (F : Def K mg "_law_parted" sParted f fd) (b : Binds K fd ["_law_pot_here", "_law_rows_here"] []) (mL : mg "len" = none) (cT : Cal P w K mg base 1 "_law_take" spTake []) (m : Mak P w K mg base 2 "Stretch" C (spInit C) []) :
    Cal P w K mg base 4 "_law_parted" (spParted C) [] := by
  refine cal0 F b .nil scParted (fun vs H Q E h => ?_) (fun cdv A outer s H vs Q E hr h => ?_)
  · obtain ⟨p, l, ts, rs, rfl, _⟩ := h
    rfl
  · obtain ⟨p, l, ts, rs, rfl, hp, hL, two, hg, hbd, hln, k⟩ := h
    refine ⟨_, pss_cons (ps_set (i := 2) scParted.nd rfl (Or.inl rfl) (pe_lst pa_nil))
      (pss_cons (ps_for PassesOwn.never rfl (pi_list (pv 1)) (pg_tup rfl (pgs_cons (pg_name (i := 3) scParted.nd rfl (Or.inl rfl)) (pgs_cons (pg_name (i := 4) scParted.nd rfl (Or.inl rfl)) pgs_nil)))
        (pss_cons (ps_set (i := 5) scParted.nd rfl (Or.inl rfl) (pe_op op_add (pv 3) (pe_c cT hr (by decide) (by rfl) (pa_cons (pv 0) (pa_cons pe_int pa_nil)))))
        (pss_cons (ps_set (i := 6) scParted.nd rfl (Or.inl rfl) (pe_c cT hr (by decide) (by rfl) (pa_cons (pv 0) (pa_cons (pe_op op_add (pe_callB call_len (by rfl) mL (by decide +kernel) (pa_cons (pv 2) pa_nil)) pe_int) pa_nil))))
        (pss_one (ps_if (PW.pt (pw_or (pt_cmp (pc_isN (pv 4))) (pw_or1 (pt_cmp (pc_lt (pv 5) (pv 4))))))
          (pss_cons (ps_expr (pe_bm PySem.F.plainAttrs_list PySem.F.slot_list_insert PySem.F.type_list_insert mt_insert (pv 2) (pa_cons (pv 6) (pa_cons (pe_mk m hr (by decide) (by rfl) (pa_cons (pe_op op_add (pv 5) pe_int) (pa_cons (pv 4) pa_nil))) pa_nil))))
            (pss_one (ps_expr (pe_bm PySem.F.plainAttrs_list PySem.F.slot_list_insert PySem.F.type_list_insert mt_insert (pv 2) (pa_cons (pe_c cT hr (by decide) (by rfl) (pa_cons (pv 0) (pa_cons (pe_op op_add (pe_callB call_len (by rfl) mL (by decide +kernel) (pa_cons (pv 2) pa_nil)) pe_int) pa_nil)))
              (pa_cons (pe_mk m hr (by decide) (by rfl) (pa_cons (pv 3) (pa_cons (pv 5) pa_nil))) pa_nil))))))
          (pss_one (ps_expr (pe_bm PySem.F.plainAttrs_list PySem.F.slot_list_insert PySem.F.type_list_insert mt_insert (pv 2) (pa_cons (pv 6) (pa_cons (pe_mk m hr (by decide) (by rfl) (pa_cons (pv 3) (pa_cons (pv 4) pa_nil))) pa_nil))))))))))
      (pss_one (ps_ret (pv 2)))), ?_⟩
    have hsz : sizeLine = 16777216 := by decide
    have htl := two.len
    refine i_setThen ⟨Nat.zero_le _, fun D hD => ?_⟩
    have sD : Same H (upd H D (.lst [])) := Same.new hD
    have nD : D ≠ p := fun z => by
      obtain ⟨x, y, h, _⟩ := hp
      rw [z, h] at hD
      cases hD
    have l0 : BasS C p D H [] [] (upd H D (.lst [])) := ⟨upd_same, .nil, hp.same sD, But.of sD, nD⟩
    have nl : l ≠ p := fun z => by
      obtain ⟨x, y, h, _⟩ := hp
      rw [z, h] at hL
      have := Option.some.inj hL
      injection this with e
      cases ts with
      | nil => cases e
      | cons t ts => cases e
    refine i_seq (i_forL ⟨_, rfl, l, rfl, ⟨_, .inl (.inl (sD _ _ hL))⟩, for_list (K := K) (a := l) (xs := ts.map V.ref) (fun i σ H' => ∃ (as : List Addr) (qs : List Spn) (v3 v4 v5 v6 : Option V), σ = [some (.ref p), some (.ref l), some (.ref D), v3, v4, v5, v6] ∧ BasS C p D H qs as H' ∧ PartP (rs.take i) qs ∧ qs.length ≤ 2 * i)
      ⟨[], [], none, none, none, none, rfl, l0, ⟨fun d => Iff.rfl, (fun q hq => by cases hq), (fun q hq => by cases hq)⟩, Nat.le_refl _⟩ (fun i σ H' _ q => ?_) (fun i x σ H' hx q => ?_) fun σ H' q => ?_⟩)
    · obtain ⟨as, qs, v3, v4, v5, v6, rfl, l1, p1, n1⟩ := q
      exact .inl (.inl (l1.but _ _ nl hL))
    · obtain ⟨as, qs, v3, v4, v5, v6, rfl, l1, p1, n1⟩ := q
      obtain ⟨t, rfl, ht⟩ := refs_get hx
      obtain ⟨⟨fi, la⟩, hr1, htu⟩ := two.at_ i t ht
      have hi := (List.getElem?_eq_some_iff.mp hr1).1
      have hmem := List.mem_of_getElem? hr1
      have nt : t ≠ p := fun z => by
        obtain ⟨x, y, h, _⟩ := hp
        have htu : H t = some (.tup _) := htu
        rw [z, h] at htu
        cases htu
      have htu1 : H' t = some (.tup [.int fi, oV la]) := l1.but _ _ nt htu
      have g0 : 0 ≤ fi := (hg _ hmem).1
      have g1 : ∀ e, la = some e → fi ≤ e := (hg _ hmem).2
      have b0 : fi < 10 ^ 58 := (hbd _ hmem).1
      have b1 : ∀ e, la = some e → e < 10 ^ 58 := (hbd _ hmem).2
      have et : rs.take (i + 1) = rs.take i ++ [(fi, la)] := by rw [List.take_add_one, hr1]; rfl
      refine ⟨t, _, rfl, .inl (.inl htu1), rfl, _, _, rfl, _, _, rfl, rfl, ?_⟩
      refine i_setThen ⟨_, rfl, _, rfl, p, 5, rfl, l1.pot, by decide, by decide, fun d5 H5 d50 d51 hp5 bt5 => ⟨_, _, rfl, rfl, ?_⟩⟩
      have l5 := l1.step bt5 hp5
      have hal := l5.two.len
      refine i_setThen ⟨_, rfl, _, rfl, _, as.length, rfl, .inl ⟨_, .inl (.inl l5.d), by rw [List.length_map]⟩, _, _, rfl, rfl, p, _, rfl, l5.pot, by omega, by omega, fun d6 H6 d60 d61 hp6 bt6 => ?_⟩
      have l6 := l5.step bt6 hp6
      have ql : as.length = qs.length := l1.two.len
      refine i_ifs (or_none (la := la) (x := fi + d5) rfl rfl ?_)
      by_cases hc : untilB (fi + d5) la = true
      · rw [if_pos hc]
        have hla : ∀ e, la = some e → fi + d5 < e ∧ e < 10 ^ 59 := fun e z => by
          subst z
          exact ⟨of_decide_eq_true hc, by have := b1 e rfl; omega⟩
        refine ⟨_, rfl, .inl ⟨rfl, _, SqL.of l6.d⟩, _, rfl, _, rfl, _, _, rfl, rfl, _, rfl, fun x dx nx nd ne => mk_go (r := (fi + d5 + 1, la)) nx nd ne ⟨by show 0 ≤ fi + d5 + 1; omega, fun e z => by have := (hla e z).1; show fi + d5 + 1 ≤ e; omega⟩ fun H7 s7 hx7 => ⟨rfl, ?_⟩⟩
        refine ⟨D, _, d6, .ref x, rfl, rfl, s7 _ _ l6.d, by rw [List.length_map]; omega, d60, by omega, ?_⟩
        have l8 := l6.ins hD s7 hx7 d6.toNat
        have n8 : (insAt as d6.toNat x).length = as.length + 1 := len_insAt
        refine ⟨_, rfl, .inl ⟨rfl, _, SqL.of l8.d⟩, _, rfl, _, rfl, _, (insAt as d6.toNat x).length, rfl, .inl ⟨_, .inl (.inl l8.d), by rw [List.length_map]⟩, _, _, rfl, rfl, p, _, rfl, l8.pot, by omega, by omega, fun d9 H9 d90 d91 hp9 bt9 => ?_⟩
        have l9 := l8.step bt9 hp9
        refine ⟨_, rfl, _, rfl, fun x2 dx2 nx2 nd2 ne2 => mk_go (r := (fi, some (fi + d5))) nx2 nd2 ne2 ⟨g0, fun e z => by cases z; show fi ≤ fi + d5; omega⟩ fun H10 s10 hx10 => ⟨rfl, D, _, d9, .ref x2, rfl, rfl, s10 _ _ l9.d, by rw [List.length_map]; omega, d90, by omega, ?_⟩⟩
        exact ⟨_, _, _, _, _, _, rfl, l9.ins hD s10 hx10 d9.toNat, by rw [et]; exact p1.two g0 (by omega) (by omega) hla, by rw [len_insAt, len_insAt]; omega⟩
      · rw [if_neg hc]
        refine ⟨_, rfl, .inl ⟨rfl, _, SqL.of l6.d⟩, _, rfl, _, rfl, _, rfl, fun x dx nx nd ne => mk_go (r := (fi, la)) nx nd ne ⟨g0, g1⟩ fun H7 s7 hx7 => ⟨rfl, ?_⟩⟩
        refine ⟨D, _, d6, .ref x, rfl, rfl, s7 _ _ l6.d, by rw [List.length_map]; omega, d60, by omega, ?_⟩
        exact ⟨_, _, _, _, _, _, rfl, l6.ins hD s7 hx7 d6.toNat, by rw [et]; exact p1.one ⟨g0, g1⟩ ⟨by show fi < 10 ^ 59; omega, fun e z => by have := b1 e z; omega⟩, by rw [len_insAt]; omega⟩
    · obtain ⟨as, qs, v3, v4, v5, v6, rfl, l1, p1, n1⟩ := q
      rw [List.length_map, htl, List.take_length] at p1
      rw [List.length_map] at n1
      have hal := l1.two.len
      exact ⟨_, rfl, k H' D qs l1.but l1.pot nD ⟨as, .inl l1.d, l1.two, p1.2.1, by omega⟩ p1.1 p1.2.2 (by omega)⟩
end
end K7
namespace K7
open PySem L2 KD LamX
open C8 (Cal Mak Met Def pe_c pe_mk pe_mt pe_mt0 cal0 met0 mak0)
/-! ### told lists -/
/-- a told list of new stretches -/
def TI (C : Addr) (H : Hp) (p : Addr) (ss : List Spn) : Prop := ∃ bs : List Addr, H p = some (.lst (bs.map V.ref)) ∧ Two (StAt C H) (rowsOf ss) bs
theorem TI.ext {C : Addr} {H H' : Hp} {p : Addr} {ss : List Spn} (h : TI C H p ss) (e : ExtN H H') : TI C H' p ss :=
  let ⟨bs, h1, h2⟩ := h
  ⟨bs, e _ _ h1 (fun ps z => by cases z), h2.mono fun r a z => StAt.ext e r a z⟩
theorem rows_len {ss : List Spn} : (rowsOf ss).length = ss.length := List.length_map _
theorem TI.arg {C : Addr} {H : Hp} {p : Addr} {ss : List Spn} (h : TI C H p ss) (c : Can (-1) ss) (n : ss.length ≤ 400) : Arg C H p (rowsOf ss) :=
  let ⟨bs, h1, h2⟩ := h
  ⟨bs, .inl h1, h2, good_rowsOf c, by rw [rows_len]; exact n⟩
theorem can_eq {ss tt : List Spn} {M M' : Int → Prop} (c : Can (-1) ss) (c' : Can (-1) tt) (m : ∀ d, Mem ss d ↔ M d) (m' : ∀ d, Mem tt d ↔ M' d) (h : ∀ d, M d ↔ M' d) : ss = tt :=
  Can.same c c' fun d _ => (m d).trans ((h d).trans (m' d).symm)
theorem can_nil {ss : List Spn} {M : Int → Prop} (c : Can (-1) ss) (m : ∀ d, Mem ss d ↔ M d) (h : ∀ d, ¬ M d) : ss = [] :=
  can_eq c (show Can (-1) [] from trivial) m (fun d => Iff.rfl) fun d => ⟨fun z => (h d z).elim, fun z => (Mem_nil d z).elim⟩
theorem prs_two {C : Addr} {H : Hp} {rs : List Spn} {as bs : List Addr} (t : Two (StAt C H) rs as) (u : Two (StAt C H) rs bs) : Prs (DIns C (EqR2 C)) (as.map V.ref) (bs.map V.ref) H := by
  refine ⟨by rw [List.length_map, List.length_map, t.len, u.len], fun i x y hx hy => ?_⟩
  obtain ⟨a, rfl, ha⟩ := refs_get hx
  obtain ⟨b, rfl, hb⟩ := refs_get hy
  obtain ⟨r, h1, h2⟩ := t.at_ i a ha
  obtain ⟨r', h3, h4⟩ := u.at_ i b hb
  rw [h1] at h3
  cases h3
  obtain ⟨d1, k1⟩ := id h2
  obtain ⟨d2, k2⟩ := id h4
  exact ⟨a, b, d1, d2, _, _, rfl, rfl, k1, k2, r, h2, h4⟩
theorem TI.prs {C : Addr} {H : Hp} {p q : Addr} {ss tt : List Spn} (h : TI C H p ss) (h' : TI C H q tt) (e : ss = tt) : DList (DIns C (EqR2 C)) (.ref p) (.ref q) H := by
  subst e
  obtain ⟨as, h1, h2⟩ := h
  obtain ⟨bs, k1, k2⟩ := h'
  exact ⟨p, q, _, _, rfl, rfl, h1, k1, prs_two h2 k2⟩
theorem TI.nil {C : Addr} {H : Hp} {p q : Addr} {ss : List Spn} (h : TI C H p ss) (hq : H q = some (.lst [])) (e : ss = []) : DList DFlat (.ref p) (.ref q) H := by
  subst e
  obtain ⟨as, h1, h2⟩ := h
  have : as = [] := List.eq_nil_of_length_eq_zero h2.len
  subst this
  exact ⟨p, q, _, _, rfl, rfl, h1, hq, Prs.nil⟩
theorem anyT_iff {ss : List Spn} {d : Int} : ((rowsOf ss).any fun r => hasB r d) = true ↔ Mem ss d := anyB_iff.trans MemR_rowsOf
theorem bl_eq {a b : Bool} (h : a = true ↔ b = true) : a = b := Bool.eq_iff_iff.mpr h
theorem flat_bl (c d : Bool) (H : Hp) (h : c = d) : DFlat (.bl c) (.bl d) H := by
  subst h
  cases c <;> exact ⟨rfl, rfl, by decide⟩
theorem i_parThen {i j : Nat} {ta : TA} {u : TS} {D : Ends} {σ : L2.St} {H : Hp} (h : ta σ H fun vs H1 => ∃ v w, vs = [v, w] ∧ u D ((σ.set i (some v)).set j (some w)) H1) : tSeq (tPar i j ta) u D σ H := h
/-- x or y, x and y, x and not y of truths in variables -/
theorem or_ok {σ : L2.St} {H : Hp} {Q : VK} {i j : Nat} {c d : Bool} (h1 : σ[i]? = some (some (.bl c))) (h2 : σ[j]? = some (some (.bl d))) (q : Q (.bl (c || d)) H) : tOrV (tVar i) (tVar j) σ H Q := by
  cases c with
  | true => exact ⟨_, h1, _, rfl, iteT (B := tVar j σ H Q) q⟩
  | false => exact ⟨_, h1, _, rfl, iteF (A := Q (.bl true) H) ⟨_, h2, q⟩⟩
theorem and_ok {σ : L2.St} {H : Hp} {Q : VK} {i j : Nat} {c d : Bool} (h1 : σ[i]? = some (some (.bl c))) (h2 : σ[j]? = some (some (.bl d))) (q : Q (.bl (c && d)) H) : tAndV (tVar i) (tVar j) σ H Q := by
  cases c with
  | true => exact ⟨_, h1, _, rfl, iteT (B := Q (.bl false) H) ⟨_, h2, q⟩⟩
  | false => exact ⟨_, h1, _, rfl, iteF (A := tVar j σ H Q) q⟩
theorem andN_ok {σ : L2.St} {H : Hp} {Q : VK} {i j : Nat} {c d : Bool} (h1 : σ[i]? = some (some (.bl c))) (h2 : σ[j]? = some (some (.bl d))) (q : Q (.bl (c && !d)) H) : tAndV (tVar i) (tNotV (tVar j)) σ H Q := by
  cases c with
  | true => exact ⟨_, h1, _, rfl, iteT (B := Q (.bl false) H) ⟨_, h2, _, rfl, q⟩⟩
  | false => exact ⟨_, h1, _, rfl, iteF (A := tNotV (tVar j) σ H Q) q⟩
section
variable {P : Program} {w : World} {K : PySem.W.Frag} {mg : Str → Option Value} {base : Heap}
/-! ### _law_days_right -/
def spDaysR (C Pt : Addr) : Sp := fun vs H Q _ => ∃ (a b l m dd : Addr) (qs ps rs ms : List Spn) (ts us : List Addr) (ns : List Int), vs = [.ref a, .ref b, .ref l, .ref m, .ref dd] ∧ Arg C H a qs ∧ Arg C H b ps ∧ (∀ d, MemR qs d ↔ MemR rs d) ∧ (∀ d, MemR ps d ↔ MemR ms d) ∧ qs.length ≤ 11 ∧ ps.length ≤ 11 ∧
  H l = some (.lst (ts.map V.ref)) ∧ Two (TuAt H) rs ts ∧ rs.length ≤ 10 ∧ H m = some (.lst (us.map V.ref)) ∧ Two (TuAt H) ms us ∧ ms.length ≤ 10 ∧ H dd = some (.lst (ns.map V.int)) ∧ (∀ n ∈ ns, 0 ≤ n) ∧ Tabs (tabT Pt) H ∧
  ∀ H', ExtN H H' → Tabs (tabT Pt) H' → Q (.bl true) H'
abbrev nDaysR : List Str := ["_law_some", "_law_others", "_law_rows_here", "_law_more", "_law_days", "_law_told", "_law_day", "_law_one", "_law_other", "_law_due_here", "_law_found"]
theorem scDaysR : FnScope nDaysR ["_law_some", "_law_others", "_law_rows_here", "_law_more", "_law_days"] (C8.fnScope sDaysR) := ⟨rfl, rfl, rfl, by decide +kernel, rfl, by decide +kernel, by decide +kernel⟩
theorem cal_daysR {C Pt f : Addr} {fd : FuncData} (F : Def K mg "_law_days_right" sDaysR f fd) (b : Binds K fd ["_law_some", "_law_others", "_law_rows_here", "_law_more", "_law_days"] []) (cD : Cal P w K mg base 5 "days_in" (spDays C Pt) []) (cE : Cal P w K mg base 5 "either_days" (spEither C Pt) [])
    (cB : Cal P w K mg base 5 "both_days" (spBothD C Pt) []) (cO : Cal P w K mg base 5 "only_days" (spOnly C Pt) []) (cI : Cal P w K mg base 1 "_law_in" spIn []) (cH : Cal P w K mg base 3 "_law_has" (spHasL C) []) : Cal P w K mg base 6 "_law_days_right" (spDaysR C Pt) [] := by
  refine cal0 F b .nil scDaysR (fun vs H Q E h => ?_) (fun cdv A outer s H vs Q E hr h => ?_)
  · obtain ⟨a, b, l, m, dd, qs, ps, rs, ms, ts, us, ns, rfl, _⟩ := h
    rfl
  · obtain ⟨a, b, l, m, dd, qs, ps, rs, ms, ts, us, ns, rfl, A0, B0, mA, mB, nA, nB, hl, tl, nl, hm, tm, nm, hdd, hns, T0, k⟩ := h
    have hr0 : Room 1 _ := hr.mono (by decide)
    refine ⟨_, pss_cons (ps_set (i := 5) scDaysR.nd rfl (Or.inl rfl) (pe_lst (pa_cons (pe_c cD hr (by decide) (by rfl) (pa_cons (pv 0) pa_nil)) (pa_cons (pe_c cE hr (by decide) (by rfl) (pa_cons (pv 0) (pa_cons (pv 1) pa_nil)))
        (pa_cons (pe_c cB hr (by decide) (by rfl) (pa_cons (pv 0) (pa_cons (pv 1) pa_nil))) (pa_cons (pe_c cO hr (by decide) (by rfl) (pa_cons (pv 0) (pa_cons (pv 1) pa_nil))) pa_nil))))))
      (pss_cons (ps_for PassesOwn.never rfl (pi_list (pv 4)) (pg_name (i := 6) scDaysR.nd rfl (Or.inr rfl))
        (pss_cons (ps_par (i := 7) (j := 8) rfl scDaysR.nd rfl rfl (by decide) (by rfl) (by rfl) (pa_cons (pe_c cI hr (by decide) (by rfl) (pa_cons (pv 2) (pa_cons (pv 6) pa_nil))) (pa_cons (pe_c cI hr (by decide) (by rfl) (pa_cons (pv 3) (pa_cons (pv 6) pa_nil))) pa_nil)) (by rfl))
        (pss_cons (ps_set (i := 9) scDaysR.nd rfl (Or.inl rfl) (pe_lst (pa_cons (pv 7) (pa_cons (pe_or (pv 7) (pe_one (pv 8))) (pa_cons (pe_and (pv 7) (pe_one (pv 8))) (pa_cons (pe_and (pv 7) (pe_one (pe_not (pv 8)))) pa_nil))))))
        (pss_one (ps_if (pt_cmpR (op_neG (n := 0) mon_flat eqG_flat hr0)
            (pe_lc (own := [("_law_found", 10)]) (g := gName 10) (tt := tYes) rfl scDaysR.nd (pi_list (pv 5)) (blkOk_by (own := [("_law_found", 10)]) (N := nDaysR) (sc := C8.fnScope sDaysR) (by decide +kernel))
              (fun _ _ _ _ _ => pg_name (i := 10) scDaysR.nd rfl (Or.inl rfl)) (fun _ _ _ _ _ => pts_nil) (fun _ _ _ _ _ => pe_c cH hr (by decide) (by rfl) (pa_cons (pv 10) (pa_cons (pv 6) pa_nil))))
            (pv 9) (nomark _)) (pss_one (ps_ret pe_bl)) pss_nil)))))
      (pss_one (ps_ret pe_bl))), ?_⟩
    have hsz : sizeLine = 16777216 := by decide
    refine i_setThen (i_lst ?_)
    refine ⟨_, rfl, a, qs, rfl, A0, T0, fun H1 p1 bs1 s1 e1 t1 g1 g1' c1 m1 n1 => ?_⟩
    refine ⟨_, rfl, _, rfl, a, b, qs, ps, rfl, A0.ext e1, B0.ext e1, t1, fun H2 p2 bs2 s2 e2 t2 g2 g2' c2 m2 n2 => ?_⟩
    have e12 := e1.trans e2
    refine ⟨_, rfl, _, rfl, a, b, qs, ps, rfl, A0.ext e12, B0.ext e12, t2, fun H3 p3 bs3 s3 e3 t3 g3 g3' c3 m3 n3 => ?_⟩
    have e13 := e12.trans e3
    refine ⟨_, rfl, _, rfl, a, b, qs, ps, rfl, A0.ext e13, B0.ext e13, t3, fun H4 p4 bs4 s4 e4 t4 g4 g4' c4 m4 n4 => ?_⟩
    refine ⟨by show 4 ≤ sizeLine; decide, fun L hL => ?_⟩
    have e14 := e13.trans e4
    have sL : Same H4 (upd H4 L (.lst [.ref p1, .ref p2, .ref p3, .ref p4])) := Same.new hL
    have e0 : ExtN H (upd H4 L (.lst [.ref p1, .ref p2, .ref p3, .ref p4])) := e14.trans (.of sL)
    have k1 : TI C (upd H4 L (.lst [.ref p1, .ref p2, .ref p3, .ref p4])) p1 s1 := TI.ext ⟨bs1, g1, g1'⟩ (((e2.trans e3).trans e4).trans (.of sL))
    have k2 : TI C (upd H4 L (.lst [.ref p1, .ref p2, .ref p3, .ref p4])) p2 s2 := TI.ext ⟨bs2, g2, g2'⟩ ((e3.trans e4).trans (.of sL))
    have k3 : TI C (upd H4 L (.lst [.ref p1, .ref p2, .ref p3, .ref p4])) p3 s3 := TI.ext ⟨bs3, g3, g3'⟩ (e4.trans (.of sL))
    have k4 : TI C (upd H4 L (.lst [.ref p1, .ref p2, .ref p3, .ref p4])) p4 s4 := TI.ext ⟨bs4, g4, g4'⟩ (.of sL)
    have tab0 : Tabs (tabT Pt) (upd H4 L (.lst [.ref p1, .ref p2, .ref p3, .ref p4])) := Tabs.ext t4 sL
    have hL0 : upd H4 L (.lst [.ref p1, .ref p2, .ref p3, .ref p4]) L = some (.lst [.ref p1, .ref p2, .ref p3, .ref p4]) := upd_same
    clear g1 g1' g2 g2' g3 g3' g4 g4' e1 e2 e3 e4 e12 e13 e14 t1 t2 t3 t4 sL
    generalize upd H4 L (.lst [.ref p1, .ref p2, .ref p3, .ref p4]) = H5 at e0 k1 k2 k3 k4 tab0 hL0 ⊢
    have f1 : s1.length ≤ 1000 := by omega
    have f2 : s2.length ≤ 1000 := by omega
    have f3 : s3.length ≤ 1000 := by
      have : qs.length * ps.length ≤ 11 * 11 := Nat.mul_le_mul nA nB
      omega
    have f4 : s4.length ≤ 1000 := by
      have : qs.length * (ps.length + 1) ≤ 11 * 12 := Nat.mul_le_mul nA (by omega)
      omega
    have hlH : H5 l = some (.lst (ts.map V.ref)) := e0 _ _ hl fun ps z => by cases z
    have hmH : H5 m = some (.lst (us.map V.ref)) := e0 _ _ hm fun ps z => by cases z
    have hdH : H5 dd = some (.lst (ns.map V.int)) := e0 _ _ hdd fun ps z => by cases z
    have tlH : Two (TuAt H5) rs ts := tl.mono fun r a z => TuAt.ext e0 r a z
    have tmH : Two (TuAt H5) ms us := tm.mono fun r a z => TuAt.ext e0 r a z
    refine i_seq (i_forL ⟨_, rfl, dd, rfl, ⟨_, .inl (.inl hdH)⟩, for_list (K := K) (a := dd) (xs := ns.map V.int) (fun i σ H' => ∃ v6 v7 v8 v9 : Option V, σ = [some (.ref a), some (.ref b), some (.ref l), some (.ref m), some (.ref dd), some (.ref L), v6, v7, v8, v9, none] ∧ Same H5 H')
      ⟨none, none, none, none, rfl, Same.refl H5⟩ (fun i σ H' _ q => ?_) (fun i x σ H' hx q => ?_) fun σ H' q => ?_⟩)
    · obtain ⟨v6, v7, v8, v9, rfl, s⟩ := q
      exact .inl (.inl (s _ _ hdH))
    · obtain ⟨v6, v7, v8, v9, rfl, s⟩ := q
      rw [List.getElem?_map] at hx
      obtain ⟨d, hd, rfl⟩ := Option.map_eq_some_iff.mp hx
      have hd0 : 0 ≤ d := hns d (List.mem_of_getElem? hd)
      refine i_name ?_
      refine i_parThen ⟨_, rfl, _, rfl, l, ts, rs, d, rfl, s _ _ hlH, tlH.mono fun r a z => TuAt.same s r a z, by omega, fun H6 s6 => ?_⟩
      have s56 := s.trans s6
      refine ⟨_, rfl, _, rfl, m, us, ms, d, rfl, s56 _ _ hmH, tmH.mono fun r a z => TuAt.same s56 r a z, by omega, fun H7 s7 => ⟨_, _, rfl, ?_⟩⟩
      have s57 : Same H5 H7 := s56.trans s7
      have i1 : ((rowsOf s1).any fun r => hasB r d) = (rs.any fun r => hasB r d) := bl_eq (anyT_iff.trans ((m1 d).trans ((mA d).trans anyB_iff.symm)))
      have i2 : ((rowsOf s2).any fun r => hasB r d) = ((rs.any fun r => hasB r d) || (ms.any fun r => hasB r d)) := bl_eq (by rw [Bool.or_eq_true, anyT_iff, anyB_iff, anyB_iff, m2 d]; show _ ∨ _ ↔ _; rw [mA d, mB d])
      have i3 : ((rowsOf s3).any fun r => hasB r d) = ((rs.any fun r => hasB r d) && (ms.any fun r => hasB r d)) := bl_eq (by rw [Bool.and_eq_true, anyT_iff, anyB_iff, anyB_iff, m3 d]; show _ ∧ _ ↔ _; rw [mA d, mB d])
      have i4 : ((rowsOf s4).any fun r => hasB r d) = ((rs.any fun r => hasB r d) && !(ms.any fun r => hasB r d)) := bl_eq (by rw [Bool.and_eq_true, Bool.not_eq_true', ← Bool.not_eq_true, anyT_iff, anyB_iff, anyB_iff, m4 d]; show _ ∧ ¬ _ ↔ _; rw [mA d, mB d])
      generalize (rs.any fun r => hasB r d) = x at i1 i2 i3 i4 ⊢
      generalize (ms.any fun r => hasB r d) = y at i2 i3 i4 ⊢
      refine i_setThen (i_lst ⟨_, rfl, or_ok rfl rfl (and_ok rfl rfl (andN_ok rfl rfl ⟨by show 4 ≤ sizeLine; decide, fun U hU => ?_⟩))⟩)
      have s8 : Same H5 (upd H7 U (.lst [.bl x, .bl (x || y), .bl (x && y), .bl (x && !y)])) := s57.trans (Same.new hU)
      have hU8 : upd H7 U (.lst [.bl x, .bl (x || y), .bl (x && y), .bl (x && !y)]) U = some (.lst [.bl x, .bl (x || y), .bl (x && y), .bl (x && !y)]) := upd_same
      generalize upd H7 U (.lst [.bl x, .bl (x || y), .bl (x && y), .bl (x && !y)]) = H8 at s8 hU8 ⊢
      refine i_ifs (i_b (i_op ?_))
      refine lc_l (a := L) (H1 := H8) (xs := ([(p1, s1), (p2, s2), (p3, s3), (p4, s4)] : List (Addr × List Spn)).map fun q : Addr × List Spn => V.ref q.1) (fun R h => ⟨_, rfl, h⟩) (s8 _ _ hL0)
        (fun D i H' => H' D = some (.lst ((([(p1, s1), (p2, s2), (p3, s3), (p4, s4)] : List (Addr × List Spn)).take i).map fun q : Addr × List Spn => V.bl ((rowsOf q.2).any fun r => hasB r d))) ∧ Same H8 H')
        (fun D hD => ⟨upd_same, Same.new hD⟩) (fun D i H' p => p.2) (fun D hD i x H' hx p => ?_) (fun x H' Q Q' z q => z _ _ q) fun D H' hD p => ?_
      · rw [List.getElem?_map] at hx
        obtain ⟨⟨pi, si⟩, hc, rfl⟩ := Option.map_eq_some_iff.mp hx
        have hi := (List.getElem?_eq_some_iff.mp hc).1
        have hi : i < 4 := hi
        have good : TI C H5 pi si ∧ si.length ≤ 1000 := by
          have := List.mem_of_getElem? hc
          simp only [List.mem_cons, List.not_mem_nil, or_false, Prod.mk.injEq] at this
          rcases this with ⟨rfl, rfl⟩ | ⟨rfl, rfl⟩ | ⟨rfl, rfl⟩ | ⟨rfl, rfl⟩
          · exact ⟨k1, f1⟩
          · exact ⟨k2, f2⟩
          · exact ⟨k3, f3⟩
          · exact ⟨k4, f4⟩
        obtain ⟨bs, u1, u2⟩ := good.1
        have s9 : Same H5 H' := s8.trans p.2
        refine ⟨rfl, _, rfl, _, rfl, pi, bs, rowsOf si, d, rfl, s9 _ _ u1, u2.mono fun r a z => StAt.same s9 r a z, hd0, by rw [rows_len]; omega, fun H2 s2' => ?_⟩
        refine ⟨_, s2' _ _ p.1, by rw [List.length_map, List.length_take]; omega, ?_, Same.put (p.2.trans s2') hD⟩
        rw [upd_same, take_map _ hc]
      · obtain ⟨p1', p2'⟩ := p
        have p1' : H' D = some (.lst [.bl ((rowsOf s1).any fun r => hasB r d), .bl ((rowsOf s2).any fun r => hasB r d), .bl ((rowsOf s3).any fun r => hasB r d), .bl ((rowsOf s4).any fun r => hasB r d)]) := p1'
        rw [i1, i2, i3, i4] at p1'
        refine ⟨_, rfl, .inl ⟨⟨D, U, _, _, rfl, rfl, p1', p2' _ _ hU8, Prs.cons (flat_bl _ _ _ rfl) (Prs.cons (flat_bl _ _ _ rfl) (Prs.cons (flat_bl _ _ _ rfl) (Prs.cons (flat_bl _ _ _ rfl) Prs.nil)))⟩, fun H9 ex => ⟨_, rfl, iteF ?_⟩⟩⟩
        exact ⟨_, _, _, _, rfl, (s8.trans p2').trans ex⟩
    · obtain ⟨v6, v7, v8, v9, rfl, s⟩ := q
      exact k H' (e0.trans (.of s)) (Tabs.ext tab0 s)
end
end K7
namespace K7
open PySem L2 KD LamX
open C8 (Cal Mak Met Def pe_c pe_mk pe_mt pe_mt0 cal0 met0 mak0)
section
variable {P : Program} {w : World} {K : PySem.W.Frag} {mg : Str → Option Value} {base : Heap}
theorem i_andV {ta tb : TE} {σ : L2.St} {H : Hp} {Q : VK} (h : ta σ H fun x H1 => ∃ c, x = .bl c ∧ if c = true then tb σ H1 Q else Q (.bl false) H1) : tAndV ta tb σ H Q := h
theorem i_orV {ta tb : TE} {σ : L2.St} {H : Hp} {Q : VK} (h : ta σ H fun x H1 => ∃ c, x = .bl c ∧ if c = true then Q (.bl true) H1 else tb σ H1 Q) : tOrV ta tb σ H Q := h
theorem i_notN {ta : TE} {σ : L2.St} {H : Hp} {Q : VK} (h : ta σ H fun x H1 => Q (.bl (!decide (x = .non))) H1) : tNotN ta σ H Q := h
theorem i_eqI {ta tb : TE} {σ : L2.St} {H : Hp} {Q : VK} (h : ta σ H fun x H1 => tb σ H1 fun y H2 => ∃ i j, x = .int i ∧ y = .int j ∧ Q (.bl (decide (i = j))) H2) : tEqI ta tb σ H Q := h
/-- what the four counts tell of one another -/
structure Cnts (c0 c1 c2 c3 : Option Int) : Prop where
  w1 : (c0 = none ∨ c1 = none) → c2 = none
  w2 : c0 = none → c1 = none → c3 = none
  w3 : (c0 ≠ none ∧ c1 ≠ none) → c2 ≠ none ∧ c3 ≠ none
  w4 : ∀ x y z t, c0 = some x → c1 = some y → c2 = some z → c3 = some t → x + y = z + t
/-! ### _law_sums_right -/
/-- == of Stretches is at hand -/
structure EqS (P : Program) (w : World) (K : PySem.W.Frag) (mg : Str → Option Value) (base : Heap) (C : Addr) : Prop where
  eq : ∃ (g : Addr) (gd : FuncData), FnOk P w K mg base C8.CX0 1 g gd ["self", "other"] (spEq (EqR2 C)) ∧ PySem.W.findIn K (.ref C) "__eq__" = some (some (.ref g)) ∧ PySem.W.isFn K (.ref g) = true ∧ Binds K gd ["self", "other"] []
theorem EqS.eqG {C : Addr} (q : EqS P w K mg base C) {X : Cx} (h1 : X.prog = P) (h2 : X.w = w) (h3 : X.K = K) (h4 : X.mg = mg) (h5 : X.base = base) : EqG X 1 (DIns C (EqR2 C)) := by
  subst h1 h2 h3 h4 h5
  obtain ⟨g, gd, e1, e2, e3, e4⟩ := q.eq
  exact eqG_ins (E := C8.E0) e1 e2 e3 e4 C8.pass0
def spSums (C Pt : Addr) : Sp := fun vs H Q _ => ∃ (a b : Addr) (qs ps : List Spn), vs = [.ref a, .ref b] ∧ Arg C H a qs ∧ Arg C H b ps ∧ qs.length ≤ 11 ∧ ps.length ≤ 11 ∧ Tabs (tabT Pt) H ∧ ∀ H', ExtN H H' → Tabs (tabT Pt) H' → Q (.bl true) H'
abbrev nSums : List Str := ["_law_some", "_law_others", "_law_alone", "_law_shared", "_law_counts"]
theorem scSums : FnScope nSums ["_law_some", "_law_others"] (C8.fnScope sSums) := ⟨rfl, rfl, rfl, by decide +kernel, rfl, by decide +kernel, by decide +kernel⟩
theorem cal_sums {C Pt f : Addr} {fd : FuncData} (F : Def K mg "_law_sums_right" sSums f fd) (b : Binds K fd ["_law_some", "_law_others"] []) (mL : mg "list" = none) (q : EqS P w K mg base C) (cD : Cal P w K mg base 5 "days_in" (spDays C Pt) []) (cE : Cal P w K mg base 5 "either_days" (spEither C Pt) [])
    (cB : Cal P w K mg base 5 "both_days" (spBothD C Pt) []) (cO : Cal P w K mg base 5 "only_days" (spOnly C Pt) []) (cM : Cal P w K mg base 5 "many_days" (spMany C Pt) []) : Cal P w K mg base 6 "_law_sums_right" (spSums C Pt) [] := by
  refine cal0 F b .nil scSums (fun vs H Q E h => ?_) (fun cdv A outer s H vs Q E hr h => ?_)
  · obtain ⟨a, b, qs, ps, rfl, _⟩ := h
    rfl
  · obtain ⟨a, b, qs, ps, rfl, A0, B0, nA, nB, T0, k⟩ := h
    have hr0 : Room 1 _ := hr.mono (by decide)
    have hr1 : Room 2 _ := hr.mono (by decide)
    refine ⟨_, pss_cons (ps_par (i := 2) (j := 3) rfl scSums.nd rfl rfl (by decide) (by rfl) (by rfl) (pa_cons (pe_c cO hr (by decide) (by rfl) (pa_cons (pv 0) (pa_cons (pv 1) pa_nil))) (pa_cons (pe_c cB hr (by decide) (by rfl) (pa_cons (pv 0) (pa_cons (pv 1) pa_nil))) pa_nil)) (by rfl))
      (pss_cons (ps_if (PW.pt (pw_or (pt_cmpR (op_neG (n := 1) (mon_ins EqR2.mono) (q.eqG rfl rfl rfl rfl rfl) hr1) (pe_c cE hr (by decide) (by rfl) (pa_cons (pv 2) (pa_cons (pv 3) pa_nil))) (pe_c cD hr (by decide) (by rfl) (pa_cons (pv 0) pa_nil)) (nomark _))
          (pw_or1 (pt_cmpR (op_neG (n := 1) (mon_ins EqR2.mono) (q.eqG rfl rfl rfl rfl rfl) hr1) (pe_c cE hr (by decide) (by rfl) (pa_cons (pv 2) (pa_cons (pv 1) pa_nil))) (pe_c cE hr (by decide) (by rfl) (pa_cons (pv 0) (pa_cons (pv 1) pa_nil))) (nomark _))))) (pss_one (ps_ret pe_bl)) pss_nil)
      (pss_cons (ps_if (pt_cmpR (op_neG (n := 1) (mon_ins EqR2.mono) (q.eqG rfl rfl rfl rfl rfl) hr1) (pe_c cD hr (by decide) (by rfl) (pa_cons (pe_op op_cat (pe_callTy call_list_of (by rfl) mL (by decide +kernel) (pa_cons (pv 0) pa_nil)) (pe_callTy call_list_of (by rfl) mL (by decide +kernel) (pa_cons (pv 1) pa_nil))) pa_nil))
          (pe_c cE hr (by decide) (by rfl) (pa_cons (pv 1) (pa_cons (pv 0) pa_nil))) (nomark _)) (pss_one (ps_ret pe_bl)) pss_nil)
      (pss_cons (ps_if (PW.pt (pw_or (pt_cmpR (op_neG (n := 0) mon_flat eqG_flat hr0) (pe_c cB hr (by decide) (by rfl) (pa_cons (pv 2) (pa_cons (pe_c cO hr (by decide) (by rfl) (pa_cons (pv 1) (pa_cons (pv 0) pa_nil))) pa_nil))) (pe_lst pa_nil) (nomark _))
          (pw_or1 (pt_cmpR (op_neG (n := 0) mon_flat eqG_flat hr0) (pe_c cO hr (by decide) (by rfl) (pa_cons (pv 0) (pa_cons (pv 0) pa_nil))) (pe_lst pa_nil) (nomark _))))) (pss_one (ps_ret pe_bl)) pss_nil)
      (pss_cons (ps_set (i := 4) scSums.nd rfl (Or.inl rfl) (pe_lst (pa_cons (pe_c cM hr (by decide) (by rfl) (pa_cons (pv 0) pa_nil)) (pa_cons (pe_c cM hr (by decide) (by rfl) (pa_cons (pv 1) pa_nil))
          (pa_cons (pe_c cM hr (by decide) (by rfl) (pa_cons (pe_c cE hr (by decide) (by rfl) (pa_cons (pv 0) (pa_cons (pv 1) pa_nil))) pa_nil)) (pa_cons (pe_c cM hr (by decide) (by rfl) (pa_cons (pv 3) pa_nil)) pa_nil))))))
      (pss_cons (ps_if (PW.pt (pw_or (pt_cmp (pc_isN (pe_ix ix_list (pv 4) pe_int (fun _ _ => rfl)))) (pw_or1 (pt_cmp (pc_isN (pe_ix ix_list (pv 4) pe_int (fun _ _ => rfl)))))))
          (pss_one (ps_ret (pe_and (pe_cmp (pc_isN (pe_ix ix_list (pv 4) pe_int (fun _ _ => rfl))) rfl) (pe_one (pe_or (pe_cmp (pc_notN (pe_ix ix_list (pv 4) pe_int (fun _ _ => rfl))) rfl) (pe_or (pe_cmp (pc_notN (pe_ix ix_list (pv 4) pe_int (fun _ _ => rfl))) rfl) (pe_one (pe_cmp (pc_isN (pe_ix ix_list (pv 4) pe_int (fun _ _ => rfl))) rfl)))))))) pss_nil)
      (pss_cons (ps_if (PW.pt (pw_or (pt_cmp (pc_isN (pe_ix ix_list (pv 4) pe_int (fun _ _ => rfl)))) (pw_or1 (pt_cmp (pc_isN (pe_ix ix_list (pv 4) pe_int (fun _ _ => rfl))))))) (pss_one (ps_ret pe_bl)) pss_nil)
      (pss_one (ps_ret (pe_cmp (pc_eqI (pe_op op_add (pe_ix ix_list (pv 4) pe_int (fun _ _ => rfl)) (pe_ix ix_list (pv 4) pe_int (fun _ _ => rfl))) (pe_op op_add (pe_ix ix_list (pv 4) pe_int (fun _ _ => rfl)) (pe_ix ix_list (pv 4) pe_int (fun _ _ => rfl)))) rfl)))))))))
, ?_⟩
    have hsz : sizeLine = 16777216 := by decide
    refine i_parThen ⟨_, rfl, _, rfl, a, b, qs, ps, rfl, A0, B0, T0, fun H1 pa ba sa e1 t1 g1 g1' ca ma na => ?_⟩
    refine ⟨_, rfl, _, rfl, a, b, qs, ps, rfl, A0.ext e1, B0.ext e1, t1, fun H2 pb bb sb e2 t2 g2 g2' cb mb nb => ⟨_, _, rfl, ?_⟩⟩
    have ka : TI C H2 pa sa := TI.ext ⟨ba, g1, g1'⟩ e2
    have kb : TI C H2 pb sb := ⟨bb, g2, g2'⟩
    have na1 : sa.length ≤ 132 := by
      have : qs.length * (ps.length + 1) ≤ 11 * 12 := Nat.mul_le_mul nA (by omega)
      omega
    have nb1 : sb.length ≤ 121 := by
      have : qs.length * ps.length ≤ 11 * 11 := Nat.mul_le_mul nA nB
      omega
    have e02 := e1.trans e2
    have rla : (rowsOf sa).length ≤ 132 := by rw [rows_len]; exact na1
    have rlb : (rowsOf sb).length ≤ 121 := by rw [rows_len]; exact nb1
    clear g1 g1' g2 g2'
    refine i_seqP (fun σ' H' => σ' = [some (.ref a), some (.ref b), some (.ref pa), some (.ref pb), none] ∧ ExtN H2 H' ∧ Tabs (tabT Pt) H') ?_ fun N hN => ?_
    rotate_left
    · refine i_ifs (i_or ?_)
      refine ⟨_, rfl, _, rfl, pa, pb, rowsOf sa, rowsOf sb, rfl, ka.arg ca (by omega), kb.arg cb (by omega), t2, fun H3 p3 b3 s3 e3 t3 g3 g3' c3 m3 n3 => ?_⟩
      refine ⟨_, rfl, a, qs, rfl, A0.ext (e02.trans e3), t3, fun H4 p4 b4 s4 e4 t4 g4 g4' c4 m4 n4 => ?_⟩
      have q1 : s3 = s4 := can_eq c3 c4 m3 m4 fun d => by
        rw [MemR_rowsOf, MemR_rowsOf, ma d, mb d]
        constructor
        · rintro (h | h)
          · exact h.1
          · exact h.1
        · intro h
          by_cases hd : MemR ps d
          · exact .inr ⟨h, hd⟩
          · exact .inl ⟨h, hd⟩
      refine .inl ⟨TI.prs (TI.ext ⟨b3, g3, g3'⟩ e4) ⟨b4, g4, g4'⟩ q1, fun H5 e5 => ⟨_, rfl, iteF ?_⟩⟩
      have e25 : ExtN H2 H5 := (e3.trans e4).trans (.of e5)
      refine ⟨_, rfl, _, rfl, pa, b, rowsOf sa, ps, rfl, (ka.arg ca (by omega)).ext e25, B0.ext (e02.trans e25), Tabs.ext t4 e5, fun H6 p6 b6 s6 e6 t6 g6 g6' c6 m6 n6 => ?_⟩
      refine ⟨_, rfl, _, rfl, a, b, qs, ps, rfl, A0.ext (e02.trans (e25.trans e6)), B0.ext (e02.trans (e25.trans e6)), t6, fun H7 p7 b7 s7 e7 t7 g7 g7' c7 m7 n7 => ?_⟩
      have q2 : s6 = s7 := can_eq c6 c7 m6 m7 fun d => by
        rw [MemR_rowsOf, ma d]
        constructor
        · rintro (h | h)
          · exact .inl h.1
          · exact .inr h
        · intro h
          by_cases hd : MemR ps d
          · exact .inr hd
          · exact .inl ⟨h.resolve_right hd, hd⟩
      refine .inl ⟨TI.prs (TI.ext ⟨b6, g6, g6'⟩ e7) ⟨b7, g7, g7'⟩ q2, fun H8 e8 => ⟨_, rfl, iteF ?_⟩⟩
      exact i_nx (hN _ _ ⟨rfl, ((e25.trans e6).trans e7).trans (.of e8), Tabs.ext t7 e8⟩)
    rintro σ3 H3 ⟨rfl, e3, t3⟩
    refine i_seqP (fun σ' H' => σ' = [some (.ref a), some (.ref b), some (.ref pa), some (.ref pb), none] ∧ ExtN H2 H' ∧ Tabs (tabT Pt) H') ?_ fun N hN => ?_
    rotate_left
    · obtain ⟨as, hL, two, hg, hl⟩ := A0.ext (e02.trans e3)
      obtain ⟨bs, hL2, two2, hg2, hl2⟩ := B0.ext (e02.trans e3)
      have hlen := two.len
      have hlen2 := two2.len
      refine i_ifs ?_
      refine ⟨_, rfl, a, _, rfl, hL.elim (fun z => .inl (.inl (.inl z))) (fun z => .inr (.inl (.inl z))), fun l1 hl1 => ?_⟩
      have s13 : Same H3 (upd H3 l1 (.lst (as.map V.ref))) := Same.new hl1
      refine ⟨_, rfl, b, _, rfl, (hL2.ext (.of s13)).elim (fun z => .inl (.inl (.inl z))) (fun z => .inr (.inl (.inl z))), fun l2 hn2 => ?_⟩
      have nl : l1 ≠ l2 := ne_of_none upd_same hn2
      refine ⟨l1, l2, _, _, rfl, rfl, by rw [upd_ne nl, upd_same], upd_same, by rw [List.length_map, List.length_map]; omega, fun l3 hn3 => ?_⟩
      have s14 : Same H3 (upd (upd (upd H3 l1 (.lst (as.map V.ref))) l2 (.lst (bs.map V.ref))) l3 (.lst (as.map V.ref ++ bs.map V.ref))) := (s13.trans (Same.new hn2)).trans (Same.new hn3)
      have AB : Arg C (upd (upd (upd H3 l1 (.lst (as.map V.ref))) l2 (.lst (bs.map V.ref))) l3 (.lst (as.map V.ref ++ bs.map V.ref))) l3 (qs ++ ps) := by
        refine ⟨as ++ bs, .inl (by rw [upd_same, List.map_append]), (two.mono fun r a z => StAt.same s14 r a z).app (two2.mono fun r a z => StAt.same s14 r a z), fun r hr => ?_, by rw [List.length_append]; omega⟩
        rcases List.mem_append.mp hr with hr | hr
        · exact hg r hr
        · exact hg2 r hr
      have t14 := Tabs.ext t3 s14
      generalize upd (upd (upd H3 l1 (.lst (as.map V.ref))) l2 (.lst (bs.map V.ref))) l3 (.lst (as.map V.ref ++ bs.map V.ref)) = H4 at s14 AB t14 ⊢
      have e24 : ExtN H2 H4 := e3.trans (.of s14)
      refine ⟨l3, qs ++ ps, rfl, AB, t14, fun H5 p5 b5 s5 e5 t5 g5 g5' c5 m5 n5 => ?_⟩
      refine ⟨_, rfl, _, rfl, b, a, ps, qs, rfl, B0.ext (e02.trans (e24.trans e5)), A0.ext (e02.trans (e24.trans e5)), t5, fun H6 p6 b6 s6 e6 t6 g6 g6' c6 m6 n6 => ?_⟩
      have q1 : s5 = s6 := can_eq c5 c6 m5 m6 fun d => by rw [MemR_app]; exact or_comm
      refine .inl ⟨TI.prs (TI.ext ⟨b5, g5, g5'⟩ e6) ⟨b6, g6, g6'⟩ q1, fun H7 e7 => ⟨_, rfl, iteF ?_⟩⟩
      exact i_nx (hN _ _ ⟨rfl, ((e24.trans e5).trans e6).trans (.of e7), Tabs.ext t6 e7⟩)
    rintro σ4 H4 ⟨rfl, e4, t4⟩
    refine i_seqP (fun σ' H' => σ' = [some (.ref a), some (.ref b), some (.ref pa), some (.ref pb), none] ∧ ExtN H2 H' ∧ Tabs (tabT Pt) H') ?_ fun N hN => ?_
    rotate_left
    · refine i_ifs (i_or ?_)
      have e04 := e02.trans e4
      refine ⟨_, rfl, _, rfl, _, rfl, b, a, ps, qs, rfl, B0.ext e04, A0.ext e04, t4, fun H5 p5 b5 s5 e5 t5 g5 g5' c5 m5 n5 => ?_⟩
      have n51 : s5.length ≤ 132 := by
        have : ps.length * (qs.length + 1) ≤ 11 * 12 := Nat.mul_le_mul nB (by omega)
        omega
      refine ⟨pa, p5, rowsOf sa, rowsOf s5, rfl, (ka.arg ca (by omega)).ext (e4.trans e5), TI.arg ⟨b5, g5, g5'⟩ c5 (by omega), t5, fun H6 p6 b6 s6 e6 t6 g6 g6' c6 m6 n6 => ⟨Nat.zero_le _, fun Z hZ => ?_⟩⟩
      have q1 : s6 = [] := can_nil c6 m6 fun d h => by
        rw [MemR_rowsOf, MemR_rowsOf, ma d, m5 d] at h
        exact h.2.2 h.1.1
      refine .inl ⟨TI.nil (TI.ext ⟨b6, g6, g6'⟩ (ExtN.new hZ)) upd_same q1, fun H7 e7 => ⟨_, rfl, iteF ?_⟩⟩
      have sZ : Same H6 H7 := (Same.new hZ).trans e7
      have e27 : ExtN H2 H7 := ((e4.trans e5).trans e6).trans (.of sZ)
      refine ⟨_, rfl, _, rfl, a, a, qs, qs, rfl, A0.ext (e02.trans e27), A0.ext (e02.trans e27), Tabs.ext t6 sZ, fun H8 p8 b8 s8 e8 t8 g8 g8' c8 m8 n8 => ⟨Nat.zero_le _, fun Z2 hZ2 => ?_⟩⟩
      have q2 : s8 = [] := can_nil c8 m8 fun d h => h.2 h.1
      refine .inl ⟨TI.nil (TI.ext ⟨b8, g8, g8'⟩ (ExtN.new hZ2)) upd_same q2, fun H9 e9 => ⟨_, rfl, iteF ?_⟩⟩
      have sZ2 : Same H8 H9 := (Same.new hZ2).trans e9
      exact i_nx (hN _ _ ⟨rfl, (e27.trans e8).trans (.of sZ2), Tabs.ext t8 sZ2⟩)
    rintro σ5 H5 ⟨rfl, e5, t5⟩
    have e05 := e02.trans e5
    refine i_setThen (i_lst ?_)
    refine ⟨_, rfl, a, qs, rfl, A0.ext e05, t5, fun H6 s6 e6 t6 c6 m6 => ?_⟩
    refine ⟨_, rfl, b, ps, rfl, B0.ext (e05.trans e6), t6, fun H7 s7 e7 t7 c7 m7 => ?_⟩
    have e57 := e6.trans e7
    refine ⟨_, rfl, _, rfl, a, b, qs, ps, rfl, A0.ext (e05.trans e57), B0.ext (e05.trans e57), t7, fun H8 p8 b8 s8 e8 t8 g8 g8' c8 m8 n8 => ?_⟩
    refine ⟨p8, rowsOf s8, rfl, TI.arg ⟨b8, g8, g8'⟩ c8 (by omega), t8, fun H9 s9 e9 t9 c9 m9 => ?_⟩
    have e59 := (e57.trans e8).trans e9
    refine ⟨_, rfl, pb, rowsOf sb, rfl, (kb.arg cb (by omega)).ext (e5.trans e59), t9, fun H10 s10 e10 t10 c10 m10 => ?_⟩
    refine ⟨by show 4 ≤ sizeLine; decide, fun L hL => ?_⟩
    have hu : ∀ d, Mem s9 d ↔ Mem s6 d ∨ Mem s7 d := fun d => by rw [m9 d, MemR_rowsOf, m8 d, m6 d, m7 d]
    have hi : ∀ d, Mem s10 d ↔ Mem s6 d ∧ Mem s7 d := fun d => by rw [m10 d, MemR_rowsOf, mb d, m6 d, m7 d]
    have cn : Cnts (many s6) (many s7) (many s9) (many s10) :=
      ⟨(many_which hu hi).1, (many_which hu hi).2.1, (many_which hu hi).2.2, fun x y z t h0 h1 h2 h3 => many_sum c6 c7 c9 c10 hu hi h0 h1 h2 h3⟩
    have fin : Q (.bl true) (upd H10 L (.lst [oV (many s6), oV (many s7), oV (many s9), oV (many s10)])) := k _ ((e05.trans (e59.trans e10)).trans (ExtN.new hL)) (Tabs.ext t10 (Same.new hL))
    have hL0 : upd H10 L (.lst [oV (many s6), oV (many s7), oV (many s9), oV (many s10)]) L = some (.lst [oV (many s6), oV (many s7), oV (many s9), oV (many s10)]) := upd_same
    generalize many s6 = c0 at cn fin hL0 ⊢
    generalize many s7 = c1 at cn fin hL0 ⊢
    generalize many s9 = c2 at cn fin hL0 ⊢
    generalize many s10 = c3 at cn fin hL0 ⊢
    generalize upd H10 L (.lst [oV c0, oV c1, oV c2, oV c3]) = H11 at fin hL0 ⊢
    have ix : ∀ (i : Int) (v : V) (Q : VK), atI [oV c0, oV c1, oV c2, oV c3] i = some v → Q v H11 → tOp (rIxL K) (tVar 4) (tC (.int i)) [some (.ref a), some (.ref b), some (.ref pa), some (.ref pb), some (.ref L)] H11 Q :=
      fun i v Q hi q => ⟨_, rfl, L, _, i, v, rfl, rfl, .inl (.inl hL0), hi, q⟩
    refine i_seq (i_ifs (i_or (i_b (i_isN (ix 0 (oV c0) _ rfl ⟨_, rfl, ?_⟩)))))
    cases c0 with
    | none =>
      have z2 : c2 = none := cn.w1 (.inl rfl)
      subst z2
      refine iteT (iteT (i_ret (i_andV (i_isN (ix 2 .non _ rfl ⟨_, rfl, iteT (i_orV (i_notN (ix 0 .non _ rfl ⟨_, rfl, iteF (i_orV (i_notN (ix 1 (oV c1) _ rfl ⟨_, rfl, ?_⟩)))⟩)))⟩)))))
      cases c1 with
      | none =>
        have z3 : c3 = none := cn.w2 rfl rfl
        subst z3
        exact iteF (i_isN (ix 3 .non _ rfl fin))
      | some y => exact iteT fin
    | some x =>
      refine iteF (i_b (i_isN (ix 1 (oV c1) _ rfl ⟨_, rfl, ?_⟩)))
      cases c1 with
      | none =>
        have z2 : c2 = none := cn.w1 (.inr rfl)
        subst z2
        exact iteT (i_ret (i_andV (i_isN (ix 2 .non _ rfl ⟨_, rfl, iteT (i_orV (i_notN (ix 0 (.int x) _ rfl ⟨_, rfl, iteT fin⟩)))⟩))))
      | some y =>
        obtain ⟨z2, z3⟩ := cn.w3 ⟨by simp, by simp⟩
        cases c2 with
        | none => exact (z2 rfl).elim
        | some z =>
          cases c3 with
          | none => exact (z3 rfl).elim
          | some t =>
            have w := cn.w4 x y z t rfl rfl rfl rfl
            refine iteF (i_next ?_)
            dsimp only
            refine i_seq (i_ifs (i_or (i_b (i_isN (ix 2 (.int z) _ rfl ⟨_, rfl, iteF (i_b (i_isN (ix 3 (.int t) _ rfl ⟨_, rfl, iteF (i_next ?_)⟩)))⟩)))))
            dsimp only
            refine i_ret (i_eqI (i_op (ix 0 (.int x) _ rfl (ix 1 (.int y) _ rfl ⟨_, _, rfl, rfl, i_op (ix 2 (.int z) _ rfl (ix 3 (.int t) _ rfl ⟨_, _, rfl, rfl, _, _, rfl, rfl, ?_⟩))⟩))))
            rw [decide_eq_true w]
            exact fin
end
end K7
namespace K7
open PySem L2 KD LamX
open C8 (Cal Mak Met Def pe_c pe_mk pe_mt pe_mt0 cal0 met0 mak0)
/-! ### the told days are no larger than those handed in -/
theorem can_gap : ∀ {ss : List Spn} {lo : Int}, Can lo ss → ∀ s ∈ ss, ¬ Mem ss (s.1 - 1) ∧ ∀ e, s.2 = some e → ¬ Mem ss e
  | [], lo, _, s, hs => by cases hs
  | (f, none) :: r, lo, ⟨h1, h2⟩, s, hs => by
    subst h2
    rw [List.mem_singleton.mp hs]
    refine ⟨fun z => ?_, fun e z => by cases z⟩
    rcases Mem_cons.mp z with z | z
    · have := inS_none.mp z
      simp only at this
      omega
    · exact Mem_nil _ z
  | (f, some e) :: r, lo, ⟨h1, h2, h3⟩, s, hs => by
    rcases List.mem_cons.mp hs with rfl | hs
    · refine ⟨fun z => ?_, fun y hy z => ?_⟩
      · rcases Mem_cons.mp z with z | z
        · have := inS_some.mp z
          simp only at this
          omega
        · have := h3.low z
          simp only at this
          omega
      · cases hy
        rcases Mem_cons.mp z with z | z
        · have := inS_some.mp z
          omega
        · have := h3.low z
          omega
    · obtain ⟨i1, i2⟩ := can_gap h3 s hs
      obtain ⟨j1, j2⟩ := h3.firsts hs
      refine ⟨fun z => ?_, fun y hy z => ?_⟩
      · rcases Mem_cons.mp z with z | z
        · have := inS_some.mp z
          omega
        · exact i1 z
      · have := j2 y hy
        rcases Mem_cons.mp z with z | z
        · have := inS_some.mp z
          omega
        · exact i2 y hy z
theorem log_ok {i : Int} (h0 : 0 ≤ i) (h : i < 10 ^ 59) : i.natAbs.log2 < 1920 := by
  refine Flt.log2_lt_of (by decide) ?_
  have : (10 : Nat) ^ 59 ≤ 2 ^ 1920 := by decide +kernel
  have h2 : i.natAbs < 10 ^ 59 := by omega
  exact Nat.lt_of_lt_of_le h2 this
theorem sm_of {ss qs : List Spn} (c : Can (-1) ss) (m : ∀ d, Mem ss d ↔ MemR qs d) (b : Bnd (10 ^ 59) qs) : ∀ r ∈ rowsOf ss, Sm r := fun r hr => by
  obtain ⟨⟨f, bo⟩, hs, rfl⟩ := List.mem_map.mp hr
  obtain ⟨g1, g2⟩ := can_gap c _ hs
  obtain ⟨k1, k2⟩ := c.firsts hs
  have k1 : -1 < f := k1
  have k2 : ∀ e, bo = some e → f < e := k2
  have g1 : ¬ Mem ss (f - 1) := g1
  have g2 : ∀ e, bo = some e → ¬ Mem ss e := g2
  refine ⟨?_, fun e he => ?_⟩
  · obtain ⟨q, hq, h1, h2⟩ := (m f).mp ⟨_, hs, Int.le_refl _, k2⟩
    have hqb := (b q hq).1
    have : ¬ q.1 ≤ f - 1 := fun z => g1 ((m _).mpr ⟨q, hq, z, fun y hy => by have := h2 y hy; omega⟩)
    show f.natAbs.log2 < 1920
    exact log_ok (by omega) (by omega)
  · cases bo with
    | none => cases he
    | some y =>
      cases he
      have hy := k2 y rfl
      obtain ⟨q, hq, h1, h2⟩ := (m (y - 1)).mp ⟨_, hs, by show f ≤ y - 1; omega, fun e he => by cases he; omega⟩
      cases q2 : q.2 with
      | none => exact (g2 y rfl ((m y).mpr ⟨q, hq, by omega, fun e he => by rw [q2] at he; cases he⟩)).elim
      | some z =>
        have hz := h2 z q2
        have : ¬ y ≤ z := fun w => g2 y rfl ((m y).mpr ⟨q, hq, by omega, fun e he => by rw [q2] at he; cases he; exact w⟩)
        have := (b q hq).2 z q2
        show (y - 1).natAbs.log2 < 1920
        exact log_ok (by omega) (by omega)
/-- a comprehension over two lists of variables, one behind another -/
theorem lc_cat {K : PySem.W.Frag} {i j : Nat} {l m : Addr} {xs ys : List V} {g : TG} {tt : TT} {te : TE} {vs : List Nat} {σ : L2.St} {H : Hp} {Qd : VK} (h3 : σ[i]? = some (some (.ref l))) (h4 : σ[j]? = some (some (.ref m))) (hl : H l = some (.lst xs)) (hm : H m = some (.lst ys)) (hz : xs.length + ys.length ≤ sizeLine)
    (Pv : Addr → Addr → Nat → Hp → Prop) (h0 : ∀ W D, H W = none → upd H W (.lst (xs ++ ys)) D = none → Pv W D 0 (upd (upd H W (.lst (xs ++ ys))) D (.lst []))) (hs : ∀ W D i H', Pv W D i H' → Same (upd H W (.lst (xs ++ ys))) H')
    (ht : ∀ W D, H W = none → upd H W (.lst (xs ++ ys)) D = none → ∀ i x H', (xs ++ ys)[i]? = some x → Pv W D i H' → g x (wipe σ vs) H' fun σ2 H2 => wipe σ2 vs = wipe σ vs ∧ tt σ2 H2 fun b H3 => if b = true then te σ2 H3 (Aft D (Pv W D (i + 1))) else Pv W D (i + 1) H3)
    (hd : ∀ W D H', H W = none → upd H W (.lst (xs ++ ys)) D = none → Pv W D (xs ++ ys).length H' → Qd (.ref D) H') : tLc (iList K (tOp rCat (tVar i) (tVar j))) g tt te vs σ H Qd :=
  ⟨_, h3, _, h4, l, m, xs, ys, rfl, rfl, hl, hm, hz, fun W hW => ⟨W, rfl, ⟨_, .inl (.inl upd_same)⟩, fun D hD => lc_list (K := K) (a := W) (xs := xs ++ ys) (Pv W D) (h0 W D hW hD) (fun i H' _ p => .inl (.inl (hs W D i H' p _ _ upd_same))) (fun i x H' e p => ht W D hW hD i x H' e p) fun H' p => hd W D H' hW hD p⟩⟩
theorem ne_same {x : V} {H : Hp} {Q : VK} (h : scal x x = true) (q : Q (.bl false) H) : rNe x x H Q := ⟨h, by rw [decide_eq_true rfl]; exact q⟩
section
variable {P : Program} {w : World} {K : PySem.W.Frag} {mg : Str → Option Value} {base : Heap}
/-! ### law -/
/-- repr of Stretches is at hand -/
structure RpS (P : Program) (w : World) (K : PySem.W.Frag) (mg : Str → Option Value) (base : Heap) (C : Addr) : Prop where
  rp : ∃ (g : Addr) (gd : FuncData), FnOk P w K mg base C8.CX0 1 g gd ["self"] (spRepr C) ∧ PySem.W.findIn K (.ref C) "__repr__" = some (some (.ref g)) ∧ PySem.W.isFn K (.ref g) = true ∧ Binds K gd ["self"] []
theorem RpS.call {C : Addr} (q : RpS P w K mg base C) {X : Cx} (h1 : X.prog = P) (h2 : X.w = w) (h3 : X.K = K) (h4 : X.mg = mg) (h5 : X.base = base) (hr : Room 4 X.A) (hg : X.A.guards = some []) : CallR X (.builtin "repr") (rRep C) := by
  subst h1 h2 h3 h4 h5
  obtain ⟨g, gd, e1, e2, e3, e4⟩ := q.rp
  exact call_reprL hr hg e1 e2 e3 e4
abbrev nLaw : List Str := ["_law_script", "_law_k", "_law_pot_here", "_law_rows_here", "_law_more", "_law_day", "_law_some", "_law_others", "_law_days", "_law_parted_here", "_law_first", "_law_last"]
theorem scLaw : FnScope nLaw ["_law_script"] (C8.fnScope sLaw) := ⟨rfl, rfl, rfl, by decide +kernel, rfl, by decide +kernel, by decide +kernel⟩
theorem i_notB {te : TE} {σ : L2.St} {H : Hp} {QT : Bool → Hp → Prop} (h : te σ H fun x H1 => ∃ c, x = .bl c ∧ QT (!c) H1) : tNot (tB te) σ H QT := h
/-- the calls that the law makes -/
structure LawC (P : Program) (w : World) (K : PySem.W.Frag) (mg : Str → Option Value) (base : Heap) (C Pt : Addr) : Prop where
  cP : Cal P w K mg base 2 "_law_pot" (spPot K) []
  cT : Cal P w K mg base 1 "_law_take" spTake []
  cF : Cal P w K mg base 2 "_law_far" spFarL []
  cR : Cal P w K mg base 3 "_law_rows" spRows []
  cH : Cal P w K mg base 4 "_law_handed" (spHanded C) []
  cK : Cal P w K mg base 1 "_law_marks" spMarks []
  cA : Cal P w K mg base 4 "_law_parted" (spParted C) []
  cV : Cal P w K mg base 6 "_law_days_right" (spDaysR C Pt) []
  cS : Cal P w K mg base 6 "_law_sums_right" (spSums C Pt) []
  cD : Cal P w K mg base 5 "days_in" (spDays C Pt) []
  eqs : EqS P w K mg base C
  rps : RpS P w K mg base C
  nLen : mg "len" = none
  nMax : mg "max" = none
  nMin : mg "min" = none
  nRng : mg "range" = none
  nRep : mg "repr" = none
theorem law_body {C Pt fa : Addr} (L : LawC P w K mg base C Pt) (cdv : Value) (A : Around) (outer : List Env) (s : Shared) (H : Hp) (Q : VK) (E : XK) (hr : Room 6 (A.deeper (PyProof.Rows.envOfC "law" (C8.fnScope sLaw) s.heap.objs.size fa cdv))) (hgd : A.guards = some [])
    (a : Addr) (ns : List Int) (hS : SqL K H a (ns.map V.int)) (hT : Tabs (tabT Pt) H) (k : ∀ H', Q (.bl true) H') :
    ∃ t, PSs (cxOf C8.CX0 P w K mg base nLaw "law" (C8.fnScope sLaw) fa cdv A outer s H E).nox (C8.fnBody sLaw) t ∧ t { nx := fun _ H' => Q .non H', rt := Q } (L2.start nLaw [.ref a]) H := by
  have hr1 : Room 2 _ := hr.mono (by decide)
  have hr4 : Room 4 _ := hr.mono (by decide)
  have hgd2 : (A.deeper (PyProof.Rows.envOfC "law" (C8.fnScope sLaw) s.heap.objs.size fa cdv)).guards = some [] := hgd
  refine ⟨_, pss_cons (ps_for PassesOwn.never rfl (pi_range1 (by rfl) L.nRng (pa_cons (pe_callB (call_max2 rfl) (by rfl) L.nMax (by decide +kernel) (pa_cons pe_int (pa_cons (pe_callB (call_min2 rfl) (by rfl) L.nMin (by decide +kernel) (pa_cons (pe_callB call_len (by rfl) L.nLen (by decide +kernel) (pa_cons (pv 0) pa_nil)) (pa_cons pe_int pa_nil))) pa_nil))) pa_nil))
        (pg_name (i := 1) scLaw.nd rfl (Or.inl rfl))
      (pss_cons (ps_set (i := 2) scLaw.nd rfl (Or.inl rfl) (pe_c L.cP hr (by decide) (by rfl) (pa_cons (pv 0) (pa_cons (pv 1) pa_nil))))
      (pss_cons (ps_par (i := 3) (j := 4) rfl scLaw.nd rfl rfl (by decide) (by rfl) (by rfl) (pa_cons (pe_c L.cR hr (by decide) (by rfl) (pa_cons (pv 2) (pa_cons pe_int pa_nil))) (pa_cons (pe_c L.cR hr (by decide) (by rfl) (pa_cons (pv 2) (pa_cons pe_int pa_nil))) pa_nil)) (by rfl))
      (pss_cons (ps_set (i := 5) scLaw.nd rfl (Or.inl rfl) (pe_ix ix_list (pe_lst (pa_cons (pe_c L.cT hr (by decide) (by rfl) (pa_cons (pv 2) (pa_cons pe_int pa_nil))) (pa_cons (pe_c L.cF hr (by decide) (by rfl) (pa_cons (pv 2) pa_nil)) pa_nil))) (pe_c L.cT hr (by decide) (by rfl) (pa_cons (pv 2) (pa_cons pe_int pa_nil))) (fun _ _ => rfl)))
      (pss_cons (ps_par (i := 6) (j := 7) rfl scLaw.nd rfl rfl (by decide) (by rfl) (by rfl) (pa_cons (pe_c L.cH hr (by decide) (by rfl) (pa_cons (pv 2) (pa_cons (pv 3) pa_nil))) (pa_cons (pe_c L.cH hr (by decide) (by rfl) (pa_cons (pv 2) (pa_cons (pv 4) pa_nil))) pa_nil)) (by rfl))
      (pss_cons (ps_set (i := 8) scLaw.nd rfl (Or.inl rfl) (pe_op op_cat (pe_op op_cat (pe_lst (pa_cons (pv 5) pa_nil)) (pe_c L.cK hr (by decide) (by rfl) (pa_cons (pe_op op_cat (pv 3) (pv 4)) pa_nil)))
          (pe_lc (own := [("_law_first", 10), ("_law_last", 11)]) (g := gTup K 2 (gCons (gName 10) (gCons (gName 11) gNil))) (tt := tB (tNotN (tVar 11))) rfl scLaw.nd (pi_list (pe_op op_cat (pv 3) (pv 4))) (blkOk_by (own := [("_law_first", 10), ("_law_last", 11)]) (N := nLaw) (sc := C8.fnScope sLaw) (by decide +kernel))
            (fun _ _ _ _ _ => pg_tup rfl (pgs_cons (pg_name (i := 10) scLaw.nd rfl (Or.inl rfl)) (pgs_cons (pg_name (i := 11) scLaw.nd rfl (Or.inl rfl)) pgs_nil))) (fun _ _ _ _ _ => pts_one (pt_cmp (pc_notN (pv 11)))) (fun _ _ _ _ _ => pv 11))))
      (pss_cons (ps_if (PW.pt (pw_or (pt_not (pt_val (pe_c L.cV hr (by decide) (by rfl) (pa_cons (pv 6) (pa_cons (pv 7) (pa_cons (pv 3) (pa_cons (pv 4) (pa_cons (pv 8) pa_nil)))))))) (pw_or1 (pt_not (pt_val (pe_c L.cS hr (by decide) (by rfl) (pa_cons (pv 6) (pa_cons (pv 7) pa_nil)))))))) (pss_one (ps_ret pe_bl)) pss_nil)
      (pss_cons (ps_set (i := 9) scLaw.nd rfl (Or.inl rfl) (pe_c L.cA hr (by decide) (by rfl) (pa_cons (pv 2) (pa_cons (pv 3) pa_nil))))
      (pss_one (ps_if (PW.pt (pw_or (pt_cmpR (op_neG (n := 1) (mon_ins EqR2.mono) (L.eqs.eqG rfl rfl rfl rfl rfl) hr1) (pe_c L.cD hr (by decide) (by rfl) (pa_cons (pv 9) pa_nil)) (pe_c L.cD hr (by decide) (by rfl) (pa_cons (pv 6) pa_nil)) (nomark _))
          (pw_or1 (pt_cmpR op_ne (pe_callB (L.rps.call rfl rfl rfl rfl rfl hr4 hgd2) (by rfl) L.nRep (by decide +kernel) (pa_cons (pe_c L.cD hr (by decide) (by rfl) (pa_cons (pv 9) pa_nil)) pa_nil)) (pe_callB (L.rps.call rfl rfl rfl rfl rfl hr4 hgd2) (by rfl) L.nRep (by decide +kernel) (pa_cons (pe_c L.cD hr (by decide) (by rfl) (pa_cons (pv 6) pa_nil)) pa_nil)) (nomark _))))) (pss_one (ps_ret pe_bl)) pss_nil))))))))))
      (pss_one (ps_ret pe_bl)), ?_⟩
  have hsz : sizeLine = 16777216 := by decide
  refine i_seq (i_for ?_)
  refine ⟨_, rfl, _, (ns.map V.int).length, rfl, .inl ⟨_, hS, rfl⟩, _, _, rfl, _, _, rfl, _, rfl, ?_⟩
  have m0 : 1 ≤ (if (if (10 : Int) < ((ns.map V.int).length : Nat) then (10 : Int) else ((ns.map V.int).length : Nat)) > 1 then (if (10 : Int) < ((ns.map V.int).length : Nat) then (10 : Int) else ((ns.map V.int).length : Nat)) else (1 : Int)) := by split <;> omega
  have m1 : (if (if (10 : Int) < ((ns.map V.int).length : Nat) then (10 : Int) else ((ns.map V.int).length : Nat)) > 1 then (if (10 : Int) < ((ns.map V.int).length : Nat) then (10 : Int) else ((ns.map V.int).length : Nat)) else (1 : Int)) ≤ 10 := by split <;> (try split) <;> omega
  generalize (if (if (10 : Int) < ((ns.map V.int).length : Nat) then (10 : Int) else ((ns.map V.int).length : Nat)) > 1 then (if (10 : Int) < ((ns.map V.int).length : Nat) then (10 : Int) else ((ns.map V.int).length : Nat)) else (1 : Int)) = mm at m0 m1 ⊢
  refine ⟨by omega, by omega, for_range (fun i σ H' => ∃ v1 v2 v3 v4 v5 v6 v7 v8 v9 : Option V, σ = [some (.ref a), v1, v2, v3, v4, v5, v6, v7, v8, v9, none, none] ∧ ExtN H H' ∧ Tabs (tabT Pt) H')
    ⟨none, none, none, none, none, none, none, none, none, rfl, ExtN.refl H, hT⟩ (fun i σ H' hi q => ?_) fun σ H' q => k H'⟩
  obtain ⟨v1, v2, v3, v4, v5, v6, v7, v8, v9, rfl, e0, t0⟩ := q
  have hi10 : i < 10 := by omega
  refine i_name ?_
  refine i_setThen ⟨_, rfl, _, rfl, a, ns, i, (by show [V.ref a, V.int (0 + (i : Int))] = _; rw [Int.zero_add]), by omega, ExtN.seqL e0 hS, fun H1 p s1 hp0 pot1 => ?_⟩
  refine i_parThen ⟨_, rfl, p, rfl, pot1, fun H2 l ts rs bt2 pot2 nl hl0 hl2 tw2 gd2 bd2 ln2 => ?_⟩
  refine ⟨_, rfl, p, rfl, pot2, fun H3 m us ms bt3 pot3 nm hm0 hm3 tw3 gd3 bd3 ln3 => ⟨_, _, rfl, ?_⟩⟩
  have hl3 : H3 l = some (.lst (ts.map V.ref)) := bt3 _ _ nl hl2
  have tu_but : ∀ {X Y : Hp} {rr : List Spn} {tt : List Addr}, But p X Y → PotAt X p → Two (TuAt X) rr tt → Two (TuAt Y) rr tt := fun {X Y rr tt} bt pt tw => by
    obtain ⟨x, y, h, _⟩ := pt
    exact tw.mono fun r a z => TuAt.but bt h r a z
  have twl3 := tu_but bt3 pot2 tw2
  have b03 : But p H' H3 := ((But.of s1).trans bt2).trans bt3
  refine i_seqP (fun σ' X => ∃ d : Int, σ' = [some (.ref a), some (.int (0 + (i : Int))), some (.ref p), some (.ref l), some (.ref m), some (.int d), v6, v7, v8, v9, none, none] ∧ 0 ≤ d ∧ But p H3 X ∧ PotAt X p) ?_ fun N hN => ?_
  rotate_left
  · refine i_asg ⟨_, rfl, p, 60, rfl, pot3, by decide, by decide, fun d4 H4 d40 d41 pot4 bt4 => ⟨_, rfl, p, rfl, pot4, fun d5 H5 d50 d51 pot5 bt5 => ⟨by show 2 ≤ sizeLine; decide, fun U hU => ⟨_, rfl, p, 2, rfl, pot5.same (Same.new hU), by decide, by decide, fun d6 H6 d60 d61 pot6 bt6 => ?_⟩⟩⟩⟩
    have nU : U ≠ p := fun z => by
      obtain ⟨x, y, h, _⟩ := pot5
      rw [z, h] at hU
      cases hU
    have hU6 : H6 U = some (.lst [.int d4, .int d5]) := bt6 _ _ nU upd_same
    have b36 : But p H3 H6 := ((bt4.trans bt5).trans (.of (Same.new hU))).trans bt6
    have hd : d6 = 0 ∨ d6 = 1 := by omega
    rcases hd with rfl | rfl
    · exact ⟨U, _, 0, .int d4, rfl, rfl, .inl (.inl hU6), rfl, hN _ _ ⟨d4, rfl, d40, b36, pot6⟩⟩
    · exact ⟨U, _, 1, .int d5, rfl, rfl, .inl (.inl hU6), rfl, hN _ _ ⟨d5, rfl, d50, b36, pot6⟩⟩
  rintro σ6 H6 ⟨d, rfl, hd0, b36, pot6⟩
  have hl6 : H6 l = some (.lst (ts.map V.ref)) := b36 _ _ nl hl3
  have hm6 : H6 m = some (.lst (us.map V.ref)) := b36 _ _ nm hm3
  refine i_parThen ⟨_, rfl, _, rfl, p, l, ts, rs, rfl, pot6, hl6, tu_but b36 pot3 twl3, gd2, ln2, fun H7 a1 qs bt7 pot7 n1 A7 mq nq => ?_⟩
  have b37 := b36.trans bt7
  refine ⟨_, rfl, _, rfl, p, m, us, ms, rfl, pot7, b37 _ _ nm hm3, tu_but b37 pot3 tw3, gd3, ln3, fun H8 b1 ps bt8 pot8 n2 B8 mp np => ⟨_, _, rfl, ?_⟩⟩
  have b38 := b37.trans bt8
  have A8 : Arg C H8 a1 qs := A7.but bt8 pot7 n1
  have hl8 : H8 l = some (.lst (ts.map V.ref)) := b38 _ _ nl hl3
  have hm8 : H8 m = some (.lst (us.map V.ref)) := b38 _ _ nm hm3
  have twl8 := tu_but b38 pot3 twl3
  have twm8 := tu_but b38 pot3 tw3
  have s08 : Same H' H8 := fun b o e => (b03.trans b38) b o (ne_of_none e hp0) e
  have t8 : Tabs (tabT Pt) H8 := Tabs.ext t0 s08
  have ltl := twl8.len
  have ltm := twm8.len
  clear twl3 tw2 tw3 hl3 hl2 hm3 hl6 hm6 A7
  -- the days that are asked
  refine i_seqP (fun σ' X => ∃ (R : Addr) (ks : List Int), σ' = [some (.ref a), some (.int (0 + (i : Int))), some (.ref p), some (.ref l), some (.ref m), some (.int d), some (.ref a1), some (.ref b1), some (.ref R), v9, none, none] ∧ X R = some (.lst (ks.map V.int)) ∧ (∀ n ∈ ks, 0 ≤ n) ∧ Same H8 X) ?_ fun N hN => ?_
  rotate_left
  · refine i_asg (i_op (i_op (i_lst ⟨_, rfl, by show 1 ≤ sizeLine; decide, fun Z hZ => ?_⟩)))
    have sZ : Same H8 (upd H8 Z (.lst [.int d])) := Same.new hZ
    refine ⟨_, rfl, _, rfl, l, m, _, _, rfl, rfl, sZ _ _ hl8, sZ _ _ hm8, by rw [List.length_map, List.length_map]; omega, fun W hW => ?_⟩
    have sW : Same H8 (upd (upd H8 Z (.lst [.int d])) W (.lst (ts.map V.ref ++ us.map V.ref))) := sZ.trans (Same.new hW)
    refine ⟨W, ts ++ us, rs ++ ms, rfl, by rw [upd_same, List.map_append], (twl8.mono fun r a z => TuAt.same sW r a z).app (twm8.mono fun r a z => TuAt.same sW r a z), fun r hr => ?_, by rw [List.length_append]; omega, fun H10 mk ks s10 hmk hks nks => ?_⟩
    · rcases List.mem_append.mp hr with hr | hr
      · exact gd2 r hr
      · exact gd3 r hr
    have s80 : Same H8 H10 := sW.trans s10
    refine ⟨Z, mk, _, _, rfl, rfl, s10 _ _ (Same.new hW _ _ upd_same), hmk, by rw [List.length_map]; show 1 + _ ≤ _; omega, fun Y hY => ?_⟩
    have s8Y : Same H8 (upd H10 Y (.lst ([.int d] ++ ks.map V.int))) := s80.trans (Same.new hY)
    have hYY : upd H10 Y (.lst ([.int d] ++ ks.map V.int)) Y = some (.lst ([.int d] ++ ks.map V.int)) := upd_same
    generalize upd H10 Y (.lst ([.int d] ++ ks.map V.int)) = H11 at s8Y hYY ⊢
    refine lc_cat (l := l) (m := m) (xs := ts.map V.ref) (ys := us.map V.ref) rfl rfl (s8Y _ _ hl8) (s8Y _ _ hm8) (by rw [List.length_map, List.length_map]; omega)
      (fun W2 D i X => ∃ js : List Int, X D = some (.lst (js.map V.int)) ∧ (∀ n ∈ js, 0 ≤ n) ∧ js.length ≤ i ∧ Same (upd H11 W2 (.lst (ts.map V.ref ++ us.map V.ref))) X)
      (fun W2 D hW2 hD => ⟨[], upd_same, (fun n z => by cases z), Nat.le_refl _, Same.new hD⟩) (fun W2 D i X q => q.choose_spec.2.2.2) (fun W2 D hW2 hD i x X hx q => ?_) fun W2 D X hW2 hD q => ?_
    · rw [← List.map_append] at hx
      obtain ⟨t, rfl, ht⟩ := refs_get hx
      obtain ⟨⟨fi, la⟩, hr1, htu⟩ := (twl8.app twm8).at_ i t ht
      obtain ⟨js, q1, q2, q3, q4⟩ := q
      have htu1 : X t = some (.tup [.int fi, oV la]) := q4 _ _ (Same.new hW2 _ _ (s8Y _ _ htu))
      have hi := (List.getElem?_eq_some_iff.mp hr1).1
      rw [List.length_append] at hi
      refine ⟨t, _, rfl, .inl (.inl htu1), rfl, _, _, rfl, _, _, rfl, rfl, rfl, _, rfl, _, rfl, ?_⟩
      cases la with
      | none => exact iteF ⟨js, q1, q2, by omega, q4⟩
      | some y =>
        refine iteT ⟨_, rfl, _, q1, by rw [List.length_map]; omega, js ++ [y], ?_, ?_, by rw [List.length_append]; exact Nat.succ_le_succ q3, Same.put q4 hD⟩
        · rw [upd_same, List.map_append]
          rfl
        · intro n hn
          rcases List.mem_append.mp hn with hn | hn
          · exact q2 n hn
          · rw [List.mem_singleton.mp hn]
            have hg : 0 ≤ fi ∧ ∀ e, some y = some e → fi ≤ e := by
              rcases List.mem_append.mp (List.mem_of_getElem? hr1) with h | h
              · exact gd2 _ h
              · exact gd3 _ h
            have h1 := hg.1
            have h2 := hg.2 y rfl
            omega
    · obtain ⟨js, q1, q2, q3, q4⟩ := q
      rw [List.length_append, List.length_map, List.length_map] at q3
      have s1X : Same H11 X := (Same.new hW2).trans q4
      refine ⟨Y, D, _, _, rfl, rfl, s1X _ _ hYY, q1, by rw [List.length_append, List.length_map, List.length_map]; show 1 + _ + _ ≤ _; omega, fun R hR => ?_⟩
      refine hN _ _ ⟨R, [d] ++ ks ++ js, rfl, by rw [upd_same, List.map_append, List.map_append]; rfl, fun n hn => ?_, (s8Y.trans s1X).trans (Same.new hR)⟩
      rcases List.mem_append.mp hn with hn | hn
      · rcases List.mem_append.mp hn with hn | hn
        · rw [List.mem_singleton.mp hn]; exact hd0
        · exact hks n hn
      · exact q2 n hn
  rintro σ9 H9 ⟨R, ks, rfl, hR9, hks, s89⟩
  refine i_seqP (fun σ' X => σ' = [some (.ref a), some (.int (0 + (i : Int))), some (.ref p), some (.ref l), some (.ref m), some (.int d), some (.ref a1), some (.ref b1), some (.ref R), v9, none, none] ∧ ExtN H8 X ∧ Tabs (tabT Pt) X) ?_ fun N hN => ?_
  rotate_left
  · refine i_ifs (i_or (i_not (i_b ?_)))
    have e89 : ExtN H8 H9 := .of s89
    refine ⟨_, rfl, _, rfl, _, rfl, _, rfl, _, rfl, a1, b1, l, m, R, qs, ps, rs, ms, ts, us, ks, rfl, A8.ext e89, B8.ext e89, mq, mp, nq, np, s89 _ _ hl8, twl8.mono fun r a z => TuAt.same s89 r a z, ln2, s89 _ _ hm8, twm8.mono fun r a z => TuAt.same s89 r a z, ln3, hR9, hks, Tabs.ext t8 s89, fun H10 e10 t10 => ⟨_, rfl, iteF ?_⟩⟩
    refine ⟨_, rfl, _, rfl, a1, b1, qs, ps, rfl, A8.ext (e89.trans e10), B8.ext (e89.trans e10), nq, np, t10, fun H11 e11 t11 => ⟨_, rfl, iteF (i_nx (hN _ _ ⟨rfl, (e89.trans e10).trans e11, t11⟩))⟩⟩
  rintro σ12 H12 ⟨rfl, e12, t12⟩
  have pot12 : PotAt H12 p := pot8.ext e12
  refine i_setThen ⟨_, rfl, _, rfl, p, l, ts, rs, rfl, pot12, e12 _ _ hl8 (fun ps z => by cases z), twl8.mono fun r a z => TuAt.ext e12 r a z, gd2, bd2, ln2, fun H13 pp qq bt13 pot13 npp A13 m13 b13 n13 => ?_⟩
  have t13 : Tabs (tabT Pt) H13 := by
    obtain ⟨x, y, h, _⟩ := pot12
    exact Tabs.but t12 bt13 h
  have B13 : Arg C H13 a1 qs := (A8.ext e12).but bt13 pot12 n1
  have e0X : ExtN H H13 := by
    refine e0.trans (fun b o e n => ?_)
    have nb : b ≠ p := ne_of_none e hp0
    exact bt13 b o nb (e12 b o (s08 b o e) n)
  have same : ∀ d, MemR qq d ↔ MemR qs d := fun d => (m13 d).trans (mq d).symm
  refine i_ifs (i_or ?_)
  refine ⟨_, rfl, pp, qq, rfl, A13, t13, fun H14 p14 b14 s14 e14 t14 g14 g14' c14 m14 n14 => ?_⟩
  refine ⟨_, rfl, a1, qs, rfl, B13.ext e14, t14, fun H15 p15 b15 s15 e15 t15 g15 g15' c15 m15 n15 => ?_⟩
  refine .inl ⟨TI.prs (TI.ext ⟨b14, g14, g14'⟩ e15) ⟨b15, g15, g15'⟩ (can_eq c14 c15 m14 m15 same), fun H16 e16 => ⟨_, rfl, iteF ?_⟩⟩
  have e36 : ExtN H13 H16 := (e14.trans e15).trans (.of e16)
  refine ⟨_, rfl, pp, qq, rfl, A13.ext e36, Tabs.ext t15 e16, fun H17 p17 b17 s17 e17 t17 g17 g17' c17 m17 n17 => ⟨p17, b17, rowsOf s17, rfl, g17, g17', sm_of c17 m17 b13, by rw [rows_len]; omega, fun H18 s18 => ?_⟩⟩
  have e38 : ExtN H13 H18 := (e36.trans e17).trans (.of s18)
  refine ⟨_, rfl, a1, qs, rfl, B13.ext e38, Tabs.ext t17 s18, fun H19 p19 b19 s19 e19 t19 g19 g19' c19 m19 n19 => ?_⟩
  have eq : s17 = s19 := can_eq c17 c19 m17 m19 same
  subst eq
  refine ⟨p19, b19, rowsOf s17, rfl, g19, g19', sm_of c17 m17 b13, by rw [rows_len]; omega, fun H20 s20 => ?_⟩
  exact ne_same rfl ⟨_, rfl, iteF (i_next ⟨_, _, _, _, _, _, _, _, _, rfl, (e0X.trans (e38.trans e19)).trans (.of s20), Tabs.ext t19 s20⟩)⟩
end
end K7
namespace K7
/-! ### the end: the law called by the claim's caller -/
section
open PySem PySem.Spec PyProof.Rows L2 LamX KD
/-- what is tracked when the law is entered: the table of code objects and, where the text has not written it, the script -/
def entry (a Pt : Addr) (sc : Option HO) : Hp := fun b => if b = Pt then some (.tbl #[]) else if b = a then sc else none
theorem entry_tab {a Pt : Addr} {sc : Option HO} : entry a Pt sc Pt = some (.tbl #[]) := by unfold entry; rw [if_pos rfl]
theorem entry_scr {a Pt : Addr} {sc : Option HO} (n : a ≠ Pt) : entry a Pt sc a = sc := by unfold entry; rw [if_neg n, if_pos rfl]
theorem entry_no {a Pt b : Addr} {sc : Option HO} (n1 : b ≠ Pt) (n2 : b ≠ a) : entry a Pt sc b = none := by unfold entry; rw [if_neg n1, if_neg n2]
variable {pg : Program} {wd : World} {Kf : PySem.W.Frag} {mg mb : Str → Option Value} {fa a c Pt : Addr} {st : Shared} {us : List Value} {zs : List Int}
/-- the law's run from there, with the caller's own empty list of guards -/
def RunsAt (pg : Program) (wd : World) (Kf : PySem.W.Frag) (mg : Str → Option Value) (fa c Pt : Addr) : Prop :=
  ∀ (base : Heap) (H : Hp) (a : Addr) (zs : List Int) (st : Shared), Kf.In base → base.Ns mainGlobals mg → TabB base mg c Pt → H Pt = some (.tbl #[]) → SqL Kf H a (zs.map V.int) → Env0 pg wd Kf mg base callerA [] st H →
    codeAny (model pg wd) callerA (.call (.ref fa) ⟨[.ref a], []⟩) (CR C8.CX0 [] pg wd H st (fun v _ => v = .bl true) C8.E0) st
/-- what the caller knows of the heap at the law's call -/
structure Ends9 (Kf : PySem.W.Frag) (mg mb : Str → Option Value) (c Pt : Addr) (st : Shared) : Prop where
  kin : Kf.In st.heap
  glo : st.heap.Ns mainGlobals mg
  blt : st.heap.Ns builtinsNs mb
  blb : ∀ y : Str, y ≠ "__name__" → mb y = bootBuiltins y
  lim : st.heap.NoLimit
  gen : st.gens = #[]
  tab : st.heap.get? Pt = some { cls := .none, data := .fields #[] }
  tno : Kf.lookup Pt = none
  chd : PySem.W.CodeHd st.heap c Pt
  bmo : ∃ (bm : Addr) (ob : Obj), mg "__builtins__" = some (.ref bm) ∧ bm ≠ builtinsNs ∧ st.heap.get? bm = some ob ∧ ob.cls = .type "module" ∧ ob.dict = some builtinsNs ∧ ob.data = .plain
theorem end_core (N : Ends9 Kf mg mb c Pt st) (hs : st.heap.get? a = some { cls := .type "list", data := .seq us.toArray }) (R : RunsAt pg wd Kf mg fa c Pt) (sc : Option HO) (hsq : SqL Kf (entry a Pt sc) a (zs.map V.int)) (hok : HOk pg wd (entry a Pt sc) st.heap)
    (fr : sc = none ∨ (Kf.lookup a = none ∧ ∃ o xs, sc = some (.frz o (.lst xs)))) :
    codeAny (model pg wd) callerA (.call (.ref fa) ⟨[.ref a], []⟩) (fun r s' => r = .ok (.ret (.bool true)) ∧ OldK st.heap s'.heap ∧ s'.os = st.os ∧ AllBare s'.gens) st := by
  have far : ∀ {b : Addr} {o : Obj}, st.heap.get? b = some o → (∀ ws n, o.data ≠ .seq ws n) → o.data ≠ .fields #[] → entry a Pt sc b = none := fun {b o} e n1 n2 => by
    refine entry_no (fun z => ?_) fun z => ?_
    · rw [z, N.tab] at e
      exact n2 (by rw [← Option.some.inj e])
    · rw [z, hs] at e
      exact n1 us.toArray 0 (by rw [← Option.some.inj e])
  have nsB : ∀ {b : Addr} {m : Str → Option Value}, st.heap.Ns b m → (hidT st.heap (entry a Pt sc)).Ns b m := fun {b m} q => by
    obtain ⟨o, es, ep, e, d, r⟩ := q
    exact ⟨o, es, ep, hidT_get e (far e (fun ws n z => by rw [d] at z; cases z) fun z => by rw [d] at z; cases z), d, r⟩
  have kinB : Kf.In (hidT st.heap (entry a Pt sc)) := fun b o e => by
    refine hidT_get (N.kin b o e) ?_
    by_cases h1 : b = Pt
    · rw [h1, N.tno] at e
      cases e
    · by_cases h2 : b = a
      · rcases fr with q | ⟨q, _⟩
        · rw [h2, entry_scr (fun z => h1 (h2.trans z)), q]
        · rw [h2, q] at e
          cases e
      · exact entry_no h1 h2
  have modB : L2.Mod Kf mg (hidT st.heap (entry a Pt sc)) := by
    obtain ⟨mc, l1, l2⟩ := N.lim
    exact { kin := kinB, glob := nsB N.glo, blt := ⟨mb, nsB N.blt, N.blb⟩, nolimit := ⟨mc, nsB l1, l2⟩ }
  have tabB : TabB (hidT st.heap (entry a Pt sc)) mg c Pt := by
    refine ⟨?_, ?_, fun z => ?_⟩
    · obtain ⟨o, fs, fl, tf, gs, tg, iF, tx, tt, e1, r1, r2, r3, rs⟩ := N.chd
      refine ⟨o, fs, fl, tf, gs, tg, iF, tx, tt, hidT_get e1 (far e1 (fun ws n z => ?_) fun z => ?_), r1, r2, r3, rs⟩
      · rw [r2] at z
        cases z
      · rw [r2] at z
        cases z
        simp at r3
    · obtain ⟨bm, ob, b1, b2, b3, b4, b5, b6⟩ := N.bmo
      refine ⟨bm, ob, b1, b2, fun q => ?_, fun q => ?_, hidT_get b3 (far b3 (fun ws n z => by rw [b6] at z; cases z) fun z => by rw [b6] at z; cases z), b4, b5, b6⟩
      · obtain ⟨o, es, ep, e, d, _⟩ := N.glo
        rw [← q, b3] at e
        rw [← Option.some.inj e, b6] at d
        cases d
      · rw [q, N.tab] at b3
        rw [← Option.some.inj b3] at b6
        cases b6
    · obtain ⟨o, es, ep, e, d, _⟩ := N.glo
      rw [z, N.tab] at e
      rw [← Option.some.inj e] at d
      cases d
  have env : Env0 pg wd Kf mg (hidT st.heap (entry a Pt sc)) callerA [] st (entry a Pt sc) :=
    { frames := rfl, mod := modB, bs := fun b o e => of_hidT e, bsz := Nat.le_of_eq (hidT_size _ _), funs := trivial, frf := fun b hb => absurd (show b ∈ ([] : List Addr) from hb) (by simp), hok := hok, bare := .of_eq N.gen }
  refine codeAny_mono (R _ _ a zs st kinB (nsB N.glo) tabB entry_tab hsq env) fun r s' h => ?_
  match r, h with
  | .error e, h => exact (show False from h).elim
  | .ok .next, h => exact (show False from h).elim
  | .ok .brk, h => exact (show False from h).elim
  | .ok .cont, h => exact (show False from h).elim
  | .ok (.ret u), h =>
    obtain ⟨v, H', os, bare, un, hok', rv, q⟩ := h
    cases (show v = .bl true from q)
    cases (show u = Value.bool true from rv)
    obtain ⟨more, gm⟩ := un.tbls Pt #[] entry_tab
    have grown := hok' Pt _ gm
    have stays : ∀ b o, b ≠ Pt → st.heap.get? b = some o → s'.heap.get? b = some o := fun b o nb e => by
      cases q : entry a Pt sc b with
      | none => exact un.keep b o e q (fun z => absurd (show b ∈ ([] : List Addr) from z) (by simp)) (by simp)
      | some w =>
        have hb : b = a := Decidable.byContradiction fun na => by
          rw [entry_no nb na] at q
          cases q
        rw [hb] at q e nb
        rw [entry_scr nb] at q
        rcases fr with z | ⟨_, ob, xs, z⟩
        · rw [z] at q
          cases q
        · have k1 : entry a Pt sc a = some (.frz ob (.lst xs)) := by rw [entry_scr nb, z]
          have k2 := un.frzs a ob _ k1
          have g1 := (hok a _ k1).1
          rw [e] at g1
          rw [hb, Option.some.inj g1]
          exact (hok' a _ k2).1
    refine ⟨rfl, ⟨fun b o e => ?_, fun b o e => ?_⟩, os, bare⟩
    · by_cases hb : b = Pt
      · subst hb
        rw [N.tab] at e
        cases e
        exact .inr (.inl ⟨(N.chd.tab N.tab).isCodeTable, rfl, #[], _, rfl, by rw [Array.empty_append]; exact grown⟩)
      · exact .inl (stays b o hb e)
    · by_cases hb : b = Pt
      · subst hb
        exact ⟨_, grown⟩
      · exact ⟨o, stays b o hb e⟩
theorem end_law (N : Ends9 Kf mg mb c Pt st) (hs : st.heap.get? a = some { cls := .type "list", data := .seq us.toArray }) (hi : IntsAre us zs) (hl : zs.length ≤ sizeLine) (R : RunsAt pg wd Kf mg fa c Pt) :
    codeAny (model pg wd) callerA (.call (.ref fa) ⟨[.ref a], []⟩) (fun r s' => r = .ok (.ret (.bool true)) ∧ OldK st.heap s'.heap ∧ s'.os = st.os ∧ AllBare s'.gens) st := by
  have nT : a ≠ Pt := fun z => by
    have t := N.tab
    rw [← z, hs] at t
    have t := congrArg Obj.data (Option.some.inj t)
    cases t
  have rv := vals_ints hi
  have ln := hi.length
  cases q : Kf.lookup a with
  | some o =>
    have e := N.kin a o q
    rw [hs] at e
    cases e
    refine end_core N hs R none (.inr ⟨_, us.toArray, _, q, rfl, rfl, rfl, by rw [List.size_toArray, ln]; exact hl, by simpa using rv⟩) (fun b u z => ?_) (.inl rfl)
    by_cases hb : b = Pt
    · rw [hb, entry_tab] at z
      cases z
      rw [hb]
      exact N.tab
    · by_cases hb2 : b = a
      · rw [hb2, entry_scr nT] at z
        cases z
      · rw [entry_no hb hb2] at z
        cases z
  | none =>
    refine end_core N hs R (some (.frz { cls := .type "list", data := .seq us.toArray } (.lst (zs.map V.int)))) (.inl (.inr ⟨_, entry_scr nT⟩)) (fun b u z => ?_) (.inr ⟨q, _, _, rfl⟩)
    by_cases hb : b = Pt
    · rw [hb, entry_tab] at z
      cases z
      rw [hb]
      exact N.tab
    · by_cases hb2 : b = a
      · rw [hb2, entry_scr nT] at z
        cases z
        rw [hb2]
        exact ⟨hs, by rw [List.length_map]; exact hl, us, _, rv, hs⟩
      · rw [entry_no hb hb2] at z
        cases z
theorem walk9 {l : PySem.W.OpenLaw} {n : Nat} {q : Program} {loose : List Str} {XP : (Str → Option Value) → Heap → Prop} {YP : World → Heap → Prop} {d : DefRec} {KP : Params → PySem.W.Frag} (hn : l.most = some n) (h2 : n ≤ sizeLine) (hdf : d.params.defaults = [])
    (hY : ∀ (w : World) (h : Heap), YP w h → (KP w.params).In h)
    (F : ∀ (w : World) (mg : Str → Option Value) (fa : Addr) (h : Heap), YP w h → (KP w.params).In h → h.Ns mainGlobals mg → mg d.name = some (.ref fa) →
      ∃ c Pt : Addr, h.get? Pt = some { cls := .none, data := .fields #[] } ∧ (KP w.params).lookup Pt = none ∧ PySem.W.CodeHd h c Pt ∧ RunsAt l.prog w (KP w.params) mg fa c Pt) :
    PySem.W.WalkO q loose XP YP l.row.toRowW d [] (fun f ws => PySem.call f ws) :=
  Att.attach_callB hn hdf fun w s0 s1 mg mb fa o pm cd doc a us zs G Y ho hd hcd hmg hobj hints hlen hbits hg => by
    obtain ⟨c, Pt, t1, t2, t3, t4⟩ := F w mg fa s1.heap Y (hY w _ Y) G.T.g hmg
    exact end_law { kin := hY w _ Y, glo := G.T.g, blt := G.T.b, blb := G.T.builtins, lim := G.T.nolimit, gen := hg, tab := t1, tno := t2, chd := t3, bmo := G.T.bmain } hobj hints (Nat.le_trans hlen h2) t4
/-- law's run, by its body -/
theorem runs_law {C : Addr} {fd : FuncData} (Fn : C8.Fun Kf "law" "law" sLaw fa fd) (bd : Binds Kf fd ["_law_script"] []) (LC : ∀ base : Heap, Kf.In base → base.Ns mainGlobals mg → TabB base mg c Pt → LawC pg wd Kf mg base C Pt) : RunsAt pg wd Kf mg fa c Pt := by
  intro base H a zs st kin glo tb hP hS env
  obtain ⟨oc, od, dV, kV, doc, pm, an, cdv, ct, osl, rfl, lk, hcd⟩ := Fn.ex
  have hb : BindsTo st (PySem.W.fnOf "law" "law" (C8.fnArgs sLaw) (C8.fnBody sLaw) (C8.fnScope sLaw) dV kV doc pm an cdv ct) ⟨[.ref a], []⟩ ((["_law_script"] : List Str).zip [.ref a]) := by
    have := bd st [.ref a] (env.mod.kin.keeps fun b o e => (env.bs b o e).1) rfl
    simpa using this
  refine run_ofS (k := 6) (N := nLaw) (ps := ["_law_script"]) (us := [.ref a]) (vs := [.ref a]) lk hcd scLaw ⟨rfl, by decide, by decide⟩ env hb (.cons rfl .nil) rfl fun hr => ?_
  obtain ⟨t, h1, h2⟩ := law_body (LC base kin glo tb) cdv callerA [] st H (fun v _ => v = .bl true) C8.E0 hr rfl a zs hS (fun p hp => by
    rw [List.mem_singleton.mp hp]
    exact TabS.nil hP) fun _ => rfl
  exact ⟨t, h1.nox, h2⟩
end
end K7
namespace K7
/-! ### what the program's top has left -/
section
open PySem PySem.Spec PyProof.Rows L2 LamX KD
/-- a def as the text has written it -/
structure FnF (K : PySem.W.Frag) (x qual : Str) (st : Stmt) (dV cd : Value) (f : Addr) : Prop where
  ex : ∃ (oc : Value) (od : Option Addr) (kV dc pm : Value) (an : Option Addr) (ct : Value) (sl : Array (Option Value)),
    K.lookup f = some ⟨oc, od, .func (PySem.W.fnOf x qual (C8.fnArgs st) (C8.fnBody st) (C8.fnScope st) dV kV dc pm an cd ct), sl⟩ ∧ PySem.W.codeIn K cd qual = true ∧ PySem.W.keepIn K (.ref f) = true
/-- .. of the module -/
structure ModF (K : PySem.W.Frag) (x : Str) (st : Stmt) : Prop where
  ex : ∃ (f : Addr) (cd : Value), PySem.W.nsIn K mainGlobals x = some (some (.ref f)) ∧ FnF K x x st .none cd f
/-- .. of the class at C -/
structure MetF (K : PySem.W.Frag) (C : Addr) (m qual : Str) (st : Stmt) : Prop where
  ex : ∃ (f : Addr) (cd : Value), PySem.W.findIn K (.ref C) m = some (some (.ref f)) ∧ PySem.W.isFn K (.ref f) = true ∧ FnF K m qual st .none cd f
/-- a tuple of one default -/
structure TupF (K : PySem.W.Frag) (T : Addr) (v : V) : Prop where
  ex : ∃ (o : Obj) (u : Value) (n : Nat), K.lookup T = some o ∧ o.data = .seq #[u] n ∧ RelV v u
/-- the same with the places found while it is shown -/
theorem FnF.by9 {K : PySem.W.Frag} {x qual : Str} {st : Stmt} {dV cd : Value} {f : Addr} {oc : Value} {od : Option Addr} {kV dc pm : Value} {an : Option Addr} {ct : Value} {sl : Array (Option Value)}
    (l : K.lookup f = some ⟨oc, od, .func (PySem.W.fnOf x qual (C8.fnArgs st) (C8.fnBody st) (C8.fnScope st) dV kV dc pm an cd ct), sl⟩) (c : PySem.W.codeIn K cd qual = true) (k : PySem.W.keepIn K (.ref f) = true) : FnF K x qual st dV cd f := ⟨oc, od, kV, dc, pm, an, ct, sl, l, c, k⟩
theorem ModF.by9 {K : PySem.W.Frag} {x : Str} {st : Stmt} {f : Addr} {cd : Value} (a : PySem.W.nsIn K mainGlobals x = some (some (.ref f))) (e : FnF K x x st .none cd f) : ModF K x st := ⟨f, cd, a, e⟩
theorem MetF.by9 {K : PySem.W.Frag} {C : Addr} {m qual : Str} {st : Stmt} {f : Addr} {cd : Value} (a : PySem.W.findIn K (.ref C) m = some (some (.ref f))) (i : PySem.W.isFn K (.ref f) = true) (e : FnF K m qual st .none cd f) : MetF K C m qual st := ⟨f, cd, a, i, e⟩
theorem TupF.by9 {K : PySem.W.Frag} {T : Addr} {v : V} {o : Obj} {u : Value} {n : Nat} (l : K.lookup T = some o) (d : o.data = .seq #[u] n) (r : RelV v u) : TupF K T v := ⟨o, u, n, l, d, r⟩
theorem whole9 {K : PySem.W.Frag} {T f : Addr} {cd : Value} (a : PySem.W.nsIn K mainGlobals "is_whole" = some (some (.ref f))) (e : FnF K "is_whole" "is_whole" sWhole (.ref T) cd f) :
    ∃ (f : Addr) (cd : Value), PySem.W.nsIn K mainGlobals "is_whole" = some (some (.ref f)) ∧ FnF K "is_whole" "is_whole" sWhole (.ref T) cd f := ⟨f, cd, a, e⟩
theorem init9 {K : PySem.W.Frag} {C T f : Addr} {cd : Value} (a : PySem.W.findIn K (.ref C) "__init__" = some (some (.ref f))) (i : PySem.W.isFn K (.ref f) = true) (e : FnF K "__init__" "Stretch.__init__" sInit (.ref T) cd f) :
    ∃ (f : Addr) (cd : Value), PySem.W.findIn K (.ref C) "__init__" = some (some (.ref f)) ∧ PySem.W.isFn K (.ref f) = true ∧ FnF K "__init__" "Stretch.__init__" sInit (.ref T) cd f := ⟨f, cd, a, i, e⟩
theorem span9 {K : PySem.W.Frag} {c f : Addr} (a : PySem.W.nsIn K mainGlobals "spans_of" = some (some (.ref f))) (e : FnF K "spans_of" "spans_of" sSpans .none (.ref c) f) :
    ∃ f : Addr, PySem.W.nsIn K mainGlobals "spans_of" = some (some (.ref f)) ∧ FnF K "spans_of" "spans_of" sSpans .none (.ref c) f := ⟨f, a, e⟩
variable {pg : Program} {wd : World} {K : PySem.W.Frag} {h : Heap} {mg : Str → Option Value}
theorem FnF.go {x qual : Str} {st : Stmt} {cd : Value} {f : Addr} {ps : List Str} (q : FnF K x qual st .none cd f)
    (hb : ∀ (kV dc pm : Value) (an : Option Addr) (cdv ct : Value) (us : List Value), us.length = ps.length → bindArgs (PySem.W.fnOf x qual (C8.fnArgs st) (C8.fnBody st) (C8.fnScope st) .none kV dc pm an cdv ct) ⟨us, []⟩ = pure (ps.zip us)) :
    ∃ fd, C8.Fun K x qual st f fd ∧ Binds K fd ps [] ∧ PySem.W.keepIn K (.ref f) = true := by
  obtain ⟨oc, od, kV, dc, pm, an, ct, sl, l1, l2, l3⟩ := q.ex
  exact ⟨_, ⟨oc, od, .none, kV, dc, pm, an, cd, ct, sl, rfl, l1, l2⟩, .all (hb kV dc pm an cd ct), l3⟩
theorem ModF.go {x : Str} {st : Stmt} {ps : List Str} (X : K.In h) (G : h.Ns mainGlobals mg) (q : ModF K x st)
    (hb : ∀ (kV dc pm : Value) (an : Option Addr) (cdv ct : Value) (us : List Value), us.length = ps.length → bindArgs (PySem.W.fnOf x x (C8.fnArgs st) (C8.fnBody st) (C8.fnScope st) .none kV dc pm an cdv ct) ⟨us, []⟩ = pure (ps.zip us)) :
    ∃ f fd, C8.Def K mg x st f fd ∧ Binds K fd ps [] := by
  obtain ⟨f, cd, a, e⟩ := q.ex
  obtain ⟨fd, e1, e2, e3⟩ := e.go hb
  exact ⟨f, fd, ⟨e1, PySem.W.mg_of X G a, e3⟩, e2⟩
theorem MetF.go {C : Addr} {m qual : Str} {st : Stmt} {ps : List Str} (q : MetF K C m qual st)
    (hb : ∀ (kV dc pm : Value) (an : Option Addr) (cdv ct : Value) (us : List Value), us.length = ps.length → bindArgs (PySem.W.fnOf m qual (C8.fnArgs st) (C8.fnBody st) (C8.fnScope st) .none kV dc pm an cdv ct) ⟨us, []⟩ = pure (ps.zip us)) :
    ∃ f fd, Meth K C m f ∧ C8.Fun K m qual st f fd ∧ Binds K fd ps [] := by
  obtain ⟨f, cd, a, i, e⟩ := q.ex
  obtain ⟨fd, e1, e2, e3⟩ := e.go hb
  exact ⟨f, fd, ⟨a, i, e3⟩, e1, e2⟩
/-- a def with one default, called with n values -/
theorem FnF.go1 {x qual : Str} {st : Stmt} {cd : Value} {f T : Addr} {v : V} {ps : List Str} (q : FnF K x qual st (.ref T) cd f) (t : TupF K T v) (n j : Nat) (hn : n + (1 - j) = ps.length)
    (hb : ∀ (kV doc pm : Value) (an : Option Addr) (cdv ct : Value) (us its : List Value), us.length = n → its.length = 1 →
      ∃ k, bindArgs (PySem.W.fnOf x qual (C8.fnArgs st) (C8.fnBody st) (C8.fnScope st) (.ref T) kV doc pm an cdv ct) ⟨us, []⟩ = seqItems? (.ref T) >>= k ∧ k (some its.toArray) = pure (ps.zip (us ++ its.drop j))) :
    ∃ fd, C8.Fun K x qual st f fd ∧ (∃ ds, Vals (([v] : List V).drop j) ds ∧ Binds K fd ps ds) ∧ PySem.W.keepIn K (.ref f) = true := by
  obtain ⟨oc, od, kV, dc, pm, an, ct, sl, l1, l2, l3⟩ := q.ex
  obtain ⟨o, u, m, t1, t2, t3⟩ := t.ex
  refine ⟨_, ⟨oc, od, .ref T, kV, dc, pm, an, cd, ct, sl, rfl, l1, l2⟩, ⟨([u] : List Value).drop j, (show Vals ([v] : List V) [u] from .cons t3 .nil).drop j, fun s us X hlen => ?_⟩, l3⟩
  have hl : us.length = n := by
    rw [List.length_append, List.length_drop, List.length_singleton] at hlen
    omega
  obtain ⟨k, e1, e2⟩ := hb kV dc pm an cd ct us [u] hl rfl
  refine BindsTo.of_looks fun M => ?_
  rw [e1]
  exact looks_items X t1 t2 (.of_pure e2)
/-- all that is asked of the top -/
structure TopF (K : PySem.W.Frag) (C c Pt TW TI : Addr) : Prop where
  aC : PySem.W.nsIn K mainGlobals "Stretch" = some (some (.ref C))
  cl : Cls K C
  nB : PySem.W.findIn K (.ref C) "begin" = some none
  nE : PySem.W.findIn K (.ref C) "end" = some none
  mks : PySem.W.makesIn K C = true
  kc : PySem.W.keepIn K (.ref C) = true
  ic : C8.InsC K C
  tW : TupF K TW (.int 0)
  tI : TupF K TI .non
  fW : ∃ (f : Addr) (cd : Value), PySem.W.nsIn K mainGlobals "is_whole" = some (some (.ref f)) ∧ FnF K "is_whole" "is_whole" sWhole (.ref TW) cd f
  fI : ∃ (f : Addr) (cd : Value), PySem.W.findIn K (.ref C) "__init__" = some (some (.ref f)) ∧ PySem.W.isFn K (.ref f) = true ∧ FnF K "__init__" "Stretch.__init__" sInit (.ref TI) cd f
  fS : ∃ f : Addr, PySem.W.nsIn K mainGlobals "spans_of" = some (some (.ref f)) ∧ FnF K "spans_of" "spans_of" sSpans .none (.ref c) f
  m0 : ModF K "is_list" sIsList
  m1 : ModF K "want_stretches" sWant
  m2 : ModF K "farther_day" sFar
  m3 : ModF K "nearer_day" sNear
  m4 : ModF K "as_stretches" sAsS
  m5 : ModF K "spans_of_both" sBoth
  m6 : ModF K "spans_between" sBetw
  m7 : ModF K "days_in" sDaysIn
  m8 : ModF K "either_days" sEither
  m9 : ModF K "both_days" sBothD
  m10 : ModF K "only_days" sOnly
  m11 : ModF K "many_days" sMany
  m12 : ModF K "_law_cell" sCell
  m13 : ModF K "_law_pot" sPot
  m14 : ModF K "_law_take" sTake
  m15 : ModF K "_law_far" sFarL
  m16 : ModF K "_law_rows" sRows
  m17 : ModF K "_law_handed" sHanded
  m18 : ModF K "_law_in" sIn
  m19 : ModF K "_law_marks" sMarks
  m20 : ModF K "_law_parted" sParted
  m21 : ModF K "_law_has" sHasL
  m22 : ModF K "_law_days_right" sDaysR
  m23 : ModF K "_law_sums_right" sSums
  m24 : ModF K "law" sLaw
  e0 : MetF K C "first" "Stretch.first" sFirst
  e1 : MetF K C "last" "Stretch.last" sLast
  e2 : MetF K C "has" "Stretch.has" sHas
  e3 : MetF K C "__eq__" "Stretch.__eq__" sEq
  e4 : MetF K C "__repr__" "Stretch.__repr__" sRepr
  z0 : PySem.W.nsIn K mainGlobals "isinstance" = some none
  z1 : PySem.W.nsIn K mainGlobals "int" = some none
  z2 : PySem.W.nsIn K mainGlobals "bool" = some none
  z3 : PySem.W.nsIn K mainGlobals "list" = some none
  z4 : PySem.W.nsIn K mainGlobals "tuple" = some none
  z5 : PySem.W.nsIn K mainGlobals "all" = some none
  z6 : PySem.W.nsIn K mainGlobals "max" = some none
  z7 : PySem.W.nsIn K mainGlobals "min" = some none
  z8 : PySem.W.nsIn K mainGlobals "sorted" = some none
  z9 : PySem.W.nsIn K mainGlobals "len" = some none
  z10 : PySem.W.nsIn K mainGlobals "abs" = some none
  z11 : PySem.W.nsIn K mainGlobals "divmod" = some none
  z12 : PySem.W.nsIn K mainGlobals "range" = some none
  z13 : PySem.W.nsIn K mainGlobals "any" = some none
  z14 : PySem.W.nsIn K mainGlobals "repr" = some none
theorem top_law {fa C c Pt TW TI : Addr} (X : K.In h) (G : h.Ns mainGlobals mg) (hfa : mg "law" = some (.ref fa)) (T : TopF K C c Pt TW TI) : RunsAt pg wd K mg fa c Pt := by
  have S : ClsS K mg C := ⟨T.cl, T.nB, T.nE, PySem.W.mg_of X G T.aC⟩
  have y0 := PySem.W.mg_none_of X G T.z0
  have y1 := PySem.W.mg_none_of X G T.z1
  have y2 := PySem.W.mg_none_of X G T.z2
  have y3 := PySem.W.mg_none_of X G T.z3
  have y4 := PySem.W.mg_none_of X G T.z4
  have y5 := PySem.W.mg_none_of X G T.z5
  have y6 := PySem.W.mg_none_of X G T.z6
  have y7 := PySem.W.mg_none_of X G T.z7
  have y8 := PySem.W.mg_none_of X G T.z8
  have y9 := PySem.W.mg_none_of X G T.z9
  have y10 := PySem.W.mg_none_of X G T.z10
  have y11 := PySem.W.mg_none_of X G T.z11
  have y12 := PySem.W.mg_none_of X G T.z12
  have y13 := PySem.W.mg_none_of X G T.z13
  have y14 := PySem.W.mg_none_of X G T.z14
  obtain ⟨f0, d0, D0, B0⟩ := T.m0.go (ps := ["thing"]) X G fun _ _ _ _ _ _ us hl => match us, hl with | [_], _ => rfl
  obtain ⟨f1, d1, D1, B1⟩ := T.m1.go (ps := ["thing"]) X G fun _ _ _ _ _ _ us hl => match us, hl with | [_], _ => rfl
  obtain ⟨f2, d2, D2, B2⟩ := T.m2.go (ps := ["one", "other"]) X G fun _ _ _ _ _ _ us hl => match us, hl with | [_, _], _ => rfl
  obtain ⟨f3, d3, D3, B3⟩ := T.m3.go (ps := ["one", "other"]) X G fun _ _ _ _ _ _ us hl => match us, hl with | [_, _], _ => rfl
  obtain ⟨f4, d4, D4, B4⟩ := T.m4.go (ps := ["spans"]) X G fun _ _ _ _ _ _ us hl => match us, hl with | [_], _ => rfl
  obtain ⟨f5, d5, D5, B5⟩ := T.m5.go (ps := ["spans", "others"]) X G fun _ _ _ _ _ _ us hl => match us, hl with | [_, _], _ => rfl
  obtain ⟨f6, d6, D6, B6⟩ := T.m6.go (ps := ["spans"]) X G fun _ _ _ _ _ _ us hl => match us, hl with | [_], _ => rfl
  obtain ⟨f7, d7, D7, B7⟩ := T.m7.go (ps := ["some"]) X G fun _ _ _ _ _ _ us hl => match us, hl with | [_], _ => rfl
  obtain ⟨f8, d8, D8, B8⟩ := T.m8.go (ps := ["some", "others"]) X G fun _ _ _ _ _ _ us hl => match us, hl with | [_, _], _ => rfl
  obtain ⟨f9, d9, D9, B9⟩ := T.m9.go (ps := ["some", "others"]) X G fun _ _ _ _ _ _ us hl => match us, hl with | [_, _], _ => rfl
  obtain ⟨f10, d10, D10, B10⟩ := T.m10.go (ps := ["some", "others"]) X G fun _ _ _ _ _ _ us hl => match us, hl with | [_, _], _ => rfl
  obtain ⟨f11, d11, D11, B11⟩ := T.m11.go (ps := ["some"]) X G fun _ _ _ _ _ _ us hl => match us, hl with | [_], _ => rfl
  obtain ⟨f12, d12, D12, B12⟩ := T.m12.go (ps := ["_law_script", "_law_k"]) X G fun _ _ _ _ _ _ us hl => match us, hl with | [_, _], _ => rfl
  obtain ⟨f13, d13, D13, B13⟩ := T.m13.go (ps := ["_law_script", "_law_k"]) X G fun _ _ _ _ _ _ us hl => match us, hl with | [_, _], _ => rfl
  obtain ⟨f14, d14, D14, B14⟩ := T.m14.go (ps := ["_law_pot_here", "_law_room"]) X G fun _ _ _ _ _ _ us hl => match us, hl with | [_, _], _ => rfl
  obtain ⟨f15, d15, D15, B15⟩ := T.m15.go (ps := ["_law_pot_here"]) X G fun _ _ _ _ _ _ us hl => match us, hl with | [_], _ => rfl
  obtain ⟨f16, d16, D16, B16⟩ := T.m16.go (ps := ["_law_pot_here", "_law_most"]) X G fun _ _ _ _ _ _ us hl => match us, hl with | [_, _], _ => rfl
  obtain ⟨f17, d17, D17, B17⟩ := T.m17.go (ps := ["_law_pot_here", "_law_rows_here"]) X G fun _ _ _ _ _ _ us hl => match us, hl with | [_, _], _ => rfl
  obtain ⟨f18, d18, D18, B18⟩ := T.m18.go (ps := ["_law_rows_here", "_law_day"]) X G fun _ _ _ _ _ _ us hl => match us, hl with | [_, _], _ => rfl
  obtain ⟨f19, d19, D19, B19⟩ := T.m19.go (ps := ["_law_rows_here"]) X G fun _ _ _ _ _ _ us hl => match us, hl with | [_], _ => rfl
  obtain ⟨f20, d20, D20, B20⟩ := T.m20.go (ps := ["_law_pot_here", "_law_rows_here"]) X G fun _ _ _ _ _ _ us hl => match us, hl with | [_, _], _ => rfl
  obtain ⟨f21, d21, D21, B21⟩ := T.m21.go (ps := ["_law_told", "_law_day"]) X G fun _ _ _ _ _ _ us hl => match us, hl with | [_, _], _ => rfl
  obtain ⟨f22, d22, D22, B22⟩ := T.m22.go (ps := ["_law_some", "_law_others", "_law_rows_here", "_law_more", "_law_days"]) X G fun _ _ _ _ _ _ us hl => match us, hl with | [_, _, _, _, _], _ => rfl
  obtain ⟨f23, d23, D23, B23⟩ := T.m23.go (ps := ["_law_some", "_law_others"]) X G fun _ _ _ _ _ _ us hl => match us, hl with | [_, _], _ => rfl
  obtain ⟨f24, d24, D24, B24⟩ := T.m24.go (ps := ["_law_script"]) X G fun _ _ _ _ _ _ us hl => match us, hl with | [_], _ => rfl
  obtain ⟨g0, h0, M0, E0, C0⟩ := T.e0.go (ps := ["self"]) fun _ _ _ _ _ _ us hl => match us, hl with | [_], _ => rfl
  obtain ⟨g1, h1, M1, E1, C1⟩ := T.e1.go (ps := ["self"]) fun _ _ _ _ _ _ us hl => match us, hl with | [_], _ => rfl
  obtain ⟨g2, h2, M2, E2, C2⟩ := T.e2.go (ps := ["self", "day"]) fun _ _ _ _ _ _ us hl => match us, hl with | [_, _], _ => rfl
  obtain ⟨g3, h3, M3, E3, C3⟩ := T.e3.go (ps := ["self", "other"]) fun _ _ _ _ _ _ us hl => match us, hl with | [_, _], _ => rfl
  obtain ⟨g4, h4, M4, E4, C4⟩ := T.e4.go (ps := ["self"]) fun _ _ _ _ _ _ us hl => match us, hl with | [_], _ => rfl
  obtain ⟨fW, cW, aW, FW⟩ := T.fW
  obtain ⟨wd1, W1, ⟨ds1, v1, bW1⟩, kW1⟩ := FW.go1 (ps := ["thing", "least"]) T.tW 1 0 rfl fun _ _ _ _ _ _ us its h1 h2 => match us, h1, its, h2 with | [_], _, [_], _ => ⟨_, rfl, rfl⟩
  obtain ⟨wd2, W2, ⟨ds2, v2, bW2⟩, kW2⟩ := FW.go1 (ps := ["thing", "least"]) T.tW 2 1 rfl fun _ _ _ _ _ _ us its h1 h2 => match us, h1, its, h2 with | [_, _], _, [_], _ => ⟨_, rfl, rfl⟩
  obtain ⟨fI, cI, aI, iI, FI⟩ := T.fI
  obtain ⟨nd1, I1, ⟨ds3, v3, bI⟩, kI⟩ := FI.go1 (ps := ["self", "first", "last"]) T.tI 3 1 rfl fun _ _ _ _ _ _ us its h1 h2 => match us, h1, its, h2 with | [_, _, _], _, [_], _ => ⟨_, rfl, rfl⟩
  obtain ⟨fS, aS, FS⟩ := T.fS
  obtain ⟨oc, od, kV, dc, pm, an, ct, sl, l1, l2, l3⟩ := FS.ex
  have mS := PySem.W.mg_of X G aS
  have eL : f24 = fa := by
    have e := hfa.symm.trans D24.mgf
    injection e with e
    injection e with e
    exact e.symm
  subst eL
  refine runs_law (C := C) D24.fn B24 fun base kin glo tb => ?_
  have cW1 : C8.Cal pg wd K mg base 1 "is_whole" spWhole [.int 0] := cal_whole ⟨W1, PySem.W.mg_of X G aW, kW1⟩ bW1 v1 y0 y1 y2
  have cW2 : C8.Cal pg wd K mg base 1 "is_whole" spWhole [] := cal_whole ⟨W2, PySem.W.mg_of X G aW, kW2⟩ bW2 v2 y0 y1 y2
  have mk : C8.Mak pg wd K mg base 2 "Stretch" C (spInit C) [] := mak_stretch S ⟨T.mks, aI, iI, T.kc⟩ I1 bI v3 cW1 cW2
  have mF : C8.Met pg wd K mg base 1 C "first" (spFirst C) [] := met_first S M0 E0 C0
  have mL : C8.Met pg wd K mg base 1 C "last" (spLast C) [] := met_last S M1 E1 C1
  have mH : C8.Met pg wd K mg base 2 C "has" (spHas C) [] := met_has S M2 E2 C2 cW1
  have cL : C8.Cal pg wd K mg base 1 "is_list" spIsList [] := cal_isList D0 B0 y0 y3 y4
  have cWn : C8.Cal pg wd K mg base 2 "want_stretches" (spWant C) [] := cal_want D1 B1 S T.ic cL y0 y5
  have cFa : C8.Cal pg wd K mg base 1 "farther_day" spFar [] := cal_far D2 B2 y6
  have cNe : C8.Cal pg wd K mg base 1 "nearer_day" spNear [] := cal_near D3 B3 y7
  have cAs : C8.Cal pg wd K mg base 4 "as_stretches" (spAs C) [] := cal_as D4 B4 mk
  have cSp : C8.Cal pg wd K mg base 4 "spans_of" (spSpans C Pt) [] := cal_spans (name := "spans_of") l1 l2 mS l3 (.all fun us hl => match us, hl with | [_], _ => rfl) tb y8 mF mL cFa
  have cBo : C8.Cal pg wd K mg base 2 "spans_of_both" spBoth [] := cal_both D5 B5 y6 cNe
  have cBt : C8.Cal pg wd K mg base 1 "spans_between" spBetw [] := cal_betw D6 B6
  have cD : C8.Cal pg wd K mg base 5 "days_in" (spDays C Pt) [] := cal_daysIn D7 B7 cWn cAs cSp
  have cE : C8.Cal pg wd K mg base 5 "either_days" (spEither C Pt) [] := cal_either D8 B8 y3 cWn cAs cSp
  have cB : C8.Cal pg wd K mg base 5 "both_days" (spBothD C Pt) [] := cal_bothD D9 B9 cWn cAs cSp cBo
  have cO : C8.Cal pg wd K mg base 5 "only_days" (spOnly C Pt) [] := cal_only D10 B10 cWn cAs cSp cBo cBt
  have cM : C8.Cal pg wd K mg base 5 "many_days" (spMany C Pt) [] := cal_many D11 B11 cWn cSp
  have cCe : C8.Cal pg wd K mg base 1 "_law_cell" (spCellK K) [] := cal_cell D12 B12 y9
  have cT : C8.Cal pg wd K mg base 1 "_law_take" spTake [] := cal_take D14 B14 y11
  have cF : C8.Cal pg wd K mg base 2 "_law_far" spFarL [] := cal_farL D15 B15 y12 cT
  have cI : C8.Cal pg wd K mg base 1 "_law_in" spIn [] := cal_in D18 B18 y13
  have cHl : C8.Cal pg wd K mg base 3 "_law_has" (spHasL C) [] := cal_hasL D21 B21 y13 mH
  have eqs : EqS pg wd K mg base C := ⟨g3, h3, fn_eq S T.ic E3 y0, M3.at_, M3.fn, C3⟩
  have rps : RpS pg wd K mg base C := ⟨g4, h4, fn_repr S E4, M4.at_, M4.fn, C4⟩
  exact {
    cP := cal_pot D13 B13 y10 y6 cCe
    cT := cT
    cF := cF
    cR := cal_rows D16 B16 y12 cT cF
    cH := cal_handed D17 B17 y9 y4 cT mk
    cK := cal_marks D19 B19
    cA := cal_parted D20 B20 y9 cT mk
    cV := cal_daysR D22 B22 cD cE cB cO cI cHl
    cS := cal_sums D23 B23 y3 eqs cD cE cB cO cM
    cD := cD
    eqs := eqs
    rps := rps
    nLen := y9
    nMax := y6
    nMin := y7
    nRng := y12
    nRep := y14 }
theorem head_law {fa C c Pt TW TI : Addr} (X : K.In h) (G : h.Ns mainGlobals mg) (hfa : mg "law" = some (.ref fa)) (hT : h.get? Pt = some { cls := .none, data := .fields #[] }) (nT : K.lookup Pt = none) (T : TopF K C c Pt TW TI) (hC : PySem.W.codeHdIn K c Pt = true) :
    ∃ c Pt : Addr, h.get? Pt = some { cls := .none, data := .fields #[] } ∧ K.lookup Pt = none ∧ PySem.W.CodeHd h c Pt ∧ RunsAt pg wd K mg fa c Pt := ⟨c, Pt, hT, nT, PySem.W.codeHd_of_K X hC, top_law X G hfa T⟩
end
end K7
open PySem PySem.W PyProof.Rows
set_option maxRecDepth 100000 in
set_option maxHeartbeats 0 in
theorem PySem.Challenge.cw_lightturns_k17_whole_days_one_way_holds : PySem.Challenge.rw_lightturns_k17_whole_days_one_way.Holds := by
  w_on; o_law; k_head; (case hw => w_witness2)
  k_fill
  refine K7.walk9 (l := PySem.Challenge.rw_lightturns_k17_whole_days_one_way) (n := 63) rfl (by decide) rfl (fun w h Y => km_in_of Y) ?F
  case F =>
    intro w mg fa h Y KX G hmg
    have tabs := km_tabs_of Y
    refine' K7.head_law KX G hmg (Pt := 149) (tabs 149 (List.mem_singleton.mpr rfl)) ?nT ?T ?hC
    (case nT => kernel_rfl)
    (case T =>
      refine' { aC := ?aC, cl := ⟨?pg, ?hd, ?po, ?sa⟩, nB := ?nB, nE := ?nE, mks := ?mk, kc := ?kc, ic := ⟨⟨?pg2, ?hd2, ?po2, ?sa2⟩, ?ha, ?hn, ?htk, ?hm, ?me⟩, tW := ?tW, tI := ?tI, fW := ?fW, fI := ?fI, fS := ?fS, m0 := ?m0, m1 := ?m1, m2 := ?m2, m3 := ?m3, m4 := ?m4, m5 := ?m5, m6 := ?m6, m7 := ?m7, m8 := ?m8, m9 := ?m9, m10 := ?m10, m11 := ?m11, m12 := ?m12, m13 := ?m13, m14 := ?m14, m15 := ?m15, m16 := ?m16, m17 := ?m17, m18 := ?m18, m19 := ?m19, m20 := ?m20, m21 := ?m21, m22 := ?m22, m23 := ?m23, m24 := ?m24, e0 := ?e0, e1 := ?e1, e2 := ?e2, e3 := ?e3, e4 := ?e4, z0 := ?z0, z1 := ?z1, z2 := ?z2, z3 := ?z3, z4 := ?z4, z5 := ?z5, z6 := ?z6, z7 := ?z7, z8 := ?z8, z9 := ?z9, z10 := ?z10, z11 := ?z11, z12 := ?z12, z13 := ?z13, z14 := ?z14 }
      (case aC => k_is)
      (case pg => k_is)
      (case hd => k_is)
      (case po => k_is)
      (case sa => k_is)
      (case nB => k_is)
      (case nE => k_is)
      (case mk => k_is)
      (case kc => k_is)
      (case pg2 => k_is)
      (case hd2 => k_is)
      (case po2 => k_is)
      (case sa2 => k_is)
      (case ha => k_is)
      (case hn => k_is)
      (case htk => k_is)
      (case hm => k_is)
      (case me => first | kernel_rfl | k_is)
      (case fW => refine' K7.whole9 ?a (K7.FnF.by9 ?l ?c ?k); (case a => k_is); (case l => k_is); (case c => k_is); (case k => k_is))
      (case fI => refine' K7.init9 ?a ?i (K7.FnF.by9 ?l ?c ?k); (case a => k_is); (case i => k_is); (case l => k_is); (case c => k_is); (case k => k_is))
      (case fS => refine' K7.span9 ?a (K7.FnF.by9 ?l ?c ?k); (case a => k_is); (case l => k_is); (case c => k_is); (case k => k_is))
      (case tW => refine' K7.TupF.by9 ?l ?d ?r; (case l => k_is); (case d => rfl); (case r => exact ⟨_, rfl⟩))
      (case tI => refine' K7.TupF.by9 ?l ?d ?r; (case l => k_is); (case d => rfl); (case r => rfl))
      (case m0 => refine' K7.ModF.by9 ?a (K7.FnF.by9 ?l ?c ?k); (case a => k_is); (case l => k_is); (case c => k_is); (case k => k_is))
      (case m1 => refine' K7.ModF.by9 ?a (K7.FnF.by9 ?l ?c ?k); (case a => k_is); (case l => k_is); (case c => k_is); (case k => k_is))
      (case m2 => refine' K7.ModF.by9 ?a (K7.FnF.by9 ?l ?c ?k); (case a => k_is); (case l => k_is); (case c => k_is); (case k => k_is))
      (case m3 => refine' K7.ModF.by9 ?a (K7.FnF.by9 ?l ?c ?k); (case a => k_is); (case l => k_is); (case c => k_is); (case k => k_is))
      (case m4 => refine' K7.ModF.by9 ?a (K7.FnF.by9 ?l ?c ?k); (case a => k_is); (case l => k_is); (case c => k_is); (case k => k_is))
      (case m5 => refine' K7.ModF.by9 ?a (K7.FnF.by9 ?l ?c ?k); (case a => k_is); (case l => k_is); (case c => k_is); (case k => k_is))
      (case m6 => refine' K7.ModF.by9 ?a (K7.FnF.by9 ?l ?c ?k); (case a => k_is); (case l => k_is); (case c => k_is); (case k => k_is))
      (case m7 => refine' K7.ModF.by9 ?a (K7.FnF.by9 ?l ?c ?k); (case a => k_is); (case l => k_is); (case c => k_is); (case k => k_is))
      (case m8 => refine' K7.ModF.by9 ?a (K7.FnF.by9 ?l ?c ?k); (case a => k_is); (case l => k_is); (case c => k_is); (case k => k_is))
      (case m9 => refine' K7.ModF.by9 ?a (K7.FnF.by9 ?l ?c ?k); (case a => k_is); (case l => k_is); (case c => k_is); (case k => k_is))
      (case m10 => refine' K7.ModF.by9 ?a (K7.FnF.by9 ?l ?c ?k); (case a => k_is); (case l => k_is); (case c => k_is); (case k => k_is))
      (case m11 => refine' K7.ModF.by9 ?a (K7.FnF.by9 ?l ?c ?k); (case a => k_is); (case l => k_is); (case c => k_is); (case k => k_is))
      (case m12 => refine' K7.ModF.by9 ?a (K7.FnF.by9 ?l ?c ?k); (case a => k_is); (case l => k_is); (case c => k_is); (case k => k_is))
      (case m13 => refine' K7.ModF.by9 ?a (K7.FnF.by9 ?l ?c ?k); (case a => k_is); (case l => k_is); (case c => k_is); (case k => k_is))
      (case m14 => refine' K7.ModF.by9 ?a (K7.FnF.by9 ?l ?c ?k); (case a => k_is); (case l => k_is); (case c => k_is); (case k => k_is))
      (case m15 => refine' K7.ModF.by9 ?a (K7.FnF.by9 ?l ?c ?k); (case a => k_is); (case l => k_is); (case c => k_is); (case k => k_is))
      (case m16 => refine' K7.ModF.by9 ?a (K7.FnF.by9 ?l ?c ?k); (case a => k_is); (case l => k_is); (case c => k_is); (case k => k_is))
      (case m17 => refine' K7.ModF.by9 ?a (K7.FnF.by9 ?l ?c ?k); (case a => k_is); (case l => k_is); (case c => k_is); (case k => k_is))
      (case m18 => refine' K7.ModF.by9 ?a (K7.FnF.by9 ?l ?c ?k); (case a => k_is); (case l => k_is); (case c => k_is); (case k => k_is))
      (case m19 => refine' K7.ModF.by9 ?a (K7.FnF.by9 ?l ?c ?k); (case a => k_is); (case l => k_is); (case c => k_is); (case k => k_is))
      (case m20 => refine' K7.ModF.by9 ?a (K7.FnF.by9 ?l ?c ?k); (case a => k_is); (case l => k_is); (case c => k_is); (case k => k_is))
      (case m21 => refine' K7.ModF.by9 ?a (K7.FnF.by9 ?l ?c ?k); (case a => k_is); (case l => k_is); (case c => k_is); (case k => k_is))
      (case m22 => refine' K7.ModF.by9 ?a (K7.FnF.by9 ?l ?c ?k); (case a => k_is); (case l => k_is); (case c => k_is); (case k => k_is))
      (case m23 => refine' K7.ModF.by9 ?a (K7.FnF.by9 ?l ?c ?k); (case a => k_is); (case l => k_is); (case c => k_is); (case k => k_is))
      (case m24 => refine' K7.ModF.by9 ?a (K7.FnF.by9 ?l ?c ?k); (case a => k_is); (case l => k_is); (case c => k_is); (case k => k_is))
      (case e0 => refine' K7.MetF.by9 ?a ?i (K7.FnF.by9 ?l ?c ?k); (case a => k_is); (case i => k_is); (case l => k_is); (case c => k_is); (case k => k_is))
      (case e1 => refine' K7.MetF.by9 ?a ?i (K7.FnF.by9 ?l ?c ?k); (case a => k_is); (case i => k_is); (case l => k_is); (case c => k_is); (case k => k_is))
      (case e2 => refine' K7.MetF.by9 ?a ?i (K7.FnF.by9 ?l ?c ?k); (case a => k_is); (case i => k_is); (case l => k_is); (case c => k_is); (case k => k_is))
      (case e3 => refine' K7.MetF.by9 ?a ?i (K7.FnF.by9 ?l ?c ?k); (case a => k_is); (case i => k_is); (case l => k_is); (case c => k_is); (case k => k_is))
      (case e4 => refine' K7.MetF.by9 ?a ?i (K7.FnF.by9 ?l ?c ?k); (case a => k_is); (case i => k_is); (case l => k_is); (case c => k_is); (case k => k_is))
      (case z0 => k_is)
      (case z1 => k_is)
      (case z2 => k_is)
      (case z3 => k_is)
      (case z4 => k_is)
      (case z5 => k_is)
      (case z6 => k_is)
      (case z7 => k_is)
      (case z8 => k_is)
      (case z9 => k_is)
      (case z10 => k_is)
      (case z11 => k_is)
      (case z12 => k_is)
      (case z13 => k_is)
      (case z14 => k_is)
    )
    (case hC => kernel_rfl)
