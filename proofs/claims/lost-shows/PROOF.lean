import PyProof.Rows.All
import Wide.All
import OpenK.AllK
import Wide.FinOn
import HandS.ForMost
import HandS.IsInst
import HandS.TupAny
import HandS.Zip
import HandS.Walk
import HandS.Flow
import KE.GoesEnum
import PySem.Challenge.RW_wishkeep_k35_whole_lost_shows
set_option Elab.async false
set_option linter.all false
set_option maxRecDepth 100000
set_option autoImplicit false
namespace Wk
/-- a move: where it leads, the given goals that it meets, the wanted ones -/
structure Mv where
  to : Nat
  met : List Nat
  mw : List Nat
abbrev Row := List Mv
abbrev Place := List (List Mv)
/-- an arena -/
structure Ar where
  pl : List Place
  given : Nat
  wanted : Nat
def Ar.n (A : Ar) : Nat := A.pl.length
def Ar.rows (A : Ar) (p : Nat) : Place := A.pl.getD p []
/-- what the moves must be -/
structure Ar.Ok (A : Ar) : Prop where
  to : ∀ pl ∈ A.pl, ∀ row ∈ pl, ∀ m ∈ row, m.to < A.n
  n0 : 0 < A.n
  g0 : 0 < A.given
  w0 : 0 < A.wanted
theorem Ar.Ok.lt {A : Ar} (h : A.Ok) {p : Nat} {row : Row} {m : Mv} (hr : row ∈ A.rows p) (hm : m ∈ row) : m.to < A.n := by
  unfold Ar.rows at hr
  by_cases hp : p < A.pl.length
  · rw [List.getD_eq_getElem?_getD, List.getElem?_eq_getElem hp] at hr
    exact h.to _ (List.getElem_mem hp) row hr m hm
  · rw [List.getD_eq_getElem?_getD, List.getElem?_eq_none (by omega)] at hr
    exact absurd hr (by simp)
theorem Ar.rows_out {A : Ar} {p : Nat} (hp : A.n ≤ p) : A.rows p = [] := by
  unfold Ar.rows
  rw [List.getD_eq_getElem?_getD, List.getElem?_eq_none hp]
  rfl

/-! ### counting -/
def cnt (f : Nat → Bool) : Nat → Nat
  | 0 => 0
  | n + 1 => cnt f n + (if f n = true then 1 else 0)
theorem cnt_le (f : Nat → Bool) : ∀ n, cnt f n ≤ n
  | 0 => Nat.le_refl _
  | n + 1 => by
    have h := cnt_le f n
    show cnt f n + _ ≤ n + 1
    split <;> omega
theorem cnt_mono {f g : Nat → Bool} : ∀ {n : Nat}, (∀ p, p < n → f p = true → g p = true) → cnt f n ≤ cnt g n
  | 0, _ => Nat.le_refl _
  | n + 1, h => by
    have h1 := cnt_mono (n := n) fun p hp => h p (by omega)
    have h2 := h n (by omega)
    show cnt f n + _ ≤ cnt g n + _
    by_cases hf : f n = true
    · rw [if_pos hf, if_pos (h2 hf)]; omega
    · rw [if_neg hf]; omega
theorem cnt_lt {f g : Nat → Bool} : ∀ {n p : Nat}, (∀ p, p < n → f p = true → g p = true) → p < n → f p = false → g p = true → cnt f n < cnt g n
  | 0, p, _, hp, _, _ => absurd hp (by omega)
  | n + 1, p, h, hp, hf, hg => by
    have h1 : ∀ q, q < n → f q = true → g q = true := fun q hq => h q (by omega)
    have h2 := h n (by omega)
    show cnt f n + _ < cnt g n + _
    by_cases e : p = n
    · subst e
      have := cnt_mono h1
      rw [if_neg (by rw [hf]; decide), if_pos hg]; omega
    · have := cnt_lt (n := n) (p := p) h1 (by omega) hf hg
      by_cases hfn : f n = true
      · rw [if_pos hfn, if_pos (h2 hfn)]; omega
      · rw [if_neg hfn]; omega

/-! ### hopes: what can be reached -/
def does (hopes S stays : Nat → Bool) (goal given : Nat) (m : Mv) : Bool :=
  (m.mw.contains goal && hopes m.to || S m.to) || (!m.met.contains given && stays m.to)
def can (A : Ar) (hopes S : Nat → Bool) (goal given : Nat) (stays : Nat → Bool) (p : Nat) : Bool :=
  (A.rows p).all fun row => row.any (does hopes S stays goal given)
theorem does_iff {hopes S stays : Nat → Bool} {goal given : Nat} {m : Mv} : does hopes S stays goal given m = true ↔
    (m.mw.contains goal = true ∧ hopes m.to = true) ∨ S m.to = true ∨ (m.met.contains given = false ∧ stays m.to = true) := by
  unfold does
  simp only [Bool.or_eq_true, Bool.and_eq_true, Bool.not_eq_true']
  constructor
  · rintro ((h | h) | h)
    · exact .inl h
    · exact .inr (.inl h)
    · exact .inr (.inr h)
  · rintro (h | h | h)
    · exact .inl (.inl h)
    · exact .inl (.inr h)
    · exact .inr h
theorem can_iff {A : Ar} {hopes S : Nat → Bool} {goal given : Nat} {stays : Nat → Bool} {p : Nat} : can A hopes S goal given stays p = true ↔
    ∀ row, row ∈ A.rows p → ∃ m, m ∈ row ∧ does hopes S stays goal given m = true := by
  unfold can
  simp only [List.all_eq_true, List.any_eq_true]
theorem can_mono {A : Ar} (ok : A.Ok) {hopes hopes' S S' stays stays' : Nat → Bool} {goal goal' given : Nat} {p : Nat}
    (h : ∀ m : Mv, m.to < A.n → does hopes S stays goal given m = true → does hopes' S' stays' goal' given m = true) (c : can A hopes S goal given stays p = true) : can A hopes' S' goal' given stays' p = true := by
  rw [can_iff] at c ⊢
  intro row hr
  obtain ⟨m, hm, hd⟩ := c row hr
  exact ⟨m, hm, h m (ok.lt hr hm) hd⟩
theorem does_congr {hopes S s s' : Nat → Bool} {goal given : Nat} {m : Mv} (h : s m.to = s' m.to) : does hopes S s goal given m = does hopes S s' goal given m := by
  unfold does
  rw [h]
theorem can_congr {A : Ar} (ok : A.Ok) {hopes S s s' : Nat → Bool} {goal given p : Nat} (h : ∀ q, q < A.n → s q = s' q) : can A hopes S goal given s p = can A hopes S goal given s' p := by
  have a : can A hopes S goal given s p = true → can A hopes S goal given s' p = true := can_mono ok fun m hm hd => by rw [← does_congr (h _ hm)]; exact hd
  have b : can A hopes S goal given s' p = true → can A hopes S goal given s p = true := can_mono ok fun m hm hd => by rw [does_congr (h _ hm)]; exact hd
  cases e : can A hopes S goal given s p <;> cases e' : can A hopes S goal given s' p
  · rfl
  · rw [b e'] at e; exact absurd e (by decide)
  · rw [a e] at e'; exact absurd e' (by decide)
  · rfl
theorem can_up {A : Ar} (ok : A.Ok) {hopes S s s' : Nat → Bool} {goal given p : Nat} (h : ∀ q, q < A.n → s q = true → s' q = true) (c : can A hopes S goal given s p = true) : can A hopes S goal given s' p = true := can_mono ok (fun m hm hd => by
  rw [does_iff] at hd ⊢
  rcases hd with d | d | ⟨d, e⟩
  · exact .inl d
  · exact .inr (.inl d)
  · exact .inr (.inr ⟨d, h _ hm e⟩)) c
/-- X is kept by going on -/
def Stay (A : Ar) (hopes S : Nat → Bool) (goal given : Nat) (X : Nat → Bool) : Prop := ∀ p, p < A.n → X p = true → can A hopes S goal given X p = true
structure IsKept (A : Ar) (hopes S : Nat → Bool) (goal given : Nat) (X : Nat → Bool) : Prop where
  post : Stay A hopes S goal given X
  great : ∀ Y, Stay A hopes S goal given Y → ∀ p, p < A.n → Y p = true → X p = true
/-- nothing more comes to T -/
def Closed (A : Ar) (hopes : Nat → Bool) (goal : Nat) (T : Nat → Bool) : Prop := ∀ i, i < A.given → ∀ X, Stay A hopes T goal i X → ∀ p, p < A.n → X p = true → T p = true
structure IsReach (A : Ar) (hopes : Nat → Bool) (goal : Nat) (S : Nat → Bool) : Prop where
  closed : Closed A hopes goal S
  least : ∀ T, Closed A hopes goal T → ∀ p, p < A.n → S p = true → T p = true
theorem Stay.mono {A : Ar} (ok : A.Ok) {hopes hopes' S S' : Nat → Bool} {goal given : Nat} {X : Nat → Bool} (h : Stay A hopes S goal given X) (h1 : ∀ p, p < A.n → hopes p = true → hopes' p = true) (h2 : ∀ p, p < A.n → S p = true → S' p = true) :
    Stay A hopes' S' goal given X := fun p hp hx => can_mono ok (fun m hm hd => by
  rw [does_iff] at hd ⊢
  rcases hd with ⟨a, b⟩ | a | a
  · exact .inl ⟨a, h1 _ hm b⟩
  · exact .inr (.inl (h2 _ hm a))
  · exact .inr (.inr a)) (h p hp hx)
theorem Closed.mono {A : Ar} (ok : A.Ok) {hopes hopes' : Nat → Bool} {goal : Nat} {T : Nat → Bool} (h : Closed A hopes' goal T) (h1 : ∀ p, p < A.n → hopes p = true → hopes' p = true) : Closed A hopes goal T :=
  fun i hi X hX => h i hi X (hX.mono ok h1 fun _ _ z => z)
theorem IsReach.mono {A : Ar} (ok : A.Ok) {hopes hopes' : Nat → Bool} {goal : Nat} {S S' : Nat → Bool} (a : IsReach A hopes goal S) (b : IsReach A hopes' goal S') (h1 : ∀ p, p < A.n → hopes p = true → hopes' p = true) :
    ∀ p, p < A.n → S p = true → S' p = true := a.least S' (b.closed.mono ok h1)
theorem IsReach.uniq {A : Ar} (ok : A.Ok) {hopes : Nat → Bool} {goal : Nat} {S S' : Nat → Bool} (a : IsReach A hopes goal S) (b : IsReach A hopes goal S') : ∀ p, p < A.n → S p = S' p := fun p hp => by
  have h1 := a.least S' b.closed p hp
  have h2 := b.least S a.closed p hp
  cases e : S p <;> cases e' : S' p
  · rfl
  · rw [e] at h2; exact (h2 e').symm ▸ rfl
  · rw [e'] at h1; exact absurd (h1 e) (by decide)
  · rfl
/-- what is held -/
structure IsHeld (A : Ar) (W : Nat → Bool) (R : Nat → Nat → Bool) : Prop where
  reach : ∀ j, j < A.wanted → IsReach A W j (R j)
  all : ∀ p, p < A.n → (W p = true ↔ ∀ j, j < A.wanted → R j p = true)
  great : ∀ Z, (∀ j, j < A.wanted → ∀ T, Closed A Z j T → ∀ p, p < A.n → Z p = true → T p = true) → ∀ p, p < A.n → Z p = true → W p = true
theorem IsHeld.le {A : Ar} (ok : A.Ok) {W : Nat → Bool} {R : Nat → Nat → Bool} (h : IsHeld A W R) {j : Nat} (hj : j < A.wanted) : ∀ p, p < A.n → R j p = true → W p = true := by
  intro p hp hr
  refine (h.all p hp).mpr fun k hk => ?_
  refine (h.reach j hj).least (R k) (fun i hi X hX q hq hx => ?_) p hp hr
  refine (h.reach k hk).closed i hi X (fun q' hq' hx' => ?_) q hq hx
  refine can_mono ok (fun m hm hd => ?_) (hX q' hq' hx')
  rw [does_iff] at hd ⊢
  rcases hd with ⟨_, b⟩ | a | a
  · exact .inr (.inl ((h.all _ hm).mp b k hk))
  · exact .inr (.inl a)
  · exact .inr (.inr a)
theorem IsHeld.eq {A : Ar} (ok : A.Ok) {W : Nat → Bool} {R : Nat → Nat → Bool} (h : IsHeld A W R) {j : Nat} (hj : j < A.wanted) : ∀ p, p < A.n → R j p = W p := by
  intro p hp
  have h1 := h.le ok hj p hp
  have h2 := fun z => (h.all p hp).mp z j hj
  cases e : W p <;> cases e' : R j p
  · rfl
  · rw [h1 e'] at e; exact absurd e (by decide)
  · rw [h2 e] at e'; exact absurd e' (by decide)
  · rfl
theorem IsHeld.uniq {A : Ar} (ok : A.Ok) {W W' : Nat → Bool} {R R' : Nat → Nat → Bool} (h : IsHeld A W R) (h' : IsHeld A W' R') : ∀ p, p < A.n → W p = W' p := by
  have key : ∀ {W W' : Nat → Bool} {R R' : Nat → Nat → Bool}, IsHeld A W R → IsHeld A W' R' → ∀ p, p < A.n → W p = true → W' p = true := fun {W W' R R'} h h' =>
    h'.great W fun j hj T hT p hp hw => (h.reach j hj).least T hT p hp ((h.all p hp).mp hw j hj)
  intro p hp
  have h1 := key h h' p hp
  have h2 := key h' h p hp
  cases e : W p <;> cases e' : W' p
  · rfl
  · rw [h2 e'] at e; exact absurd e (by decide)
  · rw [h1 e] at e'; exact absurd e' (by decide)
  · rfl

/-! ### fears: what can be forced -/
def und (E stays c : Nat → Bool) (goal given : Nat) (m : Mv) : Bool := E m.to || (!m.mw.contains goal && stays m.to && (m.met.contains given || c m.to))
def forces (A : Ar) (E stays : Nat → Bool) (goal given : Nat) (c : Nat → Bool) (p : Nat) : Bool := (A.rows p).any fun row => row.all (und E stays c goal given)
theorem und_iff {E stays c : Nat → Bool} {goal given : Nat} {m : Mv} : und E stays c goal given m = true ↔
    E m.to = true ∨ (m.mw.contains goal = false ∧ stays m.to = true ∧ (m.met.contains given = true ∨ c m.to = true)) := by
  unfold und
  simp only [Bool.or_eq_true, Bool.and_eq_true, Bool.not_eq_true', and_assoc]
theorem forces_iff {A : Ar} {E stays : Nat → Bool} {goal given : Nat} {c : Nat → Bool} {p : Nat} : forces A E stays goal given c p = true ↔
    ∃ row, row ∈ A.rows p ∧ ∀ m, m ∈ row → und E stays c goal given m = true := by
  unfold forces
  simp only [List.all_eq_true, List.any_eq_true]
theorem forces_mono {A : Ar} (ok : A.Ok) {E E' stays stays' c c' : Nat → Bool} {goal given : Nat} {p : Nat} (h1 : ∀ p, p < A.n → E p = true → E' p = true) (h2 : ∀ p, p < A.n → stays p = true → stays' p = true) (h3 : ∀ p, p < A.n → c p = true → c' p = true)
    (f : forces A E stays goal given c p = true) : forces A E' stays' goal given c' p = true := by
  rw [forces_iff] at f ⊢
  obtain ⟨row, hr, f⟩ := f
  refine ⟨row, hr, fun m hm => ?_⟩
  have hl := ok.lt hr hm
  have g := f m hm
  rw [und_iff] at g ⊢
  rcases g with g | ⟨a, b, g⟩
  · exact .inl (h1 _ hl g)
  · exact .inr ⟨a, h2 _ hl b, g.imp id (h3 _ hl)⟩
def ClosedC (A : Ar) (E stays : Nat → Bool) (goal given : Nat) (C : Nat → Bool) : Prop := ∀ p, p < A.n → forces A E stays goal given C p = true → C p = true
/-- Y can be stayed in by the others -/
def PostY (A : Ar) (E : Nat → Bool) (goal : Nat) (Y : Nat → Bool) : Prop := ∀ i, i < A.given → ∀ C, ClosedC A E Y goal i C → ∀ p, p < A.n → Y p = true → C p = true
/-- what is lost -/
structure IsLost (A : Ar) (L : Nat → Bool) : Prop where
  closed : ∀ j, j < A.wanted → ∀ Y, PostY A L j Y → ∀ p, p < A.n → Y p = true → L p = true
  least : ∀ U, (∀ j, j < A.wanted → ∀ Y, PostY A U j Y → ∀ p, p < A.n → Y p = true → U p = true) → ∀ p, p < A.n → L p = true → U p = true
theorem not_true {b : Bool} : (!b) = true ↔ b = false := by cases b <;> decide
theorem of_not_true {b : Bool} (h : ¬ b = true) : b = false := by cases b; rfl; exact absurd rfl h
/-- of each place just one has it -/
theorem lost_held {A : Ar} (ok : A.Ok) {W L : Nat → Bool} {R : Nat → Nat → Bool} (h : IsHeld A W R) (l : IsLost A L) : ∀ p, p < A.n → L p = !W p := by
  have h1 : ∀ p, p < A.n → (!L p) = true → W p = true := by
    refine h.great (fun p => !L p) fun j hj T hT p hp hz => ?_
    cases hTp : T p with
    | true => rfl
    | false =>
      have hl : L p = true := by
        refine l.closed j hj (fun q => !T q) (fun i hi C hC q hq hy => ?_) p hp (by show (!T p) = true; rw [hTp]; rfl)
        cases hCq : C q with
        | true => rfl
        | false =>
          have hq' : T q = true := by
            refine hT i hi (fun r => !C r) (fun r hr hx => ?_) q hq (by show (!C q) = true; rw [hCq]; rfl)
            have hx' : C r = false := not_true.mp hx
            have nf : ¬ forces A L (fun q => !T q) j i C r = true := fun f => by
              have := hC r hr f
              rw [hx'] at this; cases this
            rw [can_iff]
            intro row hrow
            rw [forces_iff] at nf
            have : ¬ ∀ m, m ∈ row → und L (fun q => !T q) C j i m = true := fun z => nf ⟨row, hrow, z⟩
            obtain ⟨m, hm⟩ := Classical.not_forall.mp this
            obtain ⟨hm, hu⟩ := Classical.not_imp.mp hm
            refine ⟨m, hm, ?_⟩
            rw [und_iff] at hu
            rw [does_iff]
            have hL : L m.to = false := of_not_true fun z => hu (.inl z)
            by_cases a : m.mw.contains j = true
            · exact .inl ⟨a, by show (!L m.to) = true; rw [hL]; rfl⟩
            · by_cases b : T m.to = true
              · exact .inr (.inl b)
              · refine .inr (.inr ⟨?_, ?_⟩)
                · exact of_not_true fun z => hu (.inr ⟨of_not_true a, by show (!T m.to) = true; rw [of_not_true b]; rfl, .inl z⟩)
                · show (!C m.to) = true
                  rw [not_true]
                  exact of_not_true fun z => hu (.inr ⟨of_not_true a, by show (!T m.to) = true; rw [of_not_true b]; rfl, .inr z⟩)
          have hy' : T q = false := not_true.mp hy
          rw [hq'] at hy'; cases hy'
      rw [hl] at hz
      exact hz
  have h2 : ∀ p, p < A.n → L p = true → (!W p) = true := by
    refine l.least (fun p => !W p) fun j hj Y hY p hp hy => ?_
    show (!W p) = true
    rw [not_true]
    refine of_not_true fun hw => ?_
    have hR : R j p = true := (h.all p hp).mp hw j hj
    have hU : (W p && !Y p) = true := by
      refine (h.reach j hj).least (fun q => W q && !Y q) (fun i hi X hX q hq hx => ?_) p hp hR
      have sub : ∀ r, r < A.n → X r = true → W r = true := fun r hr hxr => by
        refine h.le ok hj r hr ((h.reach j hj).closed i hi X (hX.mono ok (fun _ _ z => z) fun s hs z => ?_) r hr hxr)
        have z' : (W s && !Y s) = true := z
        rw [Bool.and_eq_true] at z'
        exact (h.all s hs).mp z'.1 j hj
      have hYq : Y q = false := by
        refine of_not_true fun hyq => ?_
        have e := hY i hi (fun r => !X r) (fun r hr f => ?_) q hq hyq
        · have e' : (!X q) = true := e
          rw [hx] at e'; cases e'
        · show (!X r) = true
          rw [not_true]
          refine of_not_true fun hxr => ?_
          obtain ⟨row, hrow, f⟩ := forces_iff.mp f
          obtain ⟨m, hm, hd⟩ := can_iff.mp (hX r hr hxr) row hrow
          have hl := ok.lt hrow hm
          have u := und_iff.mp (f m hm)
          rw [does_iff] at hd
          rcases u with u | ⟨a, b, c⟩
          · have u' : W m.to = false := not_true.mp u
            rcases hd with ⟨_, d⟩ | d | ⟨_, d⟩
            · rw [u'] at d; cases d
            · have d' : (W m.to && !Y m.to) = true := d
              rw [u'] at d'; cases d'
            · rw [sub _ hl d] at u'; cases u'
          · rcases hd with ⟨d, _⟩ | d | ⟨d, d2⟩
            · rw [a] at d; cases d
            · have d' : (W m.to && !Y m.to) = true := d
              rw [b, Bool.and_eq_true] at d'
              exact absurd d'.2 (by decide)
            · rcases c with c | c
              · rw [d] at c; cases c
              · have c' : (!X m.to) = true := c
                rw [d2] at c'; cases c'
      show (W q && !Y q) = true
      rw [sub q hq hx, hYq]
      rfl
    rw [hy, Bool.and_eq_true] at hU
    exact absurd hU.2 (by decide)
  intro p hp
  have a := h1 p hp
  have b := h2 p hp
  cases e : L p <;> cases e' : W p
  · rw [e, e'] at a; exact absurd (a rfl) (by decide)
  · rfl
  · rfl
  · rw [e, e'] at b; exact absurd (b rfl) (by decide)
end Wk

namespace Wk
/-! ### the mirror of what the others do -/
/-- one round of counting -/
def cround (A : Ar) (E stays : Nat → Bool) (goal given k : Nat) (c : Nat → Option Nat) : Nat → Option Nat := fun p =>
  if (c p).isNone && forces A E stays goal given (fun q => (c q).isSome) p then some k else c p
def cseq (A : Ar) (E stays : Nat → Bool) (goal given : Nat) : Nat → (Nat → Option Nat)
  | 0 => fun _ => none
  | k + 1 => cround A E stays goal given k (cseq A E stays goal given k)
def counted (A : Ar) (E stays : Nat → Bool) (goal given : Nat) : Nat → Option Nat := cseq A E stays goal given A.n
/-- whether a place comes in at this round -/
def cfresh (A : Ar) (E stays : Nat → Bool) (goal given : Nat) (c : Nat → Option Nat) (p : Nat) : Bool := (c p).isNone && forces A E stays goal given (fun q => (c q).isSome) p

section
variable {A : Ar} {E stays : Nat → Bool} {goal given : Nat}
theorem cround_eq {k : Nat} {c : Nat → Option Nat} {p : Nat} : cround A E stays goal given k c p = if cfresh A E stays goal given c p = true then some k else c p := rfl
theorem cround_same {k : Nat} {c : Nat → Option Nat} (h : ∀ p, p < A.n → cfresh A E stays goal given c p = false) : cround A E stays goal given k c = c := by
  funext p
  rw [cround_eq]
  by_cases hp : p < A.n
  · rw [h p hp]; rfl
  · have : forces A E stays goal given (fun q => (c q).isSome) p = false := by
      unfold forces
      rw [Ar.rows_out (by omega)]; rfl
    unfold cfresh
    rw [this, Bool.and_false]; rfl
theorem cseq_same {k : Nat} (h : ∀ p, p < A.n → cfresh A E stays goal given (cseq A E stays goal given k) p = false) : ∀ m, k ≤ m → cseq A E stays goal given m = cseq A E stays goal given k
  | 0, hm => by
    have : k = 0 := by omega
    subst this; rfl
  | m + 1, hm => by
    by_cases e : k = m + 1
    · subst e; rfl
    · have ih := cseq_same h m (by omega)
      show cround A E stays goal given m (cseq A E stays goal given m) = _
      rw [ih]
      exact cround_same h
theorem cseq_some {k p v : Nat} (h : cseq A E stays goal given k p = some v) : cseq A E stays goal given (k + 1) p = some v := by
  show cround A E stays goal given k _ p = some v
  rw [cround_eq]
  unfold cfresh
  rw [h]
  rfl
theorem cseq_more {p v : Nat} : ∀ {k m : Nat}, k ≤ m → cseq A E stays goal given k p = some v → cseq A E stays goal given m p = some v := by
  intro k m hm h
  obtain ⟨d, rfl⟩ : ∃ d, m = k + d := ⟨m - k, by omega⟩
  induction d with
  | zero => exact h
  | succ d ih => exact cseq_some (ih (by omega))
theorem cseq_grow {k p : Nat} (hp : p < A.n) (h : cfresh A E stays goal given (cseq A E stays goal given k) p = true) :
    cnt (fun q => (cseq A E stays goal given k q).isSome) A.n < cnt (fun q => (cseq A E stays goal given (k + 1) q).isSome) A.n := by
  have h0 : (cseq A E stays goal given k p).isNone = true := by
    unfold cfresh at h
    rw [Bool.and_eq_true] at h
    exact h.1
  refine cnt_lt (p := p) (fun q hq z => ?_) hp ?_ ?_
  · obtain ⟨v, hv⟩ := Option.isSome_iff_exists.mp z
    show (cseq A E stays goal given (k + 1) q).isSome = true
    rw [cseq_some hv]; rfl
  · show (cseq A E stays goal given k p).isSome = false
    cases e : cseq A E stays goal given k p with
    | none => rfl
    | some v => rw [e] at h0; cases h0
  · show (cround A E stays goal given k _ p).isSome = true
    rw [cround_eq, if_pos h]; rfl
/-- where it stands still it is what counted tells -/
theorem counted_at {k : Nat} (hk : k ≤ A.n) (h : ∀ p, p < A.n → cfresh A E stays goal given (cseq A E stays goal given k) p = false) : counted A E stays goal given = cseq A E stays goal given k := cseq_same h _ hk
theorem cseq_still : ∃ k, k ≤ A.n ∧ ∀ p, p < A.n → cfresh A E stays goal given (cseq A E stays goal given k) p = false := by
  refine Classical.byContradiction fun no => ?_
  have grow : ∀ k, k ≤ A.n + 1 → k ≤ cnt (fun q => (cseq A E stays goal given k q).isSome) A.n := by
    intro k
    induction k with
    | zero => intro _; exact Nat.zero_le _
    | succ k ih =>
      intro hk
      have h1 := ih (by omega)
      have : ¬ ∀ p, p < A.n → cfresh A E stays goal given (cseq A E stays goal given k) p = false := fun z => no ⟨k, by omega, z⟩
      obtain ⟨p, hp⟩ := Classical.not_forall.mp this
      obtain ⟨hp, hf⟩ := Classical.not_imp.mp hp
      have h2 := cseq_grow hp (by cases e : cfresh A E stays goal given (cseq A E stays goal given k) p; exact absurd e hf; rfl)
      omega
  have h1 := grow (A.n + 1) (Nat.le_refl _)
  have h2 := cnt_le (fun q => (cseq A E stays goal given (A.n + 1) q).isSome) A.n
  omega
theorem counted_closed : ClosedC A E stays goal given fun p => (counted A E stays goal given p).isSome := by
  obtain ⟨k, hk, h⟩ := cseq_still (A := A) (E := E) (stays := stays) (goal := goal) (given := given)
  intro p hp f
  rw [counted_at hk h] at f ⊢
  have g := h p hp
  unfold cfresh at g
  rw [f, Bool.and_true] at g
  cases e : cseq A E stays goal given k p with
  | none => rw [e] at g; cases g
  | some v => show (cseq A E stays goal given k p).isSome = true; rw [e]; rfl
theorem cseq_least (ok : A.Ok) {C : Nat → Bool} (hC : ClosedC A E stays goal given C) : ∀ k p, p < A.n → (cseq A E stays goal given k p).isSome = true → C p = true
  | 0, _, _, h => by cases h
  | k + 1, p, hp, h => by
    have h' : (cround A E stays goal given k (cseq A E stays goal given k) p).isSome = true := h
    rw [cround_eq] at h'
    by_cases f : cfresh A E stays goal given (cseq A E stays goal given k) p = true
    · unfold cfresh at f
      rw [Bool.and_eq_true] at f
      exact hC p hp (forces_mono ok (fun _ _ z => z) (fun _ _ z => z) (fun q hq z => cseq_least ok hC k q hq z) f.2)
    · rw [if_neg f] at h'
      exact cseq_least ok hC k p hp h'
theorem counted_least (ok : A.Ok) {C : Nat → Bool} (hC : ClosedC A E stays goal given C) : ∀ p, p < A.n → (counted A E stays goal given p).isSome = true → C p = true := cseq_least ok hC _
/-- below a count -/
def below (c : Nat → Option Nat) (v : Nat) : Nat → Bool := fun q => match c q with
  | some w => decide (w < v)
  | none => false
theorem cseq_rank (ok : A.Ok) : ∀ k, (∀ p v, cseq A E stays goal given k p = some v → v < k) ∧ ∀ p v, cseq A E stays goal given k p = some v → forces A E stays goal given (below (cseq A E stays goal given k) v) p = true
  | 0 => ⟨fun _ _ h => (by cases h), fun _ _ h => (by cases h)⟩
  | k + 1 => by
    obtain ⟨i1, i2⟩ := cseq_rank ok k
    have up : ∀ v, ∀ q, q < A.n → below (cseq A E stays goal given k) v q = true → below (cseq A E stays goal given (k + 1)) v q = true := fun v q _ h => by
      unfold below at h ⊢
      cases e : cseq A E stays goal given k q with
      | none => rw [e] at h; cases h
      | some w => rw [e] at h; rw [cseq_some e]; exact h
    have split : ∀ p v, cseq A E stays goal given (k + 1) p = some v → (v = k ∧ cfresh A E stays goal given (cseq A E stays goal given k) p = true) ∨ cseq A E stays goal given k p = some v := fun p v h => by
      have h' : cround A E stays goal given k (cseq A E stays goal given k) p = some v := h
      rw [cround_eq] at h'
      by_cases f : cfresh A E stays goal given (cseq A E stays goal given k) p = true
      · rw [if_pos f] at h'
        exact .inl ⟨(Option.some.inj h').symm, f⟩
      · rw [if_neg f] at h'
        exact .inr h'
    refine ⟨fun p v h => ?_, fun p v h => ?_⟩
    · rcases split p v h with ⟨e, _⟩ | h'
      · omega
      · have := i1 p v h'; omega
    · rcases split p v h with ⟨e, f⟩ | h'
      · subst e
        unfold cfresh at f
        rw [Bool.and_eq_true] at f
        refine forces_mono ok (fun _ _ z => z) (fun _ _ z => z) (fun q hq z => up v q hq ?_) f.2
        obtain ⟨w, hw⟩ := Option.isSome_iff_exists.mp z
        unfold below
        rw [hw]
        exact decide_eq_true (i1 q w hw)
      · exact forces_mono ok (fun _ _ z => z) (fun _ _ z => z) (up v) (i2 p v h')
theorem counted_rank (ok : A.Ok) {p v : Nat} (h : counted A E stays goal given p = some v) : forces A E stays goal given (below (counted A E stays goal given) v) p = true := (cseq_rank ok A.n).2 p v h
theorem counted_mono (ok : A.Ok) {stays' : Nat → Bool} (h : ∀ p, p < A.n → stays p = true → stays' p = true) : ∀ p, p < A.n → (counted A E stays goal given p).isSome = true → (counted A E stays' goal given p).isSome = true :=
  counted_least ok (C := fun p => (counted A E stays' goal given p).isSome) fun p hp f => counted_closed p hp (forces_mono ok (fun _ _ z => z) h (fun _ _ z => z) f)
end

theorem forces_congr {A : Ar} (ok : A.Ok) {E s s' : Nat → Bool} {goal given : Nat} {c : Nat → Bool} {p : Nat} (h : ∀ q, q < A.n → s q = s' q) : forces A E s goal given c p = forces A E s' goal given c p := by
  have a : forces A E s goal given c p = true → forces A E s' goal given c p = true := forces_mono ok (fun _ _ z => z) (fun q hq z => by rw [← h q hq]; exact z) (fun _ _ z => z)
  have b : forces A E s' goal given c p = true → forces A E s goal given c p = true := forces_mono ok (fun _ _ z => z) (fun q hq z => by rw [h q hq]; exact z) (fun _ _ z => z)
  cases e : forces A E s goal given c p <;> cases e' : forces A E s' goal given c p
  · rfl
  · rw [b e'] at e; exact absurd e (by decide)
  · rw [a e] at e'; exact absurd e' (by decide)
  · rfl
theorem cseq_congr {A : Ar} (ok : A.Ok) {E s s' : Nat → Bool} {goal given : Nat} (h : ∀ q, q < A.n → s q = s' q) : ∀ k, cseq A E s goal given k = cseq A E s' goal given k
  | 0 => rfl
  | k + 1 => by
    have ih := cseq_congr ok h k (E := E) (goal := goal) (given := given)
    funext p
    show cround A E s goal given k _ p = cround A E s' goal given k _ p
    rw [ih, cround_eq, cround_eq]
    unfold cfresh
    rw [forces_congr ok h]
theorem counted_congr {A : Ar} (ok : A.Ok) {E s s' : Nat → Bool} {goal given : Nat} (h : ∀ q, q < A.n → s q = s' q) : counted A E s goal given = counted A E s' goal given := cseq_congr ok h _
/-! ### tables -/
def tround (A : Ar) (E : Nat → Bool) (goal : Nat) (stays : Nat → Bool) : Nat → Bool := fun p => (List.range A.given).all fun i => (counted A E stays goal i p).isSome
def tseq (A : Ar) (E : Nat → Bool) (goal : Nat) : Nat → (Nat → Bool)
  | 0 => fun _ => true
  | k + 1 => tround A E goal (tseq A E goal k)
def tstay (A : Ar) (E : Nat → Bool) (goal : Nat) : Nat → Bool := tseq A E goal A.n
section
variable {A : Ar} {E : Nat → Bool} {goal : Nat}
theorem tround_iff {stays : Nat → Bool} {p : Nat} : tround A E goal stays p = true ↔ ∀ i, i < A.given → (counted A E stays goal i p).isSome = true := by
  unfold tround
  rw [List.all_eq_true]
  exact ⟨fun h i hi => h i (List.mem_range.mpr hi), fun h i hi => h i (List.mem_range.mp hi)⟩
theorem counted_out {stays : Nat → Bool} {given p : Nat} (hp : A.n ≤ p) : ∀ k, cseq A E stays goal given k p = none
  | 0 => rfl
  | k + 1 => by
    show cround A E stays goal given k _ p = none
    rw [cround_eq]
    have : forces A E stays goal given (fun q => (cseq A E stays goal given k q).isSome) p = false := by
      unfold forces
      rw [Ar.rows_out hp]; rfl
    unfold cfresh
    rw [this, Bool.and_false]
    exact counted_out hp k
theorem tround_congr {s t : Nat → Bool} (ok : A.Ok) (h : ∀ p, p < A.n → s p = t p) : tround A E goal s = tround A E goal t := by
  funext p
  by_cases hp : p < A.n
  · have key : ∀ {s t : Nat → Bool}, (∀ p, p < A.n → s p = t p) → tround A E goal s p = true → tround A E goal t p = true := fun {s t} h z => by
      rw [tround_iff] at z ⊢
      exact fun i hi => counted_mono ok (fun q hq w => (h q hq) ▸ w) p hp (z i hi)
    cases e : tround A E goal s p <;> cases e' : tround A E goal t p
    · rfl
    · rw [key (fun q hq => (h q hq).symm) e'] at e; exact absurd e (by decide)
    · rw [key h e] at e'; exact absurd e' (by decide)
    · rfl
  · have out : ∀ s : Nat → Bool, tround A E goal s p = false := fun s => of_not_true fun z => by
      have := tround_iff.mp z 0 ok.g0
      unfold counted at this
      rw [counted_out (by omega)] at this
      cases this
    rw [out, out]
theorem tseq_down (ok : A.Ok) : ∀ k p, p < A.n → tseq A E goal (k + 1) p = true → tseq A E goal k p = true
  | 0, _, _, _ => rfl
  | k + 1, p, hp, h => by
    have h' : tround A E goal (tseq A E goal (k + 1)) p = true := h
    show tround A E goal (tseq A E goal k) p = true
    rw [tround_iff] at h' ⊢
    exact fun i hi => counted_mono ok (tseq_down ok k) p hp (h' i hi)
theorem tseq_same (ok : A.Ok) {k : Nat} (h : ∀ p, p < A.n → tseq A E goal (k + 1) p = tseq A E goal k p) : ∀ m, k ≤ m → ∀ p, p < A.n → tseq A E goal m p = tseq A E goal k p := by
  intro m hm
  obtain ⟨d, rfl⟩ : ∃ d, m = k + d := ⟨m - k, by omega⟩
  induction d with
  | zero => exact fun _ _ => rfl
  | succ d ih =>
    intro p hp
    show tround A E goal (tseq A E goal (k + d)) p = _
    rw [tround_congr ok (ih (by omega))]
    exact h p hp
theorem tseq_fall (ok : A.Ok) {k p : Nat} (hp : p < A.n) (h : tseq A E goal (k + 1) p ≠ tseq A E goal k p) : cnt (tseq A E goal (k + 1)) A.n < cnt (tseq A E goal k) A.n := by
  have d := tseq_down (E := E) (goal := goal) ok k
  refine cnt_lt (p := p) d hp ?_ ?_
  · refine of_not_true fun z => h ?_
    rw [z, d p hp z]
  · cases e : tseq A E goal k p with
    | true => rfl
    | false =>
      refine absurd ?_ h
      rw [e]
      exact of_not_true fun z => by
        rw [d p hp z] at e; cases e
theorem tstay_at (ok : A.Ok) {k : Nat} (hk : k ≤ A.n) (h : ∀ p, p < A.n → tseq A E goal (k + 1) p = tseq A E goal k p) : ∀ p, p < A.n → tstay A E goal p = tseq A E goal k p := tseq_same ok h A.n hk
theorem tseq_still (ok : A.Ok) : ∃ k, k ≤ A.n ∧ ∀ p, p < A.n → tseq A E goal (k + 1) p = tseq A E goal k p := by
  refine Classical.byContradiction fun no => ?_
  have fall : ∀ k, k ≤ A.n + 1 → cnt (tseq A E goal k) A.n + k ≤ A.n := by
    intro k
    induction k with
    | zero => intro _; exact cnt_le _ _
    | succ k ih =>
      intro hk
      have h1 := ih (by omega)
      have : ¬ ∀ p, p < A.n → tseq A E goal (k + 1) p = tseq A E goal k p := fun z => no ⟨k, by omega, z⟩
      obtain ⟨p, hp⟩ := Classical.not_forall.mp this
      obtain ⟨hp, hf⟩ := Classical.not_imp.mp hp
      have h2 := tseq_fall ok hp hf
      omega
  have h1 := fall (A.n + 1) (Nat.le_refl _)
  omega
theorem tstay_eq (ok : A.Ok) : ∀ p, p < A.n → tround A E goal (tstay A E goal) p = tstay A E goal p := by
  obtain ⟨k, hk, h⟩ := tseq_still (A := A) (E := E) (goal := goal) ok
  have e := tstay_at ok hk h
  intro p hp
  rw [tround_congr ok e, e p hp]
  exact h p hp
theorem tstay_great (ok : A.Ok) {Y : Nat → Bool} (hY : PostY A E goal Y) : ∀ k p, p < A.n → Y p = true → tseq A E goal k p = true
  | 0, _, _, _ => rfl
  | k + 1, p, hp, h => by
    show tround A E goal (tseq A E goal k) p = true
    rw [tround_iff]
    intro i hi
    exact hY i hi (fun q => (counted A E (tseq A E goal k) goal i q).isSome) (fun q hq f => counted_closed q hq (forces_mono ok (fun _ _ z => z) (tstay_great ok hY k) (fun _ _ z => z) f)) p hp h
theorem tstay_post (ok : A.Ok) : PostY A E goal (tstay A E goal) := fun i hi C hC p hp h => by
  rw [← tstay_eq ok p hp, tround_iff] at h
  exact counted_least ok hC p hp (h i hi)
end
/-- the counts of a place by which it is lost at once -/
def tabs (A : Ar) (E : Nat → Bool) (goal p : Nat) : Option (List Nat) :=
  if tstay A E goal p = true then some ((List.range A.given).map fun i => (counted A E (tstay A E goal) goal i p).getD 0) else none

/-! ### entries -/
structure En where
  num : Nat
  goal : Nat
  cs : List Nat
abbrev Ens := Nat → Option En
def someE (L : Ens) : Nat → Bool := fun p => (L p).isSome
/-- whether a place comes in -/
def lfresh (A : Ar) (goal : Nat) (L : Ens) (p : Nat) : Bool := (tabs A (someE L) goal p).isSome && (L p).isNone
def lstep (A : Ar) (num goal : Nat) (L : Ens) : Ens := fun p => if lfresh A goal L p = true then some ⟨num, goal, (tabs A (someE L) goal p).getD []⟩ else L p
def anyF (A : Ar) (goal : Nat) (L : Ens) : Bool := (List.range A.n).any (lfresh A goal L)
def lgoal (A : Ar) (s : Ens × Nat) (goal : Nat) : Ens × Nat := if anyF A goal s.1 = true then (lstep A s.2 goal s.1, s.2 + 1) else s
def lrun (A : Ar) (s : Ens × Nat) : Nat → Ens × Nat
  | 0 => s
  | j + 1 => lgoal A (lrun A s j) j
def lseq (A : Ar) : Nat → Ens × Nat
  | 0 => (fun _ => none, 0)
  | k + 1 => lrun A (lseq A k) A.wanted
def lostM (A : Ar) : Ens := (lseq A A.n).1

theorem anyF_iff {A : Ar} {goal : Nat} {L : Ens} : anyF A goal L = true ↔ ∃ p, p < A.n ∧ lfresh A goal L p = true := by
  unfold anyF
  rw [List.any_eq_true]
  exact ⟨fun ⟨p, h, e⟩ => ⟨p, List.mem_range.mp h, e⟩, fun ⟨p, h, e⟩ => ⟨p, List.mem_range.mpr h, e⟩⟩
/-- the table holds so far: numbers below num, each entry by others -/
def Hurts (A : Ar) (L : Ens) (e : En) (given : Nat) (m : Mv) : Prop := ∃ e', L m.to = some e' ∧ (e'.num < e.num ∨ (e'.num = e.num ∧ e'.goal = e.goal ∧ m.mw.contains e.goal = false ∧ (m.met.contains given = true ∨ e'.cs.getD given 0 < e.cs.getD given 0)))
structure Good (A : Ar) (L : Ens) (e : En) (p : Nat) : Prop where
  goal : e.goal < A.wanted
  len : e.cs.length = A.given
  row : ∀ i, i < A.given → ∃ row, row ∈ A.rows p ∧ ∀ m, m ∈ row → Hurts A L e i m
structure LInv (A : Ar) (s : Ens × Nat) : Prop where
  num : ∀ p e, s.1 p = some e → e.num < s.2
  good : ∀ p e, p < A.n → s.1 p = some e → Good A s.1 e p
  low : ∀ U, (∀ j, j < A.wanted → ∀ Y, PostY A U j Y → ∀ p, p < A.n → Y p = true → U p = true) → ∀ p, p < A.n → (s.1 p).isSome = true → U p = true
section
variable {A : Ar}
theorem tabs_some {E : Nat → Bool} {goal p : Nat} : (tabs A E goal p).isSome = tstay A E goal p := by
  unfold tabs
  by_cases h : tstay A E goal p = true
  · rw [if_pos h, h]; rfl
  · rw [if_neg h, of_not_true h]; rfl
theorem getD_map_range {f : Nat → Nat} {n i : Nat} (hi : i < n) : ((List.range n).map f).getD i 0 = f i := by
  rw [List.getD_eq_getElem?_getD, List.getElem?_map, List.getElem?_range hi]
  rfl
theorem LInv.step (ok : A.Ok) {s : Ens × Nat} (h : LInv A s) {goal : Nat} (hg : goal < A.wanted) : LInv A (lstep A s.2 goal s.1, s.2 + 1) := by
  obtain ⟨L, num⟩ := s
  have grow : ∀ p e, L p = some e → lstep A num goal L p = some e := fun p e he => by
    unfold lstep lfresh
    rw [he]
    simp
  have split : ∀ p e, lstep A num goal L p = some e → L p = some e ∨ (lfresh A goal L p = true ∧ e = ⟨num, goal, (tabs A (someE L) goal p).getD []⟩) := fun p e he => by
    unfold lstep at he
    by_cases f : lfresh A goal L p = true
    · rw [if_pos f] at he
      exact .inr ⟨f, (Option.some.inj he).symm⟩
    · rw [if_neg f] at he
      exact .inl he
  refine ⟨fun p e he => ?_, fun p e hp he => ?_, fun U hU p hp he => ?_⟩
  · rcases split p e he with he | ⟨_, rfl⟩
    · exact Nat.lt_succ_of_lt (h.num p e he)
    · exact Nat.lt_succ_self _
  · rcases split p e he with he | ⟨f, rfl⟩
    · obtain ⟨g1, g2, g3⟩ := h.good p e hp he
      refine ⟨g1, g2, fun i hi => ?_⟩
      obtain ⟨row, hr, g⟩ := g3 i hi
      refine ⟨row, hr, fun m hm => ?_⟩
      obtain ⟨e', h1, h2⟩ := g m hm
      exact ⟨e', grow _ _ h1, h2⟩
    · have ft : tstay A (someE L) goal p = true := by
        unfold lfresh at f
        rw [Bool.and_eq_true] at f
        rw [← tabs_some]; exact f.1
      have et : ∀ q, tstay A (someE L) goal q = true → tabs A (someE L) goal q = some ((List.range A.given).map fun i => (counted A (someE L) (tstay A (someE L) goal) goal i q).getD 0) := fun q z => by
        unfold tabs; rw [if_pos z]
      rw [et p ft]
      refine ⟨hg, by simp, fun i hi => ?_⟩
      have hc := ft
      rw [← tstay_eq ok p hp, tround_iff] at hc
      obtain ⟨v, hv⟩ := Option.isSome_iff_exists.mp (hc i hi)
      have fr := counted_rank ok hv
      obtain ⟨row, hr, g⟩ := forces_iff.mp fr
      refine ⟨row, hr, fun m hm => ?_⟩
      have hl := ok.lt hr hm
      have u := und_iff.mp (g m hm)
      have old : ∀ e', L m.to = some e' → Hurts A (lstep A num goal L) ⟨num, goal, (List.range A.given).map fun i => (counted A (someE L) (tstay A (someE L) goal) goal i p).getD 0⟩ i m := fun e' he' => ⟨e', grow _ _ he', .inl (h.num _ _ he')⟩
      cases eL : L m.to with
      | some e' => exact old e' eL
      | none =>
        rcases u with u | ⟨a, b, c⟩
        · unfold someE at u; rw [eL] at u; cases u
        · have fm : lfresh A goal L m.to = true := by
            unfold lfresh
            rw [tabs_some, b, eL]; rfl
          refine ⟨⟨num, goal, (tabs A (someE L) goal m.to).getD []⟩, by show lstep A num goal L m.to = _; unfold lstep; rw [if_pos fm], .inr ⟨rfl, rfl, a, c.imp id fun c => ?_⟩⟩
          rw [et _ b]
          show ((List.range A.given).map _).getD i 0 < ((List.range A.given).map _).getD i 0
          rw [getD_map_range hi, getD_map_range hi, hv]
          unfold below at c
          cases ec : counted A (someE L) (tstay A (someE L) goal) goal i m.to with
          | none => rw [ec] at c; cases c
          | some w =>
            rw [ec] at c
            exact of_decide_eq_true c
  · obtain ⟨e, he⟩ := Option.isSome_iff_exists.mp he
    rcases split p e he with he | ⟨f, _⟩
    · exact h.low U hU p hp (by show (L p).isSome = true; rw [he]; rfl)
    · have ft : tstay A (someE L) goal p = true := by
        unfold lfresh at f
        rw [Bool.and_eq_true] at f
        rw [← tabs_some]; exact f.1
      refine hU goal hg (tstay A (someE L) goal) (fun i hi C hC q hq z => ?_) p hp ft
      refine tstay_post (E := someE L) ok i hi C (fun r hr z => ?_) q hq z
      exact hC r hr (forces_mono ok (h.low U hU) (fun _ _ z => z) (fun _ _ z => z) z)
theorem LInv.goal (ok : A.Ok) {s : Ens × Nat} (h : LInv A s) {goal : Nat} (hg : goal < A.wanted) : LInv A (lgoal A s goal) := by
  unfold lgoal
  by_cases c : anyF A goal s.1 = true
  · rw [if_pos c]; exact h.step ok hg
  · rw [if_neg c]; exact h
theorem LInv.run (ok : A.Ok) {s : Ens × Nat} (h : LInv A s) : ∀ {j : Nat}, j ≤ A.wanted → LInv A (lrun A s j)
  | 0, _ => h
  | j + 1, hj => (LInv.run ok h (j := j) (by omega)).goal ok (by omega)
theorem LInv.seq (ok : A.Ok) : ∀ k, LInv A (lseq A k)
  | 0 => ⟨fun _ _ h => (by cases h), fun _ _ _ h => (by cases h), fun _ _ _ _ h => (by cases h)⟩
  | k + 1 => (LInv.seq ok k).run ok (Nat.le_refl _)
/-! each sweep that changes anything adds a place -/
theorem lgoal_same {s : Ens × Nat} {goal : Nat} (h : anyF A goal s.1 = false) : lgoal A s goal = s := by
  unfold lgoal
  rw [if_neg (by rw [h]; decide)]
theorem lgoal_le (s : Ens × Nat) (goal : Nat) : ∀ p, (s.1 p).isSome = true → ((lgoal A s goal).1 p).isSome = true := by
  intro p hp
  unfold lgoal
  split
  · show (lstep A s.2 goal s.1 p).isSome = true
    unfold lstep
    split
    · rfl
    · exact hp
  · exact hp
theorem lgoal_grow {s : Ens × Nat} {goal : Nat} (h : anyF A goal s.1 = true) : cnt (someE s.1) A.n < cnt (someE (lgoal A s goal).1) A.n := by
  obtain ⟨p, hp, f⟩ := anyF_iff.mp h
  refine cnt_lt (p := p) (fun q _ z => lgoal_le s goal q z) hp ?_ ?_
  · unfold lfresh at f
    rw [Bool.and_eq_true] at f
    unfold someE
    cases e : s.1 p with
    | none => rfl
    | some v => rw [e] at f; cases f.2
  · show ((lgoal A s goal).1 p).isSome = true
    unfold lgoal
    rw [if_pos h]
    show (lstep A s.2 goal s.1 p).isSome = true
    unfold lstep
    rw [if_pos f]; rfl
theorem lrun_le (s : Ens × Nat) : ∀ j p, (s.1 p).isSome = true → ((lrun A s j).1 p).isSome = true
  | 0, _, h => h
  | j + 1, p, h => lgoal_le _ j p (lrun_le s j p h)
theorem lrun_same {s : Ens × Nat} : ∀ {j : Nat}, (∀ i, i < j → anyF A i s.1 = false) → lrun A s j = s
  | 0, _ => rfl
  | j + 1, h => by
    have e := lrun_same (s := s) (j := j) fun i hi => h i (by omega)
    show lgoal A (lrun A s j) j = s
    rw [e]
    exact lgoal_same (h j (by omega))
theorem lseq_same {k : Nat} (h : ∀ i, i < A.wanted → anyF A i (lseq A k).1 = false) : ∀ m, k ≤ m → lseq A m = lseq A k := by
  intro m hm
  obtain ⟨d, rfl⟩ : ∃ d, m = k + d := ⟨m - k, by omega⟩
  induction d with
  | zero => rfl
  | succ d ih =>
    show lrun A (lseq A (k + d)) A.wanted = _
    rw [ih (by omega)]
    exact lrun_same h
theorem lostM_at {k : Nat} (hk : k ≤ A.n) (h : ∀ i, i < A.wanted → anyF A i (lseq A k).1 = false) : lostM A = (lseq A k).1 := by
  unfold lostM
  rw [lseq_same h _ hk]
/-- where some goal brings anything, the sweep adds -/
theorem lrun_grow {s : Ens × Nat} : ∀ {j i : Nat}, i < j → anyF A i s.1 = true → cnt (someE s.1) A.n < cnt (someE (lrun A s j).1) A.n
  | 0, i, hi, _ => absurd hi (by omega)
  | j + 1, i, hi, h => by
    have up : cnt (someE (lrun A s j).1) A.n ≤ cnt (someE (lrun A s (j + 1)).1) A.n := cnt_mono fun p _ z => lgoal_le _ j p z
    by_cases hij : i < j
    · exact Nat.lt_of_lt_of_le (lrun_grow hij h) up
    · have e : i = j := by omega
      subst e
      by_cases q : ∃ i', i' < i ∧ anyF A i' s.1 = true
      · obtain ⟨i', h1, h2⟩ := q
        exact Nat.lt_of_lt_of_le (lrun_grow h1 h2) up
      · have e : lrun A s i = s := lrun_same fun i' hi' => of_not_true fun z => q ⟨i', hi', z⟩
        show _ < cnt (someE (lgoal A (lrun A s i) i).1) A.n
        rw [e]
        exact lgoal_grow h
theorem lseq_still : ∃ k, k ≤ A.n ∧ ∀ i, i < A.wanted → anyF A i (lseq A k).1 = false := by
  refine Classical.byContradiction fun no => ?_
  have grow : ∀ k, k ≤ A.n + 1 → k ≤ cnt (someE (lseq A k).1) A.n := by
    intro k
    induction k with
    | zero => intro _; exact Nat.zero_le _
    | succ k ih =>
      intro hk
      have h1 := ih (by omega)
      have : ¬ ∀ i, i < A.wanted → anyF A i (lseq A k).1 = false := fun z => no ⟨k, by omega, z⟩
      obtain ⟨i, hi⟩ := Classical.not_forall.mp this
      obtain ⟨hi, hf⟩ := Classical.not_imp.mp hi
      have h2 : cnt (someE (lseq A k).1) A.n < cnt (someE (lseq A (k + 1)).1) A.n := lrun_grow hi (by cases e : anyF A i (lseq A k).1; exact absurd e hf; rfl)
      omega
  have h1 := grow (A.n + 1) (Nat.le_refl _)
  have h2 := cnt_le (someE (lseq A (A.n + 1)).1) A.n
  omega
theorem lostM_isLost (ok : A.Ok) : IsLost A (someE (lostM A)) := by
  refine ⟨fun j hj Y hY p hp hy => ?_, fun U hU p hp h => (LInv.seq ok A.n).low U hU p hp h⟩
  obtain ⟨k, hk, h⟩ := lseq_still (A := A)
  rw [lostM_at hk h] at hY ⊢
  have ht : tstay A (someE (lseq A k).1) j p = true := tstay_great ok hY A.n p hp hy
  have hf := h j hj
  show ((lseq A k).1 p).isSome = true
  cases e : (lseq A k).1 p with
  | some v => rfl
  | none =>
    have : anyF A j (lseq A k).1 = true := anyF_iff.mpr ⟨p, hp, by unfold lfresh; rw [tabs_some, ht, e]; rfl⟩
    rw [hf] at this; cases this
theorem lostM_good (ok : A.Ok) {p : Nat} {e : En} (hp : p < A.n) (h : lostM A p = some e) : Good A (lostM A) e p := (LInv.seq ok A.n).good p e hp h
/-- lost and held part the places -/
theorem lostM_held (ok : A.Ok) {W : Nat → Bool} {R : Nat → Nat → Bool} (h : IsHeld A W R) : ∀ p, p < A.n → (lostM A p).isSome = !W p := lost_held ok h (lostM_isLost ok)
end
end Wk

namespace Wk
open PySem PySem.Spec PyProof.Rows L2
def top (i : Nat) : Stmt := PySem.Challenge.pw_wishkeep_k35_whole_lost_shows.main.body.getD i (.Pass ⟨0, 0, 0, 0⟩)

abbrev iV (n : Nat) : V := .int (n : Int)
/-! ### a def as its callers see it -/
structure Df (P : Program) (w : World) (K : PySem.W.Frag) (mg : Str → Option Value) (base : Heap) (k : Nat) (x : Str) (ps : List Str) (sp : Sp) : Prop where
  ex : ∃ f fd, FnOk P w K mg base CX0 k f fd ps sp ∧ mg x = some (.ref f) ∧ PySem.W.keepIn K (.ref f) = true ∧ Binds K fd ps []
/-- a method of the class at C -/
structure Md (P : Program) (w : World) (K : PySem.W.Frag) (mg : Str → Option Value) (base : Heap) (C : Addr) (k : Nat) (m : Str) (ps : List Str) (sp : Sp) : Prop where
  ex : ∃ f fd, FnOk P w K mg base CX0 k f fd ps sp ∧ Meth K C m f ∧ Binds K fd ps []
/-- a class that is made, by its __init__ -/
structure Kd (P : Program) (w : World) (K : PySem.W.Frag) (mg : Str → Option Value) (base : Heap) (C : Addr) (k : Nat) (x : Str) (ps : List Str) (sp : Sp) : Prop where
  ex : ∃ f fd, Mk K C f ∧ FnOk P w K mg base CX0 k f fd ps sp ∧ mg x = some (.ref C) ∧ Binds K fd ps []
section
variable {X : Cx} {j k : Nat} {C : Addr} {ps : List Str} {sp : Sp} {x m : Str} {p pos apos : Pos} {e o : Expr} {es : List Expr} {ta : TE} {t : TA} {n : Int}
theorem pe_callD (D : Df X.prog X.w X.K X.mg X.base j x ps sp) (hr : Room k X.A) (hg : Gl X x) (ha : PA X (e :: es) t) (hle : j ≤ k := by decide) (hdb : (x == ("__debug__" : Str)) = false := by decide)
    (he : starEach (e :: es) X.env = (false, eval e X.env) :: starEach es X.env := by rfl) (hpl : (backTo pos (starEach es X.env)).any (·.1) = false := by rfl) :
    PE X (.Call (.Name x p) (e :: es) [] pos) (tCall sp [] E0 t) := by
  obtain ⟨f, fd, F, hm, hk, hb⟩ := D.ex
  exact pe_call F (hr.mono hle) hg hm hk hb .nil pass0 ha hdb he hpl
theorem pe_methD {pl : Sem Bool} (he : PE X o ta) (c : Cls X.K C) (D : Md X.prog X.w X.K X.mg X.base C j m ps sp) (hr : Room k X.A) (ha : PA X (e :: es) t) (hle : j ≤ k := by decide)
    (hst : starEach (e :: es) X.env = (false, eval e X.env) :: starEach es X.env := by rfl) (hpl : (backTo pos (starEach es X.env)).any (·.1) = false := by rfl)
    (ht : eval (.Call (.Attribute o m apos) (e :: es) [] pos) X.env = (do
      let ov ← eval o X.env
      standAt apos.atName
      let (f, first) ← holding [ov] (getMethod ov m pl)
      callWith pos f first (backTo pos (starEach (e :: es) X.env)) (backToKw pos (keywordEach [] X.env))) := by rfl) :
    PE X (.Call (.Attribute o m apos) (e :: es) [] pos) (tMeth C m sp [] E0 ta t) := by
  obtain ⟨f, fd, F, hm, hb⟩ := D.ex
  exact pe_meth he c hm F (hr.mono hle) hb .nil pass0 ha hst hpl ht
theorem pe_methD0 {pl : Sem Bool} (he : PE X o ta) (c : Cls X.K C) (D : Md X.prog X.w X.K X.mg X.base C j m ps sp) (hr : Room k X.A) (hle : j ≤ k := by decide)
    (ht : eval (.Call (.Attribute o m apos) [] [] pos) X.env = (do
      let ov ← eval o X.env
      standAt apos.atName
      let (f, first) ← holding [ov] (getMethod ov m pl)
      callWith pos f first (backTo pos (starEach [] X.env)) (backToKw pos (keywordEach [] X.env))) := by rfl) :
    PE X (.Call (.Attribute o m apos) [] [] pos) (tMeth C m sp [] E0 ta tNil) := by
  obtain ⟨f, fd, F, hm, hb⟩ := D.ex
  exact pe_meth0 he c hm F (hr.mono hle) hb .nil pass0 ht
theorem pe_makeD (D : Kd X.prog X.w X.K X.mg X.base C j x ps sp) (hr : Room k X.A) (hg : Gl X x) (ha : PA X (e :: es) t) (hle : j + 1 ≤ k := by decide) (hdb : (x == ("__debug__" : Str)) = false := by decide)
    (he : starEach (e :: es) X.env = (false, eval e X.env) :: starEach es X.env := by rfl) (hpl : (backTo pos (starEach es X.env)).any (·.1) = false := by rfl) :
    PE X (.Call (.Name x p) (e :: es) [] pos) (tMake C sp [] E0 t) := by
  obtain ⟨f, fd, M, F, hm, hb⟩ := D.ex
  exact pe_make M F (hr.mono hle) hg hm hb .nil pass0 ha hdb he hpl
theorem pe_globI (hg : Gl X x) (hm : ∃ t, X.mg x = some (.int n t)) (hd : (x == ("__debug__" : Str)) = false := by decide) : PE X (.Name x pos) (tC (.int n)) := by
  obtain ⟨t, hm⟩ := hm
  exact pe_glob hg hm ⟨t, rfl⟩ hd
end
/-! ### rules whose readings do not name the written part (they stand under a comprehension's binders) -/
section
variable {X : Cx} {p p2 pos : Pos} {e tg : Expr} {ta : TE} {K : PySem.W.Frag} {C : Addr} {f : Str}
def rIxT' : R2 := fun x y H Q => ∃ p xs i v, x = .ref p ∧ y = .int i ∧ H p = some (.tup xs) ∧ atI xs i = some v ∧ Q v H
theorem ixT : IxR X rIxT' := by
  intro value slice pins s σ H x y v u Q I rx ry h hs
  obtain ⟨p, xs, i, z, rfl, rfl, hp, ha, q⟩ := h
  exact ix_tup value slice pins s σ H _ _ v u Q I rx ry ⟨p, xs, i, z, rfl, rfl, SqT.of hp, ha, q⟩ hs
def rIxL' : R2 := fun x y H Q => ∃ p xs i v, x = .ref p ∧ y = .int i ∧ H p = some (.lst xs) ∧ atI xs i = some v ∧ Q v H
theorem ixL : IxR X rIxL' := by
  intro value slice pins s σ H x y v u Q I rx ry h hs
  obtain ⟨p, xs, i, z, rfl, rfl, hp, ha, q⟩ := h
  exact ix_list value slice pins s σ H _ _ v u Q I rx ry ⟨p, xs, i, z, rfl, rfl, SqL.of hp, ha, q⟩ hs
def rBls (g : List Bool → Bool) : List V → Hp → VK → Prop := fun vs H Q => ∃ (a : Addr) (bs : List Bool), vs = [V.ref a] ∧ H a = some (.lst (bs.map V.bl)) ∧ Q (.bl (g bs)) H
theorem pe_all (hm : X.mg "all" = none) (ha : PE X e ta) (hc : X.calm = true := by rfl) (hg : Gl X "all" := by rfl) (he : starEach [e] X.env = (false, eval e X.env) :: starEach [] X.env := by rfl)
    (hpl : (backTo pos (starEach [] X.env)).any (·.1) = false := by rfl) : PE X (.Call (.Name "all" p) [e] [] pos) (tCB (rBls fun bs => bs.all id) (tCons ta tNil)) :=
  pe_callB (fun pins s σ H xs us Q I r ⟨a, bs, e1, e2, e3⟩ => cr_all hc pins s σ H xs us Q I r ⟨a, bs, e1, SqL.of e2, e3⟩) hg hm (by decide +kernel) (pa_cons ha pa_nil he) (by decide) (by decide) he hpl
theorem pe_any (hm : X.mg "any" = none) (ha : PE X e ta) (hc : X.calm = true := by rfl) (hg : Gl X "any" := by rfl) (he : starEach [e] X.env = (false, eval e X.env) :: starEach [] X.env := by rfl)
    (hpl : (backTo pos (starEach [] X.env)).any (·.1) = false := by rfl) : PE X (.Call (.Name "any" p) [e] [] pos) (tCB (rBls fun bs => bs.any id) (tCons ta tNil)) :=
  pe_callB (fun pins s σ H xs us Q I r ⟨a, bs, e1, e2, e3⟩ => cr_any hc pins s σ H xs us Q I r ⟨a, bs, e1, SqL.of e2, e3⟩) hg hm (by decide +kernel) (pa_cons ha pa_nil he) (by decide) (by decide) he hpl
def rLen : List V → Hp → VK → Prop := fun xs H Q => ∃ p ys, xs = [.ref p] ∧ (H p = some (.lst ys) ∨ H p = some (.tup ys)) ∧ Q (iV ys.length) H
theorem call_lenF : CallR X (.builtin "len") rLen := fun pins s σ H xs us Q I r ⟨a, bs, e1, e2, e3⟩ => call_len_seq pins s σ H xs us Q I r ⟨a, bs, e1, e2.imp SqL.of SqT.of, e3⟩
def rTupl : List V → Hp → VK → Prop := fun xs H Q => ∃ p ys, xs = [.ref p] ∧ H p = some (.lst ys) ∧ ∀ l, H l = none → Q (.ref l) (upd H l (.tup ys))
theorem call_tupF : CallR X (.type "tuple") rTupl := fun pins s σ H xs us Q I r ⟨a, bs, e1, e2, e3⟩ => call_tuple_of pins s σ H xs us Q I r ⟨a, bs, e1, .inl ⟨SqL.of e2, e3⟩⟩
def rInT (neg : Bool) : R2 := fun x y H Q => ∃ p xs, y = .ref p ∧ H p = some (.tup xs) ∧ flatV x = true ∧ xs.all flatV = true ∧ Q (.bl (if neg then !inV x xs else inV x xs)) H
theorem op_inT : OpR X (compareOp .In) (rInT false) := fun pins s σ H x y v u Q I rx ry ⟨p, xs, e1, e2, e3, e4, e5⟩ => op_in_seq pins s σ H x y v u Q I rx ry ⟨p, xs, e1, .inr (SqT.of e2), e3, e4, e5⟩
theorem op_notInT : OpR X (compareOp .NotIn) (rInT true) := fun pins s σ H x y v u Q I rx ry ⟨p, xs, e1, e2, e3, e4, e5⟩ => op_notIn_seq pins s σ H x y v u Q I rx ry ⟨p, xs, e1, .inr (SqT.of e2), e3, e4, e5⟩
theorem pi_tupK (hl : PE X e ta) (hK : X.K = K := by rfl) : PI X tg e (iTup K ta) := by
  subst hK
  exact pi_tup hl
theorem pi_listK (hl : PE X e ta) (hK : X.K = K := by rfl) : PI X tg e (iList K ta) := by
  subst hK
  exact pi_list hl
def tFldF (C : Addr) (ta : TE) (f : Str) : TE := fun σ H Q => ta σ H fun x H1 => ∃ a dx fs v, x = .ref a ∧ H1 a = some (.ins C dx fs) ∧ fs.lookup f = some v ∧ Q v H1
theorem pe_fldF (c : Cls X.K C) (n : NoAttr X.K C f) (he : PE X e ta) (hb : attributeBase e f X.env (eval e X.env) = eval e X.env) : PE X (.Attribute e f pos) (tFldF C ta f) := by
  refine ⟨fun pins s σ H Q I h => ?_⟩
  refine attr_of hb (thn (he.run pins s σ H (fun x H1 => ∃ a dx fs v, x = .ref a ∧ H1 a = some (.ins C dx fs) ∧ fs.lookup f = some v ∧ Q v H1) I h) fun u s1 ⟨x, H1, I1, rx, a, dx, fs, v, ex, ea, l, q⟩ => ?_)
  subst ex
  obtain rfl : u = Value.ref a := rx
  exact getattr_ok I1 ea c n l fun u' s2 I2 ru => ⟨v, H1, I2, ru, q⟩
end
/-- what the top has written: no name of its own hides a built-in's; its constants; its classes -/
structure Txt (K : PySem.W.Frag) (mg : Str → Option Value) (Ch Cf : Addr) : Prop where
  isinstance : mg "isinstance" = none
  int : mg "int" = none
  bool : mg "bool" = none
  tuple : mg "tuple" = none
  list : mg "list" = none
  len : mg "len" = none
  all : mg "all" = none
  any : mg "any" = none
  range : mg "range" = none
  max : mg "max" = none
  min : mg "min" = none
  zip : mg "zip" = none
  enumerate : mg "enumerate" = none
  repr : mg "repr" = none
  cMOST_PLACES : ∃ t, mg "MOST_PLACES" = some (.int 120 t)
  cMOST_GOALS : ∃ t, mg "MOST_GOALS" = some (.int 8 t)
  cMOST_LETTERS : ∃ t, mg "MOST_LETTERS" = some (.int 8 t)
  cMOST_TIMES : ∃ t, mg "MOST_TIMES" = some (.int 200 t)
  clHope : Cls K Ch
  clFear : Cls K Cf
  hMoves : NoAttr K Ch "moves"
  hGiven : NoAttr K Ch "given"
  hGoal : NoAttr K Ch "goal"
  hHopes : NoAttr K Ch "hopes"
  hSteps : NoAttr K Ch "steps"
  fMoves : NoAttr K Cf "moves"
  fGiven : NoAttr K Cf "given"
  fEntries : NoAttr K Cf "entries"

/-! ### heaps -/
theorem same_upd {H : Hp} {p : Addr} {o : HO} (h : H p = none) : Same H (upd H p o) := fun b x e => by
  rw [upd_ne (ne_of_none e h)]
  exact e
/-- a new list, written -/
theorem same_new {H0 H : Hp} {p : Addr} {o : HO} (s : Same H0 H) (h : H0 p = none) : Same H0 (upd H p o) := fun b x e => by
  rw [upd_ne (ne_of_none e h)]
  exact s b x e
/-- all tuples stand -/
def TKeep (H H' : Hp) : Prop := ∀ b xs, H b = some (.tup xs) → H' b = some (.tup xs)
theorem TKeep.of {H H' : Hp} (s : Same H H') : TKeep H H' := fun b xs e => s b _ e
theorem TKeep.trans {H H1 H2 : Hp} (a : TKeep H H1) (b : TKeep H1 H2) : TKeep H H2 := fun c xs e => b c xs (a c xs e)
theorem TKeep.upd {H : Hp} {p : Addr} {ys : List V} {o : HO} (h : H p = some (.lst ys)) : TKeep H (L2.upd H p o) := fun b xs e => by
  rw [upd_ne (ne_of e h (by intro z; cases z))]
  exact e

/-- all but what stands at a -/
def KeepBut (a : Addr) (H H' : Hp) : Prop := ∀ b o, b ≠ a → H b = some o → H' b = some o
theorem KeepBut.of {a : Addr} {H H' : Hp} (s : Same H H') : KeepBut a H H' := fun b o _ e => s b o e
theorem KeepBut.trans {a : Addr} {H H1 H2 : Hp} (x : KeepBut a H H1) (y : KeepBut a H1 H2) : KeepBut a H H2 := fun b o n e => y b o n (x b o n e)
theorem KeepBut.upd {a : Addr} {H H' : Hp} {o : HO} (x : KeepBut a H H') : KeepBut a H (L2.upd H' a o) := fun b u n e => by
  rw [upd_ne n]
  exact x b u n e
theorem KeepBut.new {a p : Addr} {H H' : Hp} {o : HO} (x : KeepBut a H H') (h : H p = none) : KeepBut a H (L2.upd H' p o) := fun b u n e => by
  rw [upd_ne (ne_of_none e h)]
  exact x b u n e
theorem KeepBut.tkeep {a : Addr} {H H' : Hp} {xs : List V} (x : KeepBut a H H') (h : H a = some (.lst xs)) : TKeep H H' := fun b ys e => x b _ (ne_of e h (by intro z; cases z)) e
/-! ### data -/
def TupI (H : Hp) (v : V) (ns : List Nat) : Prop := ∃ p, v = .ref p ∧ H p = some (.tup (ns.map iV))
def IsMv (H : Hp) (v : V) (m : Mv) : Prop := ∃ p v1 v2, v = .ref p ∧ H p = some (.tup [iV m.to, v1, v2]) ∧ TupI H v1 m.met ∧ TupI H v2 m.mw
def TupOf {α : Type} (R : Hp → V → α → Prop) (H : Hp) (v : V) (xs : List α) : Prop := ∃ p vs, v = .ref p ∧ H p = some (.tup vs) ∧ Paired (R H) vs xs
abbrev IsRow : Hp → V → Row → Prop := TupOf IsMv
abbrev IsPl : Hp → V → Place → Prop := TupOf IsRow
abbrev IsPls : Hp → V → List Place → Prop := TupOf IsPl
def IsAr (H : Hp) (v : V) (A : Ar) : Prop := ∃ p m, v = .ref p ∧ H p = some (.tup [m, iV A.given, iV A.wanted]) ∧ IsPls H m A.pl
theorem TupI.keep {H H' : Hp} {v : V} {ns : List Nat} (h : TupI H v ns) (k : TKeep H H') : TupI H' v ns := let ⟨p, e, h⟩ := h; ⟨p, e, k _ _ h⟩
theorem IsMv.keep {H H' : Hp} (k : TKeep H H') {v : V} {m : Mv} (h : IsMv H v m) : IsMv H' v m := let ⟨p, v1, v2, e, h, h1, h2⟩ := h; ⟨p, v1, v2, e, k _ _ h, h1.keep k, h2.keep k⟩
theorem TupOf.keep {α : Type} {R : Hp → V → α → Prop} {H H' : Hp} (k : TKeep H H') (hR : ∀ v x, R H v x → R H' v x) {v : V} {xs : List α} (h : TupOf R H v xs) : TupOf R H' v xs :=
  let ⟨p, vs, e, h, r⟩ := h; ⟨p, vs, e, k _ _ h, Paired.mapP r hR⟩
theorem IsRow.keep {H H' : Hp} (k : TKeep H H') {v : V} {r : Row} (h : IsRow H v r) : IsRow H' v r := TupOf.keep k (fun _ _ => IsMv.keep k) h
theorem IsPl.keep {H H' : Hp} (k : TKeep H H') {v : V} {r : Place} (h : IsPl H v r) : IsPl H' v r := TupOf.keep k (fun _ _ => IsRow.keep k) h
theorem IsPls.keep {H H' : Hp} (k : TKeep H H') {v : V} {r : List Place} (h : IsPls H v r) : IsPls H' v r := TupOf.keep k (fun _ _ => IsPl.keep k) h
theorem IsAr.keep {H H' : Hp} (k : TKeep H H') {v : V} {A : Ar} (h : IsAr H v A) : IsAr H' v A := let ⟨p, m, e, h, h1⟩ := h; ⟨p, m, e, k _ _ h, IsPls.keep k h1⟩
theorem map_get {α : Type} {f : α → V} {xs : List α} {i : Nat} {x : V} (hx : (xs.map f)[i]? = some x) : ∃ n, xs[i]? = some n ∧ x = f n := by
  rw [List.getElem?_map] at hx
  cases e : xs[i]? with
  | none => rw [e] at hx; cases hx
  | some n => rw [e] at hx; exact ⟨n, rfl, (Option.some.inj hx).symm⟩
theorem ite_case {c : Bool} {A B : Prop} (h1 : c = true → A) (h2 : c = false → B) : if c = true then A else B := by
  cases c with
  | true => exact iteT (h1 rfl)
  | false => exact iteF (h2 rfl)
theorem ite_not {A B : Prop} {c : Bool} (h1 : c = true → A) (h2 : c = false → B) : if (!c) = true then B else A := by
  cases c with
  | true => exact iteF (h1 rfl)
  | false => exact iteT (h2 rfl)
theorem tor {t u : TT} {σ : L2.St} {H : Hp} {R : Bool → Hp → Prop} (a b : Bool) (ha : ∀ R' : Bool → Hp → Prop, R' a H → t σ H R') (hb : a = false → ∀ R' : Bool → Hp → Prop, R' b H → u σ H R') (h : R (a || b) H) : tOr t u σ H R := by
  refine ha _ (ite_case (fun e => ?_) fun e => hb e R ?_)
  · rw [e] at h; exact h
  · rw [e, Bool.false_or] at h; exact h
theorem tand {t u : TT} {σ : L2.St} {H : Hp} {R : Bool → Hp → Prop} (a b : Bool) (ha : ∀ R' : Bool → Hp → Prop, R' a H → t σ H R') (hb : a = true → ∀ R' : Bool → Hp → Prop, R' b H → u σ H R') (h : R (a && b) H) : tAnd t u σ H R := by
  refine ha _ (ite_case (fun e => hb e R ?_) fun e => ?_)
  · rw [e, Bool.true_and] at h; exact h
  · rw [e, Bool.false_and] at h; exact h
theorem tif {t : TT} {ta tb : TE} {σ : L2.St} {H : Hp} {Q : VK} (c : Bool) (x y : V) (ht : ∀ R' : Bool → Hp → Prop, R' c H → t σ H R') (ha : c = true → ∀ Q' : VK, Q' x H → ta σ H Q') (hb : c = false → ∀ Q' : VK, Q' y H → tb σ H Q') (h : Q (if c = true then x else y) H) : tIf t ta tb σ H Q := by
  refine ht _ (ite_case (fun e => ha e Q ?_) fun e => hb e Q ?_)
  · rw [e] at h; exact h
  · rw [e] at h; exact h
theorem tcons_to {ta : TE} {tr : TA} {σ : L2.St} {H : Hp} {Q : List V → Hp → Prop} (h : ta σ H fun x H1 => tr σ H1 fun xs H2 => Q (x :: xs) H2) : tCons ta tr σ H Q := h
theorem torV {t u : TE} {σ : L2.St} {H : Hp} {Q : VK} (a b : Bool) (ha : ∀ R' : VK, R' (.bl a) H → t σ H R') (hb : a = false → ∀ R' : VK, R' (.bl b) H → u σ H R') (h : Q (.bl (a || b)) H) : tOrV t u σ H Q := by
  refine ha _ ⟨a, rfl, ite_case (fun e => ?_) fun e => hb e Q ?_⟩
  · rw [e] at h; exact h
  · rw [e, Bool.false_or] at h; exact h
theorem tandV {t u : TE} {σ : L2.St} {H : Hp} {Q : VK} (a b : Bool) (ha : ∀ R' : VK, R' (.bl a) H → t σ H R') (hb : a = true → ∀ R' : VK, R' (.bl b) H → u σ H R') (h : Q (.bl (a && b)) H) : tAndV t u σ H Q := by
  refine ha _ ⟨a, rfl, ite_case (fun e => hb e Q ?_) fun e => ?_⟩
  · rw [e, Bool.true_and] at h; exact h
  · rw [e, Bool.false_and] at h; exact h
theorem bl_to {Q : VK} {H : Hp} {b c : Bool} (e : b = c) (h : Q (.bl c) H) : Q (.bl b) H := by rw [e]; exact h
theorem any_bl {α : Type} (g : α → Bool) (xs : List α) : (xs.map g).any id = xs.any g := by rw [List.any_map]; rfl
theorem all_bl {α : Type} (g : α → Bool) (xs : List α) : (xs.map g).all id = xs.all g := by rw [List.all_map]; rfl
theorem mapb_get {α : Type} {xs : List α} {g : α → Bool} {i : Nat} {b : Bool} {x : α} (hb : (xs.map g)[i]? = some b) (hx : xs[i]? = some x) : b = g x := by
  rw [List.getElem?_map, hx] at hb
  exact (Option.some.inj hb).symm
theorem const_get {α : Type} {xs : List α} {i : Nat} {b : Bool} (hb : (xs.map fun _ => true)[i]? = some b) : b = true := by
  rw [List.getElem?_map] at hb
  cases e : xs[i]? with
  | none => rw [e] at hb; cases hb
  | some n => rw [e] at hb; exact (Option.some.inj hb).symm
theorem const_all {α : Type} (xs : List α) : (xs.map fun _ => true).all id = true := by
  rw [List.all_map, List.all_eq_true]
  intro _ _; rfl
section
variable {α β : Type} {F : α → β → Prop}
theorem paired_len : ∀ {xs : List α} {ys : List β}, Paired F xs ys → xs.length = ys.length
  | _, _, .nil => rfl
  | _, _, .cons _ t => by rw [List.length_cons, List.length_cons, paired_len t]
theorem paired_l : ∀ {xs : List α} {ys : List β} {i : Nat} {x : α}, Paired F xs ys → xs[i]? = some x → ∃ y, ys[i]? = some y ∧ F x y
  | _, _, _, _, .nil, e => by simp at e
  | _, _, 0, _, .cons r _, e => by simp at e; subst e; exact ⟨_, rfl, r⟩
  | _, _, i + 1, x, .cons _ t, e => by
    obtain ⟨y, h1, h2⟩ := paired_l (i := i) (x := x) t (by simpa using e)
    exact ⟨y, by simpa using h1, h2⟩
theorem paired_r : ∀ {xs : List α} {ys : List β} {i : Nat} {y : β}, Paired F xs ys → ys[i]? = some y → ∃ x, xs[i]? = some x ∧ F x y
  | _, _, _, _, .nil, e => by simp at e
  | _, _, 0, _, .cons r _, e => by simp at e; subst e; exact ⟨_, rfl, r⟩
  | _, _, i + 1, x, .cons _ t, e => by
    obtain ⟨y, h1, h2⟩ := paired_r (i := i) (y := x) t (by simpa using e)
    exact ⟨y, by simpa using h1, h2⟩
end

/-! ### comprehensions -/
theorem yes_keep {σ : L2.St} {H : Hp} {A B : Hp → Prop} (h : A H) : tYes σ H fun b H3 => if b = true then A H3 else B H3 := iteT (A := A H) (B := B H) h
theorem wipe1 (σ : L2.St) (k : Nat) : wipe σ [k] = σ.set k none := rfl
theorem wipe1_set (σ : L2.St) (k : Nat) (v : V) : wipe ((wipe σ [k]).set k (some v)) [k] = wipe σ [k] := by
  rw [wipe1, wipe1, List.set_set, List.set_set]
theorem take_bls {bs : List Bool} {i : Nat} {b : Bool} (h : bs[i]? = some b) : ((bs.take i).map V.bl) ++ [V.bl b] = (bs.take (i + 1)).map V.bl := by
  rw [List.take_add_one, h, List.map_append]
  rfl
section
variable {K : PySem.W.Frag} {te : TE} {k : Nat} {σ : L2.St} {H1 : Hp} {D : Addr} {Qd : Hp → Prop}
/-- [.. for x in t]: truths, the heap only grows -/
theorem lc_tupB {a : Addr} {xs : List V} (bs : List Bool) (hD : H1 D = none) (ha : H1 a = some (.tup xs)) (hl : bs.length = xs.length) (hz : xs.length < sizeLine)
    (hs : ∀ (i : Nat) (x : V) (b : Bool) (H : Hp) (Q' : VK), xs[i]? = some x → bs[i]? = some b → Same H1 H → (∀ H4, Same H H4 → Q' (.bl b) H4) → te ((wipe σ [k]).set k (some x)) H Q')
    (hd : ∀ H, Same H1 H → H D = some (.lst (bs.map V.bl)) → Qd H) :
    ∃ W : Nat → Nat → Hp → Prop, (∃ m, W 0 m (upd H1 D (.lst []))) ∧ ∀ i m H, W i m H →
      ((Itt K a).stop i H ∧ Qd H) ∨ ((Itt K a).go i H ∧ ∃ Nx : Hp → Prop, (∀ H', Nx H' → ∃ m', m' < m ∧ W (i + 1) m' H') ∧ ∀ x H', (Itt K a).yld i H x H' → gName k x (wipe σ [k]) H' fun σ2 H2 => wipe σ2 [k] = wipe σ [k] ∧ tYes σ2 H2 fun b H3 =>
        if b = true then te σ2 H3 fun y H4 => ∃ acc, H4 D = some (.lst acc) ∧ acc.length < sizeLine ∧ Nx (upd H4 D (.lst (acc ++ [y]))) else Nx H3) := by
  refine lc_tup (K := K) (a := a) (xs := xs) (fun i H => Same H1 H ∧ H D = some (.lst ((bs.take i).map V.bl))) ⟨same_upd hD, by rw [upd_same]; rfl⟩ (fun i H _ h => SqT.of (h.1 _ _ ha)) (fun i x H hx h => ?_) fun H h => hd H h.1 (by rw [h.2, List.take_of_length_le (by omega)])
  have hi : i < xs.length := (List.getElem?_eq_some_iff.mp hx).1
  obtain ⟨b, hb⟩ : ∃ b, bs[i]? = some b := ⟨bs[i], List.getElem?_eq_getElem (by omega)⟩
  refine ⟨wipe1_set _ _ _, ?_⟩
  refine yes_keep (hs i x b H _ hx hb h.1 fun H4 s4 => ?_)
  refine ⟨_, s4 _ _ h.2, by rw [List.length_map, List.length_take]; omega, same_new (h.1.trans s4) hD, ?_⟩
  rw [upd_same, take_bls hb]
/-- [.. for x in l], l a list: of each a value told ahead -/
theorem lc_listV {a : Addr} {xs : List V} (zs : List V) (hD : H1 D = none) (ha : H1 a = some (.lst xs)) (hl : zs.length = xs.length) (hz : xs.length < sizeLine)
    (hs : ∀ (i : Nat) (x z : V) (H : Hp) (Q' : VK), xs[i]? = some x → zs[i]? = some z → Same H1 H → (∀ H4, Same H H4 → Q' z H4) → te ((wipe σ [k]).set k (some x)) H Q')
    (hd : ∀ H, Same H1 H → H D = some (.lst zs) → Qd H) :
    ∃ W : Nat → Nat → Hp → Prop, (∃ m, W 0 m (upd H1 D (.lst []))) ∧ ∀ i m H, W i m H →
      ((Itl K a).stop i H ∧ Qd H) ∨ ((Itl K a).go i H ∧ ∃ Nx : Hp → Prop, (∀ H', Nx H' → ∃ m', m' < m ∧ W (i + 1) m' H') ∧ ∀ x H', (Itl K a).yld i H x H' → gName k x (wipe σ [k]) H' fun σ2 H2 => wipe σ2 [k] = wipe σ [k] ∧ tYes σ2 H2 fun b H3 =>
        if b = true then te σ2 H3 fun y H4 => ∃ acc, H4 D = some (.lst acc) ∧ acc.length < sizeLine ∧ Nx (upd H4 D (.lst (acc ++ [y]))) else Nx H3) := by
  refine lc_list (K := K) (a := a) (xs := xs) (fun i H => Same H1 H ∧ H D = some (.lst (zs.take i))) ⟨same_upd hD, by rw [upd_same]; rfl⟩ (fun i H _ h => SqL.of (h.1 _ _ ha)) (fun i x H hx h => ?_) fun H h => hd H h.1 (by rw [h.2, List.take_of_length_le (by omega)])
  have hi : i < xs.length := (List.getElem?_eq_some_iff.mp hx).1
  obtain ⟨z, hzi⟩ : ∃ z, zs[i]? = some z := ⟨zs[i], List.getElem?_eq_getElem (by omega)⟩
  refine ⟨wipe1_set _ _ _, ?_⟩
  refine yes_keep (hs i x z H _ hx hzi h.1 fun H4 s4 => ?_)
  refine ⟨_, s4 _ _ h.2, by rw [List.length_take]; omega, same_new (h.1.trans s4) hD, ?_⟩
  rw [upd_same, List.take_add_one, hzi]
  rfl
/-- [.. for k in range(n)]: truths -/
theorem lc_rangeB {n : Nat} (bs : List Bool) (hD : H1 D = none) (hl : bs.length = n) (hz : n < sizeLine)
    (hs : ∀ (i : Nat) (b : Bool) (H : Hp) (Q' : VK), i < n → bs[i]? = some b → Same H1 H → (∀ H4, Same H H4 → Q' (.bl b) H4) → te ((wipe σ [k]).set k (some (iV i))) H Q')
    (hd : ∀ H, Same H1 H → H D = some (.lst (bs.map V.bl)) → Qd H) :
    ∃ W : Nat → Nat → Hp → Prop, (∃ m, W 0 m (upd H1 D (.lst []))) ∧ ∀ i m H, W i m H →
      ((Itr 0 n).stop i H ∧ Qd H) ∨ ((Itr 0 n).go i H ∧ ∃ Nx : Hp → Prop, (∀ H', Nx H' → ∃ m', m' < m ∧ W (i + 1) m' H') ∧ ∀ x H', (Itr 0 n).yld i H x H' → gName k x (wipe σ [k]) H' fun σ2 H2 => wipe σ2 [k] = wipe σ [k] ∧ tYes σ2 H2 fun b H3 =>
        if b = true then te σ2 H3 fun y H4 => ∃ acc, H4 D = some (.lst acc) ∧ acc.length < sizeLine ∧ Nx (upd H4 D (.lst (acc ++ [y]))) else Nx H3) := by
  refine lc_range (lo := 0) (n := n) (fun i H => Same H1 H ∧ H D = some (.lst ((bs.take i).map V.bl))) ⟨same_upd hD, by rw [upd_same]; rfl⟩ (fun i H hi h => ?_) fun H h => hd H h.1 (by rw [h.2, List.take_of_length_le (by omega)])
  obtain ⟨b, hb⟩ : ∃ b, bs[i]? = some b := ⟨bs[i], List.getElem?_eq_getElem (by omega)⟩
  refine ⟨wipe1_set _ _ _, ?_⟩
  refine yes_keep ?_
  have e0 : (0 : Int) + (i : Int) = (i : Int) := by omega
  rw [e0]
  refine hs i b H _ hi hb h.1 fun H4 s4 => ?_
  refine ⟨_, s4 _ _ h.2, by rw [List.length_map, List.length_take]; omega, same_new (h.1.trans s4) hD, ?_⟩
  rw [upd_same, take_bls hb]
/-- [.. for k in range(n)]: of each a value with a property that lasts -/
theorem lc_rangeG {n : Nat} (Rp : Nat → V → Hp → Prop) (mono : ∀ i v H H' acc, KeepBut D H H' → H D = some (.lst acc) → Rp i v H → Rp i v H') (hD : H1 D = none) (hz : n < sizeLine)
    (hs : ∀ (i : Nat) (H : Hp) (Q' : VK), i < n → Same H1 H → (∃ acc, H D = some (.lst acc)) → (∀ y H4, Same H H4 → Rp i y H4 → Q' y H4) → te ((wipe σ [k]).set k (some (iV i))) H Q')
    (hd : ∀ (H : Hp) (ys : List V), Same H1 H → ys.length = n → H D = some (.lst ys) → (∀ i, i < n → ∃ y, ys[i]? = some y ∧ Rp i y H) → Qd H) :
    ∃ W : Nat → Nat → Hp → Prop, (∃ m, W 0 m (upd H1 D (.lst []))) ∧ ∀ i m H, W i m H →
      ((Itr 0 n).stop i H ∧ Qd H) ∨ ((Itr 0 n).go i H ∧ ∃ Nx : Hp → Prop, (∀ H', Nx H' → ∃ m', m' < m ∧ W (i + 1) m' H') ∧ ∀ x H', (Itr 0 n).yld i H x H' → gName k x (wipe σ [k]) H' fun σ2 H2 => wipe σ2 [k] = wipe σ [k] ∧ tYes σ2 H2 fun b H3 =>
        if b = true then te σ2 H3 fun y H4 => ∃ acc, H4 D = some (.lst acc) ∧ acc.length < sizeLine ∧ Nx (upd H4 D (.lst (acc ++ [y]))) else Nx H3) := by
  refine lc_range (lo := 0) (n := n) (fun i H => Same H1 H ∧ ∃ ys : List V, H D = some (.lst ys) ∧ ys.length = i ∧ ∀ j, j < i → ∃ y, ys[j]? = some y ∧ Rp j y H)
    ⟨same_upd hD, [], upd_same, rfl, fun j hj => absurd hj (by omega)⟩ (fun i H hi h => ?_) fun H h => ?_
  · obtain ⟨s1, ys, hy, hl, ps⟩ := h
    refine ⟨wipe1_set _ _ _, ?_⟩
    refine yes_keep ?_
    have e0 : (0 : Int) + (i : Int) = (i : Int) := by omega
    rw [e0]
    refine hs i H _ hi s1 ⟨ys, hy⟩ fun y H4 s4 r => ?_
    refine ⟨ys, s4 _ _ hy, by omega, same_new (s1.trans s4) hD, ys ++ [y], upd_same, by rw [List.length_append, List.length_singleton, hl], fun j hj => ?_⟩
    have kb : KeepBut D H4 (upd H4 D (.lst (ys ++ [y]))) := KeepBut.upd (.of (Same.refl _))
    by_cases e : j = i
    · subst e
      exact ⟨y, by rw [List.getElem?_append_right (by omega), hl, Nat.sub_self]; rfl, mono _ _ _ _ _ kb (s4 _ _ hy) r⟩
    · obtain ⟨z, h1, h2⟩ := ps j (by omega)
      exact ⟨z, by rw [List.getElem?_append_left (by omega)]; exact h1, mono _ _ _ _ _ kb (s4 _ _ hy) (mono _ _ _ _ _ (.of s4) hy h2)⟩
  · obtain ⟨s1, ys, hy, hl, ps⟩ := h
    exact hd H ys s1 hl hy ps
theorem filter_range_succ (f : Nat → Bool) (i : Nat) : (List.range (i + 1)).filter f = if f i = true then (List.range i).filter f ++ [i] else (List.range i).filter f := by
  rw [List.range_succ, List.filter_append]
  by_cases h : f i = true
  · rw [if_pos h, List.filter_cons_of_pos h, List.filter_nil]
  · rw [if_neg h, List.filter_cons_of_neg h, List.filter_nil, List.append_nil]
/-- [k for k in range(n) if ..] -/
theorem lc_rangeF {n : Nat} {tt : TT} (f : Nat → Bool) (hk : k < σ.length) (hD : H1 D = none) (hz : n < sizeLine)
    (ht : ∀ (i : Nat) (H : Hp) (R' : Bool → Hp → Prop), i < n → Same H1 H → R' (f i) H → tt ((wipe σ [k]).set k (some (iV i))) H R')
    (hd : ∀ H, Same H1 H → H D = some (.lst (((List.range n).filter f).map iV)) → Qd H) :
    ∃ W : Nat → Nat → Hp → Prop, (∃ m, W 0 m (upd H1 D (.lst []))) ∧ ∀ i m H, W i m H →
      ((Itr 0 n).stop i H ∧ Qd H) ∨ ((Itr 0 n).go i H ∧ ∃ Nx : Hp → Prop, (∀ H', Nx H' → ∃ m', m' < m ∧ W (i + 1) m' H') ∧ ∀ x H', (Itr 0 n).yld i H x H' → gName k x (wipe σ [k]) H' fun σ2 H2 => wipe σ2 [k] = wipe σ [k] ∧ tt σ2 H2 fun b H3 =>
        if b = true then tVar k σ2 H3 fun y H4 => ∃ acc, H4 D = some (.lst acc) ∧ acc.length < sizeLine ∧ Nx (upd H4 D (.lst (acc ++ [y]))) else Nx H3) := by
  refine lc_range (lo := 0) (n := n) (fun i H => Same H1 H ∧ H D = some (.lst (((List.range i).filter f).map iV))) ⟨same_upd hD, by rw [upd_same]; rfl⟩ (fun i H hi h => ?_) fun H h => hd H h.1 h.2
  refine ⟨wipe1_set _ _ _, ?_⟩
  have e0 : (0 : Int) + (i : Int) = (i : Int) := by omega
  rw [e0]
  refine ht i H _ hi h.1 (ite_case (fun e => ?_) (fun e => ?_))
  · refine ⟨iV i, List.getElem?_set_self (by rw [wipe_length]; exact hk), _, h.2, ?_, same_new h.1 hD, ?_⟩
    · rw [List.length_map]
      refine Nat.lt_of_le_of_lt (List.length_filter_le _ _) ?_
      rw [List.length_range]
      omega
    · rw [upd_same, filter_range_succ, if_pos e, List.map_append]
      rfl
  · refine ⟨h.1, ?_⟩
    rw [h.2, filter_range_succ, if_neg (by rw [e]; decide)]
theorem filter_take_succ (f : Nat → Bool) {ns : List Nat} {i m : Nat} (h : ns[i]? = some m) : (ns.take (i + 1)).filter f = if f m = true then (ns.take i).filter f ++ [m] else (ns.take i).filter f := by
  rw [List.take_add_one, h, List.filter_append]
  by_cases e : f m = true
  · rw [if_pos e]
    show _ ++ List.filter f [m] = _
    rw [List.filter_cons_of_pos e, List.filter_nil]
  · rw [if_neg e]
    show _ ++ List.filter f [m] = _
    rw [List.filter_cons_of_neg e, List.filter_nil, List.append_nil]
/-- [k for k in xs if ..], xs a list of numbers -/
theorem lc_listF {a : Addr} {ns : List Nat} {tt : TT} (f : Nat → Bool) (hk : k < σ.length) (hD : H1 D = none) (ha : H1 a = some (.lst (ns.map iV))) (hz : ns.length < sizeLine)
    (ht : ∀ (m : Nat) (H : Hp) (R' : Bool → Hp → Prop), m ∈ ns → Same H1 H → R' (f m) H → tt ((wipe σ [k]).set k (some (iV m))) H R')
    (hd : ∀ H, Same H1 H → H D = some (.lst ((ns.filter f).map iV)) → Qd H) :
    ∃ W : Nat → Nat → Hp → Prop, (∃ m, W 0 m (upd H1 D (.lst []))) ∧ ∀ i m H, W i m H →
      ((Itl K a).stop i H ∧ Qd H) ∨ ((Itl K a).go i H ∧ ∃ Nx : Hp → Prop, (∀ H', Nx H' → ∃ m', m' < m ∧ W (i + 1) m' H') ∧ ∀ x H', (Itl K a).yld i H x H' → gName k x (wipe σ [k]) H' fun σ2 H2 => wipe σ2 [k] = wipe σ [k] ∧ tt σ2 H2 fun b H3 =>
        if b = true then tVar k σ2 H3 fun y H4 => ∃ acc, H4 D = some (.lst acc) ∧ acc.length < sizeLine ∧ Nx (upd H4 D (.lst (acc ++ [y]))) else Nx H3) := by
  refine lc_list (K := K) (a := a) (xs := ns.map iV) (fun i H => Same H1 H ∧ H D = some (.lst (((ns.take i).filter f).map iV))) ⟨same_upd hD, by rw [upd_same]; rfl⟩ (fun i H _ h => SqL.of (h.1 _ _ ha)) (fun i x H hx h => ?_) fun H h => hd H h.1 (by rw [h.2, List.take_of_length_le (by rw [List.length_map]; exact Nat.le_refl _)])
  obtain ⟨m, hm, rfl⟩ := map_get hx
  refine ⟨wipe1_set _ _ _, ?_⟩
  refine ht m H _ (List.mem_of_getElem? hm) h.1 (ite_case (fun e => ?_) (fun e => ?_))
  · refine ⟨iV m, List.getElem?_set_self (by rw [wipe_length]; exact hk), _, h.2, ?_, same_new h.1 hD, ?_⟩
    · rw [List.length_map]
      refine Nat.lt_of_le_of_lt (List.length_filter_le _ _) ?_
      rw [List.length_take]
      omega
    · rw [upd_same, filter_take_succ f hm, if_pos e, List.map_append]
      rfl
  · refine ⟨h.1, ?_⟩
    rw [h.2, filter_take_succ f hm, if_neg (by rw [e]; decide)]
/-- [i for i, x in enumerate(xs) if ..] -/
theorem lc_enumF {K : PySem.W.Frag} {J : It} {xs : List V} {G : Hp → Prop} {k1 k2 : Nat} {tt : TT} (w : Walk J xs.length G (YPair (fun i => some (iV i)) (fun i => xs[i]?))) (f : Nat → Bool) (hG : ∀ H, Same H1 H → G H)
    (hw : ∀ a b : V, wipe (((wipe σ [k1, k2]).set k1 (some a)).set k2 (some b)) [k1, k2] = wipe σ [k1, k2]) (hv : ∀ a b : V, (((wipe σ [k1, k2]).set k1 (some a)).set k2 (some b))[k1]? = some (some a)) (hD : H1 D = none) (hz : xs.length < sizeLine)
    (ht : ∀ (i : Nat) (x : V) (H : Hp) (R' : Bool → Hp → Prop), xs[i]? = some x → Same H1 H → R' (f i) H → tt (((wipe σ [k1, k2]).set k1 (some (iV i))).set k2 (some x)) H R')
    (hd : ∀ H, Same H1 H → H D = some (.lst (((List.range xs.length).filter f).map iV)) → Qd H) :
    ∃ W : Nat → Nat → Hp → Prop, (∃ m, W 0 m (upd H1 D (.lst []))) ∧ ∀ i m H, W i m H →
      (J.stop i H ∧ Qd H) ∨ (J.go i H ∧ ∃ Nx : Hp → Prop, (∀ H', Nx H' → ∃ m', m' < m ∧ W (i + 1) m' H') ∧ ∀ x H', J.yld i H x H' → gTup K 2 (gCons (gName k1) (gCons (gName k2) gNil)) x (wipe σ [k1, k2]) H' fun σ2 H2 => wipe σ2 [k1, k2] = wipe σ [k1, k2] ∧ tt σ2 H2 fun b H3 =>
        if b = true then tVar k1 σ2 H3 fun y H4 => ∃ acc, H4 D = some (.lst acc) ∧ acc.length < sizeLine ∧ Nx (upd H4 D (.lst (acc ++ [y]))) else Nx H3) := by
  refine lc_it w (fun i H => Same H1 H ∧ H D = some (.lst (((List.range i).filter f).map iV))) ⟨same_upd hD, by rw [upd_same]; rfl⟩ (fun i H _ h => hG H h.1) (fun i v H H' hi h y => ?_) fun H h => hd H h.1 h.2
  obtain ⟨T, a, x, rfl, hT, rfl, ha, hx⟩ := y
  cases ha
  have nD : D ≠ T := ne_of_none h.2 hT
  have sT := h.1.trans (same_upd (o := HO.tup [iV i, x]) hT)
  refine ⟨T, _, rfl, SqT.of upd_same, rfl, _, _, rfl, _, _, rfl, rfl, hw _ _, ?_⟩
  refine ht i x _ _ hx sT (ite_case (fun e => ?_) (fun e => ?_))
  · refine ⟨iV i, hv _ _, _, by rw [upd_ne nD]; exact h.2, ?_, same_new sT hD, ?_⟩
    · rw [List.length_map]
      refine Nat.lt_of_le_of_lt (List.length_filter_le _ _) ?_
      rw [List.length_range]
      omega
    · rw [upd_same, filter_range_succ, if_pos e, List.map_append]
      rfl
  · refine ⟨sT, ?_⟩
    rw [upd_ne nD, h.2, filter_range_succ, if_neg (by rw [e]; decide)]
theorem for_rangeN {n : Nat} {g : TG} {tb : TS} {E : Ends} {σ : L2.St} {H : Hp} (Pv : Nat → L2.St → Hp → Prop) (h0 : Pv 0 σ H)
    (hs : ∀ (i : Nat) (σ : L2.St) (H : Hp), i < n → Pv i σ H → g (iV i) σ H fun σ2 H2 => tb { E with nx := Pv (i + 1), ct := Pv (i + 1), bk := E.nx } σ2 H2) (hd : ∀ σ H, Pv n σ H → E.nx σ H) :
    ∃ W : Nat → Nat → L2.St → Hp → Prop, (∃ m, W 0 m σ H) ∧ ∀ i m σ H, W i m σ H →
      ((Itr 0 n).stop i H ∧ E.nx σ H) ∨ ((Itr 0 n).go i H ∧ ∃ N : L2.St → Hp → Prop, (∀ σ' H', N σ' H' → ∃ m', m' < m ∧ W (i + 1) m' σ' H') ∧ ∀ x H', (Itr 0 n).yld i H x H' → g x σ H' fun σ2 H2 => tb { E with nx := N, ct := N, bk := E.nx } σ2 H2) := by
  refine for_range (lo := 0) (n := n) Pv h0 (fun i σ H hi h => ?_) hd
  have e0 : (0 : Int) + (i : Int) = (i : Int) := by omega
  rw [e0]
  exact hs i σ H hi h
end

/-! ### slices, zip of tuples -/
theorem cutV_from (xs : List V) (i : Nat) : cutV xs (some (i : Int)) none = xs.drop i := by
  unfold cutV
  rw [HT.sIx_nat, HT.sIx_none]
  by_cases h : i ≤ xs.length
  · rw [Nat.min_eq_left h]
    exact List.take_of_length_le (by rw [List.length_drop]; exact Nat.le_refl _)
  · rw [Nat.min_eq_right (by omega), Nat.sub_self, List.take_zero, List.drop_of_length_le (by omega)]
theorem cutV_to (xs : List V) (i : Nat) : cutV xs none (some (i : Int)) = xs.take i := by
  unfold cutV
  rw [HT.sIx_nat, HT.sIx_none, List.drop_zero, Nat.sub_zero]
  by_cases h : i ≤ xs.length
  · rw [Nat.min_eq_left h]
  · rw [Nat.min_eq_right (by omega), List.take_of_length_le (Nat.le_refl _), List.take_of_length_le (by omega)]
theorem slNo {σ : L2.St} {H : Hp} {Q : Option Int → Hp → Prop} (h : Q none H) : tNoPart σ H Q := h
theorem slA {K : PySem.W.Frag} {H : Hp} {a : Addr} {xs : List V} {lo hi : Option Int} {R : VK} (h : H a = some (.tup xs)) (k : ∀ b H2, Same H H2 → H2 b = some (.tup (cutV xs lo hi)) → R (.ref b) H2) : rSlA K (.ref a) lo hi H R := by
  refine ⟨a, xs, rfl, SqT.of h, fun e => k a H (Same.refl _) ?_, fun _ p hp => k p _ (same_upd hp) upd_same⟩
  rw [h]
  unfold cutV
  rw [e.1, e.2, List.drop_zero, Nat.sub_zero, List.take_length]
theorem walk_zipT {K : PySem.W.Frag} {a b : Addr} {xs ys : List V} {n : Nat} (hn : n = min xs.length ys.length) : Walk (RZ.ItzT K a b) n (fun H => SqT K H a xs ∧ SqT K H b ys) (YPair (fun i => xs[i]?) (fun i => ys[i]?)) := by
  subst hn
  refine ⟨fun i _ hi q => ?_, fun _ q => ⟨xs, ys, q.1, q.2, by omega⟩, fun i H v H' _ q y => ?_⟩
  · have h1 : i < xs.length := by omega
    have h2 : i < ys.length := by omega
    exact ⟨xs, ys, xs[i], ys[i], q.1, q.2, by simp [h1], by simp [h2]⟩
  · obtain ⟨T, x, z, h1, h2, h3, h4, h5⟩ := y
    exact ⟨T, x, z, h1, h2, h3, h4 xs q.1, h5 ys q.2⟩
/-! ### what makes an arena an arena -/
def Rises (k : Nat) (ns : List Nat) : Prop := (∀ x, x ∈ ns → x < k) ∧ ∀ (i a b : Nat), ns[i]? = some a → ns[i + 1]? = some b → a < b
structure MvOk (n g w : Nat) (m : Mv) : Prop where
  to : m.to < n
  met : Rises g m.met
  mw : Rises w m.mw
structure Few {α : Type} (xs : List α) : Prop where
  pos : 1 ≤ xs.length
  most : xs.length ≤ 8
structure PlOk (n g w : Nat) (pl : Place) : Prop where
  few : Few pl
  rows : ∀ r, r ∈ pl → Few r
  mv : ∀ r, r ∈ pl → ∀ m, m ∈ r → MvOk n g w m
structure ArOk (A : Ar) : Prop where
  g1 : 1 ≤ A.given
  g8 : A.given ≤ 8
  w1 : 1 ≤ A.wanted
  w8 : A.wanted ≤ 8
  n1 : 1 ≤ A.n
  n120 : A.n ≤ 120
  ng : A.n * A.given ≤ 200
  nw : A.n * A.wanted ≤ 200
  pl : ∀ p, p ∈ A.pl → PlOk A.n A.given A.wanted p
theorem ArOk.ok {A : Ar} (h : ArOk A) : A.Ok := ⟨fun p hp r hr m hm => ((h.pl p hp).mv r hr m hm).to, h.n1, h.g1, h.w1⟩
theorem rises_len : ∀ {k : Nat} {ns : List Nat}, Rises k ns → ∀ (i a : Nat), ns[i]? = some a → i ≤ a := by
  intro k ns h i
  induction i with
  | zero => intro a _; exact Nat.zero_le _
  | succ i ih =>
    intro a ha
    have hi : i < ns.length := by have := (List.getElem?_eq_some_iff.mp ha).1; omega
    have h1 := ih _ (List.getElem?_eq_getElem hi)
    have h2 := h.2 i _ a (List.getElem?_eq_getElem hi) ha
    omega
theorem Rises.length {k : Nat} {ns : List Nat} (h : Rises k ns) : ns.length ≤ k := by
  cases e : ns.length with
  | zero => exact Nat.zero_le _
  | succ l =>
    have hl : l < ns.length := by omega
    have h1 := rises_len h l _ (List.getElem?_eq_getElem hl)
    have h2 := h.1 _ (List.getElem_mem hl)
    omega
end Wk

namespace Wk
open PySem PySem.Spec PyProof.Rows L2
section
variable {P : Program} {w : World} {K : PySem.W.Frag} {mg : Str → Option Value} {base : Heap} {Ch Cf : Addr}
/-! ### is_among -/
abbrev sis_among : Stmt := top 4
abbrev nis_among : List Str := ["thing", "least", "most"]
theorem scis_among : FnScope nis_among ["thing", "least", "most"] (defScope sis_among) := ⟨rfl, rfl, rfl, by decide +kernel, rfl, by decide +kernel, by decide +kernel⟩
def spAmong : Sp := fun vs H Q _ => ∃ t l m : Int, vs = [.int t, .int l, .int m] ∧ Q (.bl (decide (l ≤ t) && decide (t ≤ m))) H
theorem ok_among {f : Addr} {fd : FuncData} (F : Fun K "is_among" "is_among" sis_among f fd) (T : Txt K mg Ch Cf) : FnOk P w K mg base CX0 1 f fd ["thing", "least", "most"] spAmong := by
  refine F.ok scis_among (fun vs H Q E h => ?_) (fun cdv A outer s H vs Q E hr h => ?_)
  · obtain ⟨t, l, m, rfl, _⟩ := h
    rfl
  · obtain ⟨t, l, m, rfl, k⟩ := h
    refine ⟨_, (pss_one (ps_ret (pe_and (pe_callB call_isi (by rfl) T.isinstance (by decide +kernel) (pa_cons (pv 0) (pa_cons (pe_bltn (v := .ty "int") (by rfl) T.int (by decide +kernel) rfl) pa_nil))) (pe_and (pe_not (pe_callB call_isi (by rfl) T.isinstance (by decide +kernel) (pa_cons (pv 0) (pa_cons (pe_bltn (v := .ty "bool") (by rfl) T.bool (by decide +kernel) rfl) pa_nil)))) (pe_one (pe_chain op_le op_le (pv 1) (pv 0) (pv 2))))))), ?_⟩
    refine ⟨_, rfl, _, _, _, _, true, rfl, .ty "int", .base (.int t), kit_ty (by decide +kernel), true, rfl, iteT ?_⟩
    refine ⟨_, rfl, _, _, _, _, false, rfl, .ty "bool", .base (.int t), kit_ty (by decide +kernel), false, rfl, true, rfl, iteT ?_⟩
    refine ⟨_, rfl, _, rfl, _, _, rfl, rfl, _, rfl, ite2 (fun e => ?_) (fun e => ?_)⟩
    · refine ⟨_, rfl, _, _, rfl, rfl, ?_⟩
      show Q _ _
      rw [e, Bool.true_and] at k
      exact k
    · show Q _ _
      rw [of_not_true e, Bool.false_and] at k
      exact k
/-! ### are_too_many -/
abbrev sare_too_many : Stmt := top 10
abbrev nare_too_many : List Str := ["places", "given", "wanted"]
theorem scare_too_many : FnScope nare_too_many ["places", "given", "wanted"] (defScope sare_too_many) := ⟨rfl, rfl, rfl, by decide +kernel, rfl, by decide +kernel, by decide +kernel⟩
def spTooMany : Sp := fun vs H Q _ => ∃ n g w : Nat, vs = [iV n, iV g, iV w] ∧ n ≤ 120 ∧ n * g ≤ 200 ∧ n * w ≤ 200 ∧ Q (.bl false) H
theorem ok_toomany {f : Addr} {fd : FuncData} (F : Fun K "are_too_many" "are_too_many" sare_too_many f fd) (T : Txt K mg Ch Cf) : FnOk P w K mg base CX0 1 f fd ["places", "given", "wanted"] spTooMany := by
  refine F.ok scare_too_many (fun vs H Q E h => ?_) (fun cdv A outer s H vs Q E hr h => ?_)
  · obtain ⟨n, g, w, rfl, _⟩ := h
    rfl
  · obtain ⟨n, g, w, rfl, h1, h2, h3, k⟩ := h
    refine ⟨_, (pss_one (ps_ret (pe_or (pe_cmpR op_gt (pv 0) (pe_globI (by rfl) T.cMOST_PLACES) (nomark _)) (pe_one (pe_cmpR op_gt (pe_op op_mul (pv 0) (pe_callB (call_max2 rfl) (by rfl) T.max (by decide +kernel) (pa_cons (pv 1) (pa_cons (pv 2) pa_nil)))) (pe_globI (by rfl) T.cMOST_TIMES) (nomark _)))))), ?_⟩
    refine ⟨_, rfl, _, _, rfl, rfl, _, rfl, ite2 (fun e => ?_) (fun _ => ?_)⟩
    · have := of_decide_eq_true e
      omega
    · refine ⟨_, rfl, _, rfl, _, rfl, _, _, rfl, _, _, rfl, rfl, .inl ⟨by omega, by omega⟩, _, _, rfl, rfl, ?_⟩
      have e : ((n : Int) * if (w : Int) > g then (w : Int) else g) ≤ 200 := by
        split
        · have : ((n * w : Nat) : Int) ≤ 200 := by omega
          rw [Int.natCast_mul] at this
          exact this
        · have : ((n * g : Nat) : Int) ≤ 200 := by omega
          rw [Int.natCast_mul] at this
          exact this
      show Q (.bl (decide ((200 : Int) < (n : Int) * if (w : Int) > g then (w : Int) else g))) H
      rw [decide_eq_false (by omega)]
      exact k
/-! ### are_rising -/
abbrev sare_rising : Stmt := top 11
abbrev nare_rising : List Str := ["thing", "below", "one", "other"]
theorem scare_rising : FnScope nare_rising ["thing", "below"] (defScope sare_rising) := ⟨rfl, rfl, rfl, by decide +kernel, rfl, by decide +kernel, by decide +kernel⟩
def spRising : Sp := fun vs H Q _ => ∃ (v : V) (ns : List Nat) (k : Nat), vs = [v, iV k] ∧ TupI H v ns ∧ Rises k ns ∧ k ≤ 8 ∧ ∀ H', Same H H' → Q (.bl true) H'
theorem ok_rising {f : Addr} {fd : FuncData} (F : Fun K "are_rising" "are_rising" sare_rising f fd) (T : Txt K mg Ch Cf) (dis_among : Df P w K mg base 1 "is_among" ["thing", "least", "most"] spAmong) :
    FnOk P w K mg base CX0 2 f fd ["thing", "below"] spRising := by
  refine F.ok scare_rising (fun vs H Q E h => ?_) (fun cdv A outer s H vs Q E hr h => ?_)
  · obtain ⟨v, ns, k, rfl, _⟩ := h
    rfl
  · obtain ⟨v, ns, k, rfl, ⟨p, rfl, hp⟩, hr1, hk, q⟩ := h
    have hlen := hr1.length
    refine ⟨_, (pss_cons (ps_if (pw_or (pt_not (pt_val (pe_callB call_isi (by rfl) T.isinstance (by decide +kernel) (pa_cons (pv 0) (pa_cons (pe_bltn (v := .ty "tuple") (by rfl) T.tuple (by decide +kernel) rfl) pa_nil))))) (pw_or1 (pt_not (pt_val (pe_all T.all (pe_lc (own := [("one", 2)]) (g := (gName 2)) (tt := tYes) rfl scare_rising.nd (pi_tupK (K := K) (pv 0)) (blkOk_by (N := nare_rising) (sc := (defScope sare_rising)) (by decide +kernel)) (fun _ _ _ _ _ => (pg_name (i := 2) scare_rising.nd rfl (Or.inl rfl))) (fun _ _ _ _ _ => pts_nil) (fun _ _ _ _ _ => (pe_callD dis_among hr (by rfl) (pa_cons (pv 2) (pa_cons pe_int (pa_cons (pe_op op_sub (pv 1) pe_int) pa_nil))))))))))).pt (pss_one (ps_ret pe_bl)) pss_nil)
      (pss_one (ps_ret (pe_all T.all (pe_lc (own := [("one", 2), ("other", 3)]) (g := (gTup K 2 (gCons (gName 2) (gCons (gName 3) gNil)))) (tt := tYes) rfl scare_rising.nd (RZ.pi_zipA (by rfl) T.zip (pa_cons (pv 0) (pa_cons (pe_slice sl_tupA (pv 0) (po_some pe_int) po_none) pa_nil))) (blkOk_by (N := nare_rising) (sc := (defScope sare_rising)) (by decide +kernel)) (fun _ _ _ _ _ => (pg_tup rfl (pgs_cons (pg_name (i := 2) scare_rising.nd rfl (Or.inl rfl)) (pgs_cons (pg_name (i := 3) scare_rising.nd rfl (Or.inl rfl)) pgs_nil)))) (fun _ _ _ _ _ => pts_nil) (fun _ _ _ _ _ => (pe_cmpR op_lt (pv 2) (pv 3) (nomark _)))))))), ?_⟩
    refine ⟨_, rfl, _, _, _, _, true, rfl, .ty "tuple", .base (.tup hp), kit_ty (by decide +kernel), true, rfl, iteF ?_⟩
    refine ⟨_, rfl, p, rfl, ⟨_, SqT.of hp⟩, fun D hD => lc_tupB (ns.map fun _ => true) hD hp (by rw [List.length_map, List.length_map]) (by rw [List.length_map]; exact small1000 (by omega)) (fun i x b H1 Q' hx hb s1 k1 => ?_) (fun H1 s1 hl => ?_)⟩
    · obtain ⟨n, hn, rfl⟩ := map_get hx
      obtain rfl := const_get hb
      have hnk := hr1.1 n (List.mem_of_getElem? hn)
      refine ⟨_, rfl, _, rfl, _, _, rfl, rfl, _, _, _, rfl, ?_⟩
      rw [decide_eq_true (show (0 : Int) ≤ (n : Int) by omega), decide_eq_true (show (n : Int) ≤ (k : Int) - 1 by omega)]
      exact k1 _ (Same.refl _)
    · refine ⟨D, _, rfl, hl, true, congrArg V.bl (const_all _), iteF ?_⟩
      have hp1 := s1 _ _ hp
      refine ⟨_, rfl, _, rfl, 1, rfl, ?_⟩
      refine slNo (slA hp1 fun b H2 s2 hb => ?_)
      have e1 : cutV (ns.map iV) (some 1) none = (ns.drop 1).map iV := by
        rw [show (1 : Int) = ((1 : Nat) : Int) from rfl, cutV_from, List.map_drop]
      rw [e1] at hb
      refine ⟨p, b, _, _, rfl, .inr ⟨SqT.of (s2 _ _ hp1), SqT.of hb, fun D2 hD2 => ?_⟩⟩
      refine lc_it (walk_zipT (K := K) (a := p) (b := b) (xs := ns.map iV) (ys := (ns.drop 1).map iV) (n := ns.length - 1) (by rw [List.length_map, List.length_map, List.length_drop]; omega)) (fun i H => Same H2 H ∧ H D2 = some (.lst ((List.replicate i true).map V.bl)))
        ⟨same_upd hD2, upd_same⟩ (fun i H _ h => ⟨SqT.of (h.1 _ _ (s2 _ _ hp1)), SqT.of (h.1 _ _ hb)⟩) (fun i x H H' hi h y => ?_) (fun H h => ?_)
      · obtain ⟨T, x, y, rfl, hT, rfl, hx, hy⟩ := y
        obtain ⟨m, hm, rfl⟩ := map_get hx
        obtain ⟨m', hm', rfl⟩ := map_get hy
        rw [List.getElem?_drop, Nat.add_comm] at hm'
        have lt := hr1.2 i m m' hm hm'
        refine ⟨T, _, rfl, SqT.of upd_same, rfl, _, _, rfl, _, _, rfl, rfl, rfl, yes_keep ?_⟩
        refine ⟨_, rfl, _, rfl, _, _, rfl, rfl, ?_⟩
        have nT : D2 ≠ T := ne_of_none h.2 hT
        refine ⟨_, by rw [upd_ne nT]; exact h.2, by rw [List.length_map, List.length_replicate]; exact small1000 (by omega), same_new (h.1.trans (same_upd hT)) hD2, ?_⟩
        rw [upd_same]
        show some (HO.lst (List.map V.bl (List.replicate i true) ++ [V.bl (decide ((m : Int) < (m' : Int)))])) = _
        rw [decide_eq_true (show (m : Int) < (m' : Int) by omega), List.replicate_succ', List.map_append]
        rfl
      · refine ⟨D2, _, rfl, h.2, ?_⟩
        have e : (List.replicate (ns.length - 1) true).all id = true := by
          rw [List.all_eq_true]
          intro x hx
          exact (List.eq_of_mem_replicate hx)
        exact bl_to e (q _ (s1.trans (s2.trans h.1)))
/-! ### is_move -/
abbrev sis_move : Stmt := top 12
abbrev nis_move : List Str := ["thing", "places", "given", "wanted"]
theorem scis_move : FnScope nis_move ["thing", "places", "given", "wanted"] (defScope sis_move) := ⟨rfl, rfl, rfl, by decide +kernel, rfl, by decide +kernel, by decide +kernel⟩
def spMove : Sp := fun vs H Q _ => ∃ (v : V) (m : Mv) (n g w : Nat), vs = [v, iV n, iV g, iV w] ∧ IsMv H v m ∧ MvOk n g w m ∧ g ≤ 8 ∧ w ≤ 8 ∧ ∀ H', Same H H' → Q (.bl true) H'
theorem ok_move {f : Addr} {fd : FuncData} (F : Fun K "is_move" "is_move" sis_move f fd) (T : Txt K mg Ch Cf) (dis_among : Df P w K mg base 1 "is_among" ["thing", "least", "most"] spAmong)
    (dare_rising : Df P w K mg base 2 "are_rising" ["thing", "below"] spRising) : FnOk P w K mg base CX0 3 f fd ["thing", "places", "given", "wanted"] spMove := by
  refine F.ok scis_move (fun vs H Q E h => ?_) (fun cdv A outer s H vs Q E hr h => ?_)
  · obtain ⟨v, m, n, g, w, rfl, _⟩ := h
    rfl
  · obtain ⟨v, m, n, g, w, rfl, ⟨p, v1, v2, rfl, hp, h1, h2⟩, ok, hg, hw, q⟩ := h
    refine ⟨_, (pss_cons (ps_if (pw_or (pt_not (pt_val (pe_callB call_isi (by rfl) T.isinstance (by decide +kernel) (pa_cons (pv 0) (pa_cons (pe_bltn (v := .ty "tuple") (by rfl) T.tuple (by decide +kernel) rfl) pa_nil))))) (pw_or (pt_cmpR op_ne (pe_callB call_lenF (by rfl) T.len PySem.boot_len (pa_cons (pv 0) pa_nil)) pe_int (nomark _)) (pw_or1 (pt_not (pt_val (pe_callD dis_among hr (by rfl) (pa_cons (pe_ix ixT (pv 0) pe_int (fun _ _ => rfl)) (pa_cons pe_int (pa_cons (pe_op op_sub (pv 1) pe_int) pa_nil))))))))).pt (pss_one (ps_ret pe_bl)) pss_nil)
      (pss_one (ps_ret (pe_and (pe_callD dare_rising hr (by rfl) (pa_cons (pe_ix ixT (pv 0) pe_int (fun _ _ => rfl)) (pa_cons (pv 2) pa_nil))) (pe_one (pe_callD dare_rising hr (by rfl) (pa_cons (pe_ix ixT (pv 0) pe_int (fun _ _ => rfl)) (pa_cons (pv 3) pa_nil)))))))), ?_⟩
    refine ⟨_, rfl, _, _, _, _, true, rfl, .ty "tuple", .base (.tup hp), kit_ty (by decide +kernel), true, rfl, iteF ?_⟩
    refine ⟨_, rfl, p, _, rfl, .inr hp, rfl, _, rfl, iteF ?_⟩
    have hto := ok.to
    refine ⟨_, rfl, p, _, 0, iV m.to, rfl, rfl, hp, rfl, _, rfl, _, _, rfl, rfl, _, _, _, rfl, _, rfl, ?_⟩
    rw [decide_eq_true (show (0 : Int) ≤ (m.to : Int) by omega), decide_eq_true (show (m.to : Int) ≤ (n : Int) - 1 by omega)]
    refine iteF ?_
    refine ⟨_, rfl, p, _, 1, v1, rfl, rfl, hp, rfl, _, rfl, v1, m.met, g, rfl, h1, ok.met, hg, fun H1 s1 => ⟨true, rfl, iteT ?_⟩⟩
    refine ⟨_, rfl, p, _, 2, v2, rfl, rfl, s1 _ _ hp, rfl, _, rfl, v2, m.mw, w, rfl, h2.keep (.of s1), ok.mw, hw, fun H2 s2 => ?_⟩
    exact q _ (s1.trans s2)
/-! ### is_some -/
abbrev sis_some : Stmt := top 13
abbrev nis_some : List Str := ["thing"]
theorem scis_some : FnScope nis_some ["thing"] (defScope sis_some) := ⟨rfl, rfl, rfl, by decide +kernel, rfl, by decide +kernel, by decide +kernel⟩
def spSome : Sp := fun vs H Q _ => ∃ (p : Addr) (xs : List V), vs = [.ref p] ∧ H p = some (.tup xs) ∧ Few xs ∧ Q (.bl true) H
theorem ok_some {f : Addr} {fd : FuncData} (F : Fun K "is_some" "is_some" sis_some f fd) (T : Txt K mg Ch Cf) : FnOk P w K mg base CX0 1 f fd ["thing"] spSome := by
  refine F.ok scis_some (fun vs H Q E h => ?_) (fun cdv A outer s H vs Q E hr h => ?_)
  · obtain ⟨p, xs, rfl, _⟩ := h
    rfl
  · obtain ⟨p, xs, rfl, hp, few, q⟩ := h
    refine ⟨_, (pss_one (ps_ret (pe_and (pe_callB call_isi (by rfl) T.isinstance (by decide +kernel) (pa_cons (pv 0) (pa_cons (pe_bltn (v := .ty "tuple") (by rfl) T.tuple (by decide +kernel) rfl) pa_nil))) (pe_one (pe_chain op_le op_le pe_int (pe_callB call_lenF (by rfl) T.len PySem.boot_len (pa_cons (pv 0) pa_nil)) (pe_globI (by rfl) T.cMOST_LETTERS)))))), ?_⟩
    have h1 := few.pos
    have h8 := few.most
    refine ⟨_, rfl, _, _, _, _, true, rfl, .ty "tuple", .base (.tup hp), kit_ty (by decide +kernel), true, rfl, iteT ?_⟩
    refine ⟨_, rfl, p, _, rfl, .inr hp, _, _, rfl, rfl, _, rfl, ite2 (fun _ => ?_) (fun e => absurd (decide_eq_true (show (1 : Int) ≤ (xs.length : Int) by omega)) e)⟩
    refine ⟨_, _, rfl, rfl, ?_⟩
    show Q (.bl (decide ((xs.length : Int) ≤ 8))) _
    rw [decide_eq_true (by omega)]
    exact q
/-! ### is_place -/
abbrev sis_place : Stmt := top 14
abbrev nis_place : List Str := ["thing", "places", "given", "wanted", "row", "move"]
theorem scis_place : FnScope nis_place ["thing", "places", "given", "wanted"] (defScope sis_place) := ⟨rfl, rfl, rfl, by decide +kernel, rfl, by decide +kernel, by decide +kernel⟩
def spPlace : Sp := fun vs H Q _ => ∃ (v : V) (pl : Place) (n g w : Nat), vs = [v, iV n, iV g, iV w] ∧ IsPl H v pl ∧ PlOk n g w pl ∧ g ≤ 8 ∧ w ≤ 8 ∧ ∀ H', Same H H' → Q (.bl true) H'
theorem few_of {α : Type} {vs : List V} {xs : List α} (h : vs.length = xs.length) (f : Few xs) : Few vs := ⟨by rw [h]; exact f.pos, by rw [h]; exact f.most⟩
theorem ok_place {f : Addr} {fd : FuncData} (F : Fun K "is_place" "is_place" sis_place f fd) (T : Txt K mg Ch Cf) (dis_some : Df P w K mg base 1 "is_some" ["thing"] spSome)
    (dis_move : Df P w K mg base 3 "is_move" ["thing", "places", "given", "wanted"] spMove) : FnOk P w K mg base CX0 4 f fd ["thing", "places", "given", "wanted"] spPlace := by
  refine F.ok scis_place (fun vs H Q E h => ?_) (fun cdv A outer s H vs Q E hr h => ?_)
  · obtain ⟨v, m, n, g, w, rfl, _⟩ := h
    rfl
  · obtain ⟨v, pl, n, g, w, rfl, ⟨p, vs, rfl, hp, rows⟩, ok, hg, hw, q⟩ := h
    have hl := paired_len rows
    have h8 := ok.few.most
    refine ⟨_, (pss_cons (ps_if (pw_or (pt_not (pt_val (pe_callD dis_some hr (by rfl) (pa_cons (pv 0) pa_nil)))) (pw_or1 (pt_not (pt_val (pe_all T.all (pe_lc (own := [("row", 4)]) (g := (gName 4)) (tt := tYes) rfl scis_place.nd (pi_tupK (K := K) (pv 0)) (blkOk_by (N := nis_place) (sc := (defScope sis_place)) (by decide +kernel)) (fun _ _ _ _ _ => (pg_name (i := 4) scis_place.nd rfl (Or.inl rfl))) (fun _ _ _ _ _ => pts_nil) (fun _ _ _ _ _ => (pe_callD dis_some hr (by rfl) (pa_cons (pv 4) pa_nil))))))))).pt (pss_one (ps_ret pe_bl)) pss_nil)
      (pss_one (ps_ret (pe_all T.all (pe_lc (own := [("row", 4)]) (g := (gName 4)) (tt := tYes) rfl scis_place.nd (pi_tupK (K := K) (pv 0)) (blkOk_by (N := nis_place) (sc := (defScope sis_place)) (by decide +kernel)) (fun _ _ _ _ _ => (pg_name (i := 4) scis_place.nd rfl (Or.inl rfl))) (fun _ _ _ _ _ => pts_nil) (fun _ _ _ _ _ => by (apply pe_all T.all; exact (pe_lc (own := [("move", 5)]) (g := (gName 5)) (tt := tYes) rfl scis_place.nd (pi_tupK (K := K) (pv 4)) (blkOk_by (N := nis_place) (sc := (relS _ (defScope sis_place))) (by decide +kernel)) (fun _ _ _ _ _ => (pg_name (i := 5) scis_place.nd rfl (Or.inl rfl))) (fun _ _ _ _ _ => pts_nil) (fun _ _ _ _ _ => (pe_callD dis_move hr (by rfl) (pa_cons (pv 5) (pa_cons (pv 1) (pa_cons (pv 2) (pa_cons (pv 3) pa_nil)))))))))))))), ?_⟩
    refine ⟨_, rfl, p, vs, rfl, hp, few_of hl ok.few, true, rfl, iteF ?_⟩
    refine ⟨_, rfl, p, rfl, ⟨_, SqT.of hp⟩, fun D hD => lc_tupB (vs.map fun _ => true) hD hp (by rw [List.length_map]) (small1000 (by omega)) (fun i x b H1 Q' hx hb s1 k1 => ?_) (fun H1 s1 hl1 => ?_)⟩
    · obtain rfl := const_get hb
      obtain ⟨row, hrow, r, ws, rfl, hr', mvs⟩ := paired_l rows hx
      exact ⟨_, rfl, r, ws, rfl, s1 _ _ hr', few_of (paired_len mvs) (ok.rows row (List.mem_of_getElem? hrow)), k1 _ (Same.refl _)⟩
    · refine ⟨D, _, rfl, hl1, true, congrArg V.bl (const_all _), iteF ?_⟩
      have hp1 := s1 _ _ hp
      refine ⟨_, rfl, p, rfl, ⟨_, SqT.of hp1⟩, fun D hD => lc_tupB (vs.map fun _ => true) hD hp1 (by rw [List.length_map]) (small1000 (by omega)) (fun i x b H2 Q' hx hb s2 k2 => ?_) (fun H2 s2 hl2 => ?_)⟩
      · obtain rfl := const_get hb
        obtain ⟨row, hrow, r, ws, rfl, hr', mvs⟩ := paired_l rows hx
        have hr2 := s2 _ _ (s1 _ _ hr')
        have hm := List.mem_of_getElem? hrow
        have h8' := (ok.rows row hm).most
        have hl' := paired_len mvs
        refine ⟨_, rfl, r, rfl, ⟨_, SqT.of hr2⟩, fun D hD => lc_tupB (ws.map fun _ => true) hD hr2 (by rw [List.length_map]) (small1000 (by omega)) (fun j y c H3 Q3 hy hc s3 k3 => ?_) (fun H3 s3 hl3 => ?_)⟩
        · obtain rfl := const_get hc
          obtain ⟨m, hm', im⟩ := paired_l mvs hy
          exact ⟨_, rfl, _, rfl, _, rfl, _, rfl, y, m, n, g, w, rfl, im.keep (.of (s1.trans (s2.trans s3))), ok.mv row hm m (List.mem_of_getElem? hm'), hg, hw, fun H4 s4 => k3 _ s4⟩
        · refine ⟨D, _, rfl, hl3, ?_⟩
          exact bl_to (const_all _) (k2 _ s3)
      · refine ⟨_, _, rfl, hl2, ?_⟩
        exact bl_to (const_all _) (q _ (s1.trans s2))
end
end Wk

namespace Wk
open PySem PySem.Spec PyProof.Rows L2
/-! ### what stands in the heap, as data -/
def dN (n : Nat) : PyData := .int (n : Int)
def dNs (ns : List Nat) : PyData := .tuple (ns.map dN)
def dMv (m : Mv) : PyData := .tuple [dN m.to, dNs m.met, dNs m.mw]
def dRow (r : Row) : PyData := .tuple (r.map dMv)
def dPl (p : Place) : PyData := .tuple (p.map dRow)
def dPls (p : List Place) : PyData := .tuple (p.map dPl)
def dAr (A : Ar) : PyData := .tuple [dPls A.pl, dN A.given, dN A.wanted]
section
variable {K : PySem.W.Frag} {H : Hp}
theorem dp_map {α : Type} {R : V → α → Prop} {d : α → PyData} : ∀ {vs : List V} {xs : List α}, Paired R vs xs → (∀ v x, R v x → Dp K H v (d x)) → DpAll K H vs (xs.map d)
  | _, _, .nil, _ => .nil
  | _, _, .cons r t, h => .cons (h _ _ r) (dp_map t h)
theorem dp_ns : ∀ ns : List Nat, DpAll K H (ns.map iV) (ns.map dN)
  | [] => .nil
  | n :: ns => .cons (.int _) (dp_ns ns)
theorem TupI.dp {v : V} {ns : List Nat} (h : TupI H v ns) : Dp K H v (dNs ns) := by
  obtain ⟨p, rfl, h⟩ := h
  exact .tup (SqT.of h) (dp_ns ns)
theorem TupOf.dp {α : Type} {R : Hp → V → α → Prop} {d : α → PyData} (hR : ∀ v x, R H v x → Dp K H v (d x)) {v : V} {xs : List α} (h : TupOf R H v xs) : Dp K H v (.tuple (xs.map d)) := by
  obtain ⟨p, vs, rfl, h, r⟩ := h
  exact .tup (SqT.of h) (dp_map r hR)
theorem IsMv.dp {v : V} {m : Mv} (h : IsMv H v m) : Dp K H v (dMv m) := by
  obtain ⟨p, v1, v2, rfl, h, h1, h2⟩ := h
  exact .tup (SqT.of h) (.cons (.int _) (.cons h1.dp (.cons h2.dp .nil)))
theorem IsRow.dp {v : V} {r : Row} (h : IsRow H v r) : Dp K H v (dRow r) := TupOf.dp (fun _ _ => IsMv.dp) h
theorem IsPl.dp {v : V} {r : Place} (h : IsPl H v r) : Dp K H v (dPl r) := TupOf.dp (fun _ _ => IsRow.dp) h
theorem IsPls.dp {v : V} {r : List Place} (h : IsPls H v r) : Dp K H v (dPls r) := TupOf.dp (fun _ _ => IsPl.dp) h
theorem IsAr.dp {v : V} {A : Ar} (h : IsAr H v A) : Dp K H v (dAr A) := by
  obtain ⟨p, m, rfl, h, h1⟩ := h
  exact .tup (SqT.of h) (.cons h1.dp (.cons (.int _) (.cons (.int _) .nil)))
end
/-! ### plain data: no texts, no dicts, small numbers -/
structure PlainD (k b : Nat) (d : PyData) : Prop where
  lay : d.canLay0 = true
  sh : d.showable = true
  short : d.leavesShort 13 = true
  nod : d.hasDict = false
  dep : d.depth ≤ k
  bul : d.bulk ≤ b
theorem PlainD.mono {k b k' b' : Nat} {d : PyData} (h : PlainD k b d) (h1 : k ≤ k') (h2 : b ≤ b') : PlainD k' b' d := ⟨h.lay, h.sh, h.short, h.nod, Nat.le_trans h.dep h1, Nat.le_trans h.bul h2⟩
theorem PlainD.none : PlainD 0 0 .none := ⟨by decide, by decide, by decide, by decide, Nat.le_refl _, Nat.le_refl _⟩
theorem PlainD.nat {n : Nat} (h : n < 1000000) : PlainD 0 0 (dN n) := by
  have e : ((n : Int)).natAbs < 10 ^ 12 := by
    rw [Int.natAbs_natCast]
    exact Nat.lt_trans h (by decide)
  refine ⟨by unfold dN; simp only [PyData.canLay0], ?_, ?_, by unfold dN; simp only [PyData.hasDict], by unfold dN; simp only [PyData.depth]; exact Nat.le_refl _, by unfold dN; simp only [PyData.bulk]; exact Nat.le_refl _⟩
  · unfold dN
    simp only [PyData.showable]
    rw [Int.natAbs_natCast]
    refine decide_eq_true ?_
    by_cases h0 : n = 0
    · rw [h0]; decide
    · exact (Nat.log2_lt h0).mpr (Nat.lt_of_lt_of_le h (Nat.le_trans (by decide : 1000000 ≤ 2 ^ 20) (Nat.pow_le_pow_right (by decide) (by decide))))
  · unfold dN
    simp only [PyData.leavesShort]
    exact decide_eq_true (PyData.shown_int_le e)
theorem plain_all {k b : Nat} : ∀ {xs : List PyData}, (∀ x, x ∈ xs → PlainD k b x) → PyData.canLayAll0 xs = true ∧ PyData.showableAll xs = true ∧ PyData.leavesShortAll 13 xs = true ∧ PyData.hasDictAll xs = false ∧ PyData.depthAll xs ≤ k ∧ PyData.bulkAll xs ≤ xs.length * (b + 1)
  | [], _ => ⟨by simp only [PyData.canLayAll0], by simp only [PyData.showableAll], by simp only [PyData.leavesShortAll], by simp only [PyData.hasDictAll], by simp only [PyData.depthAll]; exact Nat.zero_le _, by simp only [PyData.bulkAll]; exact Nat.zero_le _⟩
  | x :: xs, h => by
    obtain ⟨a1, a2, a3, a4, a5, a6⟩ := h x List.mem_cons_self
    obtain ⟨b1, b2, b3, b4, b5, b6⟩ := plain_all (xs := xs) fun y hy => h y (List.mem_cons_of_mem _ hy)
    refine ⟨by simp only [PyData.canLayAll0, a1, b1, Bool.and_self], by simp only [PyData.showableAll, a2, b2, Bool.and_self], by simp only [PyData.leavesShortAll, a3, b3, Bool.and_self], by simp only [PyData.hasDictAll, a4, b4, Bool.or_self], ?_, ?_⟩
    · simp only [PyData.depthAll]
      exact Nat.max_le.mpr ⟨a5, b5⟩
    · simp only [PyData.bulkAll, List.length_cons]
      rw [Nat.succ_mul]
      omega
theorem PlainD.tuple {k b n : Nat} {xs : List PyData} (h : ∀ x, x ∈ xs → PlainD k b x) (hn : xs.length ≤ n) : PlainD (k + 1) (n * (b + 1)) (.tuple xs) := by
  obtain ⟨b1, b2, b3, b4, b5, b6⟩ := plain_all h
  refine ⟨by simp only [PyData.canLay0, b1], by simp only [PyData.showable, b2], by simp only [PyData.leavesShort, b3], by simp only [PyData.hasDict, b4], by simp only [PyData.depth]; omega, ?_⟩
  simp only [PyData.bulk]
  exact Nat.le_trans b6 (Nat.mul_le_mul_right _ hn)
theorem PlainD.list {k b n : Nat} {xs : List PyData} (h : ∀ x, x ∈ xs → PlainD k b x) (hn : xs.length ≤ n) : PlainD (k + 1) (n * (b + 1)) (.list xs) := by
  obtain ⟨b1, b2, b3, b4, b5, b6⟩ := plain_all h
  refine ⟨by simp only [PyData.canLay0, b1], by simp only [PyData.showable, b2], by simp only [PyData.leavesShort, b3], by simp only [PyData.hasDict, b4], by simp only [PyData.depth]; omega, ?_⟩
  simp only [PyData.bulk]
  exact Nat.le_trans b6 (Nat.mul_le_mul_right _ hn)
theorem PlainD.shaped {k b : Nat} {d : PyData} (h : PlainD k b d) (hk : k ≤ 64) : SeqAt.shaped d = true := by
  unfold SeqAt.shaped
  rw [h.lay, Bool.true_and]
  exact decide_eq_true (Nat.le_trans h.dep hk)
theorem PlainD.fits {k b : Nat} {d : PyData} (h : PlainD k b d) (hb : b ≤ 1000000) : d.shown.length ≤ sizeLine := PyData.shown_fits_bulk (B := 13) (by decide) (by decide) h.short (by have := h.bul; omega)
theorem plain_ns {ns : List Nat} {n : Nat} (h : ∀ x, x ∈ ns → x < 1000000) (hn : ns.length ≤ n) : PlainD 1 (n * 1) (dNs ns) :=
  PlainD.tuple (k := 0) (b := 0) (fun x hx => by obtain ⟨y, hy, rfl⟩ := List.mem_map.mp hx; exact .nat (h y hy)) (by rw [List.length_map]; exact hn)
theorem Rises.plain {k : Nat} {ns : List Nat} (h : Rises k ns) (hk : k ≤ 8) : PlainD 1 8 (dNs ns) := plain_ns (fun x hx => by have := h.1 x hx; omega) (Nat.le_trans h.length hk)
theorem MvOk.plain {n g w : Nat} {m : Mv} (h : MvOk n g w m) (hn : n ≤ 120) (hg : g ≤ 8) (hw : w ≤ 8) : PlainD 2 27 (dMv m) := by
  refine PlainD.tuple (k := 1) (b := 8) (n := 3) (fun x hx => ?_) (Nat.le_refl _)
  have e : x = dN m.to ∨ x = dNs m.met ∨ x = dNs m.mw := by simpa using hx
  rcases e with rfl | rfl | rfl
  · exact (PlainD.nat (by have := h.to; omega)).mono (by decide) (by decide)
  · exact h.met.plain hg
  · exact h.mw.plain hw
theorem PlOk.plain {n g w : Nat} {p : Place} (h : PlOk n g w p) (hn : n ≤ 120) (hg : g ≤ 8) (hw : w ≤ 8) : PlainD 4 1800 (dPl p) := by
  refine PlainD.tuple (k := 3) (b := 224) (n := 8) (fun x hx => ?_) (by rw [List.length_map]; exact h.few.most)
  obtain ⟨r, hr, rfl⟩ := List.mem_map.mp hx
  refine PlainD.tuple (k := 2) (b := 27) (n := 8) (fun y hy => ?_) (by rw [List.length_map]; exact (h.rows r hr).most)
  obtain ⟨m, hm, rfl⟩ := List.mem_map.mp hy
  exact (h.mv r hr m hm).plain hn hg hw
theorem ArOk.plainM {A : Ar} (h : ArOk A) : PlainD 5 216120 (dPls A.pl) := by
  refine PlainD.tuple (k := 4) (b := 1800) (n := 120) (fun x hx => ?_) (by rw [List.length_map]; exact h.n120)
  obtain ⟨p, hp, rfl⟩ := List.mem_map.mp hx
  exact (h.pl p hp).plain h.n120 h.g8 h.w8
theorem ArOk.plain {A : Ar} (h : ArOk A) : PlainD 6 648363 (dAr A) := by
  refine PlainD.tuple (k := 5) (b := 216120) (n := 3) (fun x hx => ?_) (Nat.le_refl _)
  have e : x = dPls A.pl ∨ x = dN A.given ∨ x = dN A.wanted := by simpa using hx
  rcases e with rfl | rfl | rfl
  · exact h.plainM
  · exact (PlainD.nat (by have := h.g8; omega)).mono (by decide) (by decide)
  · exact (PlainD.nat (by have := h.w8; omega)).mono (by decide) (by decide)
/-! ### which data are equal -/
theorem eqv_nil (xs : List PyData) : PyData.eqvAll xs [] = xs.isEmpty := by
  cases xs <;> simp only [PyData.eqvAll, List.isEmpty]
theorem eqv_bools : ∀ (xs ys : List Bool), PyData.eqvAll (xs.map .bool) (ys.map .bool) = decide (xs = ys)
  | [], [] => rfl
  | [], _ :: _ => rfl
  | _ :: _, [] => rfl
  | x :: xs, y :: ys => by
    simp only [List.map_cons, PyData.eqvAll, PyData.eqv, eqv_bools xs ys]
    rw [Bool.eq_iff_iff]
    simp
end Wk

namespace Wk
open PySem PySem.Spec PyProof.Rows L2
section
variable {P : Program} {w : World} {K : PySem.W.Frag} {mg : Str → Option Value} {base : Heap} {Ch Cf : Addr}
/-! ### is_arena -/
abbrev sis_arena : Stmt := top 15
abbrev nis_arena : List Str := ["thing", "moves", "given", "wanted", "place"]
theorem scis_arena : FnScope nis_arena ["thing"] (defScope sis_arena) := ⟨rfl, rfl, rfl, by decide +kernel, rfl, by decide +kernel, by decide +kernel⟩
def spArena : Sp := fun vs H Q _ => ∃ (v : V) (A : Ar), vs = [v] ∧ IsAr H v A ∧ ArOk A ∧ ∀ H', Same H H' → Q (.bl true) H'
theorem ok_arena {f : Addr} {fd : FuncData} (F : Fun K "is_arena" "is_arena" sis_arena f fd) (T : Txt K mg Ch Cf) (dis_among : Df P w K mg base 1 "is_among" ["thing", "least", "most"] spAmong)
    (dare_too_many : Df P w K mg base 1 "are_too_many" ["places", "given", "wanted"] spTooMany) (dis_place : Df P w K mg base 4 "is_place" ["thing", "places", "given", "wanted"] spPlace) : FnOk P w K mg base CX0 5 f fd ["thing"] spArena := by
  refine F.ok scis_arena (fun vs H Q E h => ?_) (fun cdv A outer s H vs Q E hr h => ?_)
  · obtain ⟨v, A, rfl, _⟩ := h
    rfl
  · obtain ⟨v, R, rfl, ⟨p, m, rfl, hp, hm⟩, ok, q⟩ := h
    obtain ⟨pm, vs, rfl, hpm, pls⟩ := id hm
    have hl := paired_len pls
    have h1 := ok.n1
    have h2 := ok.n120
    have e1 : vs.length = R.n := hl
    have g1 := ok.g1
    have g8 := ok.g8
    have w1 := ok.w1
    have w8 := ok.w8
    refine ⟨_, (pss_cons (ps_if (pw_or (pt_not (pt_val (pe_callB call_isi (by rfl) T.isinstance (by decide +kernel) (pa_cons (pv 0) (pa_cons (pe_bltn (v := .ty "tuple") (by rfl) T.tuple (by decide +kernel) rfl) pa_nil))))) (pw_or (pt_cmpR op_ne (pe_callB call_lenF (by rfl) T.len PySem.boot_len (pa_cons (pv 0) pa_nil)) pe_int (nomark _)) (pw_or (pt_not (pt_val (pe_callB call_isi (by rfl) T.isinstance (by decide +kernel) (pa_cons (pe_ix ixT (pv 0) pe_int (fun _ _ => rfl)) (pa_cons (pe_bltn (v := .ty "tuple") (by rfl) T.tuple (by decide +kernel) rfl) pa_nil))))) (pw_or1 (pt_cmpR (op_eqD hr.units) (pe_ix ixT (pv 0) pe_int (fun _ _ => rfl)) (pe_tup pa_nil) (nomark _)))))).pt (pss_one (ps_ret pe_bl)) pss_nil)
      (pss_cons (ps_asg (pv 0) (pg_tup (by rfl) (pgs_cons (pg_name (i := 1) scis_arena.nd rfl (Or.inr rfl)) (pgs_cons (pg_name (i := 2) scis_arena.nd rfl (Or.inr rfl)) (pgs_cons (pg_name (i := 3) scis_arena.nd rfl (Or.inr rfl)) pgs_nil)))))
      (pss_cons (ps_if (pw_or (pt_not (pt_val (pe_callD dis_among hr (by rfl) (pa_cons (pv 2) (pa_cons pe_int (pa_cons (pe_globI (by rfl) T.cMOST_GOALS) pa_nil)))))) (pw_or1 (pt_not (pt_val (pe_callD dis_among hr (by rfl) (pa_cons (pv 3) (pa_cons pe_int (pa_cons (pe_globI (by rfl) T.cMOST_GOALS) pa_nil)))))))).pt (pss_one (ps_ret pe_bl)) pss_nil)
      (pss_cons (ps_if (pt_val (pe_callD dare_too_many hr (by rfl) (pa_cons (pe_callB call_lenF (by rfl) T.len PySem.boot_len (pa_cons (pv 1) pa_nil)) (pa_cons (pv 2) (pa_cons (pv 3) pa_nil))))) (pss_one (ps_ret pe_bl)) pss_nil)
      (pss_one (ps_ret (pe_all T.all (pe_lc (own := [("place", 4)]) (g := (gName 4)) (tt := tYes) rfl scis_arena.nd (pi_tupK (K := K) (pv 1)) (blkOk_by (N := nis_arena) (sc := (defScope sis_arena)) (by decide +kernel)) (fun _ _ _ _ _ => (pg_name (i := 4) scis_arena.nd rfl (Or.inl rfl))) (fun _ _ _ _ _ => pts_nil) (fun _ _ _ _ _ => (pe_callD dis_place hr (by rfl) (pa_cons (pv 4) (pa_cons (pe_callB call_lenF (by rfl) T.len PySem.boot_len (pa_cons (pv 1) pa_nil)) (pa_cons (pv 2) (pa_cons (pv 3) pa_nil)))))))))))))), ?_⟩
    refine ⟨_, rfl, _, _, _, _, true, rfl, .ty "tuple", .base (.tup hp), kit_ty (by decide +kernel), true, rfl, iteF ?_⟩
    refine ⟨_, rfl, p, _, rfl, .inr hp, rfl, _, rfl, iteF ?_⟩
    refine ⟨_, rfl, p, _, 0, _, rfl, rfl, hp, rfl, _, _, _, _, true, rfl, .ty "tuple", .base (.tup hpm), kit_ty (by decide +kernel), true, rfl, iteF ?_⟩
    refine ⟨_, rfl, p, _, 0, _, rfl, rfl, hp, rfl, Nat.zero_le _, fun t ht => ?_⟩
    have s1 : Same H (upd H t (.tup [])) := same_upd ht
    refine ⟨dPls R.pl, .tuple [], (hm.keep (.of s1)).dp, .tup (SqT.of upd_same) .nil, ok.plainM.shaped (by decide), by decide, false, ?_, iteF ?_⟩
    · show V.bl (PyData.eqv (.tuple (R.pl.map dPl)) (.tuple [])) = V.bl false
      simp only [PyData.eqv]
      rw [eqv_nil]
      cases e : R.pl with
      | nil => rw [Ar.n, e] at h1; exact absurd h1 (by decide)
      | cons a b => rfl
    have hp1 := s1 _ _ hp
    have hpm1 := s1 _ _ hpm
    refine ⟨_, rfl, p, _, rfl, SqT.of hp1, rfl, _, _, rfl, _, _, rfl, _, _, rfl, rfl, ?_⟩
    refine ⟨_, rfl, _, _, _, rfl, _, rfl, ?_⟩
    rw [decide_eq_true (show (1 : Int) ≤ (R.given : Int) by omega), decide_eq_true (show (R.given : Int) ≤ 8 by omega)]
    refine iteF ⟨_, rfl, _, _, _, rfl, _, rfl, ?_⟩
    rw [decide_eq_true (show (1 : Int) ≤ (R.wanted : Int) by omega), decide_eq_true (show (R.wanted : Int) ≤ 8 by omega)]
    refine iteF ?_
    refine ⟨_, rfl, pm, vs, rfl, .inr hpm1, _, rfl, _, rfl, vs.length, R.given, R.wanted, rfl, by omega, by rw [e1]; exact ok.ng, by rw [e1]; exact ok.nw, false, rfl, iteF ?_⟩
    refine ⟨_, rfl, pm, rfl, ⟨_, SqT.of hpm1⟩, fun D hD => lc_tupB (vs.map fun _ => true) hD hpm1 (by rw [List.length_map]) (small1000 (by omega)) (fun i x b H2 Q' hx hb s2 k2 => ?_) (fun H2 s2 hl2 => ?_)⟩
    · obtain rfl := const_get hb
      obtain ⟨pl, hpl, ip⟩ := paired_l pls hx
      refine ⟨_, rfl, _, rfl, pm, vs, rfl, .inr (s2 _ _ hpm1), _, rfl, _, rfl, x, pl, vs.length, R.given, R.wanted, rfl, ip.keep (.of (s1.trans s2)), ?_, g8, w8, fun H3 s3 => k2 _ s3⟩
      rw [e1]
      exact ok.pl pl (List.mem_of_getElem? hpl)
    · refine ⟨D, _, rfl, hl2, ?_⟩
      exact bl_to (const_all _) (q _ (s1.trans s2))
/-! ### need_arena -/
abbrev sneed_arena : Stmt := top 16
abbrev nneed_arena : List Str := ["thing"]
theorem scneed_arena : FnScope nneed_arena ["thing"] (defScope sneed_arena) := ⟨rfl, rfl, rfl, by decide +kernel, rfl, by decide +kernel, by decide +kernel⟩
def spNeed : Sp := fun vs H Q _ => ∃ (v : V) (A : Ar), vs = [v] ∧ IsAr H v A ∧ ArOk A ∧ ∀ H', Same H H' → Q .non H'
theorem ok_need {f : Addr} {fd : FuncData} (F : Fun K "need_arena" "need_arena" sneed_arena f fd) (T : Txt K mg Ch Cf) (dis_arena : Df P w K mg base 5 "is_arena" ["thing"] spArena) : FnOk P w K mg base CX0 6 f fd ["thing"] spNeed := by
  refine F.ok scneed_arena (fun vs H Q E h => ?_) (fun cdv A outer s H vs Q E hr h => ?_)
  · obtain ⟨v, A, rfl, _⟩ := h
    rfl
  · obtain ⟨v, R, rfl, ia, ok, q⟩ := h
    refine ⟨_, (pss_one (ps_if (pt_not (pt_val (pe_callD dis_arena hr (by rfl) (pa_cons (pv 0) pa_nil)))) (pss_one ps_never) pss_nil)), ?_⟩
    exact ⟨_, rfl, v, R, rfl, ia, ok, fun H1 s1 => ⟨true, rfl, iteF (q _ s1)⟩⟩
end
end Wk

namespace Wk
open PySem PySem.Spec PyProof.Rows L2
/-! ### lists by place -/
def Bls (n : Nat) (f : Nat → Bool) : List V := ((List.range n).map f).map V.bl
theorem range_map_get {α : Type} {n p : Nat} (f : Nat → α) (h : p < n) : ((List.range n).map f)[p]? = some (f p) := by
  rw [List.getElem?_map, List.getElem?_range h]
  rfl
theorem bls_get {n p : Nat} {f : Nat → Bool} (h : p < n) : (Bls n f)[p]? = some (.bl (f p)) := by
  unfold Bls
  rw [List.getElem?_map, range_map_get f h]
  rfl
theorem bls_len {n : Nat} {f : Nat → Bool} : (Bls n f).length = n := by
  unfold Bls
  rw [List.length_map, List.length_map, List.length_range]
theorem bls_set {n p : Nat} {f : Nat → Bool} {b : Bool} (h : p < n) : (Bls n f).set p (.bl b) = Bls n fun q => if q = p then b else f q := by
  apply List.ext_getElem?
  intro i
  by_cases hi : i < n
  · rw [bls_get hi]
    by_cases e : i = p
    · subst e
      rw [List.getElem?_set_self (by rw [bls_len]; exact h), if_pos rfl]
    · rw [List.getElem?_set_ne (fun z => e z.symm), bls_get hi, if_neg e]
  · rw [List.getElem?_eq_none (by rw [List.length_set, bls_len]; omega), List.getElem?_eq_none (by rw [bls_len]; omega)]
theorem bls_const {n : Nat} {b : Bool} : Bls n (fun _ => b) = List.replicate n (.bl b) := by
  apply List.ext_getElem?
  intro i
  by_cases hi : i < n
  · rw [bls_get hi, List.getElem?_replicate, if_pos hi]
  · rw [List.getElem?_eq_none (by rw [bls_len]; omega), List.getElem?_replicate, if_neg hi]
theorem rep_eq {v : V} {n : Nat} : (List.replicate n [v]).flatten = List.replicate n v := by
  induction n with
  | zero => rfl
  | succ n ih =>
    rw [List.replicate_succ, List.flatten_cons, ih, List.replicate_succ]
    rfl
theorem at_nat {xs : List V} {j : Nat} {v : V} (h : xs[j]? = some v) : atI xs (j : Int) = some v := atI_nat h
theorem ix_nat {n j : Nat} (h : j < n) : ixN n (j : Int) = some j := by
  unfold ixN
  rw [if_pos (by omega), if_pos (by omega), Int.toNat_natCast]
theorem in_nats (g : Nat) (ns : List Nat) : inV (iV g) (ns.map iV) = ns.contains g := by
  unfold inV
  induction ns with
  | nil => rfl
  | cons n ns ih =>
    rw [List.map_cons, List.any_cons, ih, List.contains_cons]
    congr 1
    show (eqV (.int (n : Int)) (.int (g : Int))) = _
    unfold eqV
    rw [Bool.eq_iff_iff]
    simp
    omega
theorem flat_nats (ns : List Nat) : (ns.map iV).all flatV = true := by
  rw [List.all_map, List.all_eq_true]
  intro _ _; rfl
/-- the steps: none where S is not -/
def StepsOk (n : Nat) (S : Nat → Bool) (xs : List V) : Prop := xs.length = n ∧ ∀ p, p < n → ∃ v, xs[p]? = some v ∧ (decide (v = .non)) = !S p
def hopeF (m : V) (g goal : Int) (hs st : V) : List (Str × V) := [("moves", m), ("given", .int g), ("goal", .int goal), ("hopes", hs), ("steps", st)]
theorem hope_moves (m : V) (g goal : Int) (hs st : V) : (hopeF m g goal hs st).lookup ("moves" : Str) = some m := by rfl
theorem hope_given (m : V) (g goal : Int) (hs st : V) : (hopeF m g goal hs st).lookup ("given" : Str) = some (.int g) := by rfl
theorem hope_goal (m : V) (g goal : Int) (hs st : V) : (hopeF m g goal hs st).lookup ("goal" : Str) = some (.int goal) := by rfl
theorem hope_hopes (m : V) (g goal : Int) (hs st : V) : (hopeF m g goal hs st).lookup ("hopes" : Str) = some hs := by rfl
theorem hope_steps (m : V) (g goal : Int) (hs st : V) : (hopeF m g goal hs st).lookup ("steps" : Str) = some st := by rfl
/-- a Hope at x -/
structure HopeAt (Ch : Addr) (H : Hp) (x : Addr) (A : Ar) (m : V) (goal : Nat) (hs st : Addr) (hopes : Nat → Bool) : Prop where
  ins : ∃ dx, H x = some (.ins Ch dx (hopeF m A.given goal (.ref hs) (.ref st)))
  moves : IsPls H m A.pl
  hopes : H hs = some (.lst (Bls A.n hopes))
section
variable {P : Program} {w : World} {K : PySem.W.Frag} {mg : Str → Option Value} {base : Heap} {Ch Cf : Addr}
theorem HopeAt.same {H H' : Hp} {x : Addr} {A : Ar} {m : V} {goal : Nat} {hs st : Addr} {hopes : Nat → Bool} (h : HopeAt Ch H x A m goal hs st hopes) (s : Same H H') : HopeAt Ch H' x A m goal hs st hopes :=
  ⟨let ⟨dx, e⟩ := h.ins; ⟨dx, s _ _ e⟩, IsPls.keep (.of s) h.moves, s _ _ h.hopes⟩
/-! ### Hope.does -/
abbrev sHope_does : Stmt := inClass (top 18) 1
abbrev nHope_does : List Str := ["self", "move", "given", "stays", "there"]
theorem scHope_does : FnScope nHope_does ["self", "move", "given", "stays"] (defScope sHope_does) := ⟨rfl, rfl, rfl, by decide +kernel, rfl, by decide +kernel, by decide +kernel⟩
def spDoes (Ch : Addr) : Sp := fun vs H Q _ => ∃ (x sl hs st : Addr) (mv : V) (A : Ar) (m : V) (goal given : Nat) (hopes S stays : Nat → Bool) (xs : List V) (mm : Mv), vs = [.ref x, mv, iV given, .ref sl] ∧ HopeAt Ch H x A m goal hs st hopes ∧
  H st = some (.lst xs) ∧ StepsOk A.n S xs ∧ H sl = some (.lst (Bls A.n stays)) ∧ IsMv H mv mm ∧ mm.to < A.n ∧ Q (.bl (Wk.does hopes S stays goal given mm)) H
theorem ok_does {f : Addr} {fd : FuncData} (F : Fun K "does" "Hope.does" sHope_does f fd) (T : Txt K mg Ch Cf) : FnOk P w K mg base CX0 1 f fd ["self", "move", "given", "stays"] (spDoes Ch) := by
  refine F.ok scHope_does (fun vs H Q E h => ?_) (fun cdv A outer s H vs Q E hr h => ?_)
  · obtain ⟨x, sl, hs, st, mv, A, m, goal, given, hopes, S, stays, xs, mm, rfl, _⟩ := h
    rfl
  · obtain ⟨x, sl, hs, st, mv, R, m, goal, given, hopes, S, stays, xs, mm, rfl, hope, hst, so, hsl, ⟨p, v1, v2, rfl, hp, ⟨p1, rfl, h1⟩, ⟨p2, rfl, h2⟩⟩, hto, q⟩ := h
    obtain ⟨dx, hx⟩ := hope.ins
    obtain ⟨sv, hsv, esv⟩ := so.2 _ hto
    refine ⟨_, (pss_cons (ps_set (i := 4) scHope_does.nd rfl (Or.inl rfl) (pe_ix ixT (pv 1) pe_int (fun _ _ => rfl)))
      (pss_cons (ps_if (pw_or (pw_and (pt_cmpR op_inT (pe_fldF T.clHope T.hGoal (pv 0) (by rfl)) (pe_ix ixT (pv 1) pe_int (fun _ _ => rfl)) (by rfl)) (pw_and1 (pt_val (pe_ix ixL (pe_fldF T.clHope T.hHopes (pv 0) (by rfl)) (pv 4) (fun _ _ => rfl))))).pt (pw_or1 (pt_cmp (pc_notN (pe_ix ixL (pe_fldF T.clHope T.hSteps (pv 0) (by rfl)) (pv 4) (fun _ _ => rfl))) rfl))).pt (pss_one (ps_ret pe_bl)) pss_nil)
      (pss_one (ps_ret (pe_and (pe_cmpR op_notInT (pv 2) (pe_ix ixT (pv 1) pe_int (fun _ _ => rfl)) (by rfl)) (pe_one (pe_ix ixL (pv 3) (pv 4) (fun _ _ => rfl)))))))), ?_⟩
    refine ⟨_, rfl, p, _, 0, _, rfl, rfl, hp, rfl, ?_⟩
    dsimp only [gName, tSeq, tIfS, tRet, tNext]
    refine tor (inV (iV goal) (mm.mw.map iV) && hopes mm.to) (S mm.to) (fun R1 k1 => tand (inV (iV goal) (mm.mw.map iV)) (hopes mm.to)
      (fun R2 k2 => ⟨_, rfl, x, dx, _, _, rfl, hx, hope_goal _ _ _ _ _, _, rfl, p, _, 2, _, rfl, rfl, hp, rfl, p2, _, rfl, h2, rfl, flat_nats _, _, rfl, k2⟩)
      (fun _ R2 k2 => ⟨_, rfl, x, dx, _, _, rfl, hx, hope_hopes _ _ _ _ _, _, rfl, hs, _, mm.to, _, rfl, rfl, hope.hopes, at_nat (bls_get hto), _, rfl, k2⟩) k1)
      (fun _ R1 k1 => ⟨_, rfl, x, dx, _, _, rfl, hx, hope_steps _ _ _ _ _, _, rfl, st, _, mm.to, _, rfl, rfl, hst, at_nat hsv, !decide (sv = .non), rfl, by rw [esv, Bool.not_not]; exact k1⟩) ?_
    unfold Wk.does at q
    rw [in_nats]
    refine ite_case (fun e => ?_) (fun e => ?_)
    · rw [e, Bool.true_or] at q
      exact q
    · rw [e, Bool.false_or, ← in_nats] at q
      exact tandV (!inV (iV given) (mm.met.map iV)) (stays mm.to)
        (fun R2 k2 => ⟨_, rfl, _, rfl, p, _, 1, _, rfl, rfl, hp, rfl, p1, _, rfl, h1, rfl, flat_nats _, k2⟩)
        (fun _ R2 k2 => ⟨_, rfl, _, rfl, sl, _, mm.to, _, rfl, rfl, hsl, at_nat (bls_get hto), k2⟩) q
/-! ### Hope.can -/
abbrev sHope_can : Stmt := inClass (top 18) 2
abbrev nHope_can : List Str := ["self", "place", "given", "stays", "row", "move"]
theorem scHope_can : FnScope nHope_can ["self", "place", "given", "stays"] (defScope sHope_can) := ⟨rfl, rfl, rfl, by decide +kernel, rfl, by decide +kernel, by decide +kernel⟩
theorem pls_at {H : Hp} {m : V} {A : Ar} {p : Nat} (h : IsPls H m A.pl) (hp : p < A.n) : ∃ pm vs v pl, m = .ref pm ∧ H pm = some (.tup vs) ∧ vs[p]? = some v ∧ A.pl[p]? = some pl ∧ IsPl H v pl ∧ A.rows p = pl := by
  obtain ⟨pm, vs, rfl, hpm, pls⟩ := h
  have e : A.pl[p]? = some A.pl[p] := List.getElem?_eq_getElem hp
  obtain ⟨v, hv, iv⟩ := paired_r pls e
  refine ⟨pm, vs, v, A.pl[p], rfl, hpm, hv, e, iv, ?_⟩
  unfold Ar.rows
  rw [List.getD_eq_getElem?_getD, e]
  rfl
def spCan (Ch : Addr) : Sp := fun vs H Q _ => ∃ (x sl hs st : Addr) (A : Ar) (m : V) (goal given p : Nat) (hopes S stays : Nat → Bool) (xs : List V), vs = [.ref x, iV p, iV given, .ref sl] ∧ HopeAt Ch H x A m goal hs st hopes ∧
  H st = some (.lst xs) ∧ StepsOk A.n S xs ∧ H sl = some (.lst (Bls A.n stays)) ∧ ArOk A ∧ p < A.n ∧ ∀ H', Same H H' → Q (.bl (Wk.can A hopes S goal given stays p)) H'
theorem ok_can {f : Addr} {fd : FuncData} (F : Fun K "can" "Hope.can" sHope_can f fd) (T : Txt K mg Ch Cf) (dHope_does : Md P w K mg base Ch 1 "does" ["self", "move", "given", "stays"] (spDoes Ch)) :
    FnOk P w K mg base CX0 2 f fd ["self", "place", "given", "stays"] (spCan Ch) := by
  refine F.ok scHope_can (fun vs H Q E h => ?_) (fun cdv A outer s H vs Q E hr h => ?_)
  · obtain ⟨x, sl, hs, st, A, m, goal, given, p, hopes, S, stays, xs, rfl, _⟩ := h
    rfl
  · obtain ⟨x, sl, hs, st, R, m, goal, given, p, hopes, S, stays, xs, rfl, hope, hst, so, hsl, ok, hp, q⟩ := h
    obtain ⟨dx, hx⟩ := hope.ins
    obtain ⟨pm, vs, v, pl, rfl, hpm, hv, hpl, ⟨pp, rs, rfl, hpp, rows⟩, erow⟩ := pls_at hope.moves hp
    have plok := ok.pl pl (List.mem_of_getElem? hpl)
    have hl := paired_len rows
    have h8 := plok.few.most
    refine ⟨_, (pss_one (ps_ret (pe_all T.all (pe_lc (own := [("row", 4)]) (g := (gName 4)) (tt := tYes) rfl scHope_can.nd (pi_tupK (K := K) (pe_ix ixT (pe_fldF T.clHope T.hMoves (pv 0) (by rfl)) (pv 1) (fun _ _ => rfl))) (blkOk_by (N := nHope_can) (sc := (defScope sHope_can)) (by decide +kernel)) (fun _ _ _ _ _ => (pg_name (i := 4) scHope_can.nd rfl (Or.inl rfl))) (fun _ _ _ _ _ => pts_nil) (fun _ _ _ _ _ => by (apply pe_any T.any; exact (pe_lc (own := [("move", 5)]) (g := (gName 5)) (tt := tYes) rfl scHope_can.nd (pi_tupK (K := K) (pv 4)) (blkOk_by (N := nHope_can) (sc := (relS _ (defScope sHope_can))) (by decide +kernel)) (fun _ _ _ _ _ => (pg_name (i := 5) scHope_can.nd rfl (Or.inl rfl))) (fun _ _ _ _ _ => pts_nil) (fun _ _ _ _ _ => (pe_methD (pv 0) T.clHope dHope_does hr (pa_cons (pv 5) (pa_cons (pv 2) (pa_cons (pv 3) pa_nil)))))))))))), ?_⟩
    refine ⟨_, rfl, x, dx, _, _, rfl, hx, hope_moves _ _ _ _ _, _, rfl, pm, vs, p, _, rfl, rfl, hpm, at_nat hv, pp, rfl, ⟨_, SqT.of hpp⟩, fun D hD =>
      lc_tupB (pl.map fun row => row.any (Wk.does hopes S stays goal given)) hD hpp (by rw [List.length_map]; exact hl.symm) (small1000 (by omega)) (fun i y b H1 Q1 hy hb s1 k1 => ?_) (fun H1 s1 hl1 => ?_)⟩
    · obtain ⟨row, hrow, r, ws, rfl, hr', mvs⟩ := paired_l rows hy
      obtain rfl := mapb_get hb hrow
      have hr2 := s1 _ _ hr'
      have hm := List.mem_of_getElem? hrow
      have h8' := (plok.rows row hm).most
      have hl' := paired_len mvs
      refine ⟨_, rfl, r, rfl, ⟨_, SqT.of hr2⟩, fun D2 hD2 => lc_tupB (row.map (Wk.does hopes S stays goal given)) hD2 hr2 (by rw [List.length_map]; exact hl'.symm) (small1000 (by omega)) (fun j z c H2 Q2 hz hc s2 k2 => ?_) (fun H2 s2 hl2 => ?_)⟩
      · obtain ⟨mm, hmm, im⟩ := paired_l mvs hz
        obtain rfl := mapb_get hc hmm
        have hm' := List.mem_of_getElem? hmm
        have s12 := s1.trans s2
        refine ⟨_, rfl, x, dx, _, rfl, s12 _ _ hx, by rfl, _, rfl, _, rfl, _, rfl, x, sl, hs, st, z, R, _, goal, given, hopes, S, stays, xs, mm, rfl, hope.same s12, s12 _ _ hst, so, s12 _ _ hsl, im.keep (.of s12), (plok.mv row hm mm hm').to, k2 _ (Same.refl _)⟩
      · refine ⟨D2, _, rfl, hl2, ?_⟩
        exact bl_to (any_bl _ _) (k1 _ s2)
    · refine ⟨D, _, rfl, hl1, ?_⟩
      refine bl_to (all_bl _ _) ?_
      have q' := q _ s1
      unfold Wk.can at q'
      rw [erow] at q'
      exact q'
end
end Wk

namespace Wk
open PySem PySem.Spec PyProof.Rows L2
section
variable {P : Program} {w : World} {K : PySem.W.Frag} {mg : Str → Option Value} {base : Heap} {Ch Cf : Addr}
/-! ### Hope.kept_off -/
abbrev sHope_kept_off : Stmt := inClass (top 18) 3
abbrev nHope_kept_off : List Str := ["self", "given", "stays", "changed", "place"]
theorem scHope_kept_off : FnScope nHope_kept_off ["self", "given"] (defScope sHope_kept_off) := ⟨rfl, rfl, rfl, by decide +kernel, rfl, by decide +kernel, by decide +kernel⟩
def spKept (Ch : Addr) : Sp := fun vs H Q _ => ∃ (x hs st : Addr) (A : Ar) (m : V) (goal given : Nat) (hopes S : Nat → Bool) (xs : List V), vs = [.ref x, iV given] ∧ HopeAt Ch H x A m goal hs st hopes ∧
  H st = some (.lst xs) ∧ StepsOk A.n S xs ∧ ArOk A ∧ ∀ (H' : Hp) (p : Addr) (X : Nat → Bool), Same H H' → H p = none → IsKept A hopes S goal given X → H' p = some (.lst (((List.range A.n).filter X).map iV)) → Q (.ref p) H'
theorem ok_kept {f : Addr} {fd : FuncData} (F : Fun K "kept_off" "Hope.kept_off" sHope_kept_off f fd) (T : Txt K mg Ch Cf) (dHope_can : Md P w K mg base Ch 2 "can" ["self", "place", "given", "stays"] (spCan Ch)) :
    FnOk P w K mg base CX0 3 f fd ["self", "given"] (spKept Ch) := by
  refine F.ok scHope_kept_off (fun vs H Q E h => ?_) (fun cdv A outer s H vs Q E hr h => ?_)
  · obtain ⟨x, hs, st, A, m, goal, given, hopes, S, xs, rfl, _⟩ := h
    rfl
  · obtain ⟨x, hs, st, R, m, goal, given, hopes, S, xs, rfl, hope, hst, so, aok, q⟩ := h
    obtain ⟨dx, hx⟩ := hope.ins
    obtain ⟨pm, vs, rfl, hpm, pls⟩ := id hope.moves
    have hl : vs.length = R.n := paired_len pls
    have ok := aok.ok
    have n120 := aok.n120
    refine ⟨_, (pss_cons (ps_set (i := 2) scHope_kept_off.nd rfl (Or.inr rfl) (pe_op op_rep (pe_lst (pa_cons pe_bl pa_nil)) (pe_callB call_lenF (by rfl) T.len PySem.boot_len (pa_cons (pe_fldF T.clHope T.hMoves (pv 0) (by rfl)) pa_nil))))
      (pss_cons (ps_set (i := 3) scHope_kept_off.nd rfl (Or.inl rfl) pe_bl)
      (pss_cons (ps_while PassesOwn.never (pt_val (pv 3)) (pss_cons (ps_set (i := 3) scHope_kept_off.nd rfl (Or.inl rfl) pe_bl)
      (pss_one (ps_for PassesOwn.never rfl (pi_range1 (by rfl) T.range (pa_cons (pe_callB call_lenF (by rfl) T.len PySem.boot_len (pa_cons (pv 2) pa_nil)) pa_nil)) (pg_name (i := 4) scHope_kept_off.nd rfl (Or.inl rfl)) (pss_one (ps_if (pw_and (pt_val (pe_ix ixL (pv 2) (pv 4) (fun _ _ => rfl))) (pw_and1 (pt_not (pt_val (pe_methD (pv 0) T.clHope dHope_can hr (pa_cons (pv 4) (pa_cons (pv 1) (pa_cons (pv 2) pa_nil)))))))).pt (pss_cons (ps_asg pe_bl (pg_sub (pv 2) (pv 4) set_list))
      (pss_one (ps_set (i := 3) scHope_kept_off.nd rfl (Or.inl rfl) pe_bl))) pss_nil))))))
      (pss_one (ps_ret (pe_lc (own := [("place", 4)]) (g := (gName 4)) rfl scHope_kept_off.nd (pi_range1 (by rfl) T.range (pa_cons (pe_callB call_lenF (by rfl) T.len PySem.boot_len (pa_cons (pv 2) pa_nil)) pa_nil)) (blkOk_by (N := nHope_kept_off) (sc := (defScope sHope_kept_off)) (by decide +kernel)) (fun _ _ _ _ _ => (pg_name (i := 4) scHope_kept_off.nd rfl (Or.inl rfl))) (fun _ _ _ _ _ => pts_one (pt_val (pe_ix ixL (pv 2) (pv 4) (fun _ _ => rfl)))) (fun _ _ _ _ _ => (pv 4)))))))), ?_⟩
    refine ⟨by decide, fun l0 hl0 => ?_⟩
    have s0 : Same H (upd H l0 (.lst [.bl true])) := same_upd hl0
    refine ⟨_, rfl, x, dx, _, _, rfl, s0 _ _ hx, hope_moves _ _ _ _ _, pm, vs, rfl, .inr (s0 _ _ hpm), l0, (vs.length : Int), _, rfl, rfl, upd_same, by omega, by omega, Nat.le_of_lt (small1000 (by rw [Int.toNat_natCast]; show 1 * _ ≤ _; omega)), fun sl hsl => ?_⟩
    have e1 : (List.replicate ((vs.length : Int)).toNat [V.bl true]).flatten = Bls R.n (fun _ => true) := by
      rw [Int.toNat_natCast, rep_eq, hl, bls_const]
    rw [e1]
    have nsl : H sl = none := s0.free hsl
    have s1 : Same H (upd (upd H l0 (.lst [.bl true])) sl (.lst (Bls R.n fun _ => true))) := s0.trans (same_upd hsl)
    refine ⟨fun mm σ H' => ∃ (X : Nat → Bool) (ch : Bool) (v4 : Option V), σ = [some (.ref x), some (iV given), some (.ref sl), some (.bl ch), v4] ∧ Same H H' ∧ H' sl = some (.lst (Bls R.n X)) ∧
        (∀ Y, Stay R hopes S goal given Y → ∀ p, p < R.n → Y p = true → X p = true) ∧ (ch = false → Stay R hopes S goal given X) ∧ mm = 2 * cnt X R.n + (if ch = true then 1 else 0),
      ⟨_, fun _ => true, true, none, rfl, s1, upd_same, fun _ _ _ _ _ => rfl, fun z => (by cases z), rfl⟩, fun mm σ H1 hW => ?_⟩
    obtain ⟨X, ch, v4, rfl, s2, hX, great, stay, rfl⟩ := hW
    refine ⟨_, rfl, ch, rfl, ite_case (fun ec => ?_) (fun ec => ?_)⟩
    · -- a sweep
      refine ⟨_, fun σ' H' z => z, ?_⟩
      refine ⟨_, rfl, sl, _, rfl, .inl hX, (R.n : Int), congrArg (fun k : Nat => [iV k]) bls_len, by omega, by omega, ?_⟩
      refine for_rangeN (n := R.n) (fun i σ H' => ∃ (X' : Nat → Bool) (ch' : Bool) (v4 : Option V), σ = [some (.ref x), some (iV given), some (.ref sl), some (.bl ch'), v4] ∧ Same H H' ∧ H' sl = some (.lst (Bls R.n X')) ∧
          (∀ p, p < R.n → X' p = true → X p = true) ∧ (∀ Y, Stay R hopes S goal given Y → ∀ p, p < R.n → Y p = true → X' p = true) ∧ (ch' = true → cnt X' R.n < cnt X R.n) ∧
          (ch' = false → (∀ p, p < R.n → X' p = X p) ∧ ∀ p, p < i → X p = true → Wk.can R hopes S goal given X p = true))
        ⟨X, false, v4, rfl, s2, hX, fun _ _ z => z, great, fun z => (by cases z), fun _ => ⟨fun _ _ => rfl, fun p hp => absurd hp (by omega)⟩⟩ (fun i σ H' hi hv => ?_) (fun σ H' hv => ?_)
      · obtain ⟨X', ch', v4', rfl, s3, hX', le, great', dn, same⟩ := hv
        refine ⟨_, rfl, _, rfl, sl, _, i, _, rfl, rfl, hX', at_nat (bls_get hi), _, rfl, ite_case (fun e1 => ?_) (fun e1 => ?_)⟩
        · -- self.can(place, given, stays)
          refine ⟨_, rfl, x, dx, _, rfl, s3 _ _ hx, by rfl, _, rfl, _, rfl, _, rfl, x, sl, hs, st, R, _, goal, given, i, hopes, S, X', xs, rfl, hope.same s3, s3 _ _ hst, so, hX', aok, hi, fun H2 s4 => ⟨_, rfl, ite_not (fun e2 => ?_) (fun e2 => ?_)⟩⟩
          · refine ⟨X', ch', _, rfl, s3.trans s4, s4 _ _ hX', le, great', dn, fun z => ⟨(same z).1, fun p hp hxp => ?_⟩⟩
            by_cases e : p = i
            · subst e
              rw [← can_congr ok (same z).1]
              exact e2
            · exact (same z).2 p (by omega) hxp
          · refine ⟨_, rfl, _, rfl, sl, _, i, i, rfl, rfl, s4 _ _ hX', by rw [bls_len]; exact ix_nat hi, ?_⟩
            refine ⟨fun q => if q = i then false else X' q, true, _, rfl, same_new (s3.trans s4) nsl, by rw [upd_same, bls_set hi], fun p hp z => ?_, fun Y hY p hp z => ?_, fun _ => ?_, fun z => (by cases z)⟩
            · have z' : (if p = i then false else X' p) = true := z
              by_cases e : p = i
              · rw [if_pos e] at z'; cases z'
              · rw [if_neg e] at z'; exact le p hp z'
            · by_cases e : p = i
              · subst e
                rw [can_up ok (great' Y hY) (hY p hp z)] at e2
                cases e2
              · show (if p = i then false else X' p) = true
                rw [if_neg e]
                exact great' Y hY p hp z
            · refine Nat.lt_of_lt_of_le (cnt_lt (p := i) (fun p hp z => ?_) hi (by show (if i = i then false else X' i) = false; rw [if_pos rfl]) e1) (cnt_mono le)
              have z' : (if p = i then false else X' p) = true := z
              by_cases e : p = i
              · rw [if_pos e] at z'; cases z'
              · rw [if_neg e] at z'; exact z'
        · refine ⟨X', ch', _, rfl, s3, hX', le, great', dn, fun z => ⟨(same z).1, fun p hp hxp => ?_⟩⟩
          by_cases e : p = i
          · subst e
            rw [(same z).1 p hi, hxp] at e1
            cases e1
          · exact (same z).2 p (by omega) hxp
      · obtain ⟨X', ch', v4', rfl, s3, hX', le, great', dn, same⟩ := hv
        refine ⟨2 * cnt X' R.n + (if ch' = true then 1 else 0), ?_, X', ch', v4', rfl, s3, hX', great', fun z p hp hxp => ?_, rfl⟩
        · rw [if_pos ec]
          cases e : ch' with
          | true =>
            have := dn e
            rw [if_pos rfl]
            omega
          | false =>
            have := cnt_mono le
            rw [if_neg (by decide)]
            omega
        · rw [can_congr ok (same z).1]
          exact (same z).2 p hp ((same z).1 p hp ▸ hxp)
    · -- [place for place in range(len(stays)) if stays[place]]
      refine ⟨_, rfl, sl, _, rfl, .inl hX, (R.n : Int), congrArg (fun k : Nat => [iV k]) bls_len, by omega, by omega, fun D hD => ?_⟩
      refine lc_rangeF (n := R.n) X (by show 4 < 5; decide) hD (small1000 (by omega)) (fun i H2 R' hi s3 k => ?_) (fun H2 s3 hl => ?_)
      · exact ⟨_, rfl, _, rfl, sl, _, i, _, rfl, rfl, s3 _ _ hX, at_nat (bls_get hi), _, rfl, k⟩
      · exact q H2 D X (s2.trans s3) (s2.free hD) ⟨stay ec, great⟩ hl
end
end Wk

namespace Wk
open PySem PySem.Spec PyProof.Rows L2
section
variable {P : Program} {w : World} {K : PySem.W.Frag} {mg : Str → Option Value} {base : Heap} {Ch Cf : Addr}
theorem HopeAt.keep {H H' : Hp} {x : Addr} {A : Ar} {m : V} {goal : Nat} {hs st : Addr} {hopes : Nat → Bool} {xs : List V} (h : HopeAt Ch H x A m goal hs st hopes) (s : KeepBut st H H') (hst : H st = some (.lst xs)) (ne : hs ≠ st) : HopeAt Ch H' x A m goal hs st hopes :=
  ⟨let ⟨dx, e⟩ := h.ins; ⟨dx, s _ _ (ne_of e hst (by intro z; cases z)) e⟩, IsPls.keep (s.tkeep hst) h.moves, s _ _ ne h.hopes⟩
theorem plain_list {ns : List Nat} (h : ∀ p, p ∈ ns → p < 1000000) : PlainD 1 ns.length (.list (ns.map dN)) := by
  have := PlainD.list (k := 0) (b := 0) (n := ns.length) (xs := ns.map dN) (fun x hx => by obtain ⟨y, hy, rfl⟩ := List.mem_map.mp hx; exact .nat (h y hy)) (by rw [List.length_map]; exact Nat.le_refl _)
  rw [Nat.zero_add, Nat.mul_one] at this
  exact this
/-! ### Hope.step -/
abbrev sHope_step : Stmt := inClass (top 18) 4
abbrev nHope_step : List Str := ["self", "number", "given", "fresh", "place"]
theorem scHope_step : FnScope nHope_step ["self", "number", "given"] (defScope sHope_step) := ⟨rfl, rfl, rfl, by decide +kernel, rfl, by decide +kernel, by decide +kernel⟩
def spHStep (Ch : Addr) : Sp := fun vs H Q _ => ∃ (x hs st : Addr) (A : Ar) (m : V) (goal given : Nat) (number : Int) (hopes S : Nat → Bool) (xs : List V), vs = [.ref x, .int number, iV given] ∧ HopeAt Ch H x A m goal hs st hopes ∧
  H st = some (.lst xs) ∧ StepsOk A.n S xs ∧ ArOk A ∧ hs ≠ st ∧ ∀ (H' : Hp) (X : Nat → Bool) (xs' : List V) (b : Bool), KeepBut st H H' → IsKept A hopes S goal given X → H' st = some (.lst xs') → StepsOk A.n (fun p => S p || X p) xs' →
    (b = true → ∃ p, p < A.n ∧ X p = true ∧ S p = false) → (b = false → ∀ p, p < A.n → X p = true → S p = true) → Q (.bl b) H'
theorem ok_hstep {f : Addr} {fd : FuncData} (F : Fun K "step" "Hope.step" sHope_step f fd) (T : Txt K mg Ch Cf) (dHope_kept_off : Md P w K mg base Ch 3 "kept_off" ["self", "given"] (spKept Ch)) :
    FnOk P w K mg base CX0 4 f fd ["self", "number", "given"] (spHStep Ch) := by
  refine F.ok scHope_step (fun vs H Q E h => ?_) (fun cdv A outer s H vs Q E hr h => ?_)
  · obtain ⟨x, hs, st, A, m, goal, given, number, hopes, S, xs, rfl, _⟩ := h
    rfl
  · obtain ⟨x, hs, st, R, m, goal, given, number, hopes, S, xs, rfl, hope, hst, so, aok, nhs, q⟩ := h
    obtain ⟨dx, hx⟩ := hope.ins
    have n120 := aok.n120
    refine ⟨_, (pss_cons (ps_setLc (i := 3) (own := [("place", 4)]) (g := (gName 4)) rfl scHope_step.nd rfl rfl (sw_true rfl rfl rfl (by decide +kernel)) (pi_listK (K := K) (pe_methD (pv 0) T.clHope dHope_kept_off hr (pa_cons (pv 2) pa_nil))) (blkOk_by (N := nHope_step) (sc := (defScope sHope_step)) (by decide +kernel)) (fun _ _ _ _ _ => (pg_name (i := 4) scHope_step.nd rfl (Or.inl rfl))) (fun _ _ _ _ _ => pts_one (pt_cmp (pc_isN (pe_ix ixL (pe_fldF T.clHope T.hSteps (pv 0) (by rfl)) (pv 4) (fun _ _ => rfl))) rfl)) (fun _ _ _ _ _ => (pv 4)))
      (pss_cons (ps_for PassesOwn.never rfl (pi_listK (K := K) (pv 3)) (pg_name (i := 4) scHope_step.nd rfl (Or.inl rfl)) (pss_one (ps_asg (pe_tup (pa_cons (pv 1) (pa_cons (pv 2) pa_nil))) (pg_sub (pe_fldF T.clHope T.hSteps (pv 0) (by rfl)) (pv 4) set_list))))
      (pss_one (ps_ret (pe_cmpR (op_neD hr.units) (pv 3) (pe_lst pa_nil) (nomark _)))))), ?_⟩
    refine ⟨_, rfl, x, dx, _, rfl, hx, by rfl, _, rfl, x, hs, st, R, m, goal, given, hopes, S, xs, rfl, hope, hst, so, aok, fun H1 p X s1 np kept hp => ⟨p, rfl, ⟨_, SqL.of hp⟩, fun D hD => ?_⟩⟩
    have hlen : ((List.range R.n).filter X).length ≤ R.n := by
      have := List.length_filter_le X (List.range R.n)
      rw [List.length_range] at this
      exact this
    refine lc_listF (ns := (List.range R.n).filter X) (fun m => !S m) (by show 4 < 5; decide) hD hp (small1000 (by omega)) (fun m H2 R' hm s2 k => ?_) (fun H2 s2 hl => ?_)
    · have hm' : m < R.n := List.mem_range.mp (List.mem_filter.mp hm).1
      obtain ⟨v, hv, ev⟩ := so.2 m hm'
      refine ⟨_, rfl, x, dx, _, _, rfl, s2 _ _ (s1 _ _ hx), hope_steps _ _ _ _ _, _, rfl, st, xs, m, v, rfl, rfl, s2 _ _ (s1 _ _ hst), at_nat hv, _, rfl, ?_⟩
      rw [ev]
      exact k
    · -- for place in fresh
      have s12 := s1.trans s2
      have nD : H D = none := s1.free hD
      have nDst : D ≠ st := (ne_of_none hst nD).symm
      generalize hfr : ((List.range R.n).filter X).filter (fun m => !S m) = fr at hl
      have mem : ∀ p, p ∈ fr → p < R.n ∧ X p = true ∧ S p = false := fun p hp => by
        rw [← hfr] at hp
        obtain ⟨h1, h2⟩ := List.mem_filter.mp hp
        obtain ⟨h3, h4⟩ := List.mem_filter.mp h1
        exact ⟨List.mem_range.mp h3, h4, not_true.mp h2⟩
      have lfr : fr.length ≤ R.n := by
        rw [← hfr]
        exact Nat.le_trans (List.length_filter_le _ _) hlen
      refine ⟨_, rfl, D, rfl, ⟨_, SqL.of hl⟩, for_list (K := K) (a := D) (xs := fr.map iV) (fun i σ H' => ∃ (v3 : Option V) (xs' : List V), σ = [some (.ref x), some (.int number), some (iV given), some (.ref D), v3] ∧ KeepBut st H H' ∧ H' D = some (.lst (fr.map iV)) ∧
          H' st = some (.lst xs') ∧ StepsOk R.n (fun p => S p || (fr.take i).contains p) xs')
        ⟨none, xs, rfl, .of s12, hl, s12 _ _ hst, so.1, fun p hp => ?_⟩ (fun i σ H' _ hv => ?_) (fun i y σ H' hi hv => ?_) (fun σ H' hv => ?_)⟩
      · obtain ⟨v, h1, h2⟩ := so.2 p hp
        exact ⟨v, h1, by rw [h2, List.take_zero]; simp⟩
      · obtain ⟨v3, xs', rfl, kb, hD', hst', so'⟩ := hv
        exact SqL.of hD'
      · obtain ⟨v3, xs', rfl, kb, hD', hst', so'⟩ := hv
        obtain ⟨pl, hpl, rfl⟩ := map_get hi
        obtain ⟨hpn, _, _⟩ := mem pl (List.mem_of_getElem? hpl)
        refine ⟨_, rfl, _, rfl, (by show 2 ≤ sizeLine; decide), fun t ht => ?_⟩
        have nt : H' t = none := ht
        have nst : st ≠ t := ne_of_none hst' ht
        have hx' := kb _ _ (ne_of hx hst (by intro z; cases z)) hx
        refine ⟨_, rfl, x, dx, _, _, rfl, same_upd ht _ _ hx', hope_steps _ _ _ _ _, _, rfl, st, xs', pl, pl, rfl, rfl, by rw [upd_ne nst]; exact hst', by rw [so'.1]; exact ix_nat hpn, ?_⟩
        refine ⟨_, _, rfl, ?_, ?_, upd_same, by rw [List.length_set]; exact so'.1, fun p hp => ?_⟩
        · intro b o n e
          rw [upd_ne n]
          exact same_upd ht _ _ (kb b o n e)
        · rw [upd_ne nDst]
          exact same_upd ht _ _ hD'
        · have ec : (fr.take (i + 1)).contains p = ((fr.take i).contains p || p == pl) := by
            rw [List.take_add_one, hpl]
            show (fr.take i ++ [pl]).contains p = _
            rw [List.contains_eq_any_beq, List.any_append, ← List.contains_eq_any_beq]
            simp
          show ∃ v, _ ∧ _ = !(S p || (fr.take (i + 1)).contains p)
          rw [ec]
          by_cases e : p = pl
          · subst e
            exact ⟨_, List.getElem?_set_self (by rw [so'.1]; exact hp), by simp⟩
          · obtain ⟨v, h1, h2⟩ := so'.2 p hp
            refine ⟨v, by rw [List.getElem?_set_ne (fun z => e z.symm)]; exact h1, ?_⟩
            rw [h2]
            have e' : (p == pl) = false := beq_eq_false_iff_ne.mpr e
            rw [e', Bool.or_false]
      · obtain ⟨v3, xs', rfl, kb, hD', hst', so'⟩ := hv
        refine ⟨_, rfl, Nat.zero_le _, fun t ht => ?_⟩
        refine ⟨.list (fr.map dN), .list [], .lst (SqL.of (same_upd ht _ _ hD')) (dp_ns _), .lst (SqL.of upd_same) .nil, (plain_list fun p hp => by have := (mem p hp).1; omega).shaped (by decide), by decide, ?_⟩
        have e1 : PyData.eqv (.list (fr.map dN)) (.list []) = fr.isEmpty := by
          simp only [PyData.eqv]
          rw [eqv_nil]
          cases fr <;> rfl
        refine q _ X xs' _ (fun b o n e => same_upd ht _ _ (kb b o n e)) kept (same_upd ht _ _ hst') ⟨so'.1, fun p hp => ?_⟩ (fun e => ?_) (fun e => ?_)
        · obtain ⟨v, h1, h2⟩ := so'.2 p hp
          refine ⟨v, h1, ?_⟩
          rw [h2, List.take_of_length_le (by rw [List.length_map]; exact Nat.le_refl _)]
          show (!(S p || fr.contains p)) = !(S p || X p)
          congr 1
          cases eS : S p with
          | true => rfl
          | false =>
            rw [Bool.false_or, Bool.false_or, Bool.eq_iff_iff, List.contains_iff_mem]
            refine ⟨fun z => (mem p z).2.1, fun z => ?_⟩
            rw [← hfr]
            exact List.mem_filter.mpr ⟨List.mem_filter.mpr ⟨List.mem_range.mpr hp, z⟩, by rw [eS]; rfl⟩
        · rw [e1] at e
          cases e2 : fr with
          | nil => rw [e2] at e; cases e
          | cons a r => exact ⟨a, mem a (by rw [e2]; exact List.mem_cons_self)⟩
        · rw [e1] at e
          intro p hp hxp
          cases eS : S p with
          | true => rfl
          | false =>
            have : p ∈ fr := by
              rw [← hfr]
              exact List.mem_filter.mpr ⟨List.mem_filter.mpr ⟨List.mem_range.mpr hp, hxp⟩, by rw [eS]; rfl⟩
            cases e2 : fr with
            | nil => rw [e2] at this; cases this
            | cons a r => rw [e2] at e; cases e
end
end Wk

namespace Wk
open PySem PySem.Spec PyProof.Rows L2
section
variable {P : Program} {w : World} {K : PySem.W.Frag} {mg : Str → Option Value} {base : Heap} {Ch Cf : Addr}
theorem StepsOk.congr {n : Nat} {S S' : Nat → Bool} {xs : List V} (h : StepsOk n S xs) (e : ∀ p, p < n → S p = S' p) : StepsOk n S' xs := ⟨h.1, fun p hp => by
  obtain ⟨v, h1, h2⟩ := h.2 p hp
  exact ⟨v, h1, by rw [h2, e p hp]⟩⟩
/-! ### Hope.reached -/
abbrev sHope_reached : Stmt := inClass (top 18) 5
abbrev nHope_reached : List Str := ["self", "number", "changed", "given"]
theorem scHope_reached : FnScope nHope_reached ["self"] (defScope sHope_reached) := ⟨rfl, rfl, rfl, by decide +kernel, rfl, by decide +kernel, by decide +kernel⟩
def spReached (Ch : Addr) : Sp := fun vs H Q _ => ∃ (x hs st : Addr) (A : Ar) (m : V) (goal : Nat) (hopes : Nat → Bool) (xs : List V), vs = [.ref x] ∧ HopeAt Ch H x A m goal hs st hopes ∧
  H st = some (.lst xs) ∧ StepsOk A.n (fun _ => false) xs ∧ ArOk A ∧ hs ≠ st ∧ ∀ (H' : Hp) (p : Addr) (R : Nat → Bool) (xs' : List V), KeepBut st H H' → H p = none → IsReach A hopes goal R → H' p = some (.tup xs') → StepsOk A.n R xs' → Q (.ref p) H'
theorem ok_reached {f : Addr} {fd : FuncData} (F : Fun K "reached" "Hope.reached" sHope_reached f fd) (T : Txt K mg Ch Cf) (dHope_step : Md P w K mg base Ch 4 "step" ["self", "number", "given"] (spHStep Ch)) :
    FnOk P w K mg base CX0 5 f fd ["self"] (spReached Ch) := by
  refine F.ok scHope_reached (fun vs H Q E h => ?_) (fun cdv A outer s H vs Q E hr h => ?_)
  · obtain ⟨x, hs, st, A, m, goal, hopes, xs, rfl, _⟩ := h
    rfl
  · obtain ⟨x, hs, st, R, m, goal, hopes, xs, rfl, hope, hst, so, aok, nhs, q⟩ := h
    obtain ⟨dx, hx⟩ := hope.ins
    have n120 := aok.n120
    have g8 := aok.g8
    have ok := aok.ok
    have nxst : x ≠ st := ne_of hx hst (by intro z; cases z)
    refine ⟨_, (pss_cons (ps_set (i := 1) scHope_reached.nd rfl (Or.inl rfl) pe_int)
      (pss_cons (ps_set (i := 2) scHope_reached.nd rfl (Or.inl rfl) pe_bl)
      (pss_cons (ps_while PassesOwn.never (pt_val (pv 2)) (pss_cons (ps_set (i := 2) scHope_reached.nd rfl (Or.inl rfl) pe_bl)
      (pss_one (ps_for PassesOwn.never rfl (pi_range1 (by rfl) T.range (pa_cons (pe_fldF T.clHope T.hGiven (pv 0) (by rfl)) pa_nil)) (pg_name (i := 3) scHope_reached.nd rfl (Or.inl rfl)) (pss_one (ps_if (pt_val (pe_methD (pv 0) T.clHope dHope_step hr (pa_cons (pv 1) (pa_cons (pv 3) pa_nil)))) (pss_cons (ps_aug (i := 1) scHope_reached.nd rfl (Or.inl rfl) pe_int ip_add)
      (pss_one (ps_set (i := 2) scHope_reached.nd rfl (Or.inl rfl) pe_bl))) pss_nil))))))
      (pss_one (ps_ret (pe_callTy call_tupF (by rfl) T.tuple (by decide +kernel) (pa_cons (pe_fldF T.clHope T.hSteps (pv 0) (by rfl)) pa_nil))))))), ?_⟩
    refine ⟨fun mm σ H' => ∃ (S : Nat → Bool) (xs' : List V) (num : Int) (ch : Bool) (v3 : Option V), σ = [some (.ref x), some (.int num), some (.bl ch), v3] ∧ KeepBut st H H' ∧ H' st = some (.lst xs') ∧ StepsOk R.n S xs' ∧
        (∀ T, Closed R hopes goal T → ∀ p, p < R.n → S p = true → T p = true) ∧ (ch = false → Closed R hopes goal S) ∧ mm = 2 * (R.n - cnt S R.n) + (if ch = true then 1 else 0),
      ⟨_, fun _ => false, xs, 0, true, none, rfl, .of (Same.refl _), hst, so, fun _ _ _ _ z => (by cases z), fun z => (by cases z), rfl⟩, fun mm σ H1 hW => ?_⟩
    obtain ⟨S, xs1, num, ch, v3, rfl, kb, hst1, so1, least, clo, rfl⟩ := hW
    refine ⟨_, rfl, ch, rfl, ite_case (fun ec => ?_) (fun ec => ?_)⟩
    · refine ⟨_, fun σ' H' z => z, ?_⟩
      refine ⟨_, rfl, x, dx, _, _, rfl, kb _ _ nxst hx, hope_given _ _ _ _ _, (R.given : Int), rfl, by omega, by omega, ?_⟩
      refine for_rangeN (n := R.given) (fun i σ H' => ∃ (S' : Nat → Bool) (xs' : List V) (num : Int) (ch' : Bool) (v3 : Option V), σ = [some (.ref x), some (.int num), some (.bl ch'), v3] ∧ KeepBut st H H' ∧ H' st = some (.lst xs') ∧ StepsOk R.n S' xs' ∧
          (∀ p, p < R.n → S p = true → S' p = true) ∧ (∀ T, Closed R hopes goal T → ∀ p, p < R.n → S' p = true → T p = true) ∧ (ch' = true → cnt S R.n < cnt S' R.n) ∧
          (ch' = false → (∀ p, p < R.n → S' p = S p) ∧ ∀ j, j < i → ∀ X, Stay R hopes S goal j X → ∀ p, p < R.n → X p = true → S p = true))
        ⟨S, xs1, num, false, v3, rfl, kb, hst1, so1, fun _ _ z => z, least, fun z => (by cases z), fun _ => ⟨fun _ _ => rfl, fun j hj => absurd hj (by omega)⟩⟩ (fun i σ H' hi hv => ?_) (fun σ H' hv => ?_)
      · obtain ⟨S', xs2, num2, ch', v3', rfl, kb2, hst2, so2, le, least2, up, same⟩ := hv
        refine ⟨_, rfl, x, dx, _, rfl, kb2 _ _ nxst hx, by rfl, _, rfl, _, rfl, x, hs, st, R, m, goal, i, num2, hopes, S', xs2, rfl, hope.keep kb2 hst nhs, hst2, so2, aok, nhs, fun H3 X xs3 b kb3 kept hst3 so3 b1 b0 => ⟨b, rfl, ?_⟩⟩
        have le3 : ∀ p, p < R.n → S' p = true → (S' p || X p) = true := fun p _ z => by rw [z]; rfl
        have least3 : ∀ T, Closed R hopes goal T → ∀ p, p < R.n → (S' p || X p) = true → T p = true := fun T hT p hp z => by
          rw [Bool.or_eq_true] at z
          rcases z with z | z
          · exact least2 T hT p hp z
          · exact hT i hi X (kept.post.mono ok (fun _ _ y => y) (least2 T hT)) p hp z
        refine ite_case (fun eb => ?_) (fun eb => ?_)
        · -- number += 1; changed = True
          refine ⟨_, rfl, _, _, rfl, rfl, ?_⟩
          refine ⟨fun p => S' p || X p, xs3, num2 + 1, true, _, rfl, kb2.trans kb3, hst3, so3, fun p hp z => le3 p hp (le p hp z), least3, fun _ => ?_, fun z => (by cases z)⟩
          obtain ⟨p, hp, h1, h2⟩ := b1 eb
          exact Nat.lt_of_le_of_lt (cnt_mono le) (cnt_lt (p := p) le3 hp h2 (by show (S' p || X p) = true; rw [h1, Bool.or_true]))
        · have e3 : ∀ p, p < R.n → (S' p || X p) = S' p := fun p hp => by
            cases eS : S' p with
            | true => rfl
            | false =>
              rw [Bool.false_or]
              exact of_not_true fun z => by rw [b0 eb p hp z] at eS; cases eS
          refine ⟨S', xs3, num2, ch', _, rfl, kb2.trans kb3, hst3, so3.congr e3, le, least2, up, fun z => ⟨(same z).1, fun j hj Y hY p hp hy => ?_⟩⟩
          by_cases e : j = i
          · subst e
            rw [← (same z).1 p hp]
            exact b0 eb p hp (kept.great Y (hY.mono ok (fun _ _ y => y) le) p hp hy)
          · exact (same z).2 j (by omega) Y hY p hp hy
      · obtain ⟨S', xs2, num2, ch', v3', rfl, kb2, hst2, so2, le, least2, up, same⟩ := hv
        refine ⟨2 * (R.n - cnt S' R.n) + (if ch' = true then 1 else 0), ?_, S', xs2, num2, ch', v3', rfl, kb2, hst2, so2, least2, fun z i hi X hX p hp hxp => ?_, rfl⟩
        · rw [if_pos ec]
          have hb := cnt_le S' R.n
          cases e : ch' with
          | true =>
            have := up e
            rw [if_pos rfl]
            omega
          | false =>
            have := cnt_mono le
            rw [if_neg (by decide)]
            omega
        · rw [(same z).1 p hp]
          exact (same z).2 i hi X (hX.mono ok (fun _ _ y => y) fun r hr y => by rw [← (same z).1 r hr]; exact y) p hp hxp
    · -- return tuple(self.steps)
      have hx1 := kb _ _ nxst hx
      refine ⟨_, rfl, x, dx, _, _, rfl, hx1, hope_steps _ _ _ _ _, st, xs1, rfl, hst1, fun l hl => ?_⟩
      have nl : H l = none := by
        cases e : H l with
        | none => rfl
        | some o =>
          by_cases e2 : l = st
          · rw [e2, hst1] at hl; cases hl
          · rw [kb _ _ e2 e] at hl; cases hl
      refine q _ l S xs1 (fun b o n e => ?_) nl ⟨clo ec, least⟩ upd_same so1
      rw [upd_ne (ne_of_none e nl)]
      exact kb b o n e
end
end Wk

namespace Wk
open PySem PySem.Spec PyProof.Rows L2
theorem KeepBut.tk {a : Addr} {H H' : Hp} {C dx : Addr} {fs : List (Str × V)} (x : KeepBut a H H') (h : H a = some (.ins C dx fs)) : TKeep H H' := fun b ys e => x b _ (ne_of e h (by intro z; cases z)) e
theorem hope_put (m : V) (g goal : Int) (hs st : V) : putF "steps" st (putF "hopes" hs (putF "goal" (.int goal) (putF "given" (.int g) (putF "moves" m [])))) = hopeF m g goal hs st := by rfl
section
variable {P : Program} {w : World} {K : PySem.W.Frag} {mg : Str → Option Value} {base : Heap} {Ch Cf : Addr}
/-! ### Hope.__init__ -/
abbrev sHope_init : Stmt := inClass (top 18) 0
abbrev nHope_init : List Str := ["self", "arena", "goal", "hopes"]
theorem scHope_init : FnScope nHope_init ["self", "arena", "goal", "hopes"] (defScope sHope_init) := ⟨rfl, rfl, rfl, by decide +kernel, rfl, by decide +kernel, by decide +kernel⟩
def spHInit (Ch : Addr) : Sp := fun vs H Q _ => ∃ (x dx hs : Addr) (v : V) (A : Ar) (goal : Nat) (hopes : Nat → Bool), vs = [.ref x, v, iV goal, .ref hs] ∧ IsAr H v A ∧ ArOk A ∧ H x = some (.ins Ch dx []) ∧ H hs = some (.lst (Bls A.n hopes)) ∧
  ∀ (H' : Hp) (m : V) (st : Addr), KeepBut x H H' → H st = none → HopeAt Ch H' x A m goal hs st hopes → H' st = some (.lst (List.replicate A.n .non)) → Q .non H'
theorem ok_hinit {f : Addr} {fd : FuncData} (F : Fun K "__init__" "Hope.__init__" sHope_init f fd) (T : Txt K mg Ch Cf) : FnOk P w K mg base CX0 1 f fd ["self", "arena", "goal", "hopes"] (spHInit Ch) := by
  refine F.ok scHope_init (fun vs H Q E h => ?_) (fun cdv A outer s H vs Q E hr h => ?_)
  · obtain ⟨x, dx, hs, v, A, goal, hopes, rfl, _⟩ := h
    rfl
  · obtain ⟨x, dx, hs, v, R, goal, hopes, rfl, ia, aok, hx, hhs, q⟩ := h
    obtain ⟨p, m, rfl, hp, hm⟩ := id ia
    obtain ⟨pm, vs, rfl, hpm, pls⟩ := id hm
    have hl : vs.length = R.n := paired_len pls
    have n120 := aok.n120
    have npx : p ≠ x := ne_of hp hx (by intro z; cases z)
    have nmx : pm ≠ x := ne_of hpm hx (by intro z; cases z)
    have nhx : hs ≠ x := ne_of hhs hx (by intro z; cases z)
    have k0 : KeepBut x H H := .of (Same.refl _)
    refine ⟨_, (pss_cons (ps_fld (pv 0) (pe_ix ixT (pv 1) pe_int (fun _ _ => rfl)) rfl)
      (pss_cons (ps_fld (pv 0) (pe_ix ixT (pv 1) pe_int (fun _ _ => rfl)) rfl)
      (pss_cons (ps_fld (pv 0) (pv 2) rfl)
      (pss_cons (ps_fld (pv 0) (pv 3) rfl)
      (pss_one (ps_fld (pv 0) (pe_op op_rep (pe_lst (pa_cons pe_non pa_nil)) (pe_callB call_lenF (by rfl) T.len PySem.boot_len (pa_cons (pe_ix ixT (pv 1) pe_int (fun _ _ => rfl)) pa_nil))) rfl)))))), ?_⟩
    refine ⟨_, rfl, p, _, 0, _, rfl, rfl, hp, rfl, _, rfl, x, Ch, dx, [], rfl, hx, T.clHope, T.hMoves, (by show 0 < 1000; decide), ?_⟩
    refine ⟨_, rfl, p, _, 1, _, rfl, rfl, k0.upd _ _ npx hp, rfl, _, rfl, x, Ch, dx, _, rfl, upd_same, T.clHope, T.hGiven, (by show 1 < 1000; decide), ?_⟩
    refine ⟨_, rfl, _, rfl, x, Ch, dx, _, rfl, upd_same, T.clHope, T.hGoal, (by show 2 < 1000; decide), ?_⟩
    refine ⟨_, rfl, _, rfl, x, Ch, dx, _, rfl, upd_same, T.clHope, T.hHopes, (by show 3 < 1000; decide), ?_⟩
    refine ⟨by decide, fun l0 hl0 => ?_⟩
    have nx0 : ∀ l, (upd (upd (upd (upd H x (.ins Ch dx (putF "moves" (.ref pm) []))) x (.ins Ch dx (putF "given" (iV R.given) (putF "moves" (.ref pm) [])))) x (.ins Ch dx (putF "goal" (iV goal) (putF "given" (iV R.given) (putF "moves" (.ref pm) []))))) x
        (.ins Ch dx (putF "hopes" (.ref hs) (putF "goal" (iV goal) (putF "given" (iV R.given) (putF "moves" (.ref pm) [])))))) l = none → l ≠ x ∧ H l = none := fun l e => by
      have n : l ≠ x := fun z => by rw [z, upd_same] at e; cases e
      rw [upd_ne n, upd_ne n, upd_ne n, upd_ne n] at e
      exact ⟨n, e⟩
    obtain ⟨n0, h0⟩ := nx0 l0 hl0
    generalize hH4 : upd (upd (upd (upd H x (.ins Ch dx (putF "moves" (.ref pm) []))) x (.ins Ch dx (putF "given" (iV R.given) (putF "moves" (.ref pm) [])))) x (.ins Ch dx (putF "goal" (iV goal) (putF "given" (iV R.given) (putF "moves" (.ref pm) []))))) x
        (.ins Ch dx (putF "hopes" (.ref hs) (putF "goal" (iV goal) (putF "given" (iV R.given) (putF "moves" (.ref pm) []))))) = H4 at hl0 nx0
    have k4 : KeepBut x H H4 := by rw [← hH4]; exact k0.upd.upd.upd.upd
    have x4 : H4 x = some (.ins Ch dx (putF "hopes" (.ref hs) (putF "goal" (iV goal) (putF "given" (iV R.given) (putF "moves" (.ref pm) []))))) := by rw [← hH4]; exact upd_same
    have s5 := same_upd (o := HO.lst [V.non]) hl0
    refine ⟨_, rfl, p, _, 0, _, rfl, rfl, s5 _ _ (k4 _ _ npx hp), rfl, pm, vs, rfl, .inr (s5 _ _ (k4 _ _ nmx hpm)), l0, (vs.length : Int), _, rfl, rfl, upd_same, by omega, by omega, Nat.le_of_lt (small1000 (by rw [Int.toNat_natCast]; show 1 * _ ≤ _; omega)), fun st hst => ?_⟩
    have e1 : (List.replicate ((vs.length : Int)).toNat [V.non]).flatten = List.replicate R.n V.non := by
      rw [Int.toNat_natCast, rep_eq, hl]
    rw [e1]
    have hst4 : H4 st = none := s5.free hst
    obtain ⟨nst, hst0⟩ := nx0 st hst4
    have s6 := same_upd (o := HO.lst (List.replicate R.n V.non)) hst
    refine ⟨_, rfl, x, Ch, dx, _, rfl, s6 _ _ (s5 _ _ x4), T.clHope, T.hSteps, (by show 4 < 1000; decide), ?_⟩
    have kE : KeepBut x H (upd (upd (upd H4 l0 (.lst [V.non])) st (.lst (List.replicate R.n V.non))) x (.ins Ch dx (putF "steps" (.ref st) (putF "hopes" (.ref hs) (putF "goal" (iV goal) (putF "given" (iV R.given) (putF "moves" (.ref pm) []))))))) :=
      KeepBut.upd ((k4.new h0).new hst0)
    refine q _ (.ref pm) st kE hst0 ⟨⟨dx, ?_⟩, IsPls.keep (kE.tk hx) hm, kE _ _ nhx hhs⟩ (by rw [upd_ne nst, upd_same])
    rw [upd_same, hope_put]
end
end Wk

namespace Wk
open PySem PySem.Spec PyProof.Rows L2
theorem steps_none {n : Nat} : StepsOk n (fun _ => false) (List.replicate n V.non) := ⟨List.length_replicate, fun p hp => ⟨.non, by rw [List.getElem?_replicate, if_pos hp], by simp⟩⟩
def dBls (n : Nat) (f : Nat → Bool) : PyData := .list (((List.range n).map f).map .bool)
theorem dp_bools {K : PySem.W.Frag} {H : Hp} : ∀ bs : List Bool, DpAll K H (bs.map V.bl) (bs.map .bool)
  | [] => .nil
  | b :: bs => .cons (.bl b) (dp_bools bs)
theorem plain_bools (bs : List Bool) : PlainD 1 bs.length (.list (bs.map .bool)) := by
  have := PlainD.list (k := 0) (b := 0) (n := bs.length) (xs := bs.map .bool) (fun x hx => by obtain ⟨y, hy, rfl⟩ := List.mem_map.mp hx; exact ⟨by simp only [PyData.canLay0], by simp only [PyData.showable], by simp only [PyData.leavesShort], by simp only [PyData.hasDict], by simp only [PyData.depth]; exact Nat.le_refl _, by simp only [PyData.bulk]; exact Nat.le_refl _⟩) (by rw [List.length_map]; exact Nat.le_refl _)
  rw [Nat.zero_add, Nat.mul_one] at this
  exact this
theorem dp_bls {K : PySem.W.Frag} {H : Hp} {a : Addr} {n : Nat} {f : Nat → Bool} (h : H a = some (.lst (Bls n f))) : Dp K H (.ref a) (dBls n f) := .lst (SqL.of h) (dp_bools _)
theorem eqv_bls {n : Nat} {f g : Nat → Bool} : PyData.eqv (dBls n f) (dBls n g) = decide ((List.range n).map f = (List.range n).map g) := by
  unfold dBls
  simp only [PyData.eqv]
  exact eqv_bools _ _
theorem map_range_eq {n : Nat} {f g : Nat → Bool} : (List.range n).map f = (List.range n).map g ↔ ∀ p, p < n → f p = g p := by
  constructor
  · intro h p hp
    have e := congrArg (fun l => l[p]?) h
    rw [range_map_get f hp, range_map_get g hp] at e
    exact Option.some.inj e
  · intro h
    exact List.map_congr_left fun p hp => h p (List.mem_range.mp hp)
theorem bls_fold {n : Nat} {f : Nat → Bool} : (((List.range n).map f).map V.bl) = Bls n f := rfl
section
variable {P : Program} {w : World} {K : PySem.W.Frag} {mg : Str → Option Value} {base : Heap} {Ch Cf : Addr}
/-! ### held -/
abbrev sheld : Stmt := top 19
abbrev nheld : List Str := ["arena", "hopes", "found", "goal", "left", "place", "table"]
theorem scheld : FnScope nheld ["arena"] (defScope sheld) := ⟨rfl, rfl, rfl, by decide +kernel, rfl, by decide +kernel, by decide +kernel⟩
/-- a table of hopes -/
def TabAt (n : Nat) (H : Hp) (v : V) (S : Nat → Bool) : Prop := ∃ t xs, v = .ref t ∧ H t = some (.tup xs) ∧ StepsOk n S xs
theorem TabAt.keep {n : Nat} {H H' : Hp} {v : V} {S : Nat → Bool} (h : TabAt n H v S) (k : TKeep H H') : TabAt n H' v S := let ⟨t, xs, e, h, s⟩ := h; ⟨t, xs, e, k _ _ h, s⟩
def spHeld : Sp := fun vs H Q _ => ∃ (v : V) (A : Ar), vs = [v] ∧ IsAr H v A ∧ ArOk A ∧ ∀ (H' : Hp) (p : Addr) (ts : List V) (W : Nat → Bool) (R : Nat → Nat → Bool), Same H H' → H' p = some (.tup ts) → ts.length = A.wanted → IsHeld A W R →
  (∀ j, j < A.wanted → ∃ v, ts[j]? = some v ∧ TabAt A.n H' v (R j)) → Q (.ref p) H'
theorem ok_held {f : Addr} {fd : FuncData} (F : Fun K "held" "held" sheld f fd) (T : Txt K mg Ch Cf) (dneed_arena : Df P w K mg base 6 "need_arena" ["thing"] spNeed) (dHope : Kd P w K mg base Ch 1 "Hope" ["self", "arena", "goal", "hopes"] (spHInit Ch))
    (dHope_reached : Md P w K mg base Ch 5 "reached" ["self"] (spReached Ch)) : FnOk P w K mg base CX0 7 f fd ["arena"] spHeld := by
  refine F.ok scheld (fun vs H Q E h => ?_) (fun cdv A outer s H vs Q E hr h => ?_)
  · obtain ⟨v, A, rfl, _⟩ := h
    rfl
  · obtain ⟨v, R, rfl, ia, aok, q⟩ := h
    have n120 := aok.n120
    have w8 := aok.w8
    have w1 := aok.w1
    have ok := aok.ok
    refine ⟨_, (pss_cons (ps_expr (pe_callD dneed_arena hr (by rfl) (pa_cons (pv 0) pa_nil)))
      (pss_cons (ps_set (i := 1) scheld.nd rfl (Or.inr rfl) (pe_op op_rep (pe_lst (pa_cons pe_bl pa_nil)) (pe_callB call_lenF (by rfl) T.len PySem.boot_len (pa_cons (pe_ix ixT (pv 0) pe_int (fun _ _ => rfl)) pa_nil))))
      (pss_one (ps_while PassesOwn.never (pt_val pe_bl) (pss_cons (ps_set (i := 2) scheld.nd rfl (Or.inr rfl) (pe_callTy call_tupF (by rfl) T.tuple (by decide +kernel) (pa_cons (pe_lc (own := [("goal", 3)]) (g := (gName 3)) (tt := tYes) rfl scheld.nd (pi_range1 (by rfl) T.range (pa_cons (pe_ix ixT (pv 0) pe_int (fun _ _ => rfl)) pa_nil)) (blkOk_by (N := nheld) (sc := (defScope sheld)) (by decide +kernel)) (fun _ _ _ _ _ => (pg_name (i := 3) scheld.nd rfl (Or.inl rfl))) (fun _ _ _ _ _ => pts_nil) (fun _ _ _ _ _ => (pe_methD0 (pe_makeD dHope hr (by rfl) (pa_cons (pv 0) (pa_cons (pv 3) (pa_cons (pv 1) pa_nil)))) T.clHope dHope_reached hr))) pa_nil)))
      (pss_cons (ps_setLc (i := 4) (own := [("place", 5)]) (g := (gName 5)) (tt := tYes) rfl scheld.nd rfl rfl (sw_true rfl rfl rfl (by decide +kernel)) (pi_range1 (by rfl) T.range (pa_cons (pe_callB call_lenF (by rfl) T.len PySem.boot_len (pa_cons (pv 1) pa_nil)) pa_nil)) (blkOk_by (N := nheld) (sc := (defScope sheld)) (by decide +kernel)) (fun _ _ _ _ _ => (pg_name (i := 5) scheld.nd rfl (Or.inr rfl))) (fun _ _ _ _ _ => pts_nil) (fun _ _ _ _ _ => by (apply pe_all T.all; exact (pe_lc (own := [("table", 6)]) (g := (gName 6)) (tt := tYes) rfl scheld.nd (pi_tupK (K := K) (pv 2)) (blkOk_by (N := nheld) (sc := (relS _ (defScope sheld))) (by decide +kernel)) (fun _ _ _ _ _ => (pg_name (i := 6) scheld.nd rfl (Or.inl rfl))) (fun _ _ _ _ _ => pts_nil) (fun _ _ _ _ _ => (pe_cmp (pc_notN (pe_ix ixT (pv 6) (pv 5) (fun _ _ => rfl))) rfl))))))
      (pss_cons (ps_if (pt_cmpR (op_eqD hr.units) (pv 4) (pv 1) (nomark _)) (pss_one (ps_ret (pv 2))) pss_nil)
      (pss_one (ps_set (i := 1) scheld.nd rfl (Or.inr rfl) (pv 4)))))))))), ?_⟩
    refine ⟨_, rfl, v, R, rfl, ia, aok, fun H1 s1 => ?_⟩
    obtain ⟨p, m, rfl, hp, hm⟩ := id ia
    obtain ⟨pm, vs, rfl, hpm, pls⟩ := id hm
    have hl : vs.length = R.n := paired_len pls
    refine ⟨by decide, fun l0 hl0 => ?_⟩
    have s2 := s1.trans (same_upd (o := HO.lst [V.bl true]) hl0)
    refine ⟨_, rfl, p, _, 0, _, rfl, rfl, s2 _ _ hp, rfl, pm, vs, rfl, .inr (s2 _ _ hpm), l0, (vs.length : Int), _, rfl, rfl, upd_same, by omega, by omega, Nat.le_of_lt (small1000 (by rw [Int.toNat_natCast]; show 1 * _ ≤ _; omega)), fun hl0' hhl => ?_⟩
    have e1 : (List.replicate ((vs.length : Int)).toNat [V.bl true]).flatten = Bls R.n (fun _ => true) := by
      rw [Int.toNat_natCast, rep_eq, hl, bls_const]
    rw [e1]
    have s3 := s2.trans (same_upd (o := HO.lst (Bls R.n fun _ => true)) hhl)
    refine ⟨fun mm σ H' => ∃ (hopes : Nat → Bool) (hh : Addr) (v2 v4 : Option V), σ = [some (.ref p), some (.ref hh), v2, none, v4, none, none] ∧ Same H H' ∧ H' hh = some (.lst (Bls R.n hopes)) ∧
        (∀ Z, (∀ j, j < R.wanted → ∀ T, Closed R Z j T → ∀ p, p < R.n → Z p = true → T p = true) → ∀ p, p < R.n → Z p = true → hopes p = true) ∧
        (∀ Rj : Nat → Nat → Bool, (∀ j, j < R.wanted → IsReach R hopes j (Rj j)) → ∀ p, p < R.n → (∀ j, j < R.wanted → Rj j p = true) → hopes p = true) ∧ mm = cnt hopes R.n,
      ⟨_, fun _ => true, hl0', none, none, rfl, s3, upd_same, fun _ _ _ _ _ => rfl, fun _ _ _ _ _ => rfl, rfl⟩, fun mm σ H2 hW => ?_⟩
    obtain ⟨hopes, hh, v2, v4, rfl, sH, hhh, great, dec, rfl⟩ := hW
    refine ⟨true, rfl, iteT ⟨_, fun σ' H' z => z, ?_⟩⟩
    have hp2 := sH _ _ hp
    have hpm2 := sH _ _ hpm
    refine ⟨_, rfl, p, _, 2, _, rfl, rfl, hp2, rfl, (R.wanted : Int), rfl, by omega, by omega, fun D hD => ?_⟩
    refine lc_rangeG (n := R.wanted) (fun j y H' => (∃ S, IsReach R hopes j S ∧ TabAt R.n H' y S) ∧ y ≠ .ref D) (fun j y H3 H4 _ kb _ h => ⟨?_, h.2⟩) hD (small1000 (by omega)) (fun j H3 Q' hj s4 hacc k => ?_) (fun H3 ys s4 hys hD3 tabs => ?_)
    · obtain ⟨⟨S, h1, t, xs, rfl, ht, so⟩, hne⟩ := h
      exact ⟨S, h1, t, xs, rfl, kb _ _ (fun e => hne (by rw [e])) ht, so⟩
    · refine ⟨_, rfl, _, rfl, _, rfl, fun x dx nx ndx nex => ?_⟩
      have s5 : Same H3 (upd (upd H3 dx (.own x)) x (.ins Ch dx [])) := fun b o e => by
        rw [upd_ne (ne_of_none e nx), upd_ne (ne_of_none e ndx)]
        exact e
      have s35 := sH.trans (s4.trans s5)
      refine ⟨x, dx, hh, _, R, j, hopes, rfl, ia.keep (.of s35), aok, upd_same, (s4.trans s5) _ _ hhh, fun H4 m4 st kb4 nst hope hst => ⟨rfl, ?_⟩⟩
      obtain ⟨dx4, hx4⟩ := hope.ins
      have nhst : hh ≠ st := ne_of_none ((s4.trans s5) _ _ hhh) nst
      refine ⟨x, dx4, _, rfl, hx4, by rfl, x, hh, st, R, m4, j, hopes, _, rfl, hope, hst, steps_none, aok, nhst, fun H5 t Rj xs' kb5 nt reach ht so' => ?_⟩
      have s36 : Same H3 H5 := fun b o e => by
        have e1 := s5 b o e
        have nbx : b ≠ x := ne_of_none e nx
        exact kb5 b o (ne_of_none e1 nst) (kb4 b o nbx e1)
      obtain ⟨acc, ha⟩ := hacc
      refine k _ H5 s36 ⟨⟨Rj, reach, t, xs', rfl, ht, so'⟩, fun e => ?_⟩
      have e' : t = D := V.ref.inj e
      rw [e', s36 _ _ ha] at ht
      cases ht
    · refine ⟨D, ys, rfl, hD3, fun l hl3 => ?_⟩
      have s5 : Same H3 (upd H3 l (.tup ys)) := same_upd hl3
      have tab : ∀ j, ∃ S, j < R.wanted → IsReach R hopes j S ∧ ∃ v, ys[j]? = some v ∧ TabAt R.n (upd H3 l (.tup ys)) v S := fun j => by
        by_cases hj : j < R.wanted
        · obtain ⟨y, hy, ⟨S, h1, h2⟩, _⟩ := tabs j hj
          exact ⟨S, fun _ => ⟨h1, y, hy, h2.keep (.of s5)⟩⟩
        · exact ⟨fun _ => false, fun z => absurd z hj⟩
      generalize hRj : (fun j => Classical.choose (tab j)) = Rj
      have htab : ∀ j, j < R.wanted → IsReach R hopes j (Rj j) ∧ ∃ v, ys[j]? = some v ∧ TabAt R.n (upd H3 l (.tup ys)) v (Rj j) := fun j hj => by
        rw [← hRj]
        exact Classical.choose_spec (tab j) hj
      have hh3 := (s4.trans s5) _ _ hhh
      refine ⟨_, rfl, hh, _, rfl, .inl hh3, (R.n : Int), congrArg (fun k : Nat => [iV k]) bls_len, by omega, by omega, fun D2 hD2 => ?_⟩
      refine lc_rangeB (n := R.n) ((List.range R.n).map fun p => (List.range R.wanted).all fun j => Rj j p) hD2 (by rw [List.length_map, List.length_range]) (small1000 (by omega)) (fun i b H6 Q' hi hb s6 k => ?_) (fun H6 s6 hl6 => ?_)
      · have eb : b = (List.range R.wanted).all fun j => Rj j i := by
          rw [range_map_get _ hi] at hb
          exact (Option.some.inj hb).symm
        subst eb
        have hl6 := s6 _ _ (upd_same (H := H3) (a := l) (o := .tup ys))
        refine ⟨_, rfl, l, rfl, ⟨_, SqT.of hl6⟩, fun D3 hD3 => lc_tupB ((List.range R.wanted).map fun j => Rj j i) hD3 hl6 (by rw [List.length_map, List.length_range, hys]) (small1000 (by omega)) (fun j y c H7 Q7 hy hc s7 k7 => ?_) (fun H7 s7 hl7 => ?_)⟩
        · have hj : j < R.wanted := by
            have := (List.getElem?_eq_some_iff.mp hy).1
            omega
          have ec : c = Rj j i := by
            rw [range_map_get _ hj] at hc
            exact (Option.some.inj hc).symm
          subst ec
          obtain ⟨_, v, hv, t, xs, rfl, ht, so⟩ := htab j hj
          obtain rfl : y = .ref t := by rw [hv] at hy; exact (Option.some.inj hy).symm
          obtain ⟨sv, hsv, esv⟩ := so.2 i hi
          refine ⟨_, rfl, _, rfl, t, xs, i, sv, rfl, rfl, s7 _ _ (s6 _ _ ht), at_nat hsv, ?_⟩
          refine bl_to (c := Rj j i) (by rw [esv, Bool.not_not]) (k7 _ (Same.refl _))
        · exact ⟨D3, _, rfl, hl7, bl_to (all_bl _ _) (k _ s7)⟩
      · generalize hlf : (fun p => (List.range R.wanted).all fun j => Rj j p) = lf at hl6
        have elf : ∀ p, lf p = true ↔ ∀ j, j < R.wanted → Rj j p = true := fun p => by
          rw [← hlf]
          show ((List.range R.wanted).all fun j => Rj j p) = true ↔ _
          rw [List.all_eq_true]
          exact ⟨fun z j hj => z j (List.mem_range.mpr hj), fun z j hj => z j (List.mem_range.mp hj)⟩
        rw [bls_fold] at hl6
        have hh6 := s6 _ _ hh3
        have sE := sH.trans ((s4.trans s5).trans s6)
        refine ⟨_, rfl, _, rfl, dBls R.n lf, dBls R.n hopes, dp_bls hl6, dp_bls hh6, (plain_bools _).shaped (by decide), (plain_bools _).shaped (by decide), _, rfl, ?_⟩
        rw [eqv_bls]
        refine ite_case (fun ec => ?_) (fun ec => ?_)
        · have eq := map_range_eq.mp (of_decide_eq_true ec)
          refine ⟨_, rfl, q H6 l ys hopes Rj sE (s6 _ _ upd_same) hys ⟨fun j hj => (htab j hj).1, fun p hp => by rw [← eq p hp]; exact elf p, great⟩ fun j hj => ?_⟩
          obtain ⟨_, v, hv, ht⟩ := htab j hj
          exact ⟨v, hv, ht.keep (.of s6)⟩
        · have ne : ¬ ∀ p, p < R.n → lf p = hopes p := fun z => by
            rw [decide_eq_true (map_range_eq.mpr z)] at ec
            cases ec
          have le : ∀ p, p < R.n → lf p = true → hopes p = true := fun p hp z => dec Rj (fun j hj => (htab j hj).1) p hp ((elf p).mp z)
          refine ⟨_, rfl, cnt lf R.n, ?_, lf, D2, _, _, rfl, sE, hl6, fun Z hZ p hp hz => ?_, fun R2 hR2 p hp z => ?_, rfl⟩
          · obtain ⟨p, hne⟩ := Classical.not_forall.mp ne
            obtain ⟨hp, hne⟩ := Classical.not_imp.mp hne
            have hf : lf p = false := of_not_true fun z => hne (by rw [z, le p hp z])
            have ht : hopes p = true := by
              cases e : hopes p with
              | true => rfl
              | false => exact absurd (by rw [hf, e]) hne
            exact cnt_lt le hp hf ht
          · have hle := great Z hZ
            exact (elf p).mpr fun j hj => hZ j hj (Rj j) ((htab j hj).1.closed.mono ok hle) p hp hz
          · exact (elf p).mpr fun j hj => (hR2 j hj).mono ok (htab j hj).1 le p hp (z j hj)
end
end Wk

namespace Wk
open PySem PySem.Spec PyProof.Rows L2
/-! ### enumerate(tuple) -/
set_option maxHeartbeats 1000000 in
theorem enum_meets {v : Value} {o : Obj} {H : Heap → Prop} (B : Begins v o H) :
    Meets (Builtin.«enumerate.__new__» ⟨[.type "enumerate", v], []⟩) (fun _ R s => H s.heap ∧ R (.ok (.ret (.ref (s.heap.push o).objs.size)))
      { s with heap := (s.heap.push o).push { cls := .type "enumerate", data := .fields #[.none, .bool false, .ref s.heap.objs.size, rawInt 0, .none, .none] } }) :=
  .of_wp fun prog w A R s h => by
    obtain ⟨h1, h⟩ := h
    have hsub := sub_enumerate
    have q1 : ∀ {A' : Around} {E Q : Value → Shared → Prop}, Q (.ref s.heap.objs.size) { s with heap := s.heap.push o } → wpAny (model prog w) A' (pyIter v) Q E s := fun q => B.iter prog w _ _ s _ h1 q
    obtain ⟨hp, g, d, tk, os⟩ := s
    wp_walk using q1
    refine wpAny_stack_any fun st => wpAny_pure ?_
    split
    · rename_i c _ _ _ _ _
      cases (c == Value.type "enumerate") <;> (wp_walk using q1; exact ⟨_, rfl, h⟩)
    · wp_walk using q1
      exact ⟨_, rfl, h⟩
theorem call_enum {prog : Program} {w : World} {A : Around} {E : Value → Shared → Prop} {s : Shared} {v : Value} {o : Obj} {H : Heap → Prop} {Q : Value → Shared → Prop} (B : Begins v o H) (h1 : H s.heap)
    (h : ∀ h', IsEnum h' (s.heap.objs.size + 1) s.heap.objs.size 0 .none → h'.get? s.heap.objs.size = some o → (∀ b u, s.heap.get? b = some u → h'.get? b = some u) → Q (.ref (s.heap.objs.size + 1)) { s with heap := h' }) :
    wpAny (model prog w) A (call (.type "enumerate") [v]) Q E s := by
  refine callType_new F.called_enumerate (by decide) (F.typeCall_enumerate_1 _) (F.newCall_enumerate_1 _) (fun obj => F.args_object_init_2 obj _) F.entry_enumerate_new (enum_meets B) ⟨h1, ?_⟩
  have hz : (s.heap.push o).objs.size = s.heap.objs.size + 1 := Heap.size_push ..
  have he := Heap.get?_push_size (s.heap.push o) (o := { cls := .type "enumerate", data := .fields #[.none, .bool false, .ref s.heap.objs.size, rawInt 0, .none, .none] }) rfl
  show _ ∧ _
  rw [hz] at he ⊢
  exact ⟨⟨_, he, rfl⟩, h _ he (Heap.get?_push_of_some _ (Heap.get?_push_size _ B.free)) fun b u x => Heap.get?_push_of_some _ (Heap.get?_push_of_some _ x)⟩
def IteT (K : PySem.W.Frag) (a : Addr) : It :=
  ⟨fun i H => ∃ (xs : List V) (x : V), SqT K H a xs ∧ xs[i]? = some x, fun i H v H' => ∃ T x, v = .ref T ∧ H T = none ∧ H' = upd H T (.tup [iV i, x]) ∧ ∀ xs, SqT K H a xs → xs[i]? = some x, fun i H => ∃ xs : List V, SqT K H a xs ∧ xs.length = i⟩
theorem turn_enumT {P : Program} {w : World} {K : PySem.W.Frag} {elts : List Expr} {kk : Nat} {tpos : Pos} (a e it : Addr) :
    Turn P w K (.Tuple elts kk tpos) (IteT K a) [e, it] e (fun i h => (∃ old, IsEnum h e it ((i : Nat) : Int) old) ∧ h.IsTupleIter it a i ∧ e ≠ it ∧ e ≠ a ∧ a ≠ it) where
  mem := by simp
  obj := fun i h st b hb => by
    obtain ⟨⟨old, he⟩, ⟨o, ho, _, hd⟩, _⟩ := st
    rcases (show b = e ∨ b = it by simpa using hb) with rfl | rfl
    · exact ⟨_, he, fun v q => nomatch q⟩
    · exact ⟨o, ho, fun v q => by rw [hd] at q; cases q⟩
  keep := fun i h h' st k => by
    obtain ⟨⟨old, he⟩, hi, hne⟩ := st
    exact ⟨⟨old, k e (by simp) _ he⟩, hi.at fun o q => k it (by simp) o q, hne⟩
  item := by
    intro X hP hw hK hc i pins s σ H E I hf st hg
    subst hP hw hK
    obtain ⟨⟨old, he⟩, hit, n1, n2, n3⟩ := st
    obtain ⟨xs, x, hq, hx⟩ := hg
    obtain ⟨its, rv, p, _⟩ := I.tuple hq
    have hlt : i < its.toArray.size := by
      have := (List.getElem?_eq_some_iff.mp hx).1
      rw [List.size_toArray, ← rv.length]
      exact this
    have hel : e < s.heap.objs.size := Heap.lt_size he
    have hil : it < s.heap.objs.size := let ⟨_, q, _⟩ := hit; Heap.lt_size q
    refine wpAny_pyNext_enum_itemD (Draws.tuple (show X.A.in1.handled = none from I.ok.hd hc) it a n3 its.toArray) he ⟨hit, p⟩ hlt n1 (by simp [n1, n2]) fun u h' tk hu ho st' hT hsz hk => ?_
    refine ⟨_, rfl, wpAny_letOwnedTupleGo_enum (s := { s with heap := h', toks := tk + 1 }) ho fun h2 he2 sb => ?_⟩
    have hT2 := (sb.2 s.heap.objs.size (Nat.ne_of_gt hel)).trans hT
    have ru : RelV x u := by
      obtain ⟨u', e1, e2⟩ := rv.get hx
      have e3 : its[i]? = some u := by simpa using hu
      rw [e1] at e3
      cases e3
      exact e2
    have new : ObjOk X.prog X.w (upd H s.heap.objs.size (.tup [iV i, x])) h2 s.heap.objs.size (.tup [iV i, x]) := ⟨by show 2 ≤ sizeLine; decide, [.int i tk, u], .cons ⟨_, rfl⟩ (.cons ru .nil), ⟨_, hT2, rfl, _, rfl⟩⟩
    have I2 : Inv X pins σ (upd H s.heap.objs.size (.tup [iV i, x])) { s with heap := h2, toks := tk + 1 } :=
      I.turnedNew (ch := [e, it]) (fun b ob hb q => (sb.2 b (fun z => hb (by simp [z]))).trans (hk b ob (fun z => hb (by simp [z])) (fun z => hb (by simp [z])) q)) hf (Nat.le_refl _) new
    refine ⟨.ref s.heap.objs.size, _, I2, rfl, ⟨_, x, rfl, I.hok.fresh (Nat.le_refl _), rfl, fun ys hy => by rw [I.tuple_inj hy hq]; exact hx⟩, ⟨⟨u, ?_⟩, st'.1.at fun o q => (sb.2 it (Ne.symm n1)).trans q, n1, n2, n3⟩, fun b hb => ?_⟩
    · have e1 : ((i + 1 : Nat) : Int) = (i : Int) + 1 := by omega
      rw [e1]
      exact he2
    · have hb' : b < s.heap.objs.size := by
        rcases (show b = e ∨ b = it by simpa using hb) with rfl | rfl
        · exact hel
        · exact hil
      rw [upd_ne (Nat.ne_of_lt hb')]
      exact (hf b hb).1
  done := by
    intro X hP hw hK hc i pins s σ H E I hf st hg
    subst hP hw hK
    obtain ⟨⟨old, he⟩, hit, n1, n2, n3⟩ := st
    obtain ⟨xs, hq, hx⟩ := hg
    obtain ⟨its, rv, p, _⟩ := I.tuple hq
    have hn : its.toArray.size = i := by rw [List.size_toArray, ← rv.length]; exact hx
    refine wpAny_pyNext_enum_endD (Draws.tuple (show X.A.in1.handled = none from I.ok.hd hc) it a n3 its.toArray) he ⟨by rw [hn]; exact hit, p⟩ fun h' eb => ⟨rfl, ?_⟩
    obtain ⟨f0, f1, f2, f3, f4, f5⟩ := hf it (by simp)
    exact I.turned (t' := s.toks) (fun b o hb q => eb b o hb q) f0 f1 f3 f4 f5
  self := fun A i s Q E st h => let ⟨⟨_, he⟩, _⟩ := st; wpAny_pyIter_enum he h
def iEnumT (K : PySem.W.Frag) (ta : TA) : TI := fun σ H R => ta σ H fun vs H1 => ∃ a xs, vs = [.ref a] ∧ SqT K H1 a xs ∧ R (IteT K a) H1
theorem pi_enumT {X : Cx} {e : Expr} {ta : TA} {p pos tpos : Pos} {elts : List Expr} {kk : Nat} (hg : Gl X "enumerate") (hm : X.mg "enumerate" = none) (ha : PA X [e] ta) (hs : starEach [e] X.env = [(false, eval e X.env)] := by rfl) :
    PI X (.Tuple elts kk tpos) (.Call (.Name "enumerate" p) [e] [] pos) (iEnumT X.K ta) := by
  refine ⟨fun pins s σ H R I h => ?_⟩
  refine Call_ (ld_blt I hg hm boot_enumerate (PyProof.Rows.callWith_type1 (thn (ha.run pos pins s σ H _ I h) fun us s1 ⟨vs, H1, I1, r1, q1⟩ => ?_) hs rfl))
  obtain ⟨a, xs, ex, hq, q⟩ := q1
  subst ex
  obtain ⟨u, rfl, ru⟩ := Vals.one r1
  obtain rfl : u = .ref a := ru
  obtain ⟨its, rv, p', _⟩ := I1.tuple hq
  have ha1 : a < s1.heap.objs.size := let ⟨_, ho, _⟩ := p'; Heap.lt_size ho
  refine call_enum (begins_tuple a its.toArray) p' fun h' he hit hk => wpAny_pyIter_enum he ?_
  refine ⟨s1.heap.objs.size + 1, [s1.heap.objs.size + 1, s1.heap.objs.size], _, _, H1, rfl, I1.kept (t' := s1.toks) hk, turn_enumT a (s1.heap.objs.size + 1) s1.heap.objs.size,
    ⟨⟨.none, he⟩, ⟨_, hit, rfl, rfl⟩, Nat.succ_ne_self _, Nat.ne_of_gt (Nat.lt_succ_of_lt ha1), Nat.ne_of_lt ha1⟩, fun b hb => ?_, q⟩
  have hle : s1.heap.objs.size ≤ b := by
    rcases (show b = s1.heap.objs.size + 1 ∨ b = s1.heap.objs.size by simpa using hb) with rfl | rfl
    · exact Nat.le_add_right _ _
    · exact Nat.le_refl _
  exact I1.fpOk hle (I1.hok.fresh hle)
theorem walk_enumT {K : PySem.W.Frag} {a : Addr} {xs : List V} : Walk (IteT K a) xs.length (fun H => SqT K H a xs) (YPair (fun i => some (iV i)) (fun i => xs[i]?)) := by
  refine ⟨fun i _ hi q => ⟨xs, xs[i], q, by simp [hi]⟩, fun _ q => ⟨xs, q, rfl⟩, fun i H v H' _ q y => ?_⟩
  obtain ⟨T, x, h1, h2, h3, h4⟩ := y
  exact ⟨T, iV i, x, h1, h2, h3, rfl, h4 xs q⟩
end Wk

namespace Wk
open PySem PySem.Spec PyProof.Rows L2
section
variable {P : Program} {w : World} {K : PySem.W.Frag} {mg : Str → Option Value} {base : Heap} {Ch Cf : Addr}
/-- the places of W, rising, as a tuple -/
def places (n : Nat) (f : Nat → Bool) : List Nat := (List.range n).filter f
/-! ### ours, others -/
abbrev sours : Stmt := top 22
abbrev nours : List Str := ["arena", "place", "entry"]
theorem scours : FnScope nours ["arena"] (defScope sours) := ⟨rfl, rfl, rfl, by decide +kernel, rfl, by decide +kernel, by decide +kernel⟩
def spOurs (neg : Bool) : Sp := fun vs H Q _ => ∃ (v : V) (A : Ar), vs = [v] ∧ IsAr H v A ∧ ArOk A ∧ ∀ (H' : Hp) (p : Addr) (W : Nat → Bool) (R : Nat → Nat → Bool), Same H H' → IsHeld A W R →
  H' p = some (.tup ((places A.n fun i => if neg = true then !W i else W i).map iV)) → Q (.ref p) H'
theorem ok_ours {f : Addr} {fd : FuncData} (F : Fun K "ours" "ours" sours f fd) (T : Txt K mg Ch Cf) (dheld : Df P w K mg base 7 "held" ["arena"] spHeld) : FnOk P w K mg base CX0 8 f fd ["arena"] (spOurs false) := by
  refine F.ok scours (fun vs H Q E h => ?_) (fun cdv A outer s H vs Q E hr h => ?_)
  · obtain ⟨v, A, rfl, _⟩ := h
    rfl
  · obtain ⟨v, R, rfl, ia, aok, q⟩ := h
    have n120 := aok.n120
    have w1 := aok.w1
    refine ⟨_, (pss_one (ps_ret (pe_callTy call_tupF (by rfl) T.tuple (by decide +kernel) (pa_cons (pe_lc (own := [("place", 1), ("entry", 2)]) (g := (gTup K 2 (gCons (gName 1) (gCons (gName 2) gNil)))) rfl scours.nd (pi_enumT (by rfl) T.enumerate (pa_cons (pe_ix ixT (pe_callD dheld hr (by rfl) (pa_cons (pv 0) pa_nil)) pe_int (fun _ _ => rfl)) pa_nil)) (blkOk_by (N := nours) (sc := (defScope sours)) (by decide +kernel)) (fun _ _ _ _ _ => (pg_tup rfl (pgs_cons (pg_name (i := 1) scours.nd rfl (Or.inl rfl)) (pgs_cons (pg_name (i := 2) scours.nd rfl (Or.inl rfl)) pgs_nil)))) (fun _ _ _ _ _ => pts_one (pt_cmp (pc_notN (pv 2)) rfl)) (fun _ _ _ _ _ => (pv 1))) pa_nil)))), ?_⟩
    refine ⟨_, rfl, v, R, rfl, ia, aok, fun H1 p ts W Rj s1 hp hts held tabs => ?_⟩
    obtain ⟨t0, h0, t, xs, rfl, ht, so⟩ := tabs 0 w1
    refine ⟨p, _, 0, _, rfl, rfl, hp, at_nat (j := 0) h0, t, xs, rfl, SqT.of ht, fun D hD => ?_⟩
    have lx := so.1
    refine lc_enumF (walk_enumT (K := K) (a := t) (xs := xs)) (fun i => Rj 0 i) (fun H h => SqT.of (h _ _ ht)) (fun _ _ => rfl) (fun _ _ => rfl) hD (small1000 (by omega)) (fun i x H2 R' hx s2 k => ?_) (fun H2 s2 hl => ?_)
    · have hi : i < R.n := by
        have := (List.getElem?_eq_some_iff.mp hx).1
        omega
      obtain ⟨sv, hsv, esv⟩ := so.2 i hi
      rw [hx] at hsv
      obtain rfl : x = sv := Option.some.inj hsv
      exact ⟨_, rfl, !decide (x = .non), rfl, by rw [esv, Bool.not_not]; exact k⟩
    · refine ⟨D, _, rfl, hl, fun l hl2 => q _ l W Rj (s1.trans (s2.trans (same_upd hl2))) held ?_⟩
      rw [upd_same, lx]
      have e : (List.range R.n).filter (fun i => Rj 0 i) = places R.n fun i => if false = true then !W i else W i := List.filter_congr fun i hi => held.eq aok.ok w1 i (List.mem_range.mp hi)
      rw [e]
abbrev sothers : Stmt := top 23
abbrev nothers : List Str := ["arena", "place", "entry"]
theorem scothers : FnScope nothers ["arena"] (defScope sothers) := ⟨rfl, rfl, rfl, by decide +kernel, rfl, by decide +kernel, by decide +kernel⟩
theorem ok_others {f : Addr} {fd : FuncData} (F : Fun K "others" "others" sothers f fd) (T : Txt K mg Ch Cf) (dheld : Df P w K mg base 7 "held" ["arena"] spHeld) : FnOk P w K mg base CX0 8 f fd ["arena"] (spOurs true) := by
  refine F.ok scothers (fun vs H Q E h => ?_) (fun cdv A outer s H vs Q E hr h => ?_)
  · obtain ⟨v, A, rfl, _⟩ := h
    rfl
  · obtain ⟨v, R, rfl, ia, aok, q⟩ := h
    have n120 := aok.n120
    have w1 := aok.w1
    refine ⟨_, (pss_one (ps_ret (pe_callTy call_tupF (by rfl) T.tuple (by decide +kernel) (pa_cons (pe_lc (own := [("place", 1), ("entry", 2)]) (g := (gTup K 2 (gCons (gName 1) (gCons (gName 2) gNil)))) rfl scothers.nd (pi_enumT (by rfl) T.enumerate (pa_cons (pe_ix ixT (pe_callD dheld hr (by rfl) (pa_cons (pv 0) pa_nil)) pe_int (fun _ _ => rfl)) pa_nil)) (blkOk_by (N := nothers) (sc := (defScope sothers)) (by decide +kernel)) (fun _ _ _ _ _ => (pg_tup rfl (pgs_cons (pg_name (i := 1) scothers.nd rfl (Or.inl rfl)) (pgs_cons (pg_name (i := 2) scothers.nd rfl (Or.inl rfl)) pgs_nil)))) (fun _ _ _ _ _ => pts_one (pt_cmp (pc_isN (pv 2)) rfl)) (fun _ _ _ _ _ => (pv 1))) pa_nil)))), ?_⟩
    refine ⟨_, rfl, v, R, rfl, ia, aok, fun H1 p ts W Rj s1 hp hts held tabs => ?_⟩
    obtain ⟨t0, h0, t, xs, rfl, ht, so⟩ := tabs 0 w1
    refine ⟨p, _, 0, _, rfl, rfl, hp, at_nat (j := 0) h0, t, xs, rfl, SqT.of ht, fun D hD => ?_⟩
    have lx := so.1
    refine lc_enumF (walk_enumT (K := K) (a := t) (xs := xs)) (fun i => !Rj 0 i) (fun H h => SqT.of (h _ _ ht)) (fun _ _ => rfl) (fun _ _ => rfl) hD (small1000 (by omega)) (fun i x H2 R' hx s2 k => ?_) (fun H2 s2 hl => ?_)
    · have hi : i < R.n := by
        have := (List.getElem?_eq_some_iff.mp hx).1
        omega
      obtain ⟨sv, hsv, esv⟩ := so.2 i hi
      rw [hx] at hsv
      obtain rfl : x = sv := Option.some.inj hsv
      exact ⟨_, rfl, decide (x = .non), rfl, by rw [esv]; exact k⟩
    · refine ⟨D, _, rfl, hl, fun l hl2 => q _ l W Rj (s1.trans (s2.trans (same_upd hl2))) held ?_⟩
      rw [upd_same, lx]
      have e : (List.range R.n).filter (fun i => !Rj 0 i) = places R.n fun i => if true = true then !W i else W i := List.filter_congr fun i hi => by rw [held.eq aok.ok w1 i (List.mem_range.mp hi)]; rfl
      rw [e]
end
end Wk

namespace Wk
open PySem PySem.Spec PyProof.Rows L2
def fearF (m : V) (g : Int) (en : V) : List (Str × V) := [("moves", m), ("given", .int g), ("entries", en)]
theorem fear_put (m : V) (g : Int) (en : V) : putF "entries" en (putF "given" (.int g) (putF "moves" m [])) = fearF m g en := by rfl
theorem fear_moves (m : V) (g : Int) (en : V) : (fearF m g en).lookup ("moves" : Str) = some m := by rfl
theorem fear_given (m : V) (g : Int) (en : V) : (fearF m g en).lookup ("given" : Str) = some (.int g) := by rfl
theorem fear_entries (m : V) (g : Int) (en : V) : (fearF m g en).lookup ("entries" : Str) = some en := by rfl
structure FearAt (Cf : Addr) (H : Hp) (x : Addr) (A : Ar) (m : V) (en : Addr) : Prop where
  ins : ∃ dx, H x = some (.ins Cf dx (fearF m A.given (.ref en)))
  moves : IsPls H m A.pl
theorem FearAt.same {Cf : Addr} {H H' : Hp} {x : Addr} {A : Ar} {m : V} {en : Addr} (h : FearAt Cf H x A m en) (s : Same H H') : FearAt Cf H' x A m en := ⟨let ⟨dx, e⟩ := h.ins; ⟨dx, s _ _ e⟩, IsPls.keep (.of s) h.moves⟩
theorem FearAt.keep {Cf : Addr} {H H' : Hp} {x : Addr} {A : Ar} {m : V} {en : Addr} {xs : List V} (h : FearAt Cf H x A m en) (s : KeepBut en H H') (he : H en = some (.lst xs)) : FearAt Cf H' x A m en :=
  ⟨let ⟨dx, e⟩ := h.ins; ⟨dx, s _ _ (ne_of e he (by intro z; cases z)) e⟩, IsPls.keep (s.tkeep he) h.moves⟩
section
variable {P : Program} {w : World} {K : PySem.W.Frag} {mg : Str → Option Value} {base : Heap} {Ch Cf : Addr}
/-! ### Fear.undoes -/
abbrev sFear_undoes : Stmt := inClass (top 20) 1
abbrev nFear_undoes : List Str := ["self", "move", "goal", "given", "stays", "counts", "there"]
theorem scFear_undoes : FnScope nFear_undoes ["self", "move", "goal", "given", "stays", "counts"] (defScope sFear_undoes) := ⟨rfl, rfl, rfl, by decide +kernel, rfl, by decide +kernel, by decide +kernel⟩
def spUndoes (Cf : Addr) : Sp := fun vs H Q _ => ∃ (x sl cl en : Addr) (mv : V) (A : Ar) (m : V) (goal given : Nat) (E stays c : Nat → Bool) (xs cs : List V) (mm : Mv), vs = [.ref x, mv, iV goal, iV given, .ref sl, .ref cl] ∧ FearAt Cf H x A m en ∧
  H en = some (.lst xs) ∧ StepsOk A.n E xs ∧ H sl = some (.lst (Bls A.n stays)) ∧ H cl = some (.lst cs) ∧ StepsOk A.n c cs ∧ IsMv H mv mm ∧ mm.to < A.n ∧ Q (.bl (und E stays c goal given mm)) H
theorem ok_undoes {f : Addr} {fd : FuncData} (F : Fun K "undoes" "Fear.undoes" sFear_undoes f fd) (T : Txt K mg Ch Cf) : FnOk P w K mg base CX0 1 f fd ["self", "move", "goal", "given", "stays", "counts"] (spUndoes Cf) := by
  refine F.ok scFear_undoes (fun vs H Q E h => ?_) (fun cdv A outer s H vs Q E hr h => ?_)
  · obtain ⟨x, sl, cl, en, mv, A, m, goal, given, E, stays, c, xs, cs, mm, rfl, _⟩ := h
    rfl
  · obtain ⟨x, sl, cl, en, mv, R, m, goal, given, E0, stays, c, xs, cs, mm, rfl, fear, hen, so, hsl, hcl, sc, ⟨p, v1, v2, rfl, hp, ⟨p1, rfl, h1⟩, ⟨p2, rfl, h2⟩⟩, hto, q⟩ := h
    obtain ⟨dx, hx⟩ := fear.ins
    obtain ⟨sv, hsv, esv⟩ := so.2 _ hto
    obtain ⟨cv, hcv, ecv⟩ := sc.2 _ hto
    unfold und at q
    refine ⟨_, (pss_cons (ps_set (i := 6) scFear_undoes.nd rfl (Or.inl rfl) (pe_ix ixT (pv 1) pe_int (fun _ _ => rfl)))
      (pss_cons (ps_if (pt_cmp (pc_notN (pe_ix ixL (pe_fldF T.clFear T.fEntries (pv 0) (by rfl)) (pv 6) (fun _ _ => rfl))) rfl) (pss_one (ps_ret pe_bl)) pss_nil)
      (pss_cons (ps_if (pw_or (pt_cmpR op_inT (pv 2) (pe_ix ixT (pv 1) pe_int (fun _ _ => rfl)) (by rfl)) (pw_or1 (pt_not (pt_val (pe_ix ixL (pv 4) (pv 6) (fun _ _ => rfl)))))).pt (pss_one (ps_ret pe_bl)) pss_nil)
      (pss_one (ps_ret (pe_or (pe_cmpR op_inT (pv 3) (pe_ix ixT (pv 1) pe_int (fun _ _ => rfl)) (by rfl)) (pe_one (pe_cmp (pc_notN (pe_ix ixL (pv 5) (pv 6) (fun _ _ => rfl))) rfl)))))))), ?_⟩
    refine ⟨_, rfl, p, _, 0, _, rfl, rfl, hp, rfl, ?_⟩
    refine ⟨_, rfl, x, dx, _, _, rfl, hx, fear_entries _ _ _, _, rfl, en, _, mm.to, _, rfl, rfl, hen, at_nat hsv, !decide (sv = .non), rfl, ?_⟩
    rw [esv, Bool.not_not]
    refine ite_case (fun e1 => ?_) (fun e1 => ?_)
    · rw [e1, Bool.true_or] at q
      exact q
    · rw [e1, Bool.false_or] at q
      dsimp only [gName, tSeq, tIfS, tRet, tNext]
      refine tor (inV (iV goal) (mm.mw.map iV)) (!stays mm.to) (fun R1 k1 => ⟨_, rfl, _, rfl, p, _, 2, _, rfl, rfl, hp, rfl, p2, _, rfl, h2, rfl, flat_nats _, _, rfl, k1⟩)
        (fun _ R1 k1 => ⟨_, rfl, _, rfl, sl, _, mm.to, _, rfl, rfl, hsl, at_nat (bls_get hto), _, rfl, k1⟩) ?_
      rw [in_nats]
      have e2 : (!mm.mw.contains goal && stays mm.to) = !(mm.mw.contains goal || !stays mm.to) := by rw [Bool.not_or, Bool.not_not]
      rw [e2] at q
      refine ite_case (fun e => ?_) (fun e => ?_)
      · rw [e, Bool.not_true, Bool.false_and] at q
        exact q
      · rw [e, Bool.not_false, Bool.true_and, ← in_nats] at q
        exact torV (inV (iV given) (mm.met.map iV)) (c mm.to) (fun R1 k1 => ⟨_, rfl, _, rfl, p, _, 1, _, rfl, rfl, hp, rfl, p1, _, rfl, h1, rfl, flat_nats _, k1⟩)
          (fun _ R1 k1 => ⟨_, rfl, _, rfl, cl, _, mm.to, _, rfl, rfl, hcl, at_nat hcv, by rw [← Bool.not_not (c mm.to), ← ecv] at k1; exact k1⟩) q
/-! ### Fear.forces -/
abbrev sFear_forces : Stmt := inClass (top 20) 2
abbrev nFear_forces : List Str := ["self", "place", "goal", "given", "stays", "counts", "row", "move"]
theorem scFear_forces : FnScope nFear_forces ["self", "place", "goal", "given", "stays", "counts"] (defScope sFear_forces) := ⟨rfl, rfl, rfl, by decide +kernel, rfl, by decide +kernel, by decide +kernel⟩
def spForces (Cf : Addr) : Sp := fun vs H Q _ => ∃ (x sl cl en : Addr) (A : Ar) (m : V) (p goal given : Nat) (E stays c : Nat → Bool) (xs cs : List V), vs = [.ref x, iV p, iV goal, iV given, .ref sl, .ref cl] ∧ FearAt Cf H x A m en ∧
  H en = some (.lst xs) ∧ StepsOk A.n E xs ∧ H sl = some (.lst (Bls A.n stays)) ∧ H cl = some (.lst cs) ∧ StepsOk A.n c cs ∧ ArOk A ∧ p < A.n ∧ ∀ H', Same H H' → Q (.bl (Wk.forces A E stays goal given c p)) H'
theorem ok_forces {f : Addr} {fd : FuncData} (F : Fun K "forces" "Fear.forces" sFear_forces f fd) (T : Txt K mg Ch Cf) (dFear_undoes : Md P w K mg base Cf 1 "undoes" ["self", "move", "goal", "given", "stays", "counts"] (spUndoes Cf)) :
    FnOk P w K mg base CX0 2 f fd ["self", "place", "goal", "given", "stays", "counts"] (spForces Cf) := by
  refine F.ok scFear_forces (fun vs H Q E h => ?_) (fun cdv A outer s H vs Q E hr h => ?_)
  · obtain ⟨x, sl, cl, en, A, m, p, goal, given, E, stays, c, xs, cs, rfl, _⟩ := h
    rfl
  · obtain ⟨x, sl, cl, en, R, m, p, goal, given, E0, stays, c, xs, cs, rfl, fear, hen, so, hsl, hcl, sc, aok, hp, q⟩ := h
    obtain ⟨dx, hx⟩ := fear.ins
    obtain ⟨pm, vs, v, pl, rfl, hpm, hv, hpl, ⟨pp, rs, rfl, hpp, rows⟩, erow⟩ := pls_at fear.moves hp
    have plok := aok.pl pl (List.mem_of_getElem? hpl)
    have hl := paired_len rows
    have h8 := plok.few.most
    unfold Wk.forces at q
    rw [erow] at q
    refine ⟨_, (pss_cons (ps_for PassesOwn.never rfl (pi_tupK (K := K) (pe_ix ixT (pe_fldF T.clFear T.fMoves (pv 0) (by rfl)) (pv 1) (fun _ _ => rfl))) (pg_name (i := 6) scFear_forces.nd rfl (Or.inl rfl)) (pss_one (ps_if (pt_val (pe_all T.all (pe_lc (own := [("move", 7)]) (g := (gName 7)) (tt := tYes) rfl scFear_forces.nd (pi_tupK (K := K) (pv 6)) (blkOk_by (N := nFear_forces) (sc := (defScope sFear_forces)) (by decide +kernel)) (fun _ _ _ _ _ => (pg_name (i := 7) scFear_forces.nd rfl (Or.inl rfl))) (fun _ _ _ _ _ => pts_nil) (fun _ _ _ _ _ => (pe_methD (pv 0) T.clFear dFear_undoes hr (pa_cons (pv 7) (pa_cons (pv 2) (pa_cons (pv 3) (pa_cons (pv 4) (pa_cons (pv 5) pa_nil)))))))))) (pss_one (ps_ret pe_bl)) pss_nil)))
      (pss_one (ps_ret pe_bl))), ?_⟩
    refine ⟨_, rfl, x, dx, _, _, rfl, hx, fear_moves _ _ _, _, rfl, pm, vs, p, _, rfl, rfl, hpm, at_nat hv, pp, rfl, ⟨_, SqT.of hpp⟩, ?_⟩
    refine for_tup (K := K) (a := pp) (xs := rs) (fun i σ H' => (∃ v6 : Option V, σ = [some (.ref x), some (iV p), some (iV goal), some (iV given), some (.ref sl), some (.ref cl), v6, none]) ∧ Same H H' ∧ ∀ (j : Nat) (row : Row), j < i → pl[j]? = some row → row.all (und E0 stays c goal given) = false)
      ⟨⟨none, rfl⟩, Same.refl _, fun j row hj => absurd hj (by omega)⟩ (fun i σ H' _ hv => SqT.of (hv.2.1 _ _ hpp)) (fun i y σ H1 hy hv => ?_) (fun σ H1 hv => ?_)
    · obtain ⟨⟨v6, rfl⟩, s1, no⟩ := hv
      obtain ⟨row, hrow, r, ws, rfl, hr', mvs⟩ := paired_l rows hy
      have hm := List.mem_of_getElem? hrow
      have hr2 := s1 _ _ hr'
      have h8' := (plok.rows row hm).most
      have hl' := paired_len mvs
      refine ⟨_, rfl, r, rfl, ⟨_, SqT.of hr2⟩, fun D hD => lc_tupB (row.map (und E0 stays c goal given)) hD hr2 (by rw [List.length_map]; exact hl'.symm) (small1000 (by omega)) (fun j z b H2 Q2 hz hb s2 k2 => ?_) (fun H2 s2 hl2 => ?_)⟩
      · obtain ⟨mm, hmm, im⟩ := paired_l mvs hz
        obtain rfl := mapb_get hb hmm
        have s12 := s1.trans s2
        refine ⟨_, rfl, x, dx, _, rfl, s12 _ _ hx, by rfl, _, rfl, _, rfl, _, rfl, _, rfl, _, rfl, x, sl, cl, en, z, R, _, goal, given, E0, stays, c, xs, cs, mm, rfl, fear.same s12, s12 _ _ hen, so, s12 _ _ hsl, s12 _ _ hcl, sc, im.keep (.of s12), (plok.mv row hm mm (List.mem_of_getElem? hmm)).to, k2 _ (Same.refl _)⟩
      · refine ⟨D, _, rfl, hl2, row.all (und E0 stays c goal given), congrArg V.bl (all_bl _ _), ite_case (fun e => ?_) (fun e => ?_)⟩
        · have e2 : pl.any (fun row => row.all (und E0 stays c goal given)) = true := List.any_eq_true.mpr ⟨row, hm, e⟩
          have q' := q _ (s1.trans s2)
          rw [e2] at q'
          exact q'
        · refine ⟨⟨_, rfl⟩, s1.trans s2, fun j row' hj hr => ?_⟩
          by_cases ej : j = i
          · subst ej
            rw [hrow] at hr
            cases hr
            exact e
          · exact no j row' (by omega) hr
    · obtain ⟨⟨v6, rfl⟩, s1, no⟩ := hv
      have e2 : pl.any (fun row => row.all (und E0 stays c goal given)) = false := by
        refine of_not_true fun z => ?_
        obtain ⟨row, hm, e⟩ := List.any_eq_true.mp z
        obtain ⟨j, hj⟩ := List.mem_iff_getElem?.mp hm
        have := no j row (by have := (List.getElem?_eq_some_iff.mp hj).1; omega) hj
        rw [this] at e
        cases e
      have q' := q _ s1
      rw [e2] at q'
      exact q'
end
end Wk

namespace Wk
open PySem PySem.Spec PyProof.Rows L2
def optV : Option Nat → V
  | none => .non
  | some k => iV k
def Cnts (n : Nat) (c : Nat → Option Nat) : List V := (List.range n).map fun p => optV (c p)
theorem cnts_len {n : Nat} {c : Nat → Option Nat} : (Cnts n c).length = n := by
  unfold Cnts
  rw [List.length_map, List.length_range]
theorem cnts_get {n p : Nat} {c : Nat → Option Nat} (h : p < n) : (Cnts n c)[p]? = some (optV (c p)) := range_map_get _ h
theorem cnts_set {n p k : Nat} {c : Nat → Option Nat} (h : p < n) : (Cnts n c).set p (iV k) = Cnts n fun q => if q = p then some k else c q := by
  apply List.ext_getElem?
  intro i
  by_cases hi : i < n
  · rw [cnts_get hi]
    by_cases e : i = p
    · subst e
      rw [List.getElem?_set_self (by rw [cnts_len]; exact h), if_pos rfl]
      rfl
    · rw [List.getElem?_set_ne (fun z => e z.symm), cnts_get hi, if_neg e]
  · rw [List.getElem?_eq_none (by rw [List.length_set, cnts_len]; omega), List.getElem?_eq_none (by rw [cnts_len]; omega)]
theorem cnts_congr {n : Nat} {c d : Nat → Option Nat} (h : ∀ p, p < n → c p = d p) : Cnts n c = Cnts n d := List.map_congr_left fun p hp => by rw [h p (List.mem_range.mp hp)]
theorem opt_non {o : Option Nat} : (decide (optV o = V.non)) = !o.isSome := by
  cases o with
  | none => rfl
  | some k => rfl
theorem cnts_steps {n : Nat} {c : Nat → Option Nat} : StepsOk n (fun p => (c p).isSome) (Cnts n c) := ⟨cnts_len, fun p hp => ⟨_, cnts_get hp, opt_non⟩⟩
theorem cnts_none {n : Nat} : List.replicate n V.non = Cnts n fun _ => none := by
  apply List.ext_getElem?
  intro i
  by_cases hi : i < n
  · rw [cnts_get hi, List.getElem?_replicate, if_pos hi]
    rfl
  · rw [List.getElem?_eq_none (by rw [List.length_replicate]; omega), List.getElem?_eq_none (by rw [cnts_len]; omega)]
theorem eqv_empty (ns : List Nat) : PyData.eqv (.list (ns.map dN)) (.list []) = ns.isEmpty := by
  simp only [PyData.eqv]
  rw [eqv_nil]
  cases ns <;> rfl
theorem contains_take {fr : List Nat} {i pl p : Nat} (h : fr[i]? = some pl) : (fr.take (i + 1)).contains p = ((fr.take i).contains p || p == pl) := by
  rw [List.take_add_one, h]
  show (fr.take i ++ [pl]).contains p = _
  rw [List.contains_eq_any_beq, List.any_append, ← List.contains_eq_any_beq]
  simp
theorem contains_filter {n p : Nat} {f : Nat → Bool} (hp : p < n) : ((List.range n).filter f).contains p = f p := by
  rw [Bool.eq_iff_iff, List.contains_iff_mem, List.mem_filter]
  exact ⟨fun z => z.2, fun z => ⟨List.mem_range.mpr hp, z⟩⟩
section
variable {P : Program} {w : World} {K : PySem.W.Frag} {mg : Str → Option Value} {base : Heap} {Ch Cf : Addr}
/-! ### Fear.counted -/
abbrev sFear_counted : Stmt := inClass (top 20) 3
abbrev nFear_counted : List Str := ["self", "goal", "given", "stays", "counts", "number", "fresh", "place"]
theorem scFear_counted : FnScope nFear_counted ["self", "goal", "given", "stays"] (defScope sFear_counted) := ⟨rfl, rfl, rfl, by decide +kernel, rfl, by decide +kernel, by decide +kernel⟩
def spCounted (Cf : Addr) : Sp := fun vs H Q _ => ∃ (x sl en : Addr) (A : Ar) (m : V) (goal given : Nat) (E stays : Nat → Bool) (xs : List V), vs = [.ref x, iV goal, iV given, .ref sl] ∧ FearAt Cf H x A m en ∧
  H en = some (.lst xs) ∧ StepsOk A.n E xs ∧ H sl = some (.lst (Bls A.n stays)) ∧ ArOk A ∧ ∀ (H' : Hp) (p : Addr), Same H H' → H p = none → H' p = some (.lst (Cnts A.n (Wk.counted A E stays goal given))) → Q (.ref p) H'
theorem ok_counted {f : Addr} {fd : FuncData} (F : Fun K "counted" "Fear.counted" sFear_counted f fd) (T : Txt K mg Ch Cf) (dFear_forces : Md P w K mg base Cf 2 "forces" ["self", "place", "goal", "given", "stays", "counts"] (spForces Cf)) :
    FnOk P w K mg base CX0 3 f fd ["self", "goal", "given", "stays"] (spCounted Cf) := by
  refine F.ok scFear_counted (fun vs H Q E h => ?_) (fun cdv A outer s H vs Q E hr h => ?_)
  · obtain ⟨x, sl, en, A, m, goal, given, E, stays, xs, rfl, _⟩ := h
    rfl
  · obtain ⟨x, sl, en, R, m, goal, given, E0, stays, xs, rfl, fear, hen, so, hsl, aok, q⟩ := h
    obtain ⟨dx, hx⟩ := fear.ins
    obtain ⟨pm, vs, rfl, hpm, pls⟩ := id fear.moves
    have hl : vs.length = R.n := paired_len pls
    have n120 := aok.n120
    refine ⟨_, (pss_cons (ps_set (i := 4) scFear_counted.nd rfl (Or.inl rfl) (pe_op op_rep (pe_lst (pa_cons pe_non pa_nil)) (pe_callB call_lenF (by rfl) T.len PySem.boot_len (pa_cons (pe_fldF T.clFear T.fMoves (pv 0) (by rfl)) pa_nil))))
      (pss_cons (ps_set (i := 5) scFear_counted.nd rfl (Or.inl rfl) pe_int)
      (pss_one (ps_while PassesOwn.never (pt_val pe_bl) (pss_cons (ps_set (i := 6) scFear_counted.nd rfl (Or.inl rfl) (pe_lst pa_nil))
      (pss_cons (ps_for PassesOwn.never rfl (pi_range1 (by rfl) T.range (pa_cons (pe_callB call_lenF (by rfl) T.len PySem.boot_len (pa_cons (pv 4) pa_nil)) pa_nil)) (pg_name (i := 7) scFear_counted.nd rfl (Or.inl rfl)) (pss_one (ps_if (pw_and (pt_cmp (pc_isN (pe_ix ixL (pv 4) (pv 7) (fun _ _ => rfl))) rfl) (pw_and1 (pt_val (pe_methD (pv 0) T.clFear dFear_forces hr (pa_cons (pv 7) (pa_cons (pv 1) (pa_cons (pv 2) (pa_cons (pv 3) (pa_cons (pv 4) pa_nil))))))))).pt (pss_one (ps_expr (pe_bm PySem.F.plainAttrs_list PySem.F.slot_list_append PySem.F.type_list_append mt_append (pv 6) (pa_cons (pv 7) pa_nil)))) pss_nil)))
      (pss_cons (ps_if (pt_cmpR (op_eqD hr.units) (pv 6) (pe_lst pa_nil) (nomark _)) (pss_one (ps_ret (pv 4))) pss_nil)
      (pss_cons (ps_for PassesOwn.never rfl (pi_listK (K := K) (pv 6)) (pg_name (i := 7) scFear_counted.nd rfl (Or.inl rfl)) (pss_one (ps_asg (pv 5) (pg_sub (pv 4) (pv 7) set_list))))
      (pss_one (ps_aug (i := 5) scFear_counted.nd rfl (Or.inl rfl) pe_int ip_add)))))))))), ?_⟩
    refine ⟨by decide, fun l0 hl0 => ?_⟩
    have s0 : Same H (upd H l0 (.lst [V.non])) := same_upd hl0
    refine ⟨_, rfl, x, dx, _, _, rfl, s0 _ _ hx, fear_moves _ _ _, pm, vs, rfl, .inr (s0 _ _ hpm), l0, (vs.length : Int), _, rfl, rfl, upd_same, by omega, by omega, Nat.le_of_lt (small1000 (by rw [Int.toNat_natCast]; show 1 * _ ≤ _; omega)), fun cl hcl => ?_⟩
    have e1 : (List.replicate ((vs.length : Int)).toNat [V.non]).flatten = Cnts R.n (fun _ => none) := by
      rw [Int.toNat_natCast, rep_eq, hl, cnts_none]
    rw [e1]
    have ncl : H cl = none := s0.free hcl
    have s1 : Same H (upd (upd H l0 (.lst [V.non])) cl (.lst (Cnts R.n fun _ => none))) := s0.trans (same_upd hcl)
    refine ⟨fun mm σ H' => ∃ (k : Nat) (v6 v7 : Option V), σ = [some (.ref x), some (iV goal), some (iV given), some (.ref sl), some (.ref cl), some (iV k), v6, v7] ∧ Same H H' ∧ H' cl = some (.lst (Cnts R.n (cseq R E0 stays goal given k))) ∧
        k ≤ cnt (fun p => (cseq R E0 stays goal given k p).isSome) R.n ∧ mm = R.n - k,
      ⟨_, 0, none, none, rfl, s1, upd_same, Nat.zero_le _, rfl⟩, fun mm σ H1 hW => ?_⟩
    obtain ⟨k, v6, v7, rfl, s2, hc, hk, rfl⟩ := hW
    have hkn : k ≤ R.n := Nat.le_trans hk (cnt_le _ _)
    refine ⟨true, rfl, iteT ⟨_, fun σ' H' z => z, ?_⟩⟩
    refine ⟨Nat.zero_le _, fun fr hfr => ?_⟩
    have nfr : H fr = none := s2.free hfr
    have nfc : cl ≠ fr := ne_of_none hc hfr
    generalize hcc : cseq R E0 stays goal given k = c at hc hk
    have s3 := same_upd (o := HO.lst []) hfr
    refine ⟨_, rfl, cl, _, rfl, .inl (s3 _ _ hc), (R.n : Int), congrArg (fun k : Nat => [iV k]) cnts_len, by omega, by omega, ?_⟩
    refine for_rangeN (n := R.n) (fun i σ H' => ∃ v7 : Option V, σ = [some (.ref x), some (iV goal), some (iV given), some (.ref sl), some (.ref cl), some (iV k), some (.ref fr), v7] ∧ Same H H' ∧ H' cl = some (.lst (Cnts R.n c)) ∧
        H' fr = some (.lst (((List.range i).filter (cfresh R E0 stays goal given c)).map iV)))
      ⟨v7, rfl, s2.trans s3, s3 _ _ hc, upd_same⟩ (fun i σ H' hi hv => ?_) (fun σ H2 hv => ?_)
    · obtain ⟨v7, rfl, s4, hc4, hf4⟩ := hv
      have keep : cfresh R E0 stays goal given c i = false → ∀ H5, Same H' H5 → ∃ v7 : Option V, [some (.ref x), some (iV goal), some (iV given), some (.ref sl), some (.ref cl), some (iV k), some (.ref fr), some (iV i)] = [some (.ref x), some (iV goal), some (iV given), some (.ref sl), some (.ref cl), some (iV k), some (.ref fr), v7] ∧
          Same H H5 ∧ H5 cl = some (.lst (Cnts R.n c)) ∧ H5 fr = some (.lst (((List.range (i + 1)).filter (cfresh R E0 stays goal given c)).map iV)) := fun e H5 s5 =>
        ⟨_, rfl, s4.trans s5, s5 _ _ hc4, by rw [s5 _ _ hf4, filter_range_succ, if_neg (by rw [e]; decide)]⟩
      refine ⟨_, rfl, _, rfl, cl, _, i, _, rfl, rfl, hc4, at_nat (cnts_get hi), _, rfl, ?_⟩
      rw [opt_non]
      refine ite_case (fun ec => ?_) (fun ec => ?_)
      · refine ⟨_, rfl, x, dx, _, rfl, s4 _ _ hx, by rfl, _, rfl, _, rfl, _, rfl, _, rfl, _, rfl, x, sl, cl, en, R, _, i, goal, given, E0, stays, _, xs, _, rfl, fear.same s4, s4 _ _ hen, so, s4 _ _ hsl, hc4, cnts_steps, aok, hi, fun H5 s5 => ⟨_, rfl, ite_case (fun ef => ?_) (fun ef => ?_)⟩⟩
        · -- fresh.append(place)
          have e : cfresh R E0 stays goal given c i = true := by
            unfold cfresh
            rw [ef, Bool.and_true]
            cases h : c i with
            | none => rfl
            | some v => rw [h] at ec; cases ec
          refine ⟨_, rfl, .inl ⟨rfl, _, SqL.of (s5 _ _ hf4)⟩, _, rfl, fr, _, _, rfl, rfl, s5 _ _ hf4, ?_, ?_⟩
          · rw [List.length_map]
            refine small1000 (Nat.le_trans (List.length_filter_le _ _) ?_)
            rw [List.length_range]
            omega
          · refine ⟨_, rfl, same_new (s4.trans s5) nfr, by rw [upd_ne nfc]; exact s5 _ _ hc4, ?_⟩
            rw [upd_same, filter_range_succ, if_pos e, List.map_append]
            rfl
        · exact keep (by unfold cfresh; rw [ef, Bool.and_false]) H5 s5
      · refine keep ?_ H' (Same.refl _)
        unfold cfresh
        cases h : c i with
        | none => rw [h] at ec; cases ec
        | some v => rfl
    · obtain ⟨v7, rfl, s4, hc4, hf4⟩ := hv
      refine ⟨_, rfl, Nat.zero_le _, fun t ht => ?_⟩
      have s5 := same_upd (o := HO.lst []) ht
      have small : ∀ p, p ∈ (List.range R.n).filter (cfresh R E0 stays goal given c) → p < 1000000 := fun p hp => by
        have := List.mem_range.mp (List.mem_filter.mp hp).1
        omega
      refine ⟨_, .list [], .lst (SqL.of (s5 _ _ hf4)) (dp_ns _), .lst (SqL.of upd_same) .nil, (plain_list small).shaped (by decide), by decide, _, rfl, ?_⟩
      rw [eqv_empty]
      refine ite_case (fun ee => ?_) (fun ee => ?_)
      · -- return counts
        have still : ∀ p, p < R.n → cfresh R E0 stays goal given (cseq R E0 stays goal given k) p = false := fun p hp => by
          rw [hcc]
          refine of_not_true fun z => ?_
          have hm : p ∈ (List.range R.n).filter (cfresh R E0 stays goal given c) := List.mem_filter.mpr ⟨List.mem_range.mpr hp, z⟩
          rw [List.isEmpty_iff.mp ee] at hm
          cases hm
        refine ⟨_, rfl, q _ cl (s4.trans s5) ncl ?_⟩
        rw [s5 _ _ hc4, counted_at hkn still, hcc]
      · -- for place in fresh: counts[place] = number
        have hf5 := s5 _ _ hf4
        have hc5 := s5 _ _ hc4
        generalize hfl : (List.range R.n).filter (cfresh R E0 stays goal given c) = fl at hf5 ee
        refine ⟨_, rfl, fr, rfl, ⟨_, SqL.of hf5⟩, for_list (K := K) (a := fr) (xs := fl.map iV) (fun i σ H' => ∃ v7 : Option V, σ = [some (.ref x), some (iV goal), some (iV given), some (.ref sl), some (.ref cl), some (iV k), some (.ref fr), v7] ∧ Same H H' ∧
            H' fr = some (.lst (fl.map iV)) ∧ H' cl = some (.lst (Cnts R.n fun p => if (fl.take i).contains p = true then some k else c p)))
          ⟨v7, rfl, s4.trans s5, hf5, hc5⟩ (fun i σ H' _ hv => ?_) (fun i y σ H' hi hv => ?_) (fun σ H' hv => ?_)⟩
        · obtain ⟨v7, rfl, s6, hf6, hc6⟩ := hv
          exact SqL.of hf6
        · obtain ⟨v7, rfl, s6, hf6, hc6⟩ := hv
          obtain ⟨pl, hpl, rfl⟩ := map_get hi
          have hpn : pl < R.n := by
            have hm := List.mem_of_getElem? hpl
            rw [← hfl] at hm
            exact List.mem_range.mp (List.mem_filter.mp hm).1
          refine ⟨_, rfl, _, rfl, _, rfl, cl, _, pl, pl, rfl, rfl, hc6, by rw [cnts_len]; exact ix_nat hpn, ?_⟩
          refine ⟨_, rfl, same_new s6 ncl, by rw [upd_ne nfc.symm]; exact hf6, ?_⟩
          rw [upd_same, cnts_set hpn]
          refine congrArg (fun l => some (HO.lst l)) (cnts_congr fun p hp => ?_)
          rw [contains_take hpl]
          by_cases e : p = pl
          · subst e
            rw [if_pos rfl, if_pos (by simp)]
          · have e' : (p == pl) = false := beq_eq_false_iff_ne.mpr e
            rw [if_neg e, e', Bool.or_false]
        · obtain ⟨v7, rfl, s6, hf6, hc6⟩ := hv
          refine ⟨_, rfl, _, _, rfl, rfl, ?_⟩
          rw [List.take_of_length_le (by rw [List.length_map]; exact Nat.le_refl _)] at hc6
          have ec : Cnts R.n (fun p => if fl.contains p = true then some k else c p) = Cnts R.n (cseq R E0 stays goal given (k + 1)) := cnts_congr fun p hp => by
            show _ = cround R E0 stays goal given k (cseq R E0 stays goal given k) p
            rw [hcc, cround_eq, ← hfl, contains_filter hp]
          rw [ec] at hc6
          have hg : cnt (fun p => (cseq R E0 stays goal given k p).isSome) R.n < cnt (fun p => (cseq R E0 stays goal given (k + 1) p).isSome) R.n := by
            cases e : fl with
            | nil => rw [e] at ee; cases ee
            | cons a r =>
              have hm : a ∈ (List.range R.n).filter (cfresh R E0 stays goal given c) := by rw [hfl, e]; exact List.mem_cons_self
              obtain ⟨h1, h2⟩ := List.mem_filter.mp hm
              exact cseq_grow (List.mem_range.mp h1) (by rw [hcc]; exact h2)
          rw [hcc] at hg
          have hb := cnt_le (fun p => (cseq R E0 stays goal given (k + 1) p).isSome) R.n
          exact ⟨R.n - (k + 1), by omega, k + 1, _, _, rfl, s6, hc6, by omega, rfl⟩
end
end Wk

namespace Wk
open PySem PySem.Spec PyProof.Rows L2
def OptT (H : Hp) (v : V) : Option (List Nat) → Prop
  | none => v = .non
  | some cs => TupI H v cs
theorem OptT.keep {H H' : Hp} {v : V} : ∀ {o : Option (List Nat)}, OptT H v o → TKeep H H' → OptT H' v o
  | none, h, _ => h
  | some _, h, k => TupI.keep h k
def TabsOk (A : Ar) (E : Nat → Bool) (goal : Nat) (H : Hp) (ys : List V) : Prop := ys.length = A.n ∧ ∀ p, p < A.n → ∃ v, ys[p]? = some v ∧ OptT H v (tabs A E goal p)
section
variable {P : Program} {w : World} {K : PySem.W.Frag} {mg : Str → Option Value} {base : Heap} {Ch Cf : Addr}
/-! ### Fear.tables -/
abbrev sFear_tables : Stmt := inClass (top 20) 4
abbrev nFear_tables : List Str := ["self", "goal", "stays", "found", "given", "left", "place", "counts", "at"]
theorem scFear_tables : FnScope nFear_tables ["self", "goal"] (defScope sFear_tables) := ⟨rfl, rfl, rfl, by decide +kernel, rfl, by decide +kernel, by decide +kernel⟩
def spTables (Cf : Addr) : Sp := fun vs H Q _ => ∃ (x en : Addr) (A : Ar) (m : V) (goal : Nat) (E : Nat → Bool) (xs : List V), vs = [.ref x, iV goal] ∧ FearAt Cf H x A m en ∧
  H en = some (.lst xs) ∧ StepsOk A.n E xs ∧ ArOk A ∧ ∀ (H' : Hp) (p : Addr) (ys : List V), Same H H' → H p = none → H' p = some (.lst ys) → TabsOk A E goal H' ys → Q (.ref p) H'
theorem ok_tables {f : Addr} {fd : FuncData} (F : Fun K "tables" "Fear.tables" sFear_tables f fd) (T : Txt K mg Ch Cf) (dFear_counted : Md P w K mg base Cf 3 "counted" ["self", "goal", "given", "stays"] (spCounted Cf)) :
    FnOk P w K mg base CX0 4 f fd ["self", "goal"] (spTables Cf) := by
  refine F.ok scFear_tables (fun vs H Q E h => ?_) (fun cdv A outer s H vs Q E hr h => ?_)
  · obtain ⟨x, en, A, m, goal, E, xs, rfl, _⟩ := h
    rfl
  · obtain ⟨x, en, R, m, goal, E0, xs, rfl, fear, hen, so, aok, q⟩ := h
    obtain ⟨dx, hx⟩ := fear.ins
    obtain ⟨pm, vs, rfl, hpm, pls⟩ := id fear.moves
    have hl : vs.length = R.n := paired_len pls
    have n120 := aok.n120
    have g8 := aok.g8
    have ok := aok.ok
    refine ⟨_, (pss_cons (ps_set (i := 2) scFear_tables.nd rfl (Or.inr rfl) (pe_op op_rep (pe_lst (pa_cons pe_bl pa_nil)) (pe_callB call_lenF (by rfl) T.len PySem.boot_len (pa_cons (pe_fldF T.clFear T.fMoves (pv 0) (by rfl)) pa_nil))))
      (pss_cons (ps_while PassesOwn.never (pt_val pe_bl) (pss_cons (ps_set (i := 3) scFear_tables.nd rfl (Or.inr rfl) (pe_lc (own := [("given", 4)]) (g := (gName 4)) (tt := tYes) rfl scFear_tables.nd (pi_range1 (by rfl) T.range (pa_cons (pe_fldF T.clFear T.fGiven (pv 0) (by rfl)) pa_nil)) (blkOk_by (N := nFear_tables) (sc := (defScope sFear_tables)) (by decide +kernel)) (fun _ _ _ _ _ => (pg_name (i := 4) scFear_tables.nd rfl (Or.inl rfl))) (fun _ _ _ _ _ => pts_nil) (fun _ _ _ _ _ => (pe_methD (pv 0) T.clFear dFear_counted hr (pa_cons (pv 1) (pa_cons (pv 4) (pa_cons (pv 2) pa_nil)))))))
      (pss_cons (ps_setLc (i := 5) (own := [("place", 6)]) (g := (gName 6)) (tt := tYes) rfl scFear_tables.nd rfl rfl (sw_true rfl rfl rfl (by decide +kernel)) (pi_range1 (by rfl) T.range (pa_cons (pe_callB call_lenF (by rfl) T.len PySem.boot_len (pa_cons (pv 2) pa_nil)) pa_nil)) (blkOk_by (N := nFear_tables) (sc := (defScope sFear_tables)) (by decide +kernel)) (fun _ _ _ _ _ => (pg_name (i := 6) scFear_tables.nd rfl (Or.inr rfl))) (fun _ _ _ _ _ => pts_nil) (fun _ _ _ _ _ => by (apply pe_all T.all; exact (pe_lc (own := [("counts", 7)]) (g := (gName 7)) (tt := tYes) rfl scFear_tables.nd (pi_listK (K := K) (pv 3)) (blkOk_by (N := nFear_tables) (sc := (relS _ (defScope sFear_tables))) (by decide +kernel)) (fun _ _ _ _ _ => (pg_name (i := 7) scFear_tables.nd rfl (Or.inl rfl))) (fun _ _ _ _ _ => pts_nil) (fun _ _ _ _ _ => (pe_cmp (pc_notN (pe_ix ixL (pv 7) (pv 6) (fun _ _ => rfl))) rfl))))))
      (pss_cons (ps_if (pt_cmpR (op_eqD hr.units) (pv 5) (pv 2) (nomark _)) (pss_one ps_break) pss_nil)
      (pss_one (ps_set (i := 2) scFear_tables.nd rfl (Or.inr rfl) (pv 5)))))))
      (pss_one (ps_ret (pe_lc (own := [("at", 8)]) (g := (gName 8)) (tt := tYes) rfl scFear_tables.nd (pi_range1 (by rfl) T.range (pa_cons (pe_callB call_lenF (by rfl) T.len PySem.boot_len (pa_cons (pv 2) pa_nil)) pa_nil)) (blkOk_by (N := nFear_tables) (sc := (defScope sFear_tables)) (by decide +kernel)) (fun _ _ _ _ _ => (pg_name (i := 8) scFear_tables.nd rfl (Or.inr rfl))) (fun _ _ _ _ _ => pts_nil) (fun _ _ _ _ _ => by exact (pe_ifExp (pt_val (pe_ix ixL (pv 2) (pv 8) (fun _ _ => rfl))) (pe_callTy call_tupF (by rfl) T.tuple (by decide +kernel) (pa_cons (pe_lc (own := [("counts", 7)]) (g := (gName 7)) (tt := tYes) rfl scFear_tables.nd (pi_listK (K := K) (pv 3)) (blkOk_by (N := nFear_tables) (sc := (relS _ (defScope sFear_tables))) (by decide +kernel)) (fun _ _ _ _ _ => (pg_name (i := 7) scFear_tables.nd rfl (Or.inl rfl))) (fun _ _ _ _ _ => pts_nil) (fun _ _ _ _ _ => (pe_ix ixL (pv 7) (pv 8) (fun _ _ => rfl)))) pa_nil)) pe_non))))))), ?_⟩
    refine ⟨by decide, fun l0 hl0 => ?_⟩
    have s0 : Same H (upd H l0 (.lst [.bl true])) := same_upd hl0
    refine ⟨_, rfl, x, dx, _, _, rfl, s0 _ _ hx, fear_moves _ _ _, pm, vs, rfl, .inr (s0 _ _ hpm), l0, (vs.length : Int), _, rfl, rfl, upd_same, by omega, by omega, Nat.le_of_lt (small1000 (by rw [Int.toNat_natCast]; show 1 * _ ≤ _; omega)), fun sl0 hsl => ?_⟩
    have e1 : (List.replicate ((vs.length : Int)).toNat [V.bl true]).flatten = Bls R.n (fun _ => true) := by
      rw [Int.toNat_natCast, rep_eq, hl, bls_const]
    rw [e1]
    have s1 : Same H (upd (upd H l0 (.lst [.bl true])) sl0 (.lst (Bls R.n fun _ => true))) := s0.trans (same_upd hsl)
    refine ⟨fun mm σ H' => ∃ (k : Nat) (sl : Addr) (v3 v5 : Option V), σ = [some (.ref x), some (iV goal), some (.ref sl), v3, none, v5, none, none, none] ∧ Same H H' ∧ H' sl = some (.lst (Bls R.n (tseq R E0 goal k))) ∧
        cnt (tseq R E0 goal k) R.n + k ≤ R.n ∧ mm = cnt (tseq R E0 goal k) R.n,
      ⟨_, 0, sl0, none, none, rfl, s1, upd_same, cnt_le _ _, rfl⟩, fun mm σ H1 hW => ?_⟩
    obtain ⟨k, sl, v3, v5, rfl, s2, hsl1, hk, rfl⟩ := hW
    refine ⟨true, rfl, iteT ⟨_, fun σ' H' z => z, ?_⟩⟩
    refine ⟨_, rfl, x, dx, _, _, rfl, s2 _ _ hx, fear_given _ _ _, (R.given : Int), rfl, by omega, by omega, fun D hD => ?_⟩
    refine lc_rangeG (n := R.given) (fun i y H' => ∃ c, y = .ref c ∧ c ≠ D ∧ H' c = some (.lst (Cnts R.n (Wk.counted R E0 (tseq R E0 goal k) goal i)))) (fun i y H3 H4 _ kb _ h => ?_) hD (small1000 (by omega)) (fun i H3 Q' hi s3 hacc kq => ?_) (fun H3 ys s3 hys hD3 fnd => ?_)
    · obtain ⟨c, rfl, hne, hc⟩ := h
      exact ⟨c, rfl, hne, kb _ _ hne hc⟩
    · have s23 := s2.trans s3
      obtain ⟨acc, ha⟩ := hacc
      refine ⟨_, rfl, x, dx, _, rfl, s23 _ _ hx, by rfl, _, rfl, _, rfl, _, rfl, x, sl, en, R, _, goal, i, E0, tseq R E0 goal k, xs, rfl, fear.same s23, s23 _ _ hen, so, s3 _ _ hsl1, aok, fun H4 c s4 nc hc => ?_⟩
      exact kq _ H4 s4 ⟨c, rfl, (ne_of_none ha nc).symm, hc⟩
    · -- left = [..]
      have hsl3 := s3 _ _ hsl1
      refine ⟨_, rfl, sl, _, rfl, .inl hsl3, (R.n : Int), congrArg (fun k : Nat => [iV k]) bls_len, by omega, by omega, fun D2 hD2 => ?_⟩
      refine lc_rangeB (n := R.n) ((List.range R.n).map (tround R E0 goal (tseq R E0 goal k))) hD2 (by rw [List.length_map, List.length_range]) (small1000 (by omega)) (fun p b H6 Q' hp hb s6 kq => ?_) (fun H6 s6 hl6 => ?_)
      · have eb : b = tround R E0 goal (tseq R E0 goal k) p := by
          rw [range_map_get _ hp] at hb
          exact (Option.some.inj hb).symm
        subst eb
        have hD6 := s6 _ _ hD3
        refine ⟨_, rfl, D, rfl, ⟨_, SqL.of hD6⟩, fun D3 hD4 => lc_listV (((List.range R.given).map fun i => (Wk.counted R E0 (tseq R E0 goal k) goal i p).isSome).map V.bl) hD4 hD6 (by rw [List.length_map, List.length_map, List.length_range, hys]) (small1000 (by omega)) (fun i y z H7 Q7 hy hz s7 k7 => ?_) (fun H7 s7 hl7 => ?_)⟩
        · have hi : i < R.given := by
            have := (List.getElem?_eq_some_iff.mp hy).1
            omega
          obtain ⟨b, hb, rfl⟩ := map_get hz
          have eb : b = (Wk.counted R E0 (tseq R E0 goal k) goal i p).isSome := by
            rw [range_map_get _ hi] at hb
            exact (Option.some.inj hb).symm
          subst eb
          obtain ⟨v, hv, c, rfl, _, hc⟩ := fnd i hi
          obtain rfl : y = .ref c := by rw [hv] at hy; exact (Option.some.inj hy).symm
          refine ⟨_, rfl, _, rfl, c, _, p, _, rfl, rfl, s7 _ _ (s6 _ _ hc), at_nat (cnts_get hp), ?_⟩
          exact bl_to (by rw [opt_non, Bool.not_not]) (k7 _ (Same.refl _))
        · exact ⟨D3, _, rfl, hl7, bl_to (all_bl _ _) (kq _ s7)⟩
      · rw [bls_fold] at hl6
        have hsl6 := s6 _ _ hsl3
        have sE := s2.trans (s3.trans s6)
        refine ⟨_, rfl, _, rfl, dBls R.n (tseq R E0 goal (k + 1)), dBls R.n (tseq R E0 goal k), dp_bls hl6, dp_bls hsl6, (plain_bools _).shaped (by decide), (plain_bools _).shaped (by decide), _, rfl, ?_⟩
        rw [eqv_bls]
        refine ite_case (fun ec => ?_) (fun ec => ?_)
        · -- break
          have eq := map_range_eq.mp (of_decide_eq_true ec)
          have hst := tstay_at ok (by omega) eq
          have ecn : ∀ i, Wk.counted R E0 (tseq R E0 goal k) goal i = Wk.counted R E0 (tstay R E0 goal) goal i := fun i => counted_congr ok fun q hq => (hst q hq).symm
          refine ⟨_, rfl, sl, _, rfl, .inl hsl6, (R.n : Int), congrArg (fun k : Nat => [iV k]) bls_len, by omega, by omega, fun D3 hD4 => ?_⟩
          refine lc_rangeG (n := R.n) (fun p v H' => OptT H' v (tabs R E0 goal p) ∧ v ≠ .ref D3) (fun p v H7 H8 _ kb _ h => ⟨?_, h.2⟩) hD4 (small1000 (by omega)) (fun p H7 Q' hp s7 hacc kq => ?_) (fun H7 zs s7 hzs hD7 tab => ?_)
          · cases e : tabs R E0 goal p with
            | none => have h1 := h.1; rw [e] at h1; exact h1
            | some cs =>
              have h1 := h.1
              rw [e] at h1
              obtain ⟨t, rfl, ht⟩ := h1
              exact ⟨t, rfl, kb _ _ (fun e => h.2 (by rw [e])) ht⟩
          · obtain ⟨acc, ha⟩ := hacc
            refine ⟨_, rfl, _, rfl, sl, _, p, _, rfl, rfl, s7 _ _ hsl6, at_nat (bls_get hp), _, rfl, ite_case (fun et => ?_) (fun et => ?_)⟩
            · have hD7 := (s6.trans s7) _ _ hD3
              refine ⟨_, rfl, D, rfl, ⟨_, SqL.of hD7⟩, fun D4 hD5 => lc_listV (((List.range R.given).map fun i => (Wk.counted R E0 (tstay R E0 goal) goal i p).getD 0).map iV) hD5 hD7 (by rw [List.length_map, List.length_map, List.length_range, hys]) (small1000 (by omega)) (fun i y z H8 Q8 hy hz s8 k8 => ?_) (fun H8 s8 hl8 => ?_)⟩
              · have hi : i < R.given := by
                  have := (List.getElem?_eq_some_iff.mp hy).1
                  omega
                obtain ⟨b, hb, rfl⟩ := map_get hz
                have eb : b = (Wk.counted R E0 (tstay R E0 goal) goal i p).getD 0 := by
                  rw [range_map_get _ hi] at hb
                  exact (Option.some.inj hb).symm
                subst eb
                obtain ⟨v, hv, c, rfl, _, hc⟩ := fnd i hi
                obtain rfl : y = .ref c := by rw [hv] at hy; exact (Option.some.inj hy).symm
                rw [ecn i] at hc
                refine ⟨_, rfl, _, rfl, c, _, p, _, rfl, rfl, (s6.trans (s7.trans s8)) _ _ hc, at_nat (cnts_get hp), ?_⟩
                have hsome : (Wk.counted R E0 (tstay R E0 goal) goal i p).isSome = true := by
                  have h1 : tround R E0 goal (tstay R E0 goal) p = true := by
                    rw [tstay_eq ok p hp, hst p hp]
                    exact et
                  exact tround_iff.mp h1 i hi
                obtain ⟨n, hn⟩ := Option.isSome_iff_exists.mp hsome
                rw [hn]
                rw [hn] at k8
                exact k8 _ (Same.refl _)
              · refine ⟨D4, _, rfl, hl8, fun t ht => ?_⟩
                have st := same_upd (o := HO.tup (((List.range R.given).map fun i => (Wk.counted R E0 (tstay R E0 goal) goal i p).getD 0).map iV)) ht
                refine kq _ _ (s8.trans st) ⟨?_, fun e => ?_⟩
                · unfold tabs
                  rw [if_pos (by rw [hst p hp]; exact et)]
                  exact ⟨t, rfl, upd_same⟩
                · have e' : t = D3 := V.ref.inj e
                  have := (s7.trans s8)
                  rw [e', s8 _ _ ha] at ht
                  cases ht
            · refine kq _ _ (Same.refl _) ⟨?_, fun e => by cases e⟩
              unfold tabs
              rw [if_neg (by rw [hst p hp, et]; decide)]
              rfl
          · refine q H7 D3 zs (sE.trans s7) (sE.free hD4) hD7 ⟨hzs, fun p hp => ?_⟩
            obtain ⟨v, h1, h2, _⟩ := tab p hp
            exact ⟨v, h1, h2⟩
        · have ne : ¬ ∀ p, p < R.n → tseq R E0 goal (k + 1) p = tseq R E0 goal k p := fun z => by
            rw [decide_eq_true (map_range_eq.mpr z)] at ec
            cases ec
          obtain ⟨p, hne⟩ := Classical.not_forall.mp ne
          obtain ⟨hp, hne⟩ := Classical.not_imp.mp hne
          have hf := tseq_fall ok hp hne
          exact ⟨_, rfl, _, hf, k + 1, D2, _, _, rfl, sE, hl6, by omega, rfl⟩
end
end Wk

namespace Wk
open PySem PySem.Spec PyProof.Rows L2
/-! ### entries on the heap -/
def EntAt (H : Hp) (v : V) (e : En) : Prop := ∃ p vc, v = .ref p ∧ H p = some (.tup [iV e.num, iV e.goal, vc]) ∧ TupI H vc e.cs
def OptE (H : Hp) (v : V) : Option En → Prop
  | none => v = .non
  | some e => EntAt H v e
def EnsOk (n : Nat) (H : Hp) (L : Ens) (xs : List V) : Prop := xs.length = n ∧ ∀ p, p < n → ∃ v, xs[p]? = some v ∧ OptE H v (L p)
theorem OptE.keep {H H' : Hp} {v : V} : ∀ {o : Option En}, OptE H v o → TKeep H H' → OptE H' v o
  | none, h, _ => h
  | some _, h, k => let ⟨p, vc, e, h1, h2⟩ := h; ⟨p, vc, e, k _ _ h1, h2.keep k⟩
theorem EnsOk.keep {n : Nat} {H H' : Hp} {L : Ens} {xs : List V} (h : EnsOk n H L xs) (k : TKeep H H') : EnsOk n H' L xs := ⟨h.1, fun p hp => let ⟨v, h1, h2⟩ := h.2 p hp; ⟨v, h1, h2.keep k⟩⟩
theorem EnsOk.congr {n : Nat} {H : Hp} {L L' : Ens} {xs : List V} (h : EnsOk n H L xs) (e : ∀ p, p < n → L p = L' p) : EnsOk n H L' xs := ⟨h.1, fun p hp => let ⟨v, h1, h2⟩ := h.2 p hp; ⟨v, h1, e p hp ▸ h2⟩⟩
theorem OptE.non {H : Hp} {v : V} : ∀ {o : Option En}, OptE H v o → (decide (v = V.non)) = !o.isSome
  | none, h => by
    have e : v = .non := h
    rw [e]
    rfl
  | some _, h => by
    obtain ⟨p, vc, rfl, _⟩ := h
    rfl
theorem EnsOk.steps {n : Nat} {H : Hp} {L : Ens} {xs : List V} (h : EnsOk n H L xs) : StepsOk n (someE L) xs := ⟨h.1, fun p hp => let ⟨v, h1, h2⟩ := h.2 p hp; ⟨v, h1, h2.non⟩⟩
section
variable {P : Program} {w : World} {K : PySem.W.Frag} {mg : Str → Option Value} {base : Heap} {Ch Cf : Addr}
/-! ### Fear.step -/
abbrev sFear_step : Stmt := inClass (top 20) 5
abbrev nFear_step : List Str := ["self", "number", "goal", "found", "fresh", "at", "counts", "place"]
theorem scFear_step : FnScope nFear_step ["self", "number", "goal"] (defScope sFear_step) := ⟨rfl, rfl, rfl, by decide +kernel, rfl, by decide +kernel, by decide +kernel⟩
def spFStep (Cf : Addr) : Sp := fun vs H Q _ => ∃ (x en : Addr) (A : Ar) (m : V) (num goal : Nat) (L : Ens) (xs : List V), vs = [.ref x, iV num, iV goal] ∧ FearAt Cf H x A m en ∧
  H en = some (.lst xs) ∧ EnsOk A.n H L xs ∧ ArOk A ∧ ∀ (H' : Hp) (xs' : List V), KeepBut en H H' → H' en = some (.lst xs') → EnsOk A.n H' (lstep A num goal L) xs' → Q (.bl (anyF A goal L)) H'
theorem ok_fstep {f : Addr} {fd : FuncData} (F : Fun K "step" "Fear.step" sFear_step f fd) (T : Txt K mg Ch Cf) (dFear_tables : Md P w K mg base Cf 4 "tables" ["self", "goal"] (spTables Cf)) :
    FnOk P w K mg base CX0 5 f fd ["self", "number", "goal"] (spFStep Cf) := by
  refine F.ok scFear_step (fun vs H Q E h => ?_) (fun cdv A outer s H vs Q E hr h => ?_)
  · obtain ⟨x, en, A, m, num, goal, L, xs, rfl, _⟩ := h
    rfl
  · obtain ⟨x, en, R, m, num, goal, L, xs, rfl, fear, hen, ens, aok, q⟩ := h
    obtain ⟨dx, hx⟩ := fear.ins
    have n120 := aok.n120
    have nxen : x ≠ en := ne_of hx hen (by intro z; cases z)
    refine ⟨_, (pss_cons (ps_set (i := 3) scFear_step.nd rfl (Or.inl rfl) (pe_methD (pv 0) T.clFear dFear_tables hr (pa_cons (pv 2) pa_nil)))
      (pss_cons (ps_setLc (i := 4) (own := [("at", 5), ("counts", 6)]) (g := (gTup K 2 (gCons (gName 5) (gCons (gName 6) gNil)))) rfl scFear_step.nd rfl rfl (sw_true rfl rfl rfl (by decide +kernel)) (pi_enum (by rfl) T.enumerate (pa_cons (pv 3) pa_nil)) (blkOk_by (N := nFear_step) (sc := (defScope sFear_step)) (by decide +kernel)) (fun _ _ _ _ _ => (pg_tup rfl (pgs_cons (pg_name (i := 5) scFear_step.nd rfl (Or.inl rfl)) (pgs_cons (pg_name (i := 6) scFear_step.nd rfl (Or.inl rfl)) pgs_nil)))) (fun _ _ _ _ _ => pts_one (pw_and (pt_cmp (pc_notN (pv 6)) rfl) (pw_and1 (pt_cmp (pc_isN (pe_ix ixL (pe_fldF T.clFear T.fEntries (pv 0) (by rfl)) (pv 5) (fun _ _ => rfl))) rfl))).pt) (fun _ _ _ _ _ => (pv 5)))
      (pss_cons (ps_for PassesOwn.never rfl (pi_listK (K := K) (pv 4)) (pg_name (i := 7) scFear_step.nd rfl (Or.inl rfl)) (pss_one (ps_asg (pe_tup (pa_cons (pv 1) (pa_cons (pv 2) (pa_cons (pe_ix ixL (pv 3) (pv 7) (fun _ _ => rfl)) pa_nil)))) (pg_sub (pe_fldF T.clFear T.fEntries (pv 0) (by rfl)) (pv 7) set_list))))
      (pss_one (ps_ret (pe_cmpR (op_neD hr.units) (pv 4) (pe_lst pa_nil) (nomark _))))))), ?_⟩
    refine ⟨_, rfl, x, dx, _, rfl, hx, by rfl, _, rfl, x, en, R, m, goal, someE L, xs, rfl, fear, hen, ens.steps, aok, fun H1 fo ys s1 nfo hfo tabs1 => ?_⟩
    refine ⟨_, rfl, fo, ys, rfl, SqL.of hfo, fun D hD => ?_⟩
    have ly := tabs1.1
    refine lc_enumF (walk_enum (K := K) (a := fo) (xs := ys)) (lfresh R goal L) (fun H h => SqL.of (h _ _ hfo)) (fun _ _ => rfl) (fun _ _ => rfl) hD (small1000 (by omega)) (fun i y H2 R' hy s2 k => ?_) (fun H2 s2 hl => ?_)
    · have hi : i < R.n := by
        have := (List.getElem?_eq_some_iff.mp hy).1
        omega
      obtain ⟨v, hv, ov⟩ := tabs1.2 i hi
      obtain rfl : y = v := by rw [hy] at hv; exact Option.some.inj hv
      obtain ⟨ev, hev, oe⟩ := ens.2 i hi
      have e1 : (!decide (y = V.non)) = (tabs R (someE L) goal i).isSome := by
        cases e : tabs R (someE L) goal i with
        | none => rw [e] at ov; rw [show y = V.non from ov]; rfl
        | some cs => rw [e] at ov; obtain ⟨t, rfl, _⟩ := ov; rfl
      have e2 : decide (ev = V.non) = (L i).isNone := by
        rw [oe.non]
        cases L i <;> rfl
      refine tand (tabs R (someE L) goal i).isSome (L i).isNone (fun R1 k1 => ⟨_, rfl, _, rfl, by rw [e1]; exact k1⟩) (fun _ R1 k1 => ⟨_, rfl, x, dx, _, _, rfl, s2 _ _ (s1 _ _ hx), fear_entries _ _ _, _, rfl, en, xs, i, ev, rfl, rfl, s2 _ _ (s1 _ _ hen), at_nat hev, _, rfl, by rw [e2]; exact k1⟩) k
    · have s12 := s1.trans s2
      have nD : H D = none := s1.free hD
      have nDen : D ≠ en := (ne_of_none hen nD).symm
      have nfen : fo ≠ en := (ne_of_none hen nfo).symm
      rw [ly] at hl
      generalize hfr : (List.range R.n).filter (lfresh R goal L) = fr at hl
      have mem : ∀ p, p ∈ fr → p < R.n ∧ lfresh R goal L p = true := fun p hp => by
        rw [← hfr] at hp
        exact ⟨List.mem_range.mp (List.mem_filter.mp hp).1, (List.mem_filter.mp hp).2⟩
      have lfr : fr.length ≤ R.n := by
        rw [← hfr]
        refine Nat.le_trans (List.length_filter_le _ _) ?_
        rw [List.length_range]
        exact Nat.le_refl _
      refine ⟨_, rfl, D, rfl, ⟨_, SqL.of hl⟩, for_list (K := K) (a := D) (xs := fr.map iV) (fun i σ H' => ∃ (v7 : Option V) (xs' : List V), σ = [some (.ref x), some (iV num), some (iV goal), some (.ref fo), some (.ref D), none, none, v7] ∧ KeepBut en H2 H' ∧
          H' en = some (.lst xs') ∧ EnsOk R.n H' (fun p => if (fr.take i).contains p = true then some ⟨num, goal, (tabs R (someE L) goal p).getD []⟩ else L p) xs')
        ⟨none, xs, rfl, .of (Same.refl _), s12 _ _ hen, (ens.keep (.of s12)).congr fun p _ => by rw [List.take_zero]; rfl⟩ (fun i σ H' _ hv => ?_) (fun i y σ H' hi hv => ?_) (fun σ H' hv => ?_)⟩
      · obtain ⟨v7, xs', rfl, kb, hen', ens'⟩ := hv
        exact SqL.of (kb _ _ nDen hl)
      · obtain ⟨v7, xs', rfl, kb, hen', ens'⟩ := hv
        obtain ⟨pl, hpl, rfl⟩ := map_get hi
        obtain ⟨hpn, hfp⟩ := mem pl (List.mem_of_getElem? hpl)
        obtain ⟨v, hv, ov⟩ := tabs1.2 pl hpn
        have hfo' := kb _ _ nfen (s2 _ _ hfo)
        refine ⟨_, rfl, _, rfl, _, rfl, _, rfl, fo, ys, pl, v, rfl, rfl, hfo', at_nat hv, (by show 3 ≤ sizeLine; decide), fun t ht => ?_⟩
        have st := same_upd (o := HO.tup [iV num, iV goal, v]) ht
        have nen : en ≠ t := ne_of_none hen' ht
        refine ⟨_, rfl, x, dx, _, _, rfl, st _ _ (kb _ _ nxen (s12 _ _ hx)), fear_entries _ _ _, _, rfl, en, xs', pl, pl, rfl, rfl, st _ _ hen', by rw [ens'.1]; exact ix_nat hpn, ?_⟩
        refine ⟨_, _, rfl, fun b o n e => ?_, upd_same, by rw [List.length_set]; exact ens'.1, fun p hp => ?_⟩
        · rw [upd_ne n]
          exact st _ _ (kb b o n e)
        · have kk : TKeep H' (upd (upd H' t (.tup [iV num, iV goal, v])) en (.lst (xs'.set pl (.ref t)))) := (TKeep.of st).trans (TKeep.upd (st _ _ hen'))
          show ∃ v, _ ∧ OptE _ v (if (fr.take (i + 1)).contains p = true then _ else _)
          rw [contains_take hpl]
          by_cases e : p = pl
          · subst e
            refine ⟨_, List.getElem?_set_self (by rw [ens'.1]; exact hp), ?_⟩
            rw [if_pos (by simp)]
            refine ⟨t, v, rfl, by rw [upd_ne nen.symm, upd_same], ?_⟩
            have hsome : (tabs R (someE L) goal p).isSome = true := by
              unfold lfresh at hfp
              rw [Bool.and_eq_true] at hfp
              exact hfp.1
            obtain ⟨cs, hcs⟩ := Option.isSome_iff_exists.mp hsome
            rw [hcs] at ov ⊢
            exact TupI.keep (TupI.keep (TupI.keep (show TupI H1 v cs from ov) (.of s2)) (kb.tkeep (s12 _ _ hen))) kk
          · have e' : (p == pl) = false := beq_eq_false_iff_ne.mpr e
            obtain ⟨u, h1, h2⟩ := ens'.2 p hp
            refine ⟨u, by rw [List.getElem?_set_ne (fun z => e z.symm)]; exact h1, ?_⟩
            rw [e', Bool.or_false]
            exact h2.keep kk
      · obtain ⟨v7, xs', rfl, kb, hen', ens'⟩ := hv
        rw [List.take_of_length_le (by rw [List.length_map]; exact Nat.le_refl _)] at ens'
        refine ⟨_, rfl, Nat.zero_le _, fun t ht => ?_⟩
        have st := same_upd (o := HO.lst []) ht
        refine ⟨.list (fr.map dN), .list [], .lst (SqL.of (st _ _ (kb _ _ nDen hl))) (dp_ns _), .lst (SqL.of upd_same) .nil, (plain_list fun p hp => by have := (mem p hp).1; omega).shaped (by decide), by decide, ?_⟩
        refine bl_to ?_ (q _ xs' (fun b o n e => st _ _ (kb b o n (s12 _ _ e))) (st _ _ hen') ((ens'.keep (.of st)).congr fun p hp => ?_))
        · rw [eqv_empty]
          unfold anyF
          cases e : fr with
          | nil =>
            refine (of_not_true fun z => ?_).symm
            obtain ⟨p, hp, h⟩ := List.any_eq_true.mp z
            have : p ∈ fr := by rw [← hfr]; exact List.mem_filter.mpr ⟨hp, h⟩
            rw [e] at this
            cases this
          | cons a r =>
            obtain ⟨h1, h2⟩ := mem a (by rw [e]; exact List.mem_cons_self)
            exact (List.any_eq_true.mpr ⟨a, List.mem_range.mpr h1, h2⟩).symm
        · unfold lstep
          rw [← hfr, contains_filter hp]
/-! ### Fear.__init__ -/
abbrev sFear_init : Stmt := inClass (top 20) 0
abbrev nFear_init : List Str := ["self", "arena"]
theorem scFear_init : FnScope nFear_init ["self", "arena"] (defScope sFear_init) := ⟨rfl, rfl, rfl, by decide +kernel, rfl, by decide +kernel, by decide +kernel⟩
def spFInit (Cf : Addr) : Sp := fun vs H Q _ => ∃ (x dx : Addr) (v : V) (A : Ar), vs = [.ref x, v] ∧ IsAr H v A ∧ ArOk A ∧ H x = some (.ins Cf dx []) ∧
  ∀ (H' : Hp) (m : V) (en : Addr), KeepBut x H H' → H en = none → FearAt Cf H' x A m en → H' en = some (.lst (List.replicate A.n .non)) → Q .non H'
theorem ok_finit {f : Addr} {fd : FuncData} (F : Fun K "__init__" "Fear.__init__" sFear_init f fd) (T : Txt K mg Ch Cf) : FnOk P w K mg base CX0 1 f fd ["self", "arena"] (spFInit Cf) := by
  refine F.ok scFear_init (fun vs H Q E h => ?_) (fun cdv A outer s H vs Q E hr h => ?_)
  · obtain ⟨x, dx, v, A, rfl, _⟩ := h
    rfl
  · obtain ⟨x, dx, v, R, rfl, ia, aok, hx, q⟩ := h
    obtain ⟨p, m, rfl, hp, hm⟩ := id ia
    obtain ⟨pm, vs, rfl, hpm, pls⟩ := id hm
    have hl : vs.length = R.n := paired_len pls
    have n120 := aok.n120
    have npx : p ≠ x := ne_of hp hx (by intro z; cases z)
    have nmx : pm ≠ x := ne_of hpm hx (by intro z; cases z)
    have k0 : KeepBut x H H := .of (Same.refl _)
    refine ⟨_, (pss_cons (ps_fld (pv 0) (pe_ix ixT (pv 1) pe_int (fun _ _ => rfl)) rfl)
      (pss_cons (ps_fld (pv 0) (pe_ix ixT (pv 1) pe_int (fun _ _ => rfl)) rfl)
      (pss_one (ps_fld (pv 0) (pe_op op_rep (pe_lst (pa_cons pe_non pa_nil)) (pe_callB call_lenF (by rfl) T.len PySem.boot_len (pa_cons (pe_ix ixT (pv 1) pe_int (fun _ _ => rfl)) pa_nil))) rfl)))), ?_⟩
    refine ⟨_, rfl, p, _, 0, _, rfl, rfl, hp, rfl, _, rfl, x, Cf, dx, [], rfl, hx, T.clFear, T.fMoves, (by show 0 < 1000; decide), ?_⟩
    refine ⟨_, rfl, p, _, 1, _, rfl, rfl, k0.upd _ _ npx hp, rfl, _, rfl, x, Cf, dx, _, rfl, upd_same, T.clFear, T.fGiven, (by show 1 < 1000; decide), ?_⟩
    refine ⟨by decide, fun l0 hl0 => ?_⟩
    generalize hH4 : upd (upd H x (.ins Cf dx (putF "moves" (.ref pm) []))) x (.ins Cf dx (putF "given" (iV R.given) (putF "moves" (.ref pm) []))) = H4 at hl0
    have k4 : KeepBut x H H4 := by rw [← hH4]; exact k0.upd.upd
    have x4 : H4 x = some (.ins Cf dx (putF "given" (iV R.given) (putF "moves" (.ref pm) []))) := by rw [← hH4]; exact upd_same
    have nx0 : ∀ l, H4 l = none → l ≠ x ∧ H l = none := fun l e => by
      have n : l ≠ x := fun z => by rw [z, x4] at e; cases e
      rw [← hH4, upd_ne n, upd_ne n] at e
      exact ⟨n, e⟩
    obtain ⟨n0, h0⟩ := nx0 l0 hl0
    have s5 := same_upd (o := HO.lst [V.non]) hl0
    refine ⟨_, rfl, p, _, 0, _, rfl, rfl, s5 _ _ (k4 _ _ npx hp), rfl, pm, vs, rfl, .inr (s5 _ _ (k4 _ _ nmx hpm)), l0, (vs.length : Int), _, rfl, rfl, upd_same, by omega, by omega, Nat.le_of_lt (small1000 (by rw [Int.toNat_natCast]; show 1 * _ ≤ _; omega)), fun st hst => ?_⟩
    have e1 : (List.replicate ((vs.length : Int)).toNat [V.non]).flatten = List.replicate R.n V.non := by
      rw [Int.toNat_natCast, rep_eq, hl]
    rw [e1]
    obtain ⟨nst, hst0⟩ := nx0 st (s5.free hst)
    have s6 := same_upd (o := HO.lst (List.replicate R.n V.non)) hst
    refine ⟨_, rfl, x, Cf, dx, _, rfl, s6 _ _ (s5 _ _ x4), T.clFear, T.fEntries, (by show 2 < 1000; decide), ?_⟩
    have kE : KeepBut x H (upd (upd (upd H4 l0 (.lst [V.non])) st (.lst (List.replicate R.n V.non))) x (.ins Cf dx (putF "entries" (.ref st) (putF "given" (iV R.given) (putF "moves" (.ref pm) []))))) := KeepBut.upd ((k4.new h0).new hst0)
    refine q _ (.ref pm) st kE hst0 ⟨⟨dx, ?_⟩, IsPls.keep (kE.tk hx) hm⟩ (by rw [upd_ne nst, upd_same])
    rw [upd_same, fear_put]
end
end Wk

namespace Wk
open PySem PySem.Spec PyProof.Rows L2
theorem ens_none {n : Nat} {H : Hp} : EnsOk n H (fun _ => none) (List.replicate n V.non) := ⟨List.length_replicate, fun p hp => ⟨.non, by rw [List.getElem?_replicate, if_pos hp], rfl⟩⟩
theorem lstep_same {A : Ar} {num goal : Nat} {L : Ens} (h : anyF A goal L = false) : ∀ p, p < A.n → lstep A num goal L p = L p := fun p hp => by
  unfold lstep
  rw [if_neg]
  intro z
  rw [anyF_iff.mpr ⟨p, hp, z⟩] at h
  cases h
section
variable {P : Program} {w : World} {K : PySem.W.Frag} {mg : Str → Option Value} {base : Heap} {Ch Cf : Addr}
/-! ### lost -/
abbrev slost : Stmt := top 21
abbrev nlost : List Str := ["arena", "fear", "number", "changed", "goal"]
theorem sclost : FnScope nlost ["arena"] (defScope slost) := ⟨rfl, rfl, rfl, by decide +kernel, rfl, by decide +kernel, by decide +kernel⟩
def spLost : Sp := fun vs H Q _ => ∃ (v : V) (A : Ar), vs = [v] ∧ IsAr H v A ∧ ArOk A ∧ ∀ (H' : Hp) (p : Addr) (xs : List V), Same H H' → H' p = some (.tup xs) → EnsOk A.n H' (lostM A) xs → Q (.ref p) H'
theorem ok_lost {f : Addr} {fd : FuncData} (F : Fun K "lost" "lost" slost f fd) (T : Txt K mg Ch Cf) (dneed_arena : Df P w K mg base 6 "need_arena" ["thing"] spNeed) (dFear : Kd P w K mg base Cf 1 "Fear" ["self", "arena"] (spFInit Cf))
    (dFear_step : Md P w K mg base Cf 5 "step" ["self", "number", "goal"] (spFStep Cf)) : FnOk P w K mg base CX0 7 f fd ["arena"] spLost := by
  refine F.ok sclost (fun vs H Q E h => ?_) (fun cdv A outer s H vs Q E hr h => ?_)
  · obtain ⟨v, A, rfl, _⟩ := h
    rfl
  · obtain ⟨v, R, rfl, ia, aok, q⟩ := h
    have n120 := aok.n120
    have w8 := aok.w8
    refine ⟨_, (pss_cons (ps_expr (pe_callD dneed_arena hr (by rfl) (pa_cons (pv 0) pa_nil)))
      (pss_cons (ps_set (i := 1) sclost.nd rfl (Or.inl rfl) (pe_makeD dFear hr (by rfl) (pa_cons (pv 0) pa_nil)))
      (pss_cons (ps_set (i := 2) sclost.nd rfl (Or.inl rfl) pe_int)
      (pss_cons (ps_set (i := 3) sclost.nd rfl (Or.inl rfl) pe_bl)
      (pss_cons (ps_while PassesOwn.never (pt_val (pv 3)) (pss_cons (ps_set (i := 3) sclost.nd rfl (Or.inl rfl) pe_bl)
      (pss_one (ps_for PassesOwn.never rfl (pi_range1 (by rfl) T.range (pa_cons (pe_ix ixT (pv 0) pe_int (fun _ _ => rfl)) pa_nil)) (pg_name (i := 4) sclost.nd rfl (Or.inl rfl)) (pss_one (ps_if (pt_val (pe_methD (pv 1) T.clFear dFear_step hr (pa_cons (pv 2) (pa_cons (pv 4) pa_nil)))) (pss_cons (ps_aug (i := 2) sclost.nd rfl (Or.inl rfl) pe_int ip_add)
      (pss_one (ps_set (i := 3) sclost.nd rfl (Or.inl rfl) pe_bl))) pss_nil))))))
      (pss_one (ps_ret (pe_callTy call_tupF (by rfl) T.tuple (by decide +kernel) (pa_cons (pe_fldF T.clFear T.fEntries (pv 1) (by rfl)) pa_nil))))))))), ?_⟩
    refine ⟨_, rfl, v, R, rfl, ia, aok, fun H1 s1 => ?_⟩
    obtain ⟨p, m, rfl, hp, hm⟩ := id ia
    refine ⟨_, rfl, fun x dx nx ndx nex => ?_⟩
    have s2 : Same H1 (upd (upd H1 dx (.own x)) x (.ins Cf dx [])) := fun b o e => by
      rw [upd_ne (ne_of_none e nx), upd_ne (ne_of_none e ndx)]
      exact e
    have s12 := s1.trans s2
    refine ⟨x, dx, _, R, rfl, ia.keep (.of s12), aok, upd_same, fun H2 m2 en kb2 nen fear hen => ⟨rfl, ?_⟩⟩
    have s02 : Same H H2 := fun b o e => kb2 b o (ne_of_none (s1 _ _ e) nx) (s12 b o e)
    have nH : H en = none := s12.free nen
    obtain ⟨dx2, hx2⟩ := fear.ins
    have nxen : x ≠ en := ne_of hx2 hen (by intro z; cases z)
    have keepS : ∀ {H'}, KeepBut en H2 H' → Same H H' := fun kb b o e => kb b o (ne_of_none e nH) (s02 b o e)
    refine ⟨fun mm σ H' => ∃ (k : Nat) (ch : Bool) (v4 : Option V) (xs : List V), σ = [some (.ref p), some (.ref x), some (iV (lseq R k).2), some (.bl ch), v4] ∧ KeepBut en H2 H' ∧ H' en = some (.lst xs) ∧ EnsOk R.n H' (lseq R k).1 xs ∧
        k ≤ cnt (someE (lseq R k).1) R.n ∧ (ch = false → ∀ i, i < R.wanted → anyF R i (lseq R k).1 = false) ∧ mm = 2 * (R.n - k) + (if ch = true then 1 else 0),
      ⟨_, 0, true, none, _, rfl, .of (Same.refl _), hen, ens_none, Nat.zero_le _, fun z => (by cases z), rfl⟩, fun mm σ H3 hW => ?_⟩
    obtain ⟨k, ch, v4, xs, rfl, kb3, hen3, ens3, hk, still, rfl⟩ := hW
    have hkn : k ≤ R.n := Nat.le_trans hk (cnt_le _ _)
    refine ⟨_, rfl, ch, rfl, ite_case (fun ec => ?_) (fun ec => ?_)⟩
    · refine ⟨_, fun σ' H' z => z, ?_⟩
      refine ⟨_, rfl, p, _, 2, _, rfl, rfl, keepS kb3 _ _ hp, rfl, (R.wanted : Int), rfl, by omega, by omega, ?_⟩
      refine for_rangeN (n := R.wanted) (fun j σ H' => ∃ (ch' : Bool) (v4 : Option V) (xs' : List V), σ = [some (.ref p), some (.ref x), some (iV (lrun R (lseq R k) j).2), some (.bl ch'), v4] ∧ KeepBut en H2 H' ∧ H' en = some (.lst xs') ∧ EnsOk R.n H' (lrun R (lseq R k) j).1 xs' ∧
          (ch' = true → cnt (someE (lseq R k).1) R.n < cnt (someE (lrun R (lseq R k) j).1) R.n) ∧ (ch' = false → lrun R (lseq R k) j = lseq R k ∧ ∀ i, i < j → anyF R i (lseq R k).1 = false))
        ⟨false, v4, xs, rfl, kb3, hen3, ens3, fun z => (by cases z), fun _ => ⟨rfl, fun i hi => absurd hi (by omega)⟩⟩ (fun j σ H' hj hv => ?_) (fun σ H' hv => ?_)
      · obtain ⟨ch', v4', xs', rfl, kb4, hen4, ens4, up, same⟩ := hv
        generalize hst : lrun R (lseq R k) j = st at ens4 up same
        have hnext : lrun R (lseq R k) (j + 1) = lgoal R st j := by rw [← hst]; rfl
        refine ⟨_, rfl, x, dx2, _, rfl, kb4 _ _ nxen hx2, by rfl, _, rfl, _, rfl, x, en, R, m2, st.2, j, st.1, xs', rfl, fear.keep kb4 hen, hen4, ens4, aok, fun H5 xs5 kb5 hen5 ens5 => ⟨_, rfl, ite_case (fun eb => ?_) (fun eb => ?_)⟩⟩
        · -- number += 1; changed = True
          refine ⟨_, rfl, _, _, rfl, rfl, ?_⟩
          have eg : lgoal R st j = (lstep R st.2 j st.1, st.2 + 1) := by unfold lgoal; rw [if_pos eb]
          refine ⟨true, some (iV j), xs5, ?_, kb4.trans kb5, hen5, by rw [hnext, eg]; exact ens5, fun _ => ?_, fun z => (by cases z)⟩
          · rw [hnext, eg]
            rfl
          · rw [hnext]
            have hg := lgoal_grow eb
            have hle : cnt (someE (lseq R k).1) R.n ≤ cnt (someE st.1) R.n := by
              rw [← hst]
              exact cnt_mono fun p _ z => lrun_le _ j p z
            omega
        · have eg : lgoal R st j = st := lgoal_same eb
          refine ⟨ch', some (iV j), xs5, by rw [hnext, eg]; rfl, kb4.trans kb5, hen5, by rw [hnext, eg]; exact ens5.congr (lstep_same eb), fun z => by rw [hnext, eg]; exact up z, fun z => ?_⟩
          obtain ⟨h1, h2⟩ := same z
          rw [hnext, eg]
          refine ⟨h1, fun i hi => ?_⟩
          by_cases e : i = j
          · subst e
            rw [← h1]
            exact eb
          · exact h2 i (by omega)
      · obtain ⟨ch', v4', xs', rfl, kb4, hen4, ens4, up, same⟩ := hv
        cases ech : ch' with
        | true =>
          have hup := up ech
          have hb := cnt_le (someE (lseq R (k + 1)).1) R.n
          have hup' : cnt (someE (lseq R k).1) R.n < cnt (someE (lseq R (k + 1)).1) R.n := hup
          refine ⟨2 * (R.n - (k + 1)) + 1, ?_, k + 1, true, v4', xs', rfl, kb4, hen4, ens4, by omega, fun z => (by cases z), rfl⟩
          rw [if_pos ec]
          omega
        | false =>
          obtain ⟨h1, h2⟩ := same ech
          rw [h1] at ens4 ⊢
          refine ⟨2 * (R.n - k), ?_, k, false, v4', xs', rfl, kb4, hen4, ens4, hk, fun _ => h2, rfl⟩
          rw [if_pos ec]
          omega
    · -- return tuple(fear.entries)
      refine ⟨_, rfl, x, dx2, _, _, rfl, kb3 _ _ nxen hx2, fear_entries _ _ _, en, xs, rfl, hen3, fun l hl => ?_⟩
      have st := same_upd (o := HO.tup xs) hl
      refine q _ l xs ((keepS kb3).trans st) upd_same ?_
      rw [lostM_at hkn (still ec)]
      exact ens3.keep (.of st)
end
end Wk

namespace Wk
open PySem PySem.Spec PyProof.Rows L2
/-! ### a draw -/
def drawF (l c t : Int) : List (Key × V) := [(.inr "left", .int l), (.inr "cell", .int c), (.inr "at", .int t)]
theorem draw_left (l c t : Int) : valV (drawF l c t) (.inr "left") = some (.int l) := by rfl
theorem draw_cell (l c t : Int) : valV (drawF l c t) (.inr "cell") = some (.int c) := by rfl
theorem draw_at (l c t : Int) : valV (drawF l c t) (.inr "at") = some (.int t) := by rfl
theorem draw_pleft (l c t v : Int) : putK (drawF l c t) (.inr "left") (.int v) = drawF v c t := by rfl
theorem draw_pat (l c t v : Int) : putK (drawF l c t) (.inr "at") (.int v) = drawF l c v := by rfl
/-- a draw at d that has been asked at most B times -/
def DrawAt (H : Hp) (d : Addr) (B : Nat) : Prop := ∃ l c t : Int, H d = some (.dK (drawF l c t)) ∧ 0 ≤ c ∧ c < 1000000007 ∧ 0 ≤ t ∧ t ≤ B
theorem DrawAt.mono {H : Hp} {d : Addr} {B B' : Nat} (h : DrawAt H d B) (hb : B ≤ B') : DrawAt H d B' := let ⟨l, c, t, e, h1, h2, h3, h4⟩ := h; ⟨l, c, t, e, h1, h2, h3, by omega⟩
theorem DrawAt.same {H H' : Hp} {d : Addr} {B : Nat} (h : DrawAt H d B) (s : Same H H') : DrawAt H' d B := let ⟨l, c, t, e, h1⟩ := h; ⟨l, c, t, s _ _ e, h1⟩
theorem DrawAt.get {H : Hp} {d : Addr} {B : Nat} (h : DrawAt H d B) : ∃ l c t : Int, H d = some (.dK (drawF l c t)) ∧ 0 ≤ c ∧ c < 1000000007 ∧ 0 ≤ t ∧ t ≤ B := h
section
variable {P : Program} {w : World} {K : PySem.W.Frag} {mg : Str → Option Value} {base : Heap} {Ch Cf : Addr}
/-! ### _law_begun -/
abbrev sLbegun : Stmt := top 25
abbrev nLbegun : List Str := ["_law_script", "_law_k", "_law_cell"]
theorem scLbegun : FnScope nLbegun ["_law_script", "_law_k"] (defScope sLbegun) := ⟨rfl, rfl, rfl, by decide +kernel, rfl, by decide +kernel, by decide +kernel⟩
def spBegun (K : PySem.W.Frag) : Sp := fun vs H Q _ => ∃ (a : Addr) (ns : List Int) (k : Nat), vs = [.ref a, iV k] ∧ SqL K H a (ns.map V.int) ∧ k ≤ 63 ∧ ∀ (H' : Hp) (d : Addr), Same H H' → H d = none → DrawAt H' d 3780 → Q (.ref d) H'
theorem ok_begun {f : Addr} {fd : FuncData} (F : Fun K "_law_begun" "_law_begun" sLbegun f fd) (T : Txt K mg Ch Cf) : FnOk P w K mg base CX0 1 f fd ["_law_script", "_law_k"] (spBegun K) := by
  refine F.ok scLbegun (fun vs H Q E h => ?_) (fun cdv A outer s H vs Q E hr h => ?_)
  · obtain ⟨a, ns, k, rfl, _⟩ := h
    rfl
  · obtain ⟨a, ns, k, rfl, hS, hk, q⟩ := h
    refine ⟨_, (pss_cons (ps_set (i := 2) scLbegun.nd rfl (Or.inl rfl) (pe_ifExp (pt_cmpR op_lt (pv 1) (pe_callB call_len_seq (by rfl) T.len PySem.boot_len (pa_cons (pv 0) pa_nil)) (nomark _)) (pe_ix ix_list (pv 0) (pv 1) (fun _ _ => rfl)) pe_int))
      (pss_one (ps_ret (pe_disp (pps_cons pe_str (pe_ifExp (pt_cmpR op_ge (pv 2) (pe_op op_pow pe_int pe_int) (nomark _)) (pv 2) pe_int) (pps_cons pe_str (pe_op op_mod (pv 2) pe_int) (pps_cons pe_str (pe_op op_mul pe_int (pv 1)) pps_nil))) (by rfl) (by rfl) (fun z => by cases z) (by decide))))), ?_⟩
    dsimp only [tSeq, tAsg]
    refine tif (decide ((k : Int) < ((ns.map V.int).length : Int))) (((ns.map V.int)[k]?).getD .non) (.int 0) (fun R1 k1 => ⟨_, rfl, _, rfl, a, _, rfl, .inl hS, _, _, rfl, rfl, _, rfl, k1⟩) (fun e Q1 k1 => ?_) (fun _ Q1 k1 => k1) ?_
    · have hk' : k < (ns.map V.int).length := by have := of_decide_eq_true e; omega
      have eg : (ns.map V.int)[k]? = some (ns.map V.int)[k] := List.getElem?_eq_getElem hk'
      rw [eg] at k1
      exact ⟨_, rfl, _, rfl, a, _, k, _, rfl, rfl, hS, at_nat eg, k1⟩
    · obtain ⟨z, hz⟩ : ∃ z : Int, (if decide ((k : Int) < ((ns.map V.int).length : Int)) = true then ((ns.map V.int)[k]?).getD .non else V.int 0) = V.int z := by
        by_cases e : (k : Int) < ((ns.map V.int).length : Int)
        · rw [decide_eq_true e, if_pos rfl]
          have hk' : k < ns.length := by rw [List.length_map] at e; omega
          rw [List.getElem?_map, List.getElem?_eq_getElem hk']
          exact ⟨_, rfl⟩
        · rw [decide_eq_false e, if_neg (by decide)]
          exact ⟨0, rfl⟩
      rw [hz]
      intro p hp
      dsimp only [tPairs, tC]
      refine tif (decide ((10 : Int) ^ 18 ≤ z)) (.int z) (.int 0) (fun R1 k1 => ⟨_, rfl, 10, 18, rfl, rfl, ⟨by decide, by decide, by decide⟩, _, _, rfl, rfl, _, rfl, k1⟩) (fun _ Q1 k1 => ⟨_, rfl, k1⟩) (fun _ Q1 k1 => k1) ?_
      obtain ⟨l, hl⟩ : ∃ l : Int, (if decide ((10 : Int) ^ 18 ≤ z) = true then V.int z else V.int 0) = V.int l := by
        by_cases e : decide ((10 : Int) ^ 18 ≤ z) = true
        · rw [if_pos e]; exact ⟨_, rfl⟩
        · rw [if_neg e]; exact ⟨_, rfl⟩
      rw [hl]
      refine ⟨_, rfl, _, _, rfl, rfl, (by show (0 : Int) < 1000000007; decide), _, rfl, _, _, rfl, rfl, .inl ⟨by decide, by decide⟩, upd_same, drawF l (z % 1000000007) (60 * (k : Int)), rfl, (by show 3 ≤ 15; decide), ?_⟩
      refine q _ p ?_ hp ⟨l, z % 1000000007, 60 * (k : Int), by rw [upd_same]; rfl, by omega, by omega, by omega, by omega⟩
      intro b o e
      rw [upd_ne (ne_of_none e hp), upd_ne (ne_of_none e hp)]
      exact e
/-! ### _law_take -/
abbrev sLtake : Stmt := top 26
abbrev nLtake : List Str := ["_law_draw", "_law_many", "_law_found", "_law_at", "_law_mixed"]
theorem scLtake : FnScope nLtake ["_law_draw", "_law_many"] (defScope sLtake) := ⟨rfl, rfl, rfl, by decide +kernel, rfl, by decide +kernel, by decide +kernel⟩
def spTake : Sp := fun vs H Q _ => ∃ (d : Addr) (many B : Nat), vs = [.ref d, iV many] ∧ DrawAt H d B ∧ B ≤ 1000000 ∧ 0 < many ∧ many ≤ 1000 ∧ ∀ (H' : Hp) (r : Nat), KeepBut d H H' → DrawAt H' d (B + 1) → r < many → Q (iV r) H'
theorem nat_of {z : Int} {m : Nat} (h0 : 0 ≤ z) (h1 : z < m) : ∃ r : Nat, z = (r : Int) ∧ r < m := ⟨z.toNat, by omega, by omega⟩
theorem ok_take {f : Addr} {fd : FuncData} (F : Fun K "_law_take" "_law_take" sLtake f fd) (T : Txt K mg Ch Cf) : FnOk P w K mg base CX0 1 f fd ["_law_draw", "_law_many"] spTake := by
  refine F.ok scLtake (fun vs H Q E h => ?_) (fun cdv A outer s H vs Q E hr h => ?_)
  · obtain ⟨d, many, B, rfl, _⟩ := h
    rfl
  · obtain ⟨d, many, B, rfl, dr, hB, h0, h1000, q⟩ := h
    obtain ⟨l, c, t, hd, c0, c1, t0, t1⟩ := dr.get
    refine ⟨_, (pss_cons (ps_if (pt_cmpR op_gt (pe_dget (hu_of hr) (pv 0) pe_str (fun _ _ => rfl)) pe_int (nomark _)) (pss_cons (ps_set (i := 2) scLtake.nd rfl (Or.inl rfl) (pe_op op_mod (pe_dget (hu_of hr) (pv 0) pe_str (fun _ _ => rfl)) (pv 1)))
      (pss_cons (ps_dput (hu_of hr) (pv 0) pe_str (pe_op op_fdiv (pe_dget (hu_of hr) (pv 0) pe_str (fun _ _ => rfl)) (pv 1)) rfl)
      (pss_one (ps_ret (pv 2))))) pss_nil)
      (pss_cons (ps_set (i := 3) scLtake.nd rfl (Or.inl rfl) (pe_op op_add (pe_dget (hu_of hr) (pv 0) pe_str (fun _ _ => rfl)) pe_int))
      (pss_cons (ps_dput (hu_of hr) (pv 0) pe_str (pv 3) rfl)
      (pss_cons (ps_set (i := 4) scLtake.nd rfl (Or.inl rfl) (pe_op op_mod (pe_op op_mul (pe_op op_add (pe_op op_add (pe_op op_add (pe_dget (hu_of hr) (pv 0) pe_str (fun _ _ => rfl)) (pe_op op_mul (pe_op op_mul pe_int (pv 3)) (pv 3))) (pe_op op_mul pe_int (pv 3))) pe_int) pe_int) pe_int))
      (pss_one (ps_ret (pe_op op_mod (pe_op op_mod (pe_op op_mul (pv 4) (pe_op op_add (pe_op op_mod (pv 4) pe_int) pe_int)) pe_int) (pv 1)))))))), ?_⟩
    have up : ∀ l c t : Int, (upd H d (.dK (drawF l c t))) d = some (.dK (drawF l c t)) := fun _ _ _ => upd_same
    refine ⟨_, rfl, d, .int l, rfl, by rw [← draw_left l c t]; exact DGet.k (k := .inr "left") hd, _, _, rfl, rfl, _, rfl, ite_case (fun e => ?_) (fun e => ?_)⟩
    · -- the next digit
      refine ⟨_, rfl, d, .int l, rfl, by rw [← draw_left l c t]; exact DGet.k (k := .inr "left") hd, _, rfl, _, _, rfl, rfl, (by show (0 : Int) < (many : Int); omega), ?_⟩
      refine ⟨_, rfl, d, .int l, rfl, by rw [← draw_left l c t]; exact DGet.k (k := .inr "left") hd, _, rfl, _, _, rfl, rfl, ⟨by omega, by omega⟩, _, rfl, d, _, rfl, DPut.k (k := .inr "left") hd (by show 3 < sizeLine; decide), ?_⟩
      obtain ⟨r, hr, hrm⟩ := nat_of (z := l % (many : Int)) (m := many) (Int.emod_nonneg _ (by omega)) (Int.emod_lt_of_pos _ (by omega))
      refine ⟨_, rfl, ?_⟩
      show Q (V.int (l % (many : Int))) _
      rw [hr]
      refine q _ r (KeepBut.upd (.of (Same.refl _))) ⟨l / many, c, t, by rw [upd_same, draw_pleft], c0, c1, t0, by omega⟩ hrm
    · refine ⟨_, rfl, d, .int t, rfl, by rw [← draw_at l c t]; exact DGet.k (k := .inr "at") hd, _, _, rfl, rfl, ?_⟩
      refine ⟨_, rfl, _, rfl, d, _, rfl, DPut.k (k := .inr "at") hd (by show 3 < sizeLine; decide), ?_⟩
      rw [draw_pat]
      have hd2 := up l c (t + 1)
      have cm : ∀ i : Int, CMul 7919 i := fun i => .inl ⟨by decide, by decide⟩
      refine ⟨_, rfl, d, .int c, rfl, by rw [← draw_cell l c (t + 1)]; exact DGet.k (k := .inr "cell") hd2, _, rfl, _, _, rfl, rfl, cm _, _, rfl, _, _, rfl, rfl, .inr ⟨by omega, by omega⟩, _, _, rfl, rfl, _, rfl, _, _, rfl, rfl, .inl ⟨by decide, by decide⟩, _, _, rfl, rfl, _, _, rfl, rfl,
        _, _, rfl, rfl, .inr ⟨by decide, by decide⟩, _, _, rfl, rfl, (by show (0 : Int) < 2147483647; decide), ?_⟩
      have m0 : ∀ z : Int, 0 ≤ z % 2147483647 := fun z => Int.emod_nonneg _ (by decide)
      have m1 : ∀ z : Int, z % 2147483647 < 2147483647 := fun z => Int.emod_lt_of_pos _ (by decide)
      refine ⟨_, rfl, _, rfl, _, _, rfl, rfl, (by show (0 : Int) < 65521; decide), _, _, rfl, rfl, _, _, rfl, rfl, .inl ⟨Int.lt_of_lt_of_le (by decide) (m0 _), Int.lt_trans (m1 _) (by decide)⟩, _, _, rfl, rfl, (by show (0 : Int) < 2147483629; decide), _, rfl, _, _, rfl, rfl, (by show (0 : Int) < (many : Int); omega), ?_⟩
      have fin : ∀ z : Int, Q (.int (z % (many : Int))) (upd H d (.dK (drawF l c (t + 1)))) := fun z => by
        obtain ⟨r, hr, hrm⟩ := nat_of (z := z % (many : Int)) (m := many) (Int.emod_nonneg _ (by omega)) (Int.emod_lt_of_pos _ (by omega))
        rw [hr]
        exact q _ r (KeepBut.upd (.of (Same.refl _))) ⟨l, c, t + 1, hd2, c0, c1, by omega, by omega⟩ hrm
      exact fin _
end
end Wk

namespace Wk
open PySem PySem.Spec PyProof.Rows L2
theorem KeepBut.tkd {a : Addr} {H H' : Hp} {B : Nat} (x : KeepBut a H H') (h : DrawAt H a B) : TKeep H H' := fun b ys e => by
  obtain ⟨l, c, t, hd, _⟩ := h
  exact x b _ (ne_of e hd (by intro z; cases z)) e
theorem Rises.nil {n : Nat} : Rises n [] := ⟨fun _ h => (nomatch h), fun i a b h => by simp at h⟩
theorem Rises.up {n m : Nat} {ns : List Nat} (h : Rises n ns) (hm : n ≤ m) : Rises m ns := ⟨fun x hx => Nat.lt_of_lt_of_le (h.1 x hx) hm, h.2⟩
theorem Rises.snoc {n : Nat} {ns : List Nat} (h : Rises n ns) : Rises (n + 1) (ns ++ [n]) := by
  refine ⟨fun x hx => ?_, fun i a b ha hb => ?_⟩
  · rcases List.mem_append.mp hx with h1 | h1
    · exact Nat.lt_succ_of_lt (h.1 x h1)
    · rw [List.mem_singleton.mp h1]
      exact Nat.lt_succ_self _
  · have hb' := (List.getElem?_eq_some_iff.mp hb).1
    rw [List.length_append, List.length_singleton] at hb'
    rw [List.getElem?_append_left (by omega)] at ha
    by_cases e : i + 1 < ns.length
    · rw [List.getElem?_append_left e] at hb
      exact h.2 i a b ha hb
    · rw [List.getElem?_append_right (by omega), show i + 1 - ns.length = 0 by omega] at hb
      have hb2 : n = b := Option.some.inj hb
      rw [← hb2]
      exact h.1 a (List.mem_of_getElem? ha)
section
variable {te : TE} {tt : TT} {k : Nat} {σ : L2.St} {H1 : Hp} {D d : Addr} {Qd : Hp → Prop}
/-- [k for k in range(n) if (a draw)] -/
theorem lc_draw {n B : Nat} (hk : k < σ.length) (hD : H1 D = none) (hz : n < sizeLine) (hdr : DrawAt H1 d B)
    (ht : ∀ (i : Nat) (H : Hp) (R' : Bool → Hp → Prop), i < n → DrawAt H d (B + i) → (∀ b H4, KeepBut d H H4 → DrawAt H4 d (B + (i + 1)) → R' b H4) → tt ((wipe σ [k]).set k (some (iV i))) H R')
    (hd : ∀ (H : Hp) (ns : List Nat), KeepBut d H1 H → DrawAt H d (B + n) → Rises n ns → H D = some (.lst (ns.map iV)) → Qd H) :
    ∃ W : Nat → Nat → Hp → Prop, (∃ m, W 0 m (upd H1 D (.lst []))) ∧ ∀ i m H, W i m H →
      ((Itr 0 n).stop i H ∧ Qd H) ∨ ((Itr 0 n).go i H ∧ ∃ Nx : Hp → Prop, (∀ H', Nx H' → ∃ m', m' < m ∧ W (i + 1) m' H') ∧ ∀ x H', (Itr 0 n).yld i H x H' → gName k x (wipe σ [k]) H' fun σ2 H2 => wipe σ2 [k] = wipe σ [k] ∧ tt σ2 H2 fun b H3 =>
        if b = true then tVar k σ2 H3 fun y H4 => ∃ acc, H4 D = some (.lst acc) ∧ acc.length < sizeLine ∧ Nx (upd H4 D (.lst (acc ++ [y]))) else Nx H3) := by
  have nD : D ≠ d := by
    obtain ⟨l, c, t, e, _⟩ := hdr
    exact (ne_of_none e hD).symm
  refine lc_range (lo := 0) (n := n) (fun i H => KeepBut d H1 H ∧ DrawAt H d (B + i) ∧ ∃ ns : List Nat, H D = some (.lst (ns.map iV)) ∧ Rises i ns) ⟨.of (same_upd hD), hdr.same (same_upd hD), [], upd_same, .nil⟩ (fun i H hi h => ?_) fun H h => ?_
  · obtain ⟨kb, dr, ns, hl, hr⟩ := h
    refine ⟨wipe1_set _ _ _, ?_⟩
    have e0 : (0 : Int) + (i : Int) = (i : Int) := by omega
    rw [e0]
    refine ht i H _ hi dr fun b H4 kb4 dr4 => ?_
    have hl4 := kb4 _ _ nD hl
    refine ite_case (fun e => ?_) (fun e => ?_)
    · refine ⟨iV i, List.getElem?_set_self (by rw [wipe_length]; exact hk), _, hl4, ?_, KeepBut.new (kb.trans kb4) hD, ?_, ns ++ [i], ?_, hr.snoc⟩
      · rw [List.length_map]
        exact Nat.lt_of_le_of_lt hr.length (by omega)
      · obtain ⟨l, c, t, e1, e2⟩ := dr4
        exact ⟨l, c, t, by rw [upd_ne nD.symm]; exact e1, e2⟩
      · rw [upd_same, List.map_append]
        rfl
    · exact ⟨kb.trans kb4, dr4, ns, hl4, hr.up (Nat.le_succ _)⟩
  · obtain ⟨kb, dr, ns, hl, hr⟩ := h
    exact hd H ns kb dr hr hl
/-- [.. for k in range(n)], each asks the draw -/
theorem lc_drawG {n B z : Nat} (Rp : V → Hp → Prop) (mono : ∀ v H H', TKeep H H' → Rp v H → Rp v H') (hD : H1 D = none) (hz : n < sizeLine) (hdr : DrawAt H1 d B)
    (hs : ∀ (i : Nat) (H : Hp) (Q' : VK), i < n → DrawAt H d (B + i * z) → KeepBut d H1 H → (∀ y H4, KeepBut d H H4 → DrawAt H4 d (B + (i + 1) * z) → Rp y H4 → Q' y H4) → te ((wipe σ [k]).set k (some (iV i))) H Q')
    (hd : ∀ (H : Hp) (ys : List V), KeepBut d H1 H → DrawAt H d (B + n * z) → ys.length = n → H D = some (.lst ys) → (∀ y, y ∈ ys → Rp y H) → Qd H) :
    ∃ W : Nat → Nat → Hp → Prop, (∃ m, W 0 m (upd H1 D (.lst []))) ∧ ∀ i m H, W i m H →
      ((Itr 0 n).stop i H ∧ Qd H) ∨ ((Itr 0 n).go i H ∧ ∃ Nx : Hp → Prop, (∀ H', Nx H' → ∃ m', m' < m ∧ W (i + 1) m' H') ∧ ∀ x H', (Itr 0 n).yld i H x H' → gName k x (wipe σ [k]) H' fun σ2 H2 => wipe σ2 [k] = wipe σ [k] ∧ tYes σ2 H2 fun b H3 =>
        if b = true then te σ2 H3 fun y H4 => ∃ acc, H4 D = some (.lst acc) ∧ acc.length < sizeLine ∧ Nx (upd H4 D (.lst (acc ++ [y]))) else Nx H3) := by
  have nD : D ≠ d := by
    obtain ⟨l, c, t, e, _⟩ := hdr
    exact (ne_of_none e hD).symm
  refine lc_range (lo := 0) (n := n) (fun i H => KeepBut d H1 H ∧ DrawAt H d (B + i * z) ∧ ∃ ys : List V, H D = some (.lst ys) ∧ ys.length = i ∧ ∀ y, y ∈ ys → Rp y H) ⟨.of (same_upd hD), by rw [Nat.zero_mul]; exact hdr.same (same_upd hD), [], upd_same, rfl, fun _ h => (nomatch h)⟩ (fun i H hi h => ?_) fun H h => ?_
  · obtain ⟨kb, dr, ys, hy, hl, hr⟩ := h
    refine ⟨wipe1_set _ _ _, ?_⟩
    have e0 : (0 : Int) + (i : Int) = (i : Int) := by omega
    rw [e0]
    refine yes_keep (hs i H _ hi dr kb fun y H4 kb4 dr4 r => ?_)
    have hy4 := kb4 _ _ nD hy
    have k5 : TKeep H4 (upd H4 D (.lst (ys ++ [y]))) := TKeep.upd hy4
    refine ⟨ys, hy4, by omega, KeepBut.new (kb.trans kb4) hD, ?_, ys ++ [y], upd_same, by rw [List.length_append, List.length_singleton, hl], fun v hv => ?_⟩
    · obtain ⟨l, c, t, e1, e2⟩ := dr4
      exact ⟨l, c, t, by rw [upd_ne nD.symm]; exact e1, e2⟩
    · rcases List.mem_append.mp hv with h1 | h1
      · exact mono _ _ _ k5 (mono _ _ _ (kb4.tkd dr) (hr v h1))
      · rw [List.mem_singleton.mp h1]
        exact mono _ _ _ k5 r
  · obtain ⟨kb, dr, ys, hy, hl, hr⟩ := h
    exact hd H ys kb dr hl hy hr
end
section
variable {P : Program} {w : World} {K : PySem.W.Frag} {mg : Str → Option Value} {base : Heap} {Ch Cf : Addr}
/-! ### _law_move -/
abbrev sLmove : Stmt := top 27
abbrev nLmove : List Str := ["_law_draw", "_law_size", "_law_given", "_law_wanted", "_law_place_here", "_law_rare", "_law_met", "_law_goal"]
theorem scLmove : FnScope nLmove ["_law_draw", "_law_size", "_law_given", "_law_wanted"] (defScope sLmove) := ⟨rfl, rfl, rfl, by decide +kernel, rfl, by decide +kernel, by decide +kernel⟩
def spLMove : Sp := fun vs H Q _ => ∃ (d : Addr) (n g w B : Nat), vs = [.ref d, iV n, iV g, iV w] ∧ DrawAt H d B ∧ B ≤ 900000 ∧ 0 < n ∧ n ≤ 120 ∧ g ≤ 8 ∧ w ≤ 8 ∧ ∀ (H' : Hp) (v : V) (m : Mv), KeepBut d H H' → DrawAt H' d (B + 18) → IsMv H' v m → MvOk n g w m → Q v H'
theorem ok_lmove {f : Addr} {fd : FuncData} (F : Fun K "_law_move" "_law_move" sLmove f fd) (T : Txt K mg Ch Cf) (d_law_take : Df P w K mg base 1 "_law_take" ["_law_draw", "_law_many"] spTake) : FnOk P w K mg base CX0 2 f fd ["_law_draw", "_law_size", "_law_given", "_law_wanted"] spLMove := by
  refine F.ok scLmove (fun vs H Q E h => ?_) (fun cdv A outer s H vs Q E hr h => ?_)
  · obtain ⟨d, n, g, w, B, rfl, _⟩ := h
    rfl
  · obtain ⟨d, n, g, w, B, rfl, dr, hB, hn0, hn, hg, hw, q⟩ := h
    refine ⟨_, (pss_cons (ps_set (i := 4) scLmove.nd rfl (Or.inl rfl) (pe_callD d_law_take hr (by rfl) (pa_cons (pv 0) (pa_cons (pv 1) pa_nil))))
      (pss_cons (ps_set (i := 5) scLmove.nd rfl (Or.inr rfl) (pe_op op_add pe_int (pe_callD d_law_take hr (by rfl) (pa_cons (pv 0) (pa_cons pe_int pa_nil)))))
      (pss_cons (ps_set (i := 6) scLmove.nd rfl (Or.inl rfl) (pe_callTy call_tupF (by rfl) T.tuple (by decide +kernel) (pa_cons (pe_lc (own := [("_law_goal", 7)]) (g := (gName 7)) rfl scLmove.nd (pi_range1 (by rfl) T.range (pa_cons (pv 2) pa_nil)) (blkOk_by (N := nLmove) (sc := (defScope sLmove)) (by decide +kernel)) (fun _ _ _ _ _ => (pg_name (i := 7) scLmove.nd rfl (Or.inl rfl))) (fun _ _ _ _ _ => pts_one (pt_cmpR op_eq (pe_callD d_law_take hr (by rfl) (pa_cons (pv 0) (pa_cons (pv 5) pa_nil))) pe_int (nomark _))) (fun _ _ _ _ _ => (pv 7))) pa_nil)))
      (pss_one (ps_ret (pe_tup (pa_cons (pv 4) (pa_cons (pv 6) (pa_cons (pe_callTy call_tupF (by rfl) T.tuple (by decide +kernel) (pa_cons (pe_lc (own := [("_law_goal", 7)]) (g := (gName 7)) rfl scLmove.nd (pi_range1 (by rfl) T.range (pa_cons (pv 3) pa_nil)) (blkOk_by (N := nLmove) (sc := (defScope sLmove)) (by decide +kernel)) (fun _ _ _ _ _ => (pg_name (i := 7) scLmove.nd rfl (Or.inl rfl))) (fun _ _ _ _ _ => pts_one (pt_cmpR op_eq (pe_callD d_law_take hr (by rfl) (pa_cons (pv 0) (pa_cons (pv 5) pa_nil))) pe_int (nomark _))) (fun _ _ _ _ _ => (pv 7))) pa_nil)) pa_nil))))))))), ?_⟩
    refine ⟨_, rfl, _, rfl, d, n, B, rfl, dr, by omega, hn0, by omega, fun H1 to kb1 dr1 hto => ?_⟩
    refine ⟨_, rfl, d, 3, B + 1, rfl, dr1, by omega, by omega, by omega, fun H2 r kb2 dr2 hr3 => ⟨_, _, rfl, rfl, ?_⟩⟩
    refine ⟨_, rfl, (g : Int), rfl, by omega, by omega, fun D hD => ?_⟩
    refine lc_draw (n := g) (B := B + 2) (d := d) (by show 7 < 8; decide) hD (small1000 (by omega)) dr2 (fun i H3 R' hi dr3 k => ?_) (fun H3 ns kb3 dr3 rs hl => ?_)
    · exact ⟨_, rfl, _, rfl, d, 2 + r, B + 2 + i, rfl, dr3, by omega, by omega, by omega, fun H4 r4 kb4 dr4 _ => ⟨rfl, _, rfl, k _ H4 kb4 dr4⟩⟩
    · refine ⟨D, _, rfl, hl, fun t1 ht1 => ?_⟩
      have st1 := same_upd (o := HO.tup (ns.map iV)) ht1
      have dr4 := dr3.same st1
      refine ⟨_, rfl, _, rfl, _, rfl, (w : Int), rfl, by omega, by omega, fun D2 hD2 => ?_⟩
      refine lc_draw (n := w) (B := B + 2 + g) (d := d) (by show 7 < 8; decide) hD2 (small1000 (by omega)) dr4 (fun i H5 R' hi dr5 k => ?_) (fun H5 ms kb5 dr5 rs5 hl5 => ?_)
      · exact ⟨_, rfl, _, rfl, d, 2 + r, B + 2 + g + i, rfl, dr5, by omega, by omega, by omega, fun H6 r4 kb6 dr6 _ => ⟨rfl, _, rfl, k _ H6 kb6 dr6⟩⟩
      · refine ⟨D2, _, rfl, hl5, fun t2 ht2 => ?_⟩
        have st2 := same_upd (o := HO.tup (ms.map iV)) ht2
        refine ⟨(by show 3 ≤ sizeLine; decide), fun t3 ht3 => ?_⟩
        have st3 := same_upd (o := HO.tup [iV to, V.ref t1, V.ref t2]) ht3
        have kE : KeepBut d H (upd (upd H5 t2 (.tup (ms.map iV))) t3 (.tup [iV to, V.ref t1, V.ref t2])) := (((kb1.trans kb2).trans kb3).trans (.of st1)).trans (kb5.trans (.of (st2.trans st3)))
        refine q _ (.ref t3) ⟨to, ns, ms⟩ kE ((dr5.same (st2.trans st3)).mono (by omega)) ⟨t3, .ref t1, .ref t2, rfl, upd_same, ⟨t1, rfl, ?_⟩, ⟨t2, rfl, st3 _ _ upd_same⟩⟩ ⟨hto, rs, rs5⟩
        exact (st2.trans st3) _ _ (kb5.tkd dr4 _ _ upd_same)
end
end Wk

namespace Wk
open PySem PySem.Spec PyProof.Rows L2
theorem paired_of {α : Type} {R : V → α → Prop} {C : α → Prop} : ∀ {ys : List V}, (∀ y, y ∈ ys → ∃ x, R y x ∧ C x) → ∃ xs, Paired R ys xs ∧ ∀ x, x ∈ xs → C x
  | [], _ => ⟨[], .nil, fun _ h => (nomatch h)⟩
  | y :: ys, h => by
    obtain ⟨x, h1, h2⟩ := h y List.mem_cons_self
    obtain ⟨xs, h3, h4⟩ := paired_of (ys := ys) fun z hz => h z (List.mem_cons_of_mem _ hz)
    refine ⟨x :: xs, .cons h1 h3, fun z hz => ?_⟩
    rcases List.mem_cons.mp hz with e | hz
    · rw [e]; exact h2
    · exact h4 z hz
theorem paired_snoc {α : Type} {R : V → α → Prop} : ∀ {ys : List V} {xs : List α} {y : V} {x : α}, Paired R ys xs → R y x → Paired R (ys ++ [y]) (xs ++ [x])
  | _, _, _, _, .nil, h => .cons h .nil
  | _, _, _, _, .cons r t, h => .cons r (paired_snoc t h)
section
variable {P : Program} {w : World} {K : PySem.W.Frag} {mg : Str → Option Value} {base : Heap} {Ch Cf : Addr}
/-! ### _law_place -/
abbrev sLplace : Stmt := top 28
abbrev nLplace : List Str := ["_law_draw", "_law_size", "_law_given", "_law_wanted", "_law_letters", "_law_rows", "_law_came", "_law_row", "_law_answered"]
theorem scLplace : FnScope nLplace ["_law_draw", "_law_size", "_law_given", "_law_wanted", "_law_letters"] (defScope sLplace) := ⟨rfl, rfl, rfl, by decide +kernel, rfl, by decide +kernel, by decide +kernel⟩
def spLPlace : Sp := fun vs H Q _ => ∃ (d : Addr) (n g w L B : Nat), vs = [.ref d, iV n, iV g, iV w, iV L] ∧ DrawAt H d B ∧ B ≤ 100000 ∧ 0 < n ∧ n ≤ 120 ∧ g ≤ 8 ∧ w ≤ 8 ∧ 0 < L ∧ L ≤ 8 ∧ ∀ (H' : Hp) (v : V) (pl : Place), KeepBut d H H' → IsPl H' v pl → PlOk n g w pl → Q v H'
theorem ok_lplace {f : Addr} {fd : FuncData} (F : Fun K "_law_place" "_law_place" sLplace f fd) (T : Txt K mg Ch Cf) (d_law_take : Df P w K mg base 1 "_law_take" ["_law_draw", "_law_many"] spTake)
    (d_law_move : Df P w K mg base 2 "_law_move" ["_law_draw", "_law_size", "_law_given", "_law_wanted"] spLMove) : FnOk P w K mg base CX0 3 f fd ["_law_draw", "_law_size", "_law_given", "_law_wanted", "_law_letters"] spLPlace := by
  refine F.ok scLplace (fun vs H Q E h => ?_) (fun cdv A outer s H vs Q E hr h => ?_)
  · obtain ⟨d, n, g, w, L, B, rfl, _⟩ := h
    rfl
  · obtain ⟨d, n, g, w, L, B, rfl, dr, hB, hn0, hn, hg, hw, hL0, hL, q⟩ := h
    refine ⟨_, (pss_cons (ps_set (i := 5) scLplace.nd rfl (Or.inl rfl) (pe_lst pa_nil))
      (pss_cons (ps_for PassesOwn.never rfl (pi_range1 (by rfl) T.range (pa_cons (pe_op op_add pe_int (pe_callD d_law_take hr (by rfl) (pa_cons (pv 0) (pa_cons (pv 4) pa_nil)))) pa_nil)) (pg_name (i := 6) scLplace.nd rfl (Or.inl rfl)) (pss_cons (ps_setLc (i := 7) (own := [("_law_answered", 8)]) (g := (gName 8)) (tt := tYes) rfl scLplace.nd rfl rfl (sw_true rfl rfl rfl (by decide +kernel)) (pi_range1 (by rfl) T.range (pa_cons (pe_op op_add pe_int (pe_callD d_law_take hr (by rfl) (pa_cons (pv 0) (pa_cons (pv 4) pa_nil)))) pa_nil)) (blkOk_by (N := nLplace) (sc := (defScope sLplace)) (by decide +kernel)) (fun _ _ _ _ _ => (pg_name (i := 8) scLplace.nd rfl (Or.inl rfl))) (fun _ _ _ _ _ => pts_nil) (fun _ _ _ _ _ => (pe_callD d_law_move hr (by rfl) (pa_cons (pv 0) (pa_cons (pv 1) (pa_cons (pv 2) (pa_cons (pv 3) pa_nil)))))))
      (pss_one (ps_expr (pe_bm PySem.F.plainAttrs_list PySem.F.slot_list_append PySem.F.type_list_append mt_append (pv 5) (pa_cons (pe_callTy call_tupF (by rfl) T.tuple (by decide +kernel) (pa_cons (pv 7) pa_nil)) pa_nil))))))
      (pss_one (ps_ret (pe_callTy call_tupF (by rfl) T.tuple (by decide +kernel) (pa_cons (pv 5) pa_nil)))))), ?_⟩
    refine ⟨Nat.zero_le _, fun rl hrl => ?_⟩
    have s1 := same_upd (o := HO.lst []) hrl
    have nrd : rl ≠ d := by
      obtain ⟨l, c, t, e, _⟩ := dr
      exact (ne_of_none e hrl).symm
    refine ⟨_, rfl, _, rfl, d, L, B, rfl, dr.same s1, by omega, hL0, by omega, fun H1 r kb1 dr1 hr1 => ⟨_, _, rfl, rfl, ?_⟩⟩
    refine ⟨((1 + r : Nat) : Int), rfl, by omega, by omega, ?_⟩
    refine for_rangeN (n := 1 + r) (fun i σ H' => (∃ (v6 v7 : Option V), σ = [some (.ref d), some (iV n), some (iV g), some (iV w), some (iV L), some (.ref rl), v6, v7, none]) ∧ KeepBut d H H' ∧ DrawAt H' d (B + 1 + i * 145) ∧
        ∃ (vs : List V) (pl : Place), H' rl = some (.lst vs) ∧ Paired (IsRow H') vs pl ∧ pl.length = i ∧ ∀ r, r ∈ pl → Few r ∧ ∀ m, m ∈ r → MvOk n g w m)
      ⟨⟨none, none, rfl⟩, (KeepBut.of s1).trans kb1, dr1, [], [], kb1 _ _ nrd upd_same, .nil, rfl, fun _ h => (nomatch h)⟩ (fun i σ H2 hi hv => ?_) (fun σ H2 hv => ?_)
    · obtain ⟨⟨v6, v7, rfl⟩, kb2, dr2, vs, pl, hrl2, prd, hpl, hok⟩ := hv
      have hi8 : i < 8 := by omega
      refine ⟨_, rfl, _, rfl, d, L, B + 1 + i * 145, rfl, dr2, by omega, hL0, by omega, fun H3 r3 kb3 dr3 hr3 => ⟨_, _, rfl, rfl, ?_⟩⟩
      refine ⟨((1 + r3 : Nat) : Int), rfl, by omega, by omega, fun D hD => ?_⟩
      refine lc_drawG (n := 1 + r3) (d := d) (B := B + 1 + i * 145 + 1) (z := 18) (fun v H => ∃ m, IsMv H v m ∧ MvOk n g w m) (fun v H H' k h => let ⟨m, h1, h2⟩ := h; ⟨m, h1.keep k, h2⟩) hD (small1000 (by omega)) dr3 (fun j H4 Q' hj dr4 kb4 k => ?_) (fun H4 ys kb4 dr4 hys hl4 all => ?_)
      · refine ⟨_, rfl, _, rfl, _, rfl, _, rfl, d, n, g, w, B + 1 + i * 145 + 1 + j * 18, rfl, dr4, by omega, hn0, hn, hg, hw, fun H5 v m kb5 dr5 im mok => ?_⟩
        exact k v H5 kb5 (dr5.mono (by omega)) ⟨m, im, mok⟩
      · -- rows.append(tuple(row))
        obtain ⟨row, prow, rok⟩ := paired_of all
        have lrow : ys.length = row.length := paired_len prow
        have hrl4 := (kb3.trans kb4) _ _ nrd hrl2
        refine ⟨_, rfl, .inl ⟨rfl, _, SqL.of hrl4⟩, _, rfl, D, ys, rfl, hl4, fun t ht => ?_⟩
        have st := same_upd (o := HO.tup ys) ht
        have nt : rl ≠ t := ne_of_none hrl4 ht
        have hrl5 := st _ _ hrl4
        refine ⟨rl, _, _, rfl, rfl, hrl5, by rw [paired_len prd, hpl]; exact small1000 (by omega), ?_⟩
        have k5 : TKeep H4 (upd (upd H4 t (.tup ys)) rl (.lst (vs ++ [.ref t]))) := (TKeep.of st).trans (TKeep.upd hrl5)
        have nH : H rl = none := hrl
        refine ⟨⟨_, _, rfl⟩, KeepBut.new ((kb2.trans (kb3.trans kb4)).trans (.of st)) nH, ?_, vs ++ [.ref t], pl ++ [row], upd_same, ?_, by rw [List.length_append, List.length_singleton, hpl], fun r' hr' => ?_⟩
        · have dr5 := dr4.same st
          obtain ⟨l, c, t0, e1, e2, e3, e4, e5⟩ := dr5
          exact ⟨l, c, t0, by rw [upd_ne nrd.symm]; exact e1, e2, e3, e4, by omega⟩
        · refine paired_snoc (Paired.mapP prd fun v x h => IsRow.keep (((kb3.trans kb4).tkd dr2).trans k5) h) ⟨t, ys, rfl, by rw [upd_ne nt.symm, upd_same], ?_⟩
          exact Paired.mapP prow fun v m h => h.keep k5
        · rcases List.mem_append.mp hr' with h1 | h1
          · exact hok r' h1
          · rw [List.mem_singleton.mp h1]
            exact ⟨⟨by omega, by omega⟩, rok⟩
    · obtain ⟨⟨v6, v7, rfl⟩, kb2, dr2, vs, pl, hrl2, prd, hpl, hok⟩ := hv
      refine ⟨_, rfl, rl, vs, rfl, hrl2, fun t ht => ?_⟩
      have st := same_upd (o := HO.tup vs) ht
      exact q _ (.ref t) pl (kb2.trans (.of st)) ⟨t, vs, rfl, upd_same, Paired.mapP prd fun v x h => IsRow.keep (.of st) h⟩ ⟨⟨by omega, by omega⟩, fun r hr => (hok r hr).1, fun r hr => (hok r hr).2⟩
end
end Wk

namespace Wk
open PySem PySem.Spec PyProof.Rows L2
theorem catA {K : PySem.W.Frag} {H : Hp} {a b : Addr} {xs ys : List V} {R : VK} (h1 : H a = some (.tup xs)) (h2 : H b = some (.tup ys)) (hz : xs.length + ys.length ≤ 1000) (k : ∀ p H2, Same H H2 → H2 p = some (.tup (xs ++ ys)) → R (.ref p) H2) : rCatA K (.ref a) (.ref b) H R := by
  refine ⟨a, b, xs, ys, rfl, rfl, SqT.of h1, SqT.of h2, Nat.le_of_lt (small1000 hz), fun e => ?_, fun _ e => ?_, fun _ _ p hp => k p _ (same_upd hp) upd_same⟩
  · subst e
    exact k b H (Same.refl _) h2
  · subst e
    exact k a H (Same.refl _) (by rw [List.append_nil]; exact h1)
theorem set_cat {α : Type} {xs : List α} {i : Nat} {v : α} (h : i < xs.length) : xs.take i ++ [v] ++ xs.drop (i + 1) = xs.set i v := by
  rw [List.set_eq_take_append_cons_drop, if_pos h, List.append_assoc]
  rfl
theorem paired_set {α : Type} {R : V → α → Prop} : ∀ {ys : List V} {xs : List α} {i : Nat} {y : V} {x : α}, Paired R ys xs → R y x → Paired R (ys.set i y) (xs.set i x)
  | _, _, _, _, _, .nil, _ => .nil
  | _, _, 0, _, _, .cons _ t, h => .cons h t
  | _, _, i + 1, _, _, .cons r t, h => .cons r (paired_set t h)
section
variable {P : Program} {w : World} {K : PySem.W.Frag} {mg : Str → Option Value} {base : Heap} {Ch Cf : Addr}
/-! ### _law_with -/
abbrev sLwith : Stmt := top 29
abbrev nLwith : List Str := ["_law_arena_here", "_law_place_here", "_law_came", "_law_row", "_law_moves", "_law_rows"]
theorem scLwith : FnScope nLwith ["_law_arena_here", "_law_place_here", "_law_came", "_law_row"] (defScope sLwith) := ⟨rfl, rfl, rfl, by decide +kernel, rfl, by decide +kernel, by decide +kernel⟩
def setAr (A : Ar) (p c : Nat) (pl : Place) (row : Row) : Ar := ⟨A.pl.set p (pl.set c row), A.given, A.wanted⟩
def spWith : Sp := fun vs H Q _ => ∃ (v rv : V) (A : Ar) (p c : Nat) (pl : Place) (row : Row), vs = [v, iV p, iV c, rv] ∧ IsAr H v A ∧ ArOk A ∧ A.pl[p]? = some pl ∧ c < pl.length ∧ IsRow H rv row ∧ ∀ (H' : Hp) (v' : V), Same H H' → IsAr H' v' (setAr A p c pl row) → Q v' H'
theorem ok_with {f : Addr} {fd : FuncData} (F : Fun K "_law_with" "_law_with" sLwith f fd) (T : Txt K mg Ch Cf) : FnOk P w K mg base CX0 1 f fd ["_law_arena_here", "_law_place_here", "_law_came", "_law_row"] spWith := by
  refine F.ok scLwith (fun vs H Q E h => ?_) (fun cdv A outer s H vs Q E hr h => ?_)
  · obtain ⟨v, rv, A, p, c, pl, row, rfl, _⟩ := h
    rfl
  · obtain ⟨v, rv, R, p, c, pl, row, rfl, ⟨a, m, rfl, ha, ⟨pm, vs, rfl, hpm, pls⟩⟩, aok, hpl, hc, irow, q⟩ := h
    obtain ⟨v1, hv1, pp, rs, rfl, hpp, rows⟩ := paired_r pls hpl
    have hl := paired_len pls
    have hl2 := paired_len rows
    have hp : p < vs.length := (List.getElem?_eq_some_iff.mp hv1).1
    have n120 := aok.n120
    have n120' : vs.length ≤ 120 := by rw [hl]; exact n120
    have r8 : rs.length ≤ 8 := by rw [hl2]; exact (aok.pl pl (List.mem_of_getElem? hpl)).few.most
    refine ⟨_, (pss_cons (ps_set (i := 4) scLwith.nd rfl (Or.inl rfl) (pe_ix ixT (pv 0) pe_int (fun _ _ => rfl)))
      (pss_cons (ps_set (i := 5) scLwith.nd rfl (Or.inl rfl) (pe_op op_catA (pe_op op_catA (pe_slice sl_tupA (pe_ix ixT (pv 4) (pv 1) (fun _ _ => rfl)) po_none (po_some (pv 2))) (pe_tup (pa_cons (pv 3) pa_nil))) (pe_slice sl_tupA (pe_ix ixT (pv 4) (pv 1) (fun _ _ => rfl)) (po_some (pe_op op_add (pv 2) pe_int)) po_none)))
      (pss_one (ps_ret (pe_op op_catA (pe_tup (pa_cons (pe_op op_catA (pe_op op_catA (pe_slice sl_tupA (pv 4) po_none (po_some (pv 1))) (pe_tup (pa_cons (pv 5) pa_nil))) (pe_slice sl_tupA (pv 4) (po_some (pe_op op_add (pv 1) pe_int)) po_none)) pa_nil)) (pe_slice sl_tupA (pv 0) (po_some pe_int) po_none)))))), ?_⟩
    refine ⟨_, rfl, a, _, 0, _, rfl, rfl, ha, rfl, ?_⟩
    refine ⟨_, rfl, _, rfl, pm, vs, p, _, rfl, rfl, hpm, at_nat hv1, ?_⟩
    refine slNo ⟨_, rfl, (c : Int), rfl, ?_⟩
    refine slA hpp fun b1 H1 s1 hb1 => ?_
    rw [cutV_to] at hb1
    refine ⟨_, rfl, (by show 1 ≤ sizeLine; decide), fun b2 hb2 => ?_⟩
    have s2 := same_upd (o := HO.tup [rv]) hb2
    refine catA (s2 _ _ hb1) upd_same (by rw [List.length_take, List.length_singleton]; omega) fun b3 H3 s3 hb3 => ?_
    have t3 := (s1.trans s2).trans s3
    refine ⟨_, rfl, _, rfl, pm, vs, p, _, rfl, rfl, t3 _ _ hpm, at_nat hv1, _, rfl, _, _, rfl, rfl, ((c + 1 : Nat) : Int), rfl, ?_⟩
    refine slNo (slA (t3 _ _ hpp) fun b4 H4 s4 hb4 => ?_)
    rw [cutV_from] at hb4
    refine catA (s4 _ _ hb3) hb4 (by rw [List.length_append, List.length_take, List.length_singleton, List.length_drop]; omega) fun b5 H5 s5 hb5 => ?_
    rw [set_cat (by omega)] at hb5
    have t5 := (t3.trans s4).trans s5
    refine ⟨_, rfl, ?_⟩
    refine slNo ⟨_, rfl, (p : Int), rfl, ?_⟩
    refine slA (t5 _ _ hpm) fun b6 H6 s6 hb6 => ?_
    rw [cutV_to] at hb6
    refine ⟨_, rfl, (by show 1 ≤ sizeLine; decide), fun b7 hb7 => ?_⟩
    have s7 := same_upd (o := HO.tup [V.ref b5]) hb7
    refine catA (s7 _ _ hb6) upd_same (by rw [List.length_take, List.length_singleton]; omega) fun b8 H8 s8 hb8 => ?_
    have t8 := ((t5.trans s6).trans s7).trans s8
    refine ⟨_, rfl, _, rfl, _, _, rfl, rfl, ((p + 1 : Nat) : Int), rfl, ?_⟩
    refine slNo (slA (t8 _ _ hpm) fun b9 H9 s9 hb9 => ?_)
    rw [cutV_from] at hb9
    refine catA (s9 _ _ hb8) hb9 (by rw [List.length_append, List.length_take, List.length_singleton, List.length_drop]; omega) fun b10 H10 s10 hb10 => ?_
    rw [set_cat hp] at hb10
    have t10 := (t8.trans s9).trans s10
    refine ⟨(by show 1 ≤ sizeLine; decide), fun b11 hb11 => ?_⟩
    have s11 := same_upd (o := HO.tup [V.ref b10]) hb11
    have t11 := t10.trans s11
    refine ⟨_, rfl, ((1 : Nat) : Int), rfl, ?_⟩
    refine slNo (slA (t11 _ _ ha) fun b12 H12 s12 hb12 => ?_)
    rw [cutV_from] at hb12
    refine catA (s12 _ _ upd_same) hb12 (by show 1 + 2 ≤ 1000; decide) fun b13 H13 s13 hb13 => ?_
    have sE : Same H5 H13 := ((((((s6.trans s7).trans s8).trans s9).trans s10).trans s11).trans s12).trans s13
    have tE := t11.trans (s12.trans s13)
    refine q _ _ tE ⟨b13, .ref b10, rfl, hb13, b10, _, rfl, (s11.trans (s12.trans s13)) _ _ hb10, ?_⟩
    refine paired_set (Paired.mapP pls fun v x h => IsPl.keep (.of tE) h) ⟨b5, _, rfl, sE _ _ hb5, ?_⟩
    exact paired_set (Paired.mapP rows fun v x h => IsRow.keep (.of tE) h) (IsRow.keep (.of tE) irow)
end
end Wk

namespace Wk
open PySem PySem.Spec PyProof.Rows L2
theorem few_set {α : Type} {xs : List α} {i : Nat} {x : α} (h : Few xs) : Few (xs.set i x) := ⟨by rw [List.length_set]; exact h.pos, by rw [List.length_set]; exact h.most⟩
theorem plok_set {n g w : Nat} {pl : Place} {c : Nat} {row : Row} (h : PlOk n g w pl) (hf : Few row) (hm : ∀ m, m ∈ row → MvOk n g w m) : PlOk n g w (pl.set c row) := by
  refine ⟨few_set h.few, fun r hr => ?_, fun r hr => ?_⟩
  · rcases List.mem_or_eq_of_mem_set hr with h1 | h1
    · exact h.rows r h1
    · rw [h1]; exact hf
  · rcases List.mem_or_eq_of_mem_set hr with h1 | h1
    · exact h.mv r h1
    · rw [h1]; exact hm
theorem arok_set {A : Ar} {p c : Nat} {pl : Place} {row : Row} (h : ArOk A) (hpl : A.pl[p]? = some pl) (hf : Few row) (hm : ∀ m, m ∈ row → MvOk A.n A.given A.wanted m) : ArOk (setAr A p c pl row) ∧ (setAr A p c pl row).n = A.n := by
  have en : (setAr A p c pl row).n = A.n := by
    show (A.pl.set p _).length = A.pl.length
    rw [List.length_set]
  refine ⟨⟨h.g1, h.g8, h.w1, h.w8, by rw [en]; exact h.n1, by rw [en]; exact h.n120, by rw [en]; exact h.ng, by rw [en]; exact h.nw, fun q hq => ?_⟩, en⟩
  rw [en]
  rcases List.mem_or_eq_of_mem_set hq with h1 | h1
  · exact h.pl q h1
  · rw [h1]
    exact plok_set (h.pl pl (List.mem_of_getElem? hpl)) hf hm
theorem KeepBut.same {a : Addr} {H0 H H' : Hp} (k : KeepBut a H H') (s : Same H0 H) (n : H0 a = none) : Same H0 H' := fun b o e => k b o (ne_of_none e n) (s b o e)
section
variable {P : Program} {w : World} {K : PySem.W.Frag} {mg : Str → Option Value} {base : Heap} {Ch Cf : Addr}
/-! ### _law_arena -/
abbrev sLarena : Stmt := top 30
abbrev nLarena : List Str := ["_law_script", "_law_most", "_law_draw", "_law_wide", "_law_given", "_law_wanted", "_law_size", "_law_places", "_law_k", "_law_arena_here", "_law_place_here", "_law_came", "_law_row", "_law_at"]
theorem scLarena : FnScope nLarena ["_law_script", "_law_most"] (defScope sLarena) := ⟨rfl, rfl, rfl, by decide +kernel, rfl, by decide +kernel, by decide +kernel⟩
def spLArena (K : PySem.W.Frag) : Sp := fun vs H Q _ => ∃ (a : Addr) (ns : List Int), vs = [.ref a, iV 24] ∧ SqL K H a (ns.map V.int) ∧ ns.length ≤ 63 ∧ ∀ (H' : Hp) (v : V) (A : Ar), Same H H' → IsAr H' v A → ArOk A → Q v H'
theorem ok_larena {f : Addr} {fd : FuncData} (F : Fun K "_law_arena" "_law_arena" sLarena f fd) (T : Txt K mg Ch Cf) (d_law_begun : Df P w K mg base 1 "_law_begun" ["_law_script", "_law_k"] (spBegun K)) (d_law_take : Df P w K mg base 1 "_law_take" ["_law_draw", "_law_many"] spTake)
    (d_law_move : Df P w K mg base 2 "_law_move" ["_law_draw", "_law_size", "_law_given", "_law_wanted"] spLMove) (d_law_place : Df P w K mg base 3 "_law_place" ["_law_draw", "_law_size", "_law_given", "_law_wanted", "_law_letters"] spLPlace)
    (d_law_with : Df P w K mg base 1 "_law_with" ["_law_arena_here", "_law_place_here", "_law_came", "_law_row"] spWith) : FnOk P w K mg base CX0 4 f fd ["_law_script", "_law_most"] (spLArena K) := by
  refine F.ok scLarena (fun vs H Q E h => ?_) (fun cdv A outer s H vs Q E hr h => ?_)
  · obtain ⟨a, ns, rfl, _⟩ := h
    rfl
  · obtain ⟨a, ns, rfl, hS, hns, q⟩ := h
    refine ⟨_, (pss_cons (ps_set (i := 2) scLarena.nd rfl (Or.inl rfl) (pe_callD d_law_begun hr (by rfl) (pa_cons (pv 0) (pa_cons pe_int pa_nil))))
      (pss_cons (ps_set (i := 3) scLarena.nd rfl (Or.inr rfl) (pe_ix ixL (pe_lst (pa_cons pe_int (pa_cons pe_int (pa_cons pe_int (pa_cons pe_int (pa_cons pe_int (pa_cons pe_int (pa_cons pe_int (pa_cons pe_int pa_nil))))))))) (pe_callD d_law_take hr (by rfl) (pa_cons (pv 2) (pa_cons pe_int pa_nil))) (fun _ _ => rfl)))
      (pss_cons (ps_asg (pe_tup (pa_cons (pe_op op_add pe_int (pe_callD d_law_take hr (by rfl) (pa_cons (pv 2) (pa_cons (pv 3) pa_nil)))) (pa_cons (pe_op op_add pe_int (pe_callD d_law_take hr (by rfl) (pa_cons (pv 2) (pa_cons (pv 3) pa_nil)))) pa_nil))) (pg_tup (by rfl) (pgs_cons (pg_name (i := 4) scLarena.nd rfl (Or.inr rfl)) (pgs_cons (pg_name (i := 5) scLarena.nd rfl (Or.inr rfl)) pgs_nil))))
      (pss_cons (ps_set (i := 6) scLarena.nd rfl (Or.inr rfl) (pe_op op_add pe_int (pe_callD d_law_take hr (by rfl) (pa_cons (pv 2) (pa_cons (pe_ifExp (pt_cmpR op_eq (pv 3) pe_int (nomark _)) (pe_callB (call_min2 rfl) (by rfl) T.min (by decide +kernel) (pa_cons (pv 1) (pa_cons pe_int pa_nil))) (pv 1)) pa_nil)))))
      (pss_cons (ps_setLc (i := 7) (own := [("_law_k", 8)]) (g := (gName 8)) (tt := tYes) rfl scLarena.nd rfl rfl (sw_true rfl rfl rfl (by decide +kernel)) (pi_range1 (by rfl) T.range (pa_cons (pv 6) pa_nil)) (blkOk_by (N := nLarena) (sc := (defScope sLarena)) (by decide +kernel)) (fun _ _ _ _ _ => (pg_name (i := 8) scLarena.nd rfl (Or.inl rfl))) (fun _ _ _ _ _ => pts_nil) (fun _ _ _ _ _ => (pe_callD d_law_place hr (by rfl) (pa_cons (pe_callD d_law_begun hr (by rfl) (pa_cons (pv 0) (pa_cons (pe_op op_add pe_int (pv 8)) pa_nil))) (pa_cons (pv 6) (pa_cons (pv 4) (pa_cons (pv 5) (pa_cons (pv 3) pa_nil))))))))
      (pss_cons (ps_set (i := 9) scLarena.nd rfl (Or.inl rfl) (pe_tup (pa_cons (pe_callTy call_tupF (by rfl) T.tuple (by decide +kernel) (pa_cons (pv 7) pa_nil)) (pa_cons (pv 4) (pa_cons (pv 5) pa_nil)))))
      (pss_cons (ps_for PassesOwn.never rfl (pi_range2 (by rfl) T.range (pa_cons (pe_op op_add pe_int (pv 6)) (pa_cons (pe_callB (call_min2 rfl) (by rfl) T.min (by decide +kernel) (pa_cons pe_int (pa_cons (pe_callB call_len_seq (by rfl) T.len PySem.boot_len (pa_cons (pv 0) pa_nil)) pa_nil))) pa_nil))) (pg_name (i := 8) scLarena.nd rfl (Or.inl rfl)) (pss_cons (ps_set (i := 2) scLarena.nd rfl (Or.inl rfl) (pe_callD d_law_begun hr (by rfl) (pa_cons (pv 0) (pa_cons (pv 8) pa_nil))))
      (pss_cons (ps_set (i := 10) scLarena.nd rfl (Or.inl rfl) (pe_callD d_law_take hr (by rfl) (pa_cons (pv 2) (pa_cons (pv 6) pa_nil))))
      (pss_cons (ps_set (i := 11) scLarena.nd rfl (Or.inl rfl) (pe_callD d_law_take hr (by rfl) (pa_cons (pv 2) (pa_cons (pe_callB call_lenF (by rfl) T.len PySem.boot_len (pa_cons (pe_ix ixT (pe_ix ixT (pv 9) pe_int (fun _ _ => rfl)) (pv 10) (fun _ _ => rfl)) pa_nil)) pa_nil))))
      (pss_cons (ps_set (i := 12) scLarena.nd rfl (Or.inl rfl) (pe_ix ixT (pe_ix ixT (pe_ix ixT (pv 9) pe_int (fun _ _ => rfl)) (pv 10) (fun _ _ => rfl)) (pv 11) (fun _ _ => rfl)))
      (pss_cons (ps_set (i := 13) scLarena.nd rfl (Or.inl rfl) (pe_callD d_law_take hr (by rfl) (pa_cons (pv 2) (pa_cons (pe_callB call_lenF (by rfl) T.len PySem.boot_len (pa_cons (pv 12) pa_nil)) pa_nil))))
      (pss_one (ps_set (i := 9) scLarena.nd rfl (Or.inl rfl) (pe_callD d_law_with hr (by rfl) (pa_cons (pv 9) (pa_cons (pv 10) (pa_cons (pv 11) (pa_cons (pe_op op_catA (pe_op op_catA (pe_slice sl_tupA (pv 12) po_none (po_some (pv 13))) (pe_tup (pa_cons (pe_callD d_law_move hr (by rfl) (pa_cons (pv 2) (pa_cons (pv 6) (pa_cons (pv 4) (pa_cons (pv 5) pa_nil))))) pa_nil))) (pe_slice sl_tupA (pv 12) (po_some (pe_op op_add (pv 13) pe_int)) po_none)) pa_nil)))))))))))))
      (pss_one (ps_ret (pv 9)))))))))), ?_⟩
    refine ⟨_, rfl, a, ns, 0, rfl, hS, by omega, fun H1 d s1 nd dr1 => ?_⟩
    refine ⟨by decide, fun l hl => ?_⟩
    have sl := same_upd (o := HO.lst [V.int 3, V.int 3, V.int 3, V.int 3, V.int 3, V.int 3, V.int 3, V.int 8]) hl
    have nld : l ≠ d := by
      obtain ⟨x, y, z, e, _⟩ := dr1
      exact (ne_of_none e hl).symm
    refine ⟨_, rfl, d, 8, 3780, rfl, dr1.same sl, by omega, by omega, by omega, fun H2 r kb2 dr2 hr8 => ?_⟩
    obtain ⟨wd, hwd, hget⟩ : ∃ wd : Nat, (wd = 3 ∨ wd = 8) ∧ ([V.int 3, V.int 3, V.int 3, V.int 3, V.int 3, V.int 3, V.int 3, V.int 8] : List V)[r]? = some (iV wd) := by
      have : r = 0 ∨ r = 1 ∨ r = 2 ∨ r = 3 ∨ r = 4 ∨ r = 5 ∨ r = 6 ∨ r = 7 := by omega
      rcases this with rfl | rfl | rfl | rfl | rfl | rfl | rfl | rfl
      · exact ⟨3, .inl rfl, rfl⟩
      · exact ⟨3, .inl rfl, rfl⟩
      · exact ⟨3, .inl rfl, rfl⟩
      · exact ⟨3, .inl rfl, rfl⟩
      · exact ⟨3, .inl rfl, rfl⟩
      · exact ⟨3, .inl rfl, rfl⟩
      · exact ⟨3, .inl rfl, rfl⟩
      · exact ⟨8, .inr rfl, rfl⟩
    have wd8 : 0 < wd ∧ wd ≤ 8 := by omega
    refine ⟨l, _, r, _, rfl, rfl, kb2 _ _ nld upd_same, at_nat hget, ?_⟩
    refine ⟨_, rfl, _, rfl, d, wd, 3781, rfl, dr2, by omega, wd8.1, by omega, fun H3 r1 kb3 dr3 hg => ⟨_, _, rfl, rfl, _, rfl, _, rfl, d, wd, 3782, rfl, dr3, by omega, wd8.1, by omega, fun H4 r2 kb4 dr4 hw => ⟨_, _, rfl, rfl, (by show 2 ≤ sizeLine; decide), fun t ht =>
      ⟨t, _, rfl, SqT.of upd_same, rfl, _, _, rfl, _, _, rfl, rfl, ?_⟩⟩⟩⟩
    generalize hg' : 1 + r1 = g
    generalize hw' : 1 + r2 = w
    have eg : (1 : Int) + (r1 : Int) = (g : Int) := by omega
    have ew : (1 : Int) + (r2 : Int) = (w : Int) := by omega
    have st := same_upd (o := HO.tup [V.int (1 + (r1 : Int)), V.int (1 + (r2 : Int))]) ht
    have dr5 := dr4.same st
    have sd : Same H (upd H4 t (.tup [V.int (1 + (r1 : Int)), V.int (1 + (r2 : Int))])) := ((kb4.same (kb3.same (kb2.same (s1.trans sl) nd) nd) nd)).trans st
    generalize upd H4 t (.tup [V.int (1 + (r1 : Int)), V.int (1 + (r2 : Int))]) = H5 at dr5 sd
    refine ⟨_, rfl, ?_⟩
    refine tcons_to (tif (decide (iV wd = V.int 8)) (.int (if (8 : Int) < 24 then 8 else 24)) (iV 24) (fun R1 k1 => ⟨_, rfl, rfl, _, rfl, k1⟩) (fun _ Q1 k1 => ⟨_, rfl, _, _, rfl, k1⟩) (fun _ Q1 k1 => ⟨_, rfl, k1⟩) ?_)
    obtain ⟨many, hmany, m0, m24, m8⟩ : ∃ many : Nat, (if decide (iV wd = V.int 8) = true then V.int (if (8 : Int) < 24 then 8 else 24) else iV 24) = iV many ∧ 0 < many ∧ many ≤ 24 ∧ (wd = 8 → many = 8) := by
      rcases hwd with rfl | rfl
      · exact ⟨24, by rw [decide_eq_false (by intro z; cases z)]; rfl, by omega, by omega, fun z => by omega⟩
      · exact ⟨8, by rw [if_pos (decide_eq_true (show iV 8 = V.int 8 from rfl))]; rfl, by omega, by omega, fun _ => rfl⟩
    rw [hmany]
    refine ⟨d, many, 3783, rfl, dr5, by omega, m0, by omega, fun H6 r3 kb6 dr6 hsz => ⟨_, _, rfl, rfl, ?_⟩⟩
    have s6 : Same H H6 := kb6.same sd nd
    generalize hsz' : 1 + r3 = sz
    have esz : (1 : Int) + (r3 : Int) = (sz : Int) := by omega
    have sz24 : sz ≤ 24 := by omega
    have ng : sz * g ≤ 200 := by
      rcases hwd with e | e
      · exact Nat.le_trans (Nat.mul_le_mul (show sz ≤ 24 by omega) (show g ≤ 3 by omega)) (by decide)
      · have := m8 e
        exact Nat.le_trans (Nat.mul_le_mul (show sz ≤ 8 by omega) (show g ≤ 8 by omega)) (by decide)
    have nw : sz * w ≤ 200 := by
      rcases hwd with e | e
      · exact Nat.le_trans (Nat.mul_le_mul (show sz ≤ 24 by omega) (show w ≤ 3 by omega)) (by decide)
      · have := m8 e
        exact Nat.le_trans (Nat.mul_le_mul (show sz ≤ 8 by omega) (show w ≤ 8 by omega)) (by decide)
    have g18 : 1 ≤ g ∧ g ≤ 8 := by omega
    have w18 : 1 ≤ w ∧ w ≤ 8 := by omega
    dsimp only
    rw [eg, ew, esz]
    refine ⟨_, rfl, (sz : Int), rfl, by omega, by omega, fun D hD => ?_⟩
    refine lc_rangeG (n := sz) (fun i y H' => ∃ pl, IsPl H' y pl ∧ PlOk sz g w pl) (fun i y H7 H8 acc kb ha h => ?_) hD (small1000 (by omega)) (fun i H7 Q' hi s7 hacc k => ?_) (fun H7 ys s7 hys hl7 all => ?_)
    · obtain ⟨pl, h1, h2⟩ := h
      exact ⟨pl, h1.keep (kb.tkeep ha), h2⟩
    · refine ⟨_, rfl, _, rfl, _, _, rfl, rfl, a, ns, 1 + i, ?_, (s6.trans s7).seq hS, by omega, fun H8 d8 s8 nd8 dr8 => ⟨_, rfl, _, rfl, _, rfl, _, rfl, d8, sz, g, w, wd, 3780, rfl, dr8, by omega, by omega, by omega, g18.2, w18.2, wd8.1, wd8.2, fun H9 v pl kb9 ip pok => ?_⟩⟩
      · show [V.ref a, V.int ((1 : Int) + (i : Int))] = [V.ref a, V.int ((1 + i : Nat) : Int)]
        rw [show ((1 + i : Nat) : Int) = (1 : Int) + (i : Int) by omega]
      · exact k v H9 (kb9.same s8 nd8) ⟨pl, ip, pok⟩
    · -- arena_here
      refine ⟨_, rfl, D, ys, rfl, hl7, fun t1 ht1 => ⟨_, rfl, _, rfl, (by show 3 ≤ sizeLine; decide), fun t2 ht2 => ?_⟩⟩
      have st1 := same_upd (o := HO.tup ys) ht1
      have st2 := same_upd (o := HO.tup [V.ref t1, V.int (g : Int), V.int (w : Int)]) ht2
      have s9 : Same H (upd (upd H7 t1 (.tup ys)) t2 (.tup [V.ref t1, V.int (g : Int), V.int (w : Int)])) := (s6.trans s7).trans (st1.trans st2)
      obtain ⟨pls, prd, pok⟩ := paired_of (R := IsPl H7) (C := PlOk sz g w) (ys := ys) fun y hy => by
        obtain ⟨i, hi⟩ := List.mem_iff_getElem?.mp hy
        obtain ⟨y', h1, pl, h2, h3⟩ := all i (by have := (List.getElem?_eq_some_iff.mp hi).1; omega)
        rw [hi] at h1
        rw [Option.some.inj h1]
        exact ⟨pl, h2, h3⟩
      have lpls : pls.length = sz := by rw [← paired_len prd]; exact hys
      have ia0 : IsAr (upd (upd H7 t1 (.tup ys)) t2 (.tup [V.ref t1, V.int (g : Int), V.int (w : Int)])) (.ref t2) ⟨pls, g, w⟩ :=
        ⟨t2, .ref t1, rfl, upd_same, t1, ys, rfl, st2 _ _ upd_same, Paired.mapP prd fun v x h => IsPl.keep (.of (st1.trans st2)) h⟩
      have en0 : (⟨pls, g, w⟩ : Ar).n = sz := lpls
      have ok0 : ArOk ⟨pls, g, w⟩ := ⟨g18.1, g18.2, w18.1, w18.2, by rw [en0]; omega, by rw [en0]; omega, by rw [en0]; exact ng, by rw [en0]; exact nw, by rw [en0]; exact pok⟩
      generalize upd (upd H7 t1 (.tup ys)) t2 (.tup [V.ref t1, V.int (g : Int), V.int (w : Int)]) = H9 at s9 ia0
      refine ⟨_, rfl, _, _, rfl, rfl, _, rfl, a, _, rfl, .inl (s9.seq hS), _, _, rfl, ((1 + sz : Nat) : Int), (if ((ns.map V.int).length : Int) < 63 then ((ns.map V.int).length : Int) else 63), ?_, ⟨by omega, by omega, ?_, ?_⟩, ?_⟩
      · show [V.int ((1 : Int) + (sz : Int)), _] = _
        rw [show ((1 + sz : Nat) : Int) = (1 : Int) + (sz : Int) by omega]
      · split <;> omega
      · split <;> omega
      · refine for_range (fun i σ H' => ∃ (v2 v8 v10 v11 v12 v13 : Option V) (v : V) (R : Ar), σ = [some (.ref a), some (iV 24), v2, some (iV wd), some (iV g), some (iV w), some (iV sz), some (.ref D), v8, some v, v10, v11, v12, v13] ∧ Same H H' ∧ IsAr H' v R ∧ ArOk R ∧ R.n = sz ∧ R.given = g ∧ R.wanted = w)
          ⟨_, none, none, none, none, none, _, _, rfl, s9, ia0, ok0, en0, rfl, rfl⟩ (fun i σ H10 hi hv => ?_) (fun σ H10 hv => ?_)
        · obtain ⟨v2, v8, v10, v11, v12, v13, v, R, rfl, s10, ia, aok, eRn, eRg, eRw⟩ := hv
          have hik : 1 + sz + i ≤ 63 := by
            have : (if ((ns.map V.int).length : Int) < 63 then ((ns.map V.int).length : Int) else 63) ≤ 63 := by split <;> omega
            omega
          refine ⟨_, rfl, _, rfl, a, ns, 1 + sz + i, ?_, s10.seq hS, hik, fun H11 d' s11 nd' dr11 => ?_⟩
          · rw [show ((1 + sz : Nat) : Int) + (i : Int) = ((1 + sz + i : Nat) : Int) by omega]
            rfl
          · have nH : H d' = none := s10.free nd'
            have t11 := s10.trans s11
            refine ⟨_, rfl, _, rfl, d', sz, 3780, rfl, dr11, by omega, by omega, by omega, fun H12 p kb12 dr12 hp => ?_⟩
            have t12 : Same H H12 := kb12.same t11 nH
            have u12 : Same H10 H12 := kb12.same s11 nd'
            obtain ⟨av, m, rfl, hav, ipls⟩ := id ia
            obtain ⟨pm, vs, v1, pl, rfl, hpm, hv1, hpl, ⟨pp, rs, rfl, hpp, rows⟩, erow⟩ := pls_at ipls (show p < R.n by omega)
            have plok := aok.pl pl (List.mem_of_getElem? hpl)
            have hl2 := paired_len rows
            have f1 := plok.few.pos
            have f8 := plok.few.most
            refine ⟨_, rfl, _, rfl, av, _, 0, _, rfl, rfl, u12 _ _ hav, rfl, _, rfl, pm, vs, p, _, rfl, rfl, u12 _ _ hpm, at_nat hv1, pp, rs, rfl, .inr (u12 _ _ hpp), d', rs.length, 3781, rfl, dr12, by omega, by omega, by omega, fun H13 c kb13 dr13 hc => ?_⟩
            have t13 : Same H H13 := kb13.same t12 nH
            have u13 : Same H10 H13 := kb13.same u12 nd'
            obtain ⟨v3, hv3⟩ : ∃ v3, rs[c]? = some v3 := ⟨rs[c], List.getElem?_eq_getElem hc⟩
            obtain ⟨row, hrow, rp, ws, rfl, hrp, mvs⟩ := paired_l rows hv3
            have hl3 := paired_len mvs
            have rm := List.mem_of_getElem? hrow
            have rf := plok.rows row rm
            have rf1 := rf.pos
            have rf8 := rf.most
            refine ⟨_, rfl, av, _, 0, _, rfl, rfl, u13 _ _ hav, rfl, _, rfl, pm, vs, p, _, rfl, rfl, u13 _ _ hpm, at_nat hv1, _, rfl, pp, rs, c, _, rfl, rfl, u13 _ _ hpp, at_nat hv3, ?_⟩
            refine ⟨_, rfl, _, rfl, rp, ws, rfl, .inr (u13 _ _ hrp), d', ws.length, 3782, rfl, dr13, by omega, by omega, by omega, fun H14 at_ kb14 dr14 hat => ?_⟩
            have t14 : Same H H14 := kb14.same t13 nH
            have u14 : Same H10 H14 := kb14.same u13 nd'
            refine ⟨_, rfl, _, rfl, _, rfl, _, rfl, ?_⟩
            refine slNo ⟨_, rfl, (at_ : Int), rfl, ?_⟩
            refine slA (u14 _ _ hrp) fun b1 H15 s15 hb1 => ?_
            rw [cutV_to] at hb1
            refine ⟨_, rfl, _, rfl, _, rfl, _, rfl, d', sz, g, w, 3783, rfl, dr14.same s15, by omega, by omega, by omega, g18.2, w18.2, fun H16 mv mm kb16 dr16 imv mok => ?_⟩
            refine ⟨(by show 1 ≤ sizeLine; decide), fun b2 hb2 => ?_⟩
            have s16 := same_upd (o := HO.tup [mv]) hb2
            have k1516 : TKeep H15 H16 := kb16.tkd (dr14.same s15)
            refine catA (s16 _ _ (k1516 _ _ hb1)) upd_same (by rw [List.length_take, List.length_singleton]; omega) fun b3 H17 s17 hb3 => ?_
            have u16 : Same H10 H16 := kb16.same (u14.trans s15) nd'
            have u17 : Same H10 H17 := u16.trans (s16.trans s17)
            refine ⟨_, rfl, _, rfl, _, _, rfl, rfl, ((at_ + 1 : Nat) : Int), rfl, ?_⟩
            refine slNo (slA (u17 _ _ hrp) fun b4 H18 s18 hb4 => ?_)
            rw [cutV_from] at hb4
            refine catA (s18 _ _ hb3) hb4 (by rw [List.length_append, List.length_take, List.length_singleton, List.length_drop]; omega) fun b5 H19 s19 hb5 => ?_
            rw [set_cat hat] at hb5
            have u19 : Same H10 H19 := u17.trans (s18.trans s19)
            have nrow : IsRow H19 (.ref b5) (row.set at_ mm) := by
              refine ⟨b5, _, rfl, hb5, paired_set (Paired.mapP mvs fun v x h => h.keep (.of u19)) (imv.keep (.of (s16.trans (s17.trans (s18.trans s19)))))⟩
            have mok' : ∀ x, x ∈ row.set at_ mm → MvOk R.n R.given R.wanted x := fun x hx => by
              rcases List.mem_or_eq_of_mem_set hx with h1 | h1
              · exact plok.mv row rm x h1
              · rw [h1, eRn, eRg, eRw]; exact mok
            obtain ⟨aok', en'⟩ := arok_set (c := c) aok hpl (few_set (i := at_) (x := mm) rf) mok'
            refine ⟨.ref av, .ref b5, R, p, c, pl, row.set at_ mm, rfl, ia.keep (.of u19), aok, hpl, by omega, nrow, fun H20 v' s20 ia' => ?_⟩
            exact ⟨_, _, _, _, _, _, v', _, rfl, s10.trans (u19.trans s20), ia', aok', en'.trans eRn, eRg, eRw⟩
        · obtain ⟨v2, v8, v10, v11, v12, v13, v, R, rfl, s10, ia, aok, eRn, eRg, eRw⟩ := hv
          exact ⟨_, rfl, q H10 v R s10 ia aok⟩
end
end Wk

namespace Wk
open PySem PySem.Spec PyProof.Rows L2
theorem EntAt.keep {H H' : Hp} {v : V} {e : En} (h : EntAt H v e) (k : TKeep H H') : EntAt H' v e := let ⟨p, vc, e, h1, h2⟩ := h; ⟨p, vc, e, k _ _ h1, h2.keep k⟩
section
variable {P : Program} {w : World} {K : PySem.W.Frag} {mg : Str → Option Value} {base : Heap} {Ch Cf : Addr}
/-! ### _law_is_number -/
abbrev sLis_number : Stmt := top 31
abbrev nLis_number : List Str := ["_law_thing"]
theorem scLis_number : FnScope nLis_number ["_law_thing"] (defScope sLis_number) := ⟨rfl, rfl, rfl, by decide +kernel, rfl, by decide +kernel, by decide +kernel⟩
def spNumber : Sp := fun vs H Q _ => ∃ n : Nat, vs = [iV n] ∧ Q (.bl true) H
theorem ok_number {f : Addr} {fd : FuncData} (F : Fun K "_law_is_number" "_law_is_number" sLis_number f fd) (T : Txt K mg Ch Cf) : FnOk P w K mg base CX0 1 f fd ["_law_thing"] spNumber := by
  refine F.ok scLis_number (fun vs H Q E h => ?_) (fun cdv A outer s H vs Q E hr h => ?_)
  · obtain ⟨n, rfl, _⟩ := h
    rfl
  · obtain ⟨n, rfl, q⟩ := h
    refine ⟨_, (pss_one (ps_ret (pe_and (pe_callB call_isi (by rfl) T.isinstance (by decide +kernel) (pa_cons (pv 0) (pa_cons (pe_bltn (v := .ty "int") (by rfl) T.int (by decide +kernel) rfl) pa_nil))) (pe_and (pe_not (pe_callB call_isi (by rfl) T.isinstance (by decide +kernel) (pa_cons (pv 0) (pa_cons (pe_bltn (v := .ty "bool") (by rfl) T.bool (by decide +kernel) rfl) pa_nil)))) (pe_one (pe_cmpR op_ge (pv 0) pe_int (nomark _))))))), ?_⟩
    refine ⟨_, rfl, _, _, _, _, true, rfl, .ty "int", .base (.int _), kit_ty (by decide +kernel), true, rfl, iteT ?_⟩
    refine ⟨_, rfl, _, _, _, _, false, rfl, .ty "bool", .base (.int _), kit_ty (by decide +kernel), false, rfl, true, rfl, iteT ?_⟩
    refine ⟨_, rfl, _, _, rfl, rfl, ?_⟩
    exact bl_to (decide_eq_true (show (0 : Int) ≤ (n : Int) by omega)) q
/-! ### _law_is_entry -/
abbrev sLis_entry : Stmt := top 32
abbrev nLis_entry : List Str := ["_law_thing", "_law_arena_here", "_law_one"]
theorem scLis_entry : FnScope nLis_entry ["_law_thing", "_law_arena_here"] (defScope sLis_entry) := ⟨rfl, rfl, rfl, by decide +kernel, rfl, by decide +kernel, by decide +kernel⟩
def spEntry : Sp := fun vs H Q _ => ∃ (v av : V) (A : Ar) (e : En), vs = [v, av] ∧ EntAt H v e ∧ IsAr H av A ∧ ArOk A ∧ e.goal < A.wanted ∧ e.cs.length = A.given ∧ ∀ H', Same H H' → Q (.bl true) H'
theorem ok_entry {f : Addr} {fd : FuncData} (F : Fun K "_law_is_entry" "_law_is_entry" sLis_entry f fd) (T : Txt K mg Ch Cf) (d_law_is_number : Df P w K mg base 1 "_law_is_number" ["_law_thing"] spNumber) : FnOk P w K mg base CX0 2 f fd ["_law_thing", "_law_arena_here"] spEntry := by
  refine F.ok scLis_entry (fun vs H Q E h => ?_) (fun cdv A outer s H vs Q E hr h => ?_)
  · obtain ⟨v, av, A, e, rfl, _⟩ := h
    rfl
  · obtain ⟨v, av, R, e, rfl, ⟨p, vc, rfl, hp, ⟨pc, rfl, hpc⟩⟩, ⟨a, m, rfl, ha, _⟩, aok, hgoal, hcs, q⟩ := h
    have g8 := aok.g8
    refine ⟨_, (pss_cons (ps_if (pw_or (pt_not (pt_val (pe_callB call_isi (by rfl) T.isinstance (by decide +kernel) (pa_cons (pv 0) (pa_cons (pe_bltn (v := .ty "tuple") (by rfl) T.tuple (by decide +kernel) rfl) pa_nil))))) (pw_or (pt_cmpR op_ne (pe_callB call_lenF (by rfl) T.len PySem.boot_len (pa_cons (pv 0) pa_nil)) pe_int (nomark _)) (pw_or1 (pt_not (pt_val (pe_callB call_isi (by rfl) T.isinstance (by decide +kernel) (pa_cons (pe_ix ixT (pv 0) pe_int (fun _ _ => rfl)) (pa_cons (pe_bltn (v := .ty "tuple") (by rfl) T.tuple (by decide +kernel) rfl) pa_nil)))))))).pt (pss_one (ps_ret pe_bl)) pss_nil)
      (pss_cons (ps_if (pt_not (pt_val (pe_all T.all (pe_lc (own := [("_law_one", 2)]) (g := (gName 2)) (tt := tYes) rfl scLis_entry.nd (pi_tupK (K := K) (pe_op op_catA (pe_slice sl_tupA (pv 0) po_none (po_some pe_int)) (pe_ix ixT (pv 0) pe_int (fun _ _ => rfl)))) (blkOk_by (N := nLis_entry) (sc := (defScope sLis_entry)) (by decide +kernel)) (fun _ _ _ _ _ => (pg_name (i := 2) scLis_entry.nd rfl (Or.inl rfl))) (fun _ _ _ _ _ => pts_nil) (fun _ _ _ _ _ => (pe_callD d_law_is_number hr (by rfl) (pa_cons (pv 2) pa_nil))))))) (pss_one (ps_ret pe_bl)) pss_nil)
      (pss_one (ps_ret (pe_and (pe_cmpR op_lt (pe_ix ixT (pv 0) pe_int (fun _ _ => rfl)) (pe_ix ixT (pv 1) pe_int (fun _ _ => rfl)) (nomark _)) (pe_one (pe_cmpR op_eq (pe_callB call_lenF (by rfl) T.len PySem.boot_len (pa_cons (pe_ix ixT (pv 0) pe_int (fun _ _ => rfl)) pa_nil)) (pe_ix ixT (pv 1) pe_int (fun _ _ => rfl)) (nomark _)))))))), ?_⟩
    refine ⟨_, rfl, _, _, _, _, true, rfl, .ty "tuple", .base (.tup hp), kit_ty (by decide +kernel), true, rfl, iteF ?_⟩
    refine ⟨_, rfl, p, _, rfl, .inr hp, rfl, _, rfl, iteF ?_⟩
    refine ⟨_, rfl, p, _, 2, _, rfl, rfl, hp, rfl, _, _, _, _, true, rfl, .ty "tuple", .base (.tup hpc), kit_ty (by decide +kernel), true, rfl, iteF ?_⟩
    refine ⟨_, rfl, ?_⟩
    refine slNo ⟨((2 : Nat) : Int), rfl, ?_⟩
    refine slA hp fun b1 H1 s1 hb1 => ?_
    rw [cutV_to] at hb1
    refine ⟨_, rfl, p, _, 2, _, rfl, rfl, s1 _ _ hp, rfl, ?_⟩
    refine catA hb1 (s1 _ _ hpc) (by rw [List.length_map, hcs]; show 2 + R.given ≤ 1000; omega) fun b2 H2 s2 hb2 => ?_
    have hb2' : H2 b2 = some (.tup ((e.num :: e.goal :: e.cs).map iV)) := hb2
    refine ⟨b2, rfl, ⟨_, SqT.of hb2'⟩, fun D hD => lc_tupB ((e.num :: e.goal :: e.cs).map fun _ => true) hD hb2' (by rw [List.length_map, List.length_map]) (by rw [List.length_map]; exact small1000 (by show e.cs.length + 1 + 1 ≤ 1000; omega)) (fun i x b H3 Q' hx hb s3 k => ?_) (fun H3 s3 hl3 => ?_)⟩
    · obtain ⟨n, _, rfl⟩ := map_get hx
      obtain rfl := const_get hb
      exact ⟨_, rfl, n, rfl, k _ (Same.refl _)⟩
    · have t3 := (s1.trans s2).trans s3
      refine ⟨D, _, rfl, hl3, true, congrArg V.bl (const_all _), iteF ?_⟩
      refine ⟨_, rfl, p, _, 1, _, rfl, rfl, t3 _ _ hp, rfl, _, rfl, a, _, 2, _, rfl, rfl, t3 _ _ ha, rfl, _, _, rfl, rfl, true, congrArg V.bl (decide_eq_true (by omega)), iteT ?_⟩
      refine ⟨_, rfl, p, _, 2, _, rfl, rfl, t3 _ _ hp, rfl, pc, _, rfl, .inr (t3 _ _ hpc), _, rfl, a, _, 1, _, rfl, rfl, t3 _ _ ha, rfl, rfl, ?_⟩
      exact bl_to (decide_eq_true (by rw [List.length_map, hcs])) (q _ t3)
/-! ### _law_hurts -/
abbrev sLhurts : Stmt := top 33
abbrev nLhurts : List Str := ["_law_move_here", "_law_given", "_law_table", "_law_entry", "_law_later"]
theorem scLhurts : FnScope nLhurts ["_law_move_here", "_law_given", "_law_table", "_law_entry"] (defScope sLhurts) := ⟨rfl, rfl, rfl, by decide +kernel, rfl, by decide +kernel, by decide +kernel⟩
def hurtsB (L : Ens) (e : En) (given : Nat) (m : Mv) : Bool := match L m.to with
  | none => false
  | some e' => decide (e'.num < e.num) || ((decide (e'.num = e.num) && decide (e'.goal = e.goal)) && !m.mw.contains e.goal) && (m.met.contains given || decide (e'.cs.getD given 0 < e.cs.getD given 0))
def hurtsE (e e' : En) (given : Nat) (m : Mv) : Bool := decide (e'.num < e.num) || ((decide (e'.num = e.num) && decide (e'.goal = e.goal)) && !m.mw.contains e.goal) && (m.met.contains given || decide (e'.cs.getD given 0 < e.cs.getD given 0))
theorem hurtsB_some {L : Ens} {e e' : En} {given : Nat} {m : Mv} (h : L m.to = some e') : hurtsB L e given m = hurtsE e e' given m := by
  unfold hurtsB
  rw [h]
  rfl
theorem hurtsB_none {L : Ens} {e : En} {given : Nat} {m : Mv} (h : L m.to = none) : hurtsB L e given m = false := by
  unfold hurtsB
  rw [h]
theorem hurts_of {A : Ar} {L : Ens} {e : En} {given : Nat} {m : Mv} (h : Hurts A L e given m) : hurtsB L e given m = true := by
  obtain ⟨e', h1, h2⟩ := h
  unfold hurtsB
  rw [h1]
  show (decide (e'.num < e.num) || _) = true
  rcases h2 with h2 | ⟨h2, h3, h4, h5⟩
  · rw [decide_eq_true h2, Bool.true_or]
  · rw [decide_eq_true h2, decide_eq_true h3, h4, Bool.or_eq_true]
    refine .inr ?_
    simp only [Bool.true_and, Bool.not_false]
    rw [Bool.or_eq_true]
    exact h5.imp id fun z => decide_eq_true z
def spHurts : Sp := fun vs H Q _ => ∃ (mv ev : V) (t : Addr) (n k given : Nat) (L : Ens) (xs : List V) (e : En) (mm : Mv), vs = [mv, iV given, .ref t, ev] ∧ IsMv H mv mm ∧ H t = some (.tup xs) ∧ EnsOk n H L xs ∧ EntAt H ev e ∧ mm.to < n ∧ given < k ∧ e.cs.length = k ∧
  (∀ p e', p < n → L p = some e' → e'.cs.length = k) ∧ ∀ H', Same H H' → Q (.bl (hurtsB L e given mm)) H'
theorem nat_cut {H : Hp} {K : PySem.W.Frag} {b : Addr} {x y : Nat} (h : H b = some (.tup [iV x, iV y])) : Dp K H (.ref b) (.tuple [dN x, dN y]) := .tup (SqT.of h) (.cons (.int _) (.cons (.int _) .nil))
theorem lay_nats (x y : Nat) : SeqAt.shaped (.tuple [dN x, dN y]) = true := by
  unfold SeqAt.shaped
  rfl
theorem eqv_pair (x y z u : Nat) : PyData.eqv (.tuple [dN x, dN y]) (.tuple [dN z, dN u]) = (decide (x = z) && decide (y = u)) := by
  unfold dN
  simp only [PyData.eqv, PyData.eqvAll, Bool.and_true]
  rw [Bool.eq_iff_iff]
  simp
  omega
theorem ok_hurts {f : Addr} {fd : FuncData} (F : Fun K "_law_hurts" "_law_hurts" sLhurts f fd) (T : Txt K mg Ch Cf) : FnOk P w K mg base CX0 1 f fd ["_law_move_here", "_law_given", "_law_table", "_law_entry"] spHurts := by
  refine F.ok scLhurts (fun vs H Q E h => ?_) (fun cdv A outer s H vs Q E hr h => ?_)
  · obtain ⟨mv, ev, t, n, k, given, L, xs, e, mm, rfl, _⟩ := h
    rfl
  · obtain ⟨mv, ev, t, n, k, given, L, xs, e, mm, rfl, ⟨p, v1, v2, rfl, hp, ⟨p1, rfl, h1⟩, ⟨p2, rfl, h2⟩⟩, ht, ens, ⟨pe, vc, rfl, hpe, ⟨pc, rfl, hpc⟩⟩, hto, hgk, hek, hLk, q⟩ := h
    obtain ⟨lv, hlv, olv⟩ := ens.2 _ hto
    refine ⟨_, (pss_cons (ps_set (i := 4) scLhurts.nd rfl (Or.inl rfl) (pe_ix ixT (pv 2) (pe_ix ixT (pv 0) pe_int (fun _ _ => rfl)) (fun _ _ => rfl)))
      (pss_cons (ps_if (pt_cmp (pc_isN (pv 4)) rfl) (pss_one (ps_ret pe_bl)) pss_nil)
      (pss_cons (ps_if (pt_cmpR op_lt (pe_ix ixT (pv 4) pe_int (fun _ _ => rfl)) (pe_ix ixT (pv 3) pe_int (fun _ _ => rfl)) (nomark _)) (pss_one (ps_ret pe_bl)) pss_nil)
      (pss_cons (ps_if (pw_or (pt_cmpR (op_neD hr.units) (pe_slice sl_tupA (pv 4) po_none (po_some pe_int)) (pe_slice sl_tupA (pv 3) po_none (po_some pe_int)) (nomark _)) (pw_or1 (pt_cmpR op_inT (pe_ix ixT (pv 3) pe_int (fun _ _ => rfl)) (pe_ix ixT (pv 0) pe_int (fun _ _ => rfl)) (by rfl)))).pt (pss_one (ps_ret pe_bl)) pss_nil)
      (pss_one (ps_ret (pe_or (pe_cmpR op_inT (pv 1) (pe_ix ixT (pv 0) pe_int (fun _ _ => rfl)) (by rfl)) (pe_one (pe_cmpR op_lt (pe_ix ixT (pe_ix ixT (pv 4) pe_int (fun _ _ => rfl)) (pv 1) (fun _ _ => rfl)) (pe_ix ixT (pe_ix ixT (pv 3) pe_int (fun _ _ => rfl)) (pv 1) (fun _ _ => rfl)) (nomark _)))))))))), ?_⟩
    refine ⟨_, rfl, _, rfl, p, _, 0, _, rfl, rfl, hp, rfl, t, xs, mm.to, lv, rfl, rfl, ht, at_nat hlv, ?_⟩
    cases eL : L mm.to with
    | none =>
      rw [eL] at olv
      rw [hurtsB_none eL] at q
      obtain rfl : lv = .non := olv
      exact ⟨_, rfl, true, rfl, iteT (q _ (Same.refl _))⟩
    | some e' =>
      rw [eL] at olv
      rw [hurtsB_some eL] at q
      unfold hurtsE at q
      obtain ⟨pl, vl, rfl, hpl, ⟨plc, rfl, hplc⟩⟩ := olv
      refine ⟨_, rfl, false, rfl, iteF ?_⟩
      refine ⟨_, rfl, pl, _, 0, _, rfl, rfl, hpl, rfl, _, rfl, pe, _, 0, _, rfl, rfl, hpe, rfl, _, _, rfl, rfl, _, rfl, ite_case (fun c1 => ?_) (fun c1 => ?_)⟩
      · have c2 : e'.num < e.num := by have := of_decide_eq_true c1; omega
        have q' := q _ (Same.refl _)
        rw [decide_eq_true c2, Bool.true_or] at q'
        exact q'
      · have c2 : ¬ e'.num < e.num := fun z => by
          rw [decide_eq_true (show ((e'.num : Nat) : Int) < ((e.num : Nat) : Int) by omega)] at c1
          cases c1
        rw [decide_eq_false c2, Bool.false_or] at q
        refine ⟨_, rfl, ?_⟩
        refine slNo ⟨((2 : Nat) : Int), rfl, ?_⟩
        refine slA hpl fun b1 H1 s1 hb1 => ?_
        rw [cutV_to] at hb1
        refine ⟨_, rfl, ?_⟩
        refine slNo ⟨((2 : Nat) : Int), rfl, ?_⟩
        refine slA (s1 _ _ hpe) fun b2 H2 s2 hb2 => ?_
        rw [cutV_to] at hb2
        have s12 := s1.trans s2
        refine ⟨_, _, nat_cut (x := e'.num) (y := e'.goal) (s2 _ _ hb1), nat_cut (x := e.num) (y := e.goal) hb2, lay_nats _ _, lay_nats _ _, _, rfl, ?_⟩
        rw [eqv_pair]
        refine ite_case (fun c3 => ?_) (fun c3 => ?_)
        · have q' := q _ s12
          rw [not_true.mp c3, Bool.false_and, Bool.false_and] at q'
          exact q'
        · have c4 : (decide (e'.num = e.num) && decide (e'.goal = e.goal)) = true := by
            cases h : (decide (e'.num = e.num) && decide (e'.goal = e.goal)) with
            | true => rfl
            | false => rw [h] at c3; cases c3
          rw [c4, Bool.true_and] at q
          refine ⟨_, rfl, pe, _, 1, _, rfl, rfl, s12 _ _ hpe, rfl, _, rfl, p, _, 2, _, rfl, rfl, s12 _ _ hp, rfl, p2, _, rfl, s12 _ _ h2, rfl, flat_nats _, _, rfl, ?_⟩
          show if inV (iV e.goal) (mm.mw.map iV) = true then _ else _
          rw [in_nats]
          refine ite_case (fun c5 => ?_) (fun c5 => ?_)
          · have q' := q _ s12
            rw [c5, Bool.not_true, Bool.false_and] at q'
            exact q'
          · have q' := q _ s12
            rw [c5, Bool.not_false, Bool.true_and, ← in_nats] at q'
            have l1 : e'.cs.length = k := hLk _ _ hto eL
            have g1 : e'.cs[given]? = some (e'.cs.getD given 0) := by
              rw [List.getD_eq_getElem?_getD, List.getElem?_eq_getElem (by omega)]
              rfl
            have g2 : e.cs[given]? = some (e.cs.getD given 0) := by
              rw [List.getD_eq_getElem?_getD, List.getElem?_eq_getElem (by omega)]
              rfl
            dsimp only [tSeq, tRet, tNext]
            refine torV (inV (iV given) (mm.met.map iV)) (decide (e'.cs.getD given 0 < e.cs.getD given 0)) (fun R1 k1 => ⟨_, rfl, _, rfl, p, _, 1, _, rfl, rfl, s12 _ _ hp, rfl, p1, _, rfl, s12 _ _ h1, rfl, flat_nats _, k1⟩)
              (fun _ R1 k1 => ⟨_, rfl, pl, _, 2, _, rfl, rfl, s12 _ _ hpl, rfl, _, rfl, plc, _, given, iV (e'.cs.getD given 0), rfl, rfl, s12 _ _ hplc, at_nat (by rw [List.getElem?_map, g1]; rfl), _, rfl, pe, _, 2, _, rfl, rfl, s12 _ _ hpe, rfl, _, rfl, pc, _, given, iV (e.cs.getD given 0), rfl, rfl, s12 _ _ hpc, at_nat (by rw [List.getElem?_map, g2]; rfl), _, _, rfl, rfl, ?_⟩) q'
            have ed : decide (((e'.cs.getD given 0 : Nat) : Int) < ((e.cs.getD given 0 : Nat) : Int)) = decide (e'.cs.getD given 0 < e.cs.getD given 0) := by
              rw [Bool.eq_iff_iff]
              simp
            exact bl_to ed k1
end
end Wk

namespace Wk
open PySem PySem.Spec PyProof.Rows L2
theorem filter_take_any {α : Type} (f : α → Bool) {ns : List α} {i : Nat} {m : α} (h : ns[i]? = some m) : (ns.take (i + 1)).filter f = if f m = true then (ns.take i).filter f ++ [m] else (ns.take i).filter f := by
  rw [List.take_add_one, h, List.filter_append]
  by_cases e : f m = true
  · rw [if_pos e]
    show _ ++ List.filter f [m] = _
    rw [List.filter_cons_of_pos e, List.filter_nil]
  · rw [if_neg e]
    show _ ++ List.filter f [m] = _
    rw [List.filter_cons_of_neg e, List.filter_nil, List.append_nil]
section
variable {P : Program} {w : World} {K : PySem.W.Frag} {mg : Str → Option Value} {base : Heap} {Ch Cf : Addr}
/-! ### _law_is_forced -/
abbrev sLis_forced : Stmt := top 34
abbrev nLis_forced : List Str := ["_law_arena_here", "_law_place_here", "_law_given", "_law_table", "_law_row", "_law_move_here"]
theorem scLis_forced : FnScope nLis_forced ["_law_arena_here", "_law_place_here", "_law_given", "_law_table"] (defScope sLis_forced) := ⟨rfl, rfl, rfl, by decide +kernel, rfl, by decide +kernel, by decide +kernel⟩
def spForced : Sp := fun vs H Q _ => ∃ (av : V) (t : Addr) (A : Ar) (p given : Nat) (L : Ens) (xs : List V) (e : En), vs = [av, iV p, iV given, .ref t] ∧ IsAr H av A ∧ ArOk A ∧ H t = some (.tup xs) ∧ EnsOk A.n H L xs ∧ L p = some e ∧ p < A.n ∧ given < A.given ∧
  (∀ p e', p < A.n → L p = some e' → e'.cs.length = A.given) ∧ (∃ row, row ∈ A.rows p ∧ ∀ m, m ∈ row → hurtsB L e given m = true) ∧ ∀ H', Same H H' → Q (.bl true) H'
theorem ok_forced {f : Addr} {fd : FuncData} (F : Fun K "_law_is_forced" "_law_is_forced" sLis_forced f fd) (T : Txt K mg Ch Cf) (d_law_hurts : Df P w K mg base 1 "_law_hurts" ["_law_move_here", "_law_given", "_law_table", "_law_entry"] spHurts) :
    FnOk P w K mg base CX0 2 f fd ["_law_arena_here", "_law_place_here", "_law_given", "_law_table"] spForced := by
  refine F.ok scLis_forced (fun vs H Q E h => ?_) (fun cdv A outer s H vs Q E hr h => ?_)
  · obtain ⟨av, t, A, p, given, L, xs, e, rfl, _⟩ := h
    rfl
  · obtain ⟨av, t, R, p, given, L, xs, e, rfl, ⟨a, m, rfl, ha, ipls⟩, aok, ht, ens, eL, hp, hgv, hLk, ⟨rowx, hrx, hall⟩, q⟩ := h
    obtain ⟨pm, vs, v1, pl, rfl, hpm, hv1, hpl, ⟨pp, rs, rfl, hpp, rows⟩, erow⟩ := pls_at ipls hp
    rw [erow] at hrx
    have plok := aok.pl pl (List.mem_of_getElem? hpl)
    have n120 := aok.n120
    have g8 := aok.g8
    have w8 := aok.w8
    obtain ⟨ev, hev, oev⟩ := ens.2 p hp
    rw [eL] at oev
    have oev : EntAt H ev e := oev
    refine ⟨_, (pss_cons (ps_for PassesOwn.never rfl (pi_tupK (K := K) (pe_ix ixT (pe_ix ixT (pv 0) pe_int (fun _ _ => rfl)) (pv 1) (fun _ _ => rfl))) (pg_name (i := 4) scLis_forced.nd rfl (Or.inl rfl)) (pss_one (ps_if (pt_cmpR (op_eqD hr.units) (pe_lc (own := [("_law_move_here", 5)]) (g := (gName 5)) rfl scLis_forced.nd (pi_tupK (K := K) (pv 4)) (blkOk_by (N := nLis_forced) (sc := (defScope sLis_forced)) (by decide +kernel)) (fun _ _ _ _ _ => (pg_name (i := 5) scLis_forced.nd rfl (Or.inl rfl))) (fun _ _ _ _ _ => pts_one (pt_not (pt_val (pe_callD d_law_hurts hr (by rfl) (pa_cons (pv 5) (pa_cons (pv 2) (pa_cons (pv 3) (pa_cons (pe_ix ixT (pv 3) (pv 1) (fun _ _ => rfl)) pa_nil)))))))) (fun _ _ _ _ _ => (pv 5))) (pe_lst pa_nil) (nomark _)) (pss_one (ps_ret pe_bl)) pss_nil)))
      (pss_one (ps_ret pe_bl))), ?_⟩
    refine ⟨_, rfl, a, _, 0, _, rfl, rfl, ha, rfl, _, rfl, pm, vs, p, _, rfl, rfl, hpm, at_nat hv1, pp, rfl, ⟨_, SqT.of hpp⟩, ?_⟩
    refine for_tup (K := K) (a := pp) (xs := rs) (fun i σ H' => (∃ v4 : Option V, σ = [some (.ref a), some (iV p), some (iV given), some (.ref t), v4, none]) ∧ Same H H' ∧ ∀ (j : Nat) (row : Row), j < i → pl[j]? = some row → row.all (hurtsB L e given) = false)
      ⟨⟨none, rfl⟩, Same.refl _, fun j row hj => absurd hj (by omega)⟩ (fun i σ H' _ hv => SqT.of (hv.2.1 _ _ hpp)) (fun i y σ H1 hy hv => ?_) (fun σ H1 hv => ?_)
    · obtain ⟨⟨v4, rfl⟩, s1, no⟩ := hv
      obtain ⟨row, hrow, rp, ws, rfl, hrp, mvs⟩ := paired_l rows hy
      have hm := List.mem_of_getElem? hrow
      have hr2 := s1 _ _ hrp
      have h8' := (plok.rows row hm).most
      have hl' := paired_len mvs
      refine ⟨_, rfl, rp, rfl, ⟨_, SqT.of hr2⟩, fun D hD => ?_⟩
      refine lc_tup (K := K) (a := rp) (xs := ws) (fun i H => Same H1 H ∧ ∃ acc : List V, H D = some (.lst acc) ∧ Paired (IsMv H) acc ((row.take i).filter fun m => !hurtsB L e given m)) ⟨same_upd hD, [], upd_same, .nil⟩ (fun i H _ h => SqT.of (h.1 _ _ hr2)) (fun j z H2 hz h => ?_) (fun H2 h => ?_)
      · obtain ⟨s2, acc, hacc, pacc⟩ := h
        obtain ⟨mm, hmm, im⟩ := paired_l mvs hz
        have s12 := s1.trans s2
        have hmm' := List.mem_of_getElem? hmm
        refine ⟨wipe1_set _ _ _, ?_⟩
        refine ⟨_, rfl, _, rfl, _, rfl, _, rfl, _, rfl, t, xs, p, ev, rfl, rfl, s12 _ _ ht, at_nat hev, z, ev, t, R.n, R.given, given, L, xs, e, mm, rfl, im.keep (.of s12), s12 _ _ ht, ens.keep (.of s12), oev.keep (.of s12), (plok.mv row hm mm hmm').to, hgv, hLk p e hp eL, hLk, fun H3 s3 => ⟨_, rfl, ?_⟩⟩
        have lacc : acc.length ≤ 8 := by
          rw [paired_len pacc]
          refine Nat.le_trans (List.length_filter_le _ _) ?_
          rw [List.length_take]
          omega
        have h3 := s3 _ _ hacc
        refine ite_case (fun eh => ?_) (fun eh => ?_)
        · refine ⟨z, rfl, acc, h3, small1000 (by omega), same_new (s2.trans s3) hD, acc ++ [z], upd_same, ?_⟩
          have k4 : TKeep H3 (upd H3 D (.lst (acc ++ [z]))) := TKeep.upd h3
          rw [filter_take_any _ hmm, if_pos eh]
          exact paired_snoc (Paired.mapP pacc fun v x h => (h.keep (.of s3)).keep k4) ((im.keep (.of (s12.trans s3))).keep k4)
        · refine ⟨s2.trans s3, acc, h3, ?_⟩
          rw [filter_take_any _ hmm, if_neg (by rw [eh]; decide)]
          exact Paired.mapP pacc fun v x h => h.keep (.of s3)
      · obtain ⟨s2, acc, hacc, pacc⟩ := h
        rw [List.take_of_length_le (by omega)] at pacc
        refine ⟨Nat.zero_le _, fun l hl => ?_⟩
        have s3 := same_upd (o := HO.lst []) hl
        have pac3 := Paired.mapP pacc fun v x h => IsMv.keep (.of s3) h
        have pd : PlainD 3 (8 * 28) (.list ((row.filter fun m => !hurtsB L e given m).map dMv)) := by
          refine PlainD.list (k := 2) (b := 27) (fun x hx => ?_) ?_
          · obtain ⟨mm, hmm, rfl⟩ := List.mem_map.mp hx
            exact (plok.mv row hm mm (List.mem_filter.mp hmm).1).plain n120 g8 w8
          · rw [List.length_map]
            exact Nat.le_trans (List.length_filter_le _ _) h8'
        refine ⟨.list ((row.filter fun m => !hurtsB L e given m).map dMv), .list [], .lst (SqL.of (s3 _ _ hacc)) (dp_map pac3 fun _ _ h => h.dp), .lst (SqL.of upd_same) .nil, pd.shaped (by decide), by decide, _, rfl, ?_⟩
        have ee : PyData.eqv (.list ((row.filter fun m => !hurtsB L e given m).map dMv)) (.list []) = (row.filter fun m => !hurtsB L e given m).isEmpty := by
          simp only [PyData.eqv]
          rw [eqv_nil]
          cases row.filter fun m => !hurtsB L e given m <;> rfl
        rw [ee]
        have t3 := s1.trans (s2.trans s3)
        refine ite_case (fun ec => ?_) (fun ec => ?_)
        · exact q _ t3
        · refine ⟨⟨_, rfl⟩, t3, fun j row' hj hr => ?_⟩
          by_cases ej : j = i
          · subst ej
            rw [hrow] at hr
            cases hr
            refine of_not_true fun z => ?_
            have : (row.filter fun m => !hurtsB L e given m) = [] := List.filter_eq_nil_iff.mpr fun mm hmm z2 => by
              have := List.all_eq_true.mp z mm hmm
              rw [this] at z2
              cases z2
            rw [this] at ec
            cases ec
          · exact no j row' (by omega) hr
    · obtain ⟨⟨v4, rfl⟩, s1, no⟩ := hv
      exfalso
      obtain ⟨j, hj⟩ := List.mem_iff_getElem?.mp hrx
      have h1 := no j rowx (by have := (List.getElem?_eq_some_iff.mp hj).1; have := paired_len rows; omega) hj
      rw [List.all_eq_true.mpr hall] at h1
      cases h1
/-! ### _law_loses -/
abbrev sLloses : Stmt := top 35
abbrev nLloses : List Str := ["_law_arena_here", "_law_table", "_law_mine", "_law_place_here", "_law_entry", "_law_given"]
theorem scLloses : FnScope nLloses ["_law_arena_here", "_law_table", "_law_mine"] (defScope sLloses) := ⟨rfl, rfl, rfl, by decide +kernel, rfl, by decide +kernel, by decide +kernel⟩
def spLoses : Sp := fun vs H Q _ => ∃ (av : V) (t mi : Addr) (A : Ar) (xs : List V) (W : Nat → Bool), vs = [av, .ref t, .ref mi] ∧ IsAr H av A ∧ ArOk A ∧ H t = some (.tup xs) ∧ EnsOk A.n H (lostM A) xs ∧ H mi = some (.tup ((places A.n W).map iV)) ∧
  (∀ p, p < A.n → (lostM A p).isSome = !W p) ∧ ∀ H', Same H H' → Q (.bl true) H'
theorem eqv_nats : ∀ ns : List Nat, PyData.eqvAll (ns.map dN) (ns.map dN) = true
  | [] => by simp only [List.map_nil, PyData.eqvAll]
  | n :: ns => by
    simp only [List.map_cons, PyData.eqvAll, eqv_nats ns, Bool.and_true]
    unfold dN
    simp [PyData.eqv]
theorem places_small {n : Nat} {f : Nat → Bool} (h : n ≤ 120) : ∀ p, p ∈ places n f → p < 1000000 := fun p hp => by
  have := List.mem_range.mp (List.mem_filter.mp hp).1
  omega
theorem ok_loses {f : Addr} {fd : FuncData} (F : Fun K "_law_loses" "_law_loses" sLloses f fd) (T : Txt K mg Ch Cf) (d_law_is_entry : Df P w K mg base 2 "_law_is_entry" ["_law_thing", "_law_arena_here"] spEntry)
    (d_law_is_forced : Df P w K mg base 2 "_law_is_forced" ["_law_arena_here", "_law_place_here", "_law_given", "_law_table"] spForced) : FnOk P w K mg base CX0 3 f fd ["_law_arena_here", "_law_table", "_law_mine"] spLoses := by
  refine F.ok scLloses (fun vs H Q E h => ?_) (fun cdv A outer s H vs Q E hr h => ?_)
  · obtain ⟨av, t, mi, A, xs, W, rfl, _⟩ := h
    rfl
  · obtain ⟨av, t, mi, R, xs, W, rfl, ia, aok, ht, ens, hmi, hW, q⟩ := h
    obtain ⟨a, m, rfl, ha, ⟨pm, vs, rfl, hpm, pls⟩⟩ := id ia
    have hl : vs.length = R.n := paired_len pls
    have lx := ens.1
    have n120 := aok.n120
    have g8 := aok.g8
    have ok := aok.ok
    have hLk : ∀ p e', p < R.n → lostM R p = some e' → e'.cs.length = R.given := fun p e' hp h => (lostM_good ok hp h).len
    refine ⟨_, (pss_cons (ps_if (pw_or (pt_not (pt_val (pe_callB call_isi (by rfl) T.isinstance (by decide +kernel) (pa_cons (pv 1) (pa_cons (pe_bltn (v := .ty "tuple") (by rfl) T.tuple (by decide +kernel) rfl) pa_nil))))) (pw_or1 (pt_cmpR op_ne (pe_callB call_lenF (by rfl) T.len PySem.boot_len (pa_cons (pv 1) pa_nil)) (pe_callB call_lenF (by rfl) T.len PySem.boot_len (pa_cons (pe_ix ixT (pv 0) pe_int (fun _ _ => rfl)) pa_nil)) (nomark _)))).pt (pss_one (ps_ret pe_bl)) pss_nil)
      (pss_cons (ps_if (pt_cmpR (op_neD hr.units) (pe_lc (own := [("_law_place_here", 3), ("_law_entry", 4)]) (g := (gTup K 2 (gCons (gName 3) (gCons (gName 4) gNil)))) rfl scLloses.nd (pi_enumT (by rfl) T.enumerate (pa_cons (pv 1) pa_nil)) (blkOk_by (N := nLloses) (sc := (defScope sLloses)) (by decide +kernel)) (fun _ _ _ _ _ => (pg_tup rfl (pgs_cons (pg_name (i := 3) scLloses.nd rfl (Or.inl rfl)) (pgs_cons (pg_name (i := 4) scLloses.nd rfl (Or.inl rfl)) pgs_nil)))) (fun _ _ _ _ _ => pts_one (pt_cmp (pc_isN (pv 4)) rfl)) (fun _ _ _ _ _ => (pv 3))) (pe_callTy call_list_of (by rfl) T.list (by decide +kernel) (pa_cons (pv 2) pa_nil)) (nomark _)) (pss_one (ps_ret pe_bl)) pss_nil)
      (pss_cons (ps_for PassesOwn.never rfl (pi_enumT (by rfl) T.enumerate (pa_cons (pv 1) pa_nil)) (pg_tup rfl (pgs_cons (pg_name (i := 3) scLloses.nd rfl (Or.inr rfl)) (pgs_cons (pg_name (i := 4) scLloses.nd rfl (Or.inl rfl)) pgs_nil))) (pss_one (ps_if (pt_cmp (pc_notN (pv 4)) rfl) (pss_cons (ps_if (pt_not (pt_val (pe_callD d_law_is_entry hr (by rfl) (pa_cons (pv 4) (pa_cons (pv 0) pa_nil))))) (pss_one (ps_ret pe_bl)) pss_nil)
      (pss_one (ps_if (pt_not (pt_val (pe_all T.all (pe_lc (own := [("_law_given", 5)]) (g := (gName 5)) (tt := tYes) rfl scLloses.nd (pi_range1 (by rfl) T.range (pa_cons (pe_ix ixT (pv 0) pe_int (fun _ _ => rfl)) pa_nil)) (blkOk_by (N := nLloses) (sc := (defScope sLloses)) (by decide +kernel)) (fun _ _ _ _ _ => (pg_name (i := 5) scLloses.nd rfl (Or.inl rfl))) (fun _ _ _ _ _ => pts_nil) (fun _ _ _ _ _ => (pe_callD d_law_is_forced hr (by rfl) (pa_cons (pv 0) (pa_cons (pv 3) (pa_cons (pv 5) (pa_cons (pv 1) pa_nil)))))))))) (pss_one (ps_ret pe_bl)) pss_nil))) pss_nil)))
      (pss_one (ps_ret pe_bl))))), ?_⟩
    refine ⟨_, rfl, _, _, _, _, true, rfl, .ty "tuple", .base (.tup ht), kit_ty (by decide +kernel), true, rfl, iteF ?_⟩
    refine ⟨_, rfl, t, _, rfl, .inr ht, _, rfl, a, _, 0, _, rfl, rfl, ha, rfl, pm, _, rfl, .inr hpm, rfl, false, ?_, iteF ?_⟩
    · rw [lx, hl, decide_eq_true rfl]
      rfl
    refine ⟨_, rfl, t, xs, rfl, SqT.of ht, fun D hD => ?_⟩
    refine lc_enumF (walk_enumT (K := K) (a := t) (xs := xs)) W (fun H h => SqT.of (h _ _ ht)) (fun _ _ => rfl) (fun _ _ => rfl) hD (small1000 (by omega)) (fun i x H2 R' hx s2 k => ?_) (fun H2 s2 hl2 => ?_)
    · have hi : i < R.n := by
        have := (List.getElem?_eq_some_iff.mp hx).1
        omega
      obtain ⟨v, hv, ov⟩ := ens.2 i hi
      obtain rfl : x = v := by rw [hx] at hv; exact Option.some.inj hv
      exact ⟨_, rfl, decide (x = .non), rfl, by rw [ov.non, hW i hi, Bool.not_not]; exact k⟩
    · rw [lx] at hl2
      refine ⟨_, rfl, mi, _, rfl, .inr (SqT.of (s2 _ _ hmi)), fun l hl3 => ?_⟩
      have s3 := same_upd (o := HO.lst ((places R.n W).map iV)) hl3
      have s23 := s2.trans s3
      have pl1 := plain_list (places_small (f := W) n120)
      refine ⟨.list ((places R.n W).map dN), .list ((places R.n W).map dN), .lst (SqL.of (s3 _ _ hl2)) (dp_ns _), .lst (SqL.of upd_same) (dp_ns _), pl1.shaped (by decide), pl1.shaped (by decide), false, ?_, iteF ?_⟩
      · have e : PyData.eqv (.list ((places R.n W).map dN)) (.list ((places R.n W).map dN)) = true := by
          simp only [PyData.eqv]
          exact eqv_nats _
        rw [e]
        rfl
      refine ⟨_, rfl, t, xs, rfl, SqT.of (s23 _ _ ht), ?_⟩
      refine for_it (walk_enumT (K := K) (a := t) (xs := xs)) (fun i σ H' => (∃ v3 v4 : Option V, σ = [some (.ref a), some (.ref t), some (.ref mi), v3, v4, none]) ∧ Same H H') ⟨⟨none, none, rfl⟩, s23⟩ (fun i σ H' _ hv => SqT.of (hv.2 _ _ ht)) (fun i y σ H4 H5 hi hv hy => ?_) (fun σ H4 hv => ?_)
      · obtain ⟨⟨v3, v4, rfl⟩, s4⟩ := hv
        obtain ⟨tt, x0, x, rfl, htt, rfl, hx0, hx⟩ := hy
        cases hx0
        have hin : i < R.n := by omega
        obtain ⟨v, hv, ov⟩ := ens.2 i hin
        have hx : xs[i]? = some x := hx
        obtain rfl : x = v := by rw [hx] at hv; exact Option.some.inj hv
        have s5 := s4.trans (same_upd (o := HO.tup [iV i, x]) htt)
        refine ⟨tt, _, rfl, SqT.of upd_same, rfl, _, _, rfl, _, _, rfl, rfl, ?_⟩
        refine ⟨_, rfl, !decide (x = .non), rfl, ?_⟩
        rw [ov.non, Bool.not_not]
        refine ite_case (fun es => ?_) (fun es => ?_)
        · obtain ⟨e, he⟩ := Option.isSome_iff_exists.mp es
          rw [he] at ov
          have ov : EntAt H x e := ov
          have good := lostM_good ok hin he
          refine ⟨_, rfl, _, rfl, x, .ref a, R, e, rfl, ov.keep (.of s5), ia.keep (.of s5), aok, good.goal, good.len, fun H6 s6 => ⟨true, rfl, iteF ?_⟩⟩
          have t6 := s5.trans s6
          refine ⟨_, rfl, a, _, 1, _, rfl, rfl, t6 _ _ ha, rfl, (R.given : Int), rfl, by omega, by omega, fun D2 hD2 => ?_⟩
          refine lc_rangeB (n := R.given) (List.replicate R.given true) hD2 List.length_replicate (small1000 (by omega)) (fun j b H7 Q' hj hb s7 k => ?_) (fun H7 s7 hl7 => ?_)
          · obtain rfl : b = true := by
              rw [List.getElem?_replicate, if_pos hj] at hb
              exact (Option.some.inj hb).symm
            have t7 := t6.trans s7
            obtain ⟨row, hr1, hr2⟩ := good.row j hj
            exact ⟨_, rfl, _, rfl, _, rfl, _, rfl, .ref a, t, R, i, j, lostM R, xs, e, rfl, ia.keep (.of t7), aok, t7 _ _ ht, ens.keep (.of t7), he, hin, hj, hLk, ⟨row, hr1, fun mm hmm => hurts_of (hr2 mm hmm)⟩, fun H8 s8 => k _ s8⟩
          · have e2 : (List.replicate R.given true).all id = true := by
              rw [List.all_eq_true]
              intro x hx
              exact List.eq_of_mem_replicate hx
            refine ⟨D2, _, rfl, hl7, true, congrArg V.bl e2, iteF ?_⟩
            exact ⟨⟨_, _, rfl⟩, t6.trans s7⟩
        · exact ⟨⟨_, _, rfl⟩, s5⟩
      · obtain ⟨⟨v3, v4, rfl⟩, s4⟩ := hv
        exact q _ s4
end
end Wk

namespace Wk
open PySem PySem.Spec PyProof.Rows L2
/-! ### one def, run at one place where no guard stands: the law's own def, which tells texts of what it holds -/
section
variable {P : Program} {w : World} {K : PySem.W.Frag} {mg : Str → Option Value} {base : Heap}
theorem guards_deeper {A : Around} (env : Env) (h : A.guards = some []) : (A.deeper env).guards = some [] := h
/-- what a run of the def at f with these arguments comes to, at A alone -/
structure RunsAt (P : Program) (w : World) (K : PySem.W.Frag) (mg : Str → Option Value) (base : Heap) (A : Around) (k : Nat) (f : Addr) (fd : FuncData) (ps : List Str) (sp : Sp) : Prop where
  runs : ∀ (outer : List Env) (s : Shared) (H : Hp) (args : Args) (us : List Value) (vs : List V) (Q : VK) (E : XK), Env0 P w K mg base A outer s H → BindsTo s fd args (ps.zip us) → Vals vs us → sp vs H Q E →
    codeAny (model P w) A (.call (.ref f) args) (CR CX0 outer P w H s Q E) s
theorem runs_by {A : Around} {k : Nat} {x qual : Str} {st : Stmt} {f : Addr} {fd : FuncData} {N ps : List Str} {sp : Sp} (F : Fun K x qual st f fd) (sc : FnScope N ps (defScope st)) (room : Room (k + 1) A) (free : A.guards = some [])
    (len : ∀ vs H Q E, sp vs H Q E → vs.length = ps.length)
    (body : ∀ (cdv : Value) (outer : List Env) (s : Shared) (H : Hp) (vs : List V) (Q : VK) (E : XK), Room k (A.deeper (envOfC qual (defScope st) s.heap.objs.size f cdv)) → (A.deeper (envOfC qual (defScope st) s.heap.objs.size f cdv)).guards = some [] → sp vs H Q E →
      ∃ t, PSs (cxOf CX0 P w K mg base N qual (defScope st) f cdv A outer s H E).nox (defBody st) t ∧ t { nx := fun _ H' => Q .non H', rt := Q } (start N vs) H) :
    RunsAt P w K mg base A k f fd ps sp := by
  obtain ⟨oc, od, kV, doc, pm, an, cdv, ct, osl, rfl, look, code⟩ := F.ex
  constructor
  intro outer s H args us vs Q E e0 bound vals hsp
  have inS : K.In s.heap := e0.mod.kin.keeps fun b o z => (e0.bs b o z).1
  have noLim : s.heap.NoLimit := e0.mod.nolimit.keeps fun b o z => (e0.bs b o z).1
  refine Att.call_fn inS noLim look code room.depth bound (List.all_eq_true.mpr fun y hy => ?_) (fun s1 entered => ?_) sc.co sc.gen sc.kind
  · rcases sc.par y.1 (List.of_mem_zip hy).1 with z | z
    · rw [z]; rfl
    · rw [z]; rfl
  · obtain ⟨t, walk, at_⟩ := body cdv outer s H vs Q E (room.deeper _) (guards_deeper _ free) hsp
    have I0 : Inv (cxOf CX0 P w K mg base N qual (defScope st) f cdv A outer s H E) [] (start N vs) H s1 := inv_start sc room.hd e0 (len _ _ _ _ hsp) vals entered
    refine wpAny_mono (walk.nox.run [] s1 (start N vs) H _ I0 at_) (fun fl s' done => ?_) fun _ _ z => z
    cases fl with
    | brk => obtain ⟨_, _, _, z⟩ := done; cases z
    | cont => obtain ⟨_, _, _, z⟩ := done; cases z
    | next =>
      obtain ⟨σ', H', J, z⟩ := done
      exact ⟨.non, H', J.os, J.bare, J.base, J.hok, rfl, z⟩
    | ret u =>
      obtain ⟨v, σ', H', J, rel, z⟩ := done
      exact ⟨v, H', J.os, J.bare, J.base, J.hok, rel, z⟩
/-- the head: what the law's def comes to at the caller, where the heap holds the script -/
theorem head_call {mb : Str → Option Value} {k : Nat} {fa a : Addr} {fd : FuncData} {x : Str} {sp : Sp} {s1 : Shared} {vs : List Value} {ns : List Int}
    (inS : K.In s1.heap) (glob : s1.heap.Ns mainGlobals mg) (blt : s1.heap.Ns builtinsNs mb) (boot : ∀ y : Str, y ≠ "__name__" → mb y = bootBuiltins y) (noLim : s1.heap.NoLimit) (noGen : s1.gens = #[])
    (here : s1.heap.get? a = some { cls := .type "list", data := .seq vs.toArray }) (nums : IntsAre vs ns) (short : ns.length ≤ sizeLine)
    (F : ∀ base : Heap, K.In base → base.Ns mainGlobals mg → RunsAt P w K mg base callerA k fa fd [x] sp) (bound : ∀ (s : Shared) (u : Value), BindsTo s fd ⟨[u], []⟩ [(x, u)])
    (hsp : ∀ H : Hp, SqL K H a (ns.map V.int) → sp [.ref a] H (fun v _ => v = .bl true) fun _ _ _ => False) :
    codeAny (model P w) callerA (.call (.ref fa) ⟨[.ref a], []⟩) (fun r s' => r = .ok (.ret (.bool true)) ∧ OldK s1.heap s'.heap ∧ s'.os = s1.os ∧ AllBare s'.gens) s1 := by
  have vals := vals_ints nums
  have len := nums.length
  have from_ : ∀ H : Hp, Only H → SqL K H a (ns.map V.int) → HOk P w H s1.heap → (∀ b u, H b = some u → b = a ∧ K.lookup a = none) →
      codeAny (model P w) callerA (.call (.ref fa) ⟨[.ref a], []⟩) (fun r s' => r = .ok (.ret (.bool true)) ∧ OldK s1.heap s'.heap ∧ s'.os = s1.os ∧ AllBare s'.gens) s1 := by
    intro H only seq ok told
    have dicts : ∀ {b : Addr} {o : Obj} {es : Array DictEntry} {ep : Nat}, s1.heap.get? b = some o → o.data = .dict es ep → H b = none := by
      intro b o es ep e d
      match q : H b with
      | none => rfl
      | some u =>
        have eb := (told b u q).1
        subst eb
        rw [here] at e
        cases e
        cases (show Data.seq vs.toArray _ = Data.dict es ep from d)
    have spaces : ∀ {b : Addr} {m : Str → Option Value}, s1.heap.Ns b m → (hidT s1.heap H).Ns b m := by
      rintro b m ⟨o, es, ep, e, d, rest⟩
      exact ⟨o, es, ep, hidT_get e (dicts e d), d, rest⟩
    have inB : K.In (hidT s1.heap H) := by
      intro b o e
      refine hidT_get (inS b o e) ?_
      match q : H b with
      | none => rfl
      | some u =>
        obtain ⟨eb, no⟩ := told b u q
        subst eb
        rw [no] at e
        cases e
    obtain ⟨mc, lim1, lim2⟩ := noLim
    have e0 : Env0 P w K mg (hidT s1.heap H) callerA [] s1 H := {
      frames := rfl
      mod := ⟨inB, spaces glob, ⟨mb, spaces blt, boot⟩, ⟨mc, spaces lim1, lim2⟩⟩
      bs := fun b o e => of_hidT e
      bsz := Nat.le_of_eq (hidT_size _ _)
      funs := trivial
      frf := fun b hb => nomatch (show b ∈ ([] : List Addr) from hb)
      hok := ok
      bare := .of_eq noGen }
    refine codeAny_mono ((F _ inB (spaces glob)).runs [] s1 H ⟨[.ref a], []⟩ [.ref a] [.ref a] _ _ e0 (bound s1 (.ref a)) (.cons rfl .nil) (hsp H seq)) fun r s' came => ?_
    match r, came with
    | .ok .next, z => exact False.elim z
    | .ok .brk, z => exact False.elim z
    | .ok .cont, z => exact False.elim z
    | .error e, z => exact False.elim z
    | .ok (.ret u), ⟨v, H', os, bare, un, ok', rel, q⟩ =>
      obtain rfl : v = .bl true := q
      obtain rfl : u = Value.bool true := rel
      refine ⟨rfl, OldK.of_keep fun b o e => ?_, os, bare⟩
      rcases only b with none_ | ⟨ob, xs, frz⟩
      · exact un.keep b o e none_ (fun z => nomatch (show b ∈ ([] : List Addr) from z)) (by simp)
      · obtain ⟨was, _⟩ := ok b _ frz
        obtain ⟨is_, _⟩ := ok' b _ (un.frzs b ob _ frz)
        rw [e] at was
        cases was
        exact is_
  match own : K.lookup a with
  | some o =>
    have e := inS a o own
    rw [here] at e
    cases e
    refine from_ (fun _ => none) (fun _ => .inl rfl) (.inr ⟨_, vs.toArray, _, own, rfl, rfl, rfl, ?_, ?_⟩) (fun b u z => ?_) fun b u z => ?_
    · rw [List.size_toArray, len]
      exact short
    · simpa using vals
    · cases (show (none : Option HO) = some u from z)
    · cases (show (none : Option HO) = some u from z)
  | none =>
    have at_ : ∀ {b : Addr} {u : HO}, (fun b : Addr => if b = a then some (HO.frz { cls := .type "list", data := .seq vs.toArray } (.lst (ns.map V.int))) else none) b = some u → b = a ∧ u = HO.frz { cls := .type "list", data := .seq vs.toArray } (.lst (ns.map V.int)) := by
      intro b u z
      dsimp only at z
      split at z
      · next eb => exact ⟨eb, (Option.some.inj z).symm⟩
      · cases z
    refine from_ (fun b : Addr => if b = a then some (HO.frz { cls := .type "list", data := .seq vs.toArray } (.lst (ns.map V.int))) else none) (fun b => ?_) (.inl (.inr ⟨{ cls := .type "list", data := .seq vs.toArray }, if_pos rfl⟩)) (fun b u z => ?_) fun b u z => ⟨(at_ z).1, own⟩
    · by_cases eb : b = a
      · exact .inr ⟨_, _, if_pos eb⟩
      · exact .inl (if_neg eb)
    · obtain ⟨rfl, rfl⟩ := at_ z
      refine ⟨here, ?_, vs, _, vals, here⟩
      rw [List.length_map]
      exact short
end
/-- the goal of the head, from the law's own run -/
theorem walk_at {l : PySem.W.OpenLaw} {n k : Nat} {q : Program} {loose : List Str} {XP : (Str → Option Value) → Heap → Prop} {YP : World → Heap → Prop} {d : DefRec} {K : Params → PySem.W.Frag} {sp : PySem.W.Frag → Sp} {x : Str}
    (most : l.most = some n) (short : n ≤ sizeLine) (plain : d.params.defaults = []) (hY : ∀ (w : World) (h : Heap), YP w h → (K w.params).In h)
    (F : ∀ (w : World) (mg : Str → Option Value) (fa : Addr) (h : Heap), (K w.params).In h → h.Ns mainGlobals mg → mg d.name = some (.ref fa) →
      ∃ fd : FuncData, (∀ (s : Shared) (u : Value), BindsTo s fd ⟨[u], []⟩ [(x, u)]) ∧
        ∀ base : Heap, (K w.params).In base → base.Ns mainGlobals mg → RunsAt l.prog w (K w.params) mg base callerA k fa fd [x] (sp (K w.params)))
    (hsp : ∀ (K : PySem.W.Frag) (H : Hp) (a : Addr) (ns : List Int), ns.length ≤ n → SqL K H a (ns.map V.int) → sp K [.ref a] H (fun v _ => v = .bl true) fun _ _ _ => False) :
    PySem.W.WalkO q loose XP YP l.row.toRowW d [] (fun f vs => PySem.call f vs) := by
  refine Att.attach_call most plain fun w s0 s1 mg mb fa o pm cd doc a vs ns G Y _ _ _ named obj nums few noGen => ?_
  have inS := hY w _ Y
  obtain ⟨fd, bound, runs⟩ := F w mg fa _ inS G.T.g named
  exact head_call inS G.T.g G.T.b G.T.builtins G.T.nolimit noGen obj nums (Nat.le_trans few short) runs bound fun H seq => hsp _ H a ns few seq
end Wk

namespace Wk
open PySem PySem.Spec PyProof.Rows L2
/-! ### the numbers of a table are small -/
structure LBnd (A : Ar) (s : Ens × Nat) : Prop where
  num : s.2 ≤ cnt (someE s.1) A.n
  cs : ∀ p e, s.1 p = some e → ∀ c, c ∈ e.cs → c ≤ A.n
theorem tabs_small {A : Ar} (ok : A.Ok) {E : Nat → Bool} {goal p : Nat} : ∀ c, c ∈ (tabs A E goal p).getD [] → c ≤ A.n := by
  intro c hc
  unfold tabs at hc
  by_cases t : tstay A E goal p = true
  · rw [if_pos t] at hc
    obtain ⟨i, _, rfl⟩ := List.mem_map.mp hc
    show (counted A E (tstay A E goal) goal i p).getD 0 ≤ A.n
    cases ec : counted A E (tstay A E goal) goal i p with
    | none => exact Nat.zero_le _
    | some v => exact Nat.le_of_lt ((cseq_rank ok A.n).1 p v ec)
  · rw [if_neg t] at hc
    cases hc
theorem LBnd.goal {A : Ar} (ok : A.Ok) {s : Ens × Nat} (h : LBnd A s) (goal : Nat) : LBnd A (lgoal A s goal) := by
  by_cases c : anyF A goal s.1 = true
  · have g := lgoal_grow c
    have e : lgoal A s goal = (lstep A s.2 goal s.1, s.2 + 1) := by unfold lgoal; rw [if_pos c]
    rw [e] at g ⊢
    refine ⟨?_, fun p e' he c' hc => ?_⟩
    · have := h.num
      show s.2 + 1 ≤ _
      omega
    · have he : lstep A s.2 goal s.1 p = some e' := he
      unfold lstep at he
      by_cases f : lfresh A goal s.1 p = true
      · rw [if_pos f] at he
        cases he
        exact tabs_small ok c' hc
      · rw [if_neg f] at he
        exact h.cs p e' he c' hc
  · rw [lgoal_same (of_not_true c)]
    exact h
theorem LBnd.run {A : Ar} (ok : A.Ok) {s : Ens × Nat} (h : LBnd A s) : ∀ j, LBnd A (lrun A s j)
  | 0 => h
  | j + 1 => (LBnd.run ok h j).goal ok j
theorem LBnd.seq {A : Ar} (ok : A.Ok) : ∀ k, LBnd A (lseq A k)
  | 0 => ⟨Nat.zero_le _, fun _ _ h => (by cases h)⟩
  | k + 1 => (LBnd.seq ok k).run ok A.wanted
theorem lostM_small {A : Ar} (ok : A.Ok) {p : Nat} {e : En} (h : lostM A p = some e) : e.num ≤ A.n ∧ ∀ c, c ∈ e.cs → c ≤ A.n := by
  have b := LBnd.seq ok A.n
  refine ⟨?_, b.cs p e h⟩
  have h1 := (LInv.seq ok A.n).num p e h
  have h2 := b.num
  have h3 := cnt_le (someE (lseq A A.n).1) A.n
  omega
/-! ### a table as data -/
def dEn : Option En → PyData
  | none => .none
  | some e => .tuple [dN e.num, dN e.goal, dNs e.cs]
def dEns (n : Nat) (L : Ens) : PyData := .tuple ((List.range n).map fun p => dEn (L p))
section
variable {K : PySem.W.Frag} {H : Hp}
theorem OptE.dp {v : V} : ∀ {o : Option En}, OptE H v o → Dp K H v (dEn o)
  | none, h => by
    obtain rfl : v = .non := h
    exact .non
  | some e, h => by
    obtain ⟨p, vc, rfl, hp, hc⟩ := (show EntAt H v e from h)
    exact .tup (SqT.of hp) (.cons (.int _) (.cons (.int _) (.cons hc.dp .nil)))
theorem dp_at {d : Nat → PyData} : ∀ {n k : Nat} {xs : List V}, xs.length = n → (∀ i, i < n → ∃ v, xs[i]? = some v ∧ Dp K H v (d (k + i))) → DpAll K H xs ((List.range' k n).map d)
  | 0, k, xs, hl, _ => by
    obtain rfl := List.eq_nil_of_length_eq_zero hl
    exact .nil
  | n + 1, k, [], hl, _ => by cases hl
  | n + 1, k, x :: xs, hl, h => by
    show DpAll K H (x :: xs) (d k :: (List.range' (k + 1) n).map d)
    obtain ⟨v, hv, dv⟩ := h 0 (by omega)
    cases hv
    refine .cons dv (dp_at (by simpa using hl) fun i hi => ?_)
    obtain ⟨v, hv, dv⟩ := h (i + 1) (by omega)
    exact ⟨v, by simpa using hv, by rw [show k + 1 + i = k + (i + 1) by omega]; exact dv⟩
theorem EnsOk.dp {n : Nat} {L : Ens} {t : Addr} {xs : List V} (h : EnsOk n H L xs) (ht : H t = some (.tup xs)) : Dp K H (.ref t) (dEns n L) := by
  refine .tup (SqT.of ht) ?_
  rw [List.range_eq_range']
  refine dp_at h.1 fun i hi => ?_
  obtain ⟨v, h1, h2⟩ := h.2 i hi
  exact ⟨v, h1, by rw [Nat.zero_add]; exact h2.dp⟩
end
theorem lost_plain {A : Ar} (aok : ArOk A) : PlainD 3 3360 (dEns A.n (lostM A)) := by
  have n120 := aok.n120
  have g8 := aok.g8
  have w8 := aok.w8
  refine PlainD.tuple (k := 2) (b := 27) (n := 120) (fun x hx => ?_) (by rw [List.length_map, List.length_range]; exact n120)
  obtain ⟨p, hp, rfl⟩ := List.mem_map.mp hx
  have hp := List.mem_range.mp hp
  cases e : lostM A p with
  | none => exact PlainD.none.mono (by decide) (by decide)
  | some en =>
    obtain ⟨s1, s2⟩ := lostM_small aok.ok e
    have good := lostM_good aok.ok hp e
    refine PlainD.tuple (k := 1) (b := 8) (n := 3) (fun x hx => ?_) (Nat.le_refl _)
    have hx : x = dN en.num ∨ x = dN en.goal ∨ x = dNs en.cs := by simpa using hx
    rcases hx with rfl | rfl | rfl
    · exact (PlainD.nat (by omega)).mono (by decide) (by decide)
    · exact (PlainD.nat (by have := good.goal; omega)).mono (by decide) (by decide)
    · exact plain_ns (fun c hc => by have := s2 c hc; omega) (by rw [good.len]; exact g8)
theorem places_plain {n : Nat} {f : Nat → Bool} (h : n ≤ 120) : PlainD 1 120 (dNs (places n f)) :=
  plain_ns (places_small h) (Nat.le_trans (List.length_filter_le _ _) (by rw [List.length_range]; exact h))
theorem places_congr {n : Nat} {f g : Nat → Bool} (h : ∀ p, p < n → f p = g p) : places n f = places n g := List.filter_congr fun p hp => h p (List.mem_range.mp hp)
/-! ### the text of nested data -/
def rReprD (K : PySem.W.Frag) : List V → Hp → VK → Prop := fun vs H Q => ∃ (a : Addr) (d : PyData) (k b : Nat), vs = [.ref a] ∧ Dp K H (.ref a) d ∧ PlainD k b d ∧ k ≤ 60 ∧ b ≤ 1000000 ∧ Q (.str d.shown) H
theorem call_reprD {X : Cx} (hg : X.A.guards = some []) (hu : X.A.units + 64 < cLine) : CallR X (.builtin "repr") (rReprD X.K) := by
  intro pins s σ H xs us Q I r h
  obtain ⟨a, d, k, b, rfl, dp, pl, hk, hb, q⟩ := h
  obtain ⟨u, rfl, ru⟩ := vals1 r
  cases (show u = Value.ref a from ru)
  obtain ⟨as, rd⟩ := Dp.reads I d (.ref a) (.ref a) dp rfl
  have dep := pl.dep
  refine PySem.repr_of_reads' rd pl.sh (PyData.noDict_hsm pl.nod) hg (by omega) (fun _ _ e => e) (fun h' u tk hk => ?_) (pl.fits hb)
  exact ⟨.str d.shown, H, I.kept hk, ⟨_, rfl⟩, q⟩
/-! ### law -/
section
variable {P : Program} {w : World} {K : PySem.W.Frag} {mg : Str → Option Value} {base : Heap} {Ch Cf : Addr}
abbrev slaw : Stmt := top 36
abbrev nlaw : List Str := ["_law_script", "_law_arena_here", "_law_kept", "_law_mine", "_law_due", "_law_place_here", "_law_table"]
theorem sclaw : FnScope nlaw ["_law_script"] (defScope slaw) := ⟨rfl, rfl, rfl, by decide +kernel, rfl, by decide +kernel, by decide +kernel⟩
def spLaw (K : PySem.W.Frag) : Sp := fun vs H Q _ => ∃ (a : Addr) (ns : List Int), vs = [.ref a] ∧ SqL K H a (ns.map V.int) ∧ ns.length ≤ 63 ∧ ∀ H', Q (.bl true) H'
theorem runs_law {f : Addr} {fd : FuncData} (F : Fun K "law" "law" slaw f fd) (T : Txt K mg Ch Cf) (d_law_arena : Df P w K mg base 4 "_law_arena" ["_law_script", "_law_most"] (spLArena K))
    (dours : Df P w K mg base 8 "ours" ["arena"] (spOurs false)) (dothers : Df P w K mg base 8 "others" ["arena"] (spOurs true)) (dlost : Df P w K mg base 7 "lost" ["arena"] spLost)
    (d_law_loses : Df P w K mg base 3 "_law_loses" ["_law_arena_here", "_law_table", "_law_mine"] spLoses) : RunsAt P w K mg base callerA 8 f fd ["_law_script"] (spLaw K) := by
  refine runs_by F sclaw ⟨rfl, by decide, by decide⟩ rfl (fun vs H Q E h => ?_) (fun cdv outer s H vs Q E hr hg h => ?_)
  · obtain ⟨a, ns, rfl, _⟩ := h
    rfl
  · obtain ⟨a, ns, rfl, hS, hlen, q⟩ := h
    refine ⟨_, (pss_cons (ps_set (i := 1) sclaw.nd rfl (Or.inl rfl) (pe_callD d_law_arena hr (by rfl) (pa_cons (pv 0) (pa_cons pe_int pa_nil))))
      (pss_cons (ps_set (i := 2) sclaw.nd rfl (Or.inl rfl) (pe_callB (call_reprD hg hr.units) (by rfl) T.repr (by decide +kernel) (pa_cons (pv 1) pa_nil)))
      (pss_cons (ps_set (i := 3) sclaw.nd rfl (Or.inr rfl) (pe_callD dours hr (by rfl) (pa_cons (pv 1) pa_nil)))
      (pss_cons (ps_set (i := 4) sclaw.nd rfl (Or.inl rfl) (pe_callTy call_tupF (by rfl) T.tuple (by decide +kernel) (pa_cons (pe_lc (own := [("_law_place_here", 5)]) (g := (gName 5)) rfl sclaw.nd (pi_range1 (by rfl) T.range (pa_cons (pe_callB call_lenF (by rfl) T.len PySem.boot_len (pa_cons (pe_ix ixT (pv 1) pe_int (fun _ _ => rfl)) pa_nil)) pa_nil)) (blkOk_by (N := nlaw) (sc := (defScope slaw)) (by decide +kernel)) (fun _ _ _ _ _ => (pg_name (i := 5) sclaw.nd rfl (Or.inl rfl))) (fun _ _ _ _ _ => pts_one (pt_cmpR op_notInT (pv 5) (pv 3) (by rfl))) (fun _ _ _ _ _ => (pv 5))) pa_nil)))
      (pss_cons (ps_if (pt_cmpR op_ne (pe_callB (call_reprD hg hr.units) (by rfl) T.repr (by decide +kernel) (pa_cons (pe_callD dothers hr (by rfl) (pa_cons (pv 1) pa_nil)) pa_nil)) (pe_callB (call_reprD hg hr.units) (by rfl) T.repr (by decide +kernel) (pa_cons (pv 4) pa_nil)) (nomark _)) (pss_one (ps_ret pe_bl)) pss_nil)
      (pss_cons (ps_set (i := 6) sclaw.nd rfl (Or.inl rfl) (pe_callD dlost hr (by rfl) (pa_cons (pv 1) pa_nil)))
      (pss_cons (ps_if (pt_not (pt_val (pe_callD d_law_loses hr (by rfl) (pa_cons (pv 1) (pa_cons (pv 6) (pa_cons (pv 3) pa_nil)))))) (pss_one (ps_ret pe_bl)) pss_nil)
      (pss_one (ps_ret (pe_and (pe_cmpR op_eq (pe_callB (call_reprD hg hr.units) (by rfl) T.repr (by decide +kernel) (pa_cons (pe_callD dlost hr (by rfl) (pa_cons (pv 1) pa_nil)) pa_nil)) (pe_callB (call_reprD hg hr.units) (by rfl) T.repr (by decide +kernel) (pa_cons (pv 6) pa_nil)) (nomark _)) (pe_and (pe_cmpR (op_eqD hr.units) (pe_callD dothers hr (by rfl) (pa_cons (pv 1) pa_nil)) (pv 4) (nomark _)) (pe_one (pe_cmpR op_eq (pe_callB (call_reprD hg hr.units) (by rfl) T.repr (by decide +kernel) (pa_cons (pv 1) pa_nil)) (pv 2) (nomark _)))))))))))))), ?_⟩
    refine ⟨_, rfl, a, ns, rfl, hS, hlen, fun H1 av R s1 ia aok => ?_⟩
    have n120 := aok.n120
    have ok := aok.ok
    obtain ⟨ap, m, rfl, hap, ⟨pm, vs, rfl, hpm, pls⟩⟩ := id ia
    have hl : vs.length = R.n := paired_len pls
    have pAr := aok.plain
    refine ⟨_, rfl, ap, dAr R, _, _, rfl, ia.dp, pAr, by decide, by decide, ?_⟩
    refine ⟨_, rfl, .ref ap, R, rfl, ia, aok, fun H2 mi W Rj s2 held hmi => ?_⟩
    have ew : (places R.n fun i => if false = true then !W i else W i) = places R.n W := rfl
    rw [ew] at hmi
    refine ⟨_, rfl, ap, _, 0, _, rfl, rfl, s2 _ _ hap, rfl, pm, vs, rfl, .inr (s2 _ _ hpm), (vs.length : Int), rfl, by omega, by omega, fun D hD => ?_⟩
    rw [Int.toNat_natCast, hl]
    refine lc_rangeF (n := R.n) (fun p => !W p) (show 5 < 7 by decide) hD (small1000 (by omega)) (fun i H3 R' hi s3 k => ?_) (fun H3 s3 hl3 => ?_)
    · refine ⟨_, rfl, _, rfl, mi, _, rfl, s3 _ _ hmi, rfl, flat_nats _, _, rfl, ?_⟩
      rw [in_nats]
      have e : (places R.n W).contains i = W i := contains_filter hi
      rw [e]
      exact k
    refine ⟨D, _, rfl, hl3, fun du hdu => ?_⟩
    have s4 := same_upd (o := HO.tup (((List.range R.n).filter fun p => !W p).map iV)) hdu
    have hdue : upd H3 du (.tup (((List.range R.n).filter fun p => !W p).map iV)) du = some (.tup ((places R.n fun p => !W p).map iV)) := upd_same
    generalize upd H3 du (.tup (((List.range R.n).filter fun p => !W p).map iV)) = H4 at s4 hdue
    have t4 : Same H1 H4 := s2.trans (s3.trans s4)
    refine ⟨_, rfl, .ref ap, R, rfl, ia.keep (.of t4), aok, fun H5 ot W2 Rj2 s5 held2 hot => ?_⟩
    have ew2 : (places R.n fun i => if true = true then !W2 i else W2 i) = places R.n fun p => !W p := places_congr fun p hp => by
      rw [if_pos rfl, held2.uniq ok held p hp]
    rw [ew2] at hot
    have pDue := places_plain (f := fun p => !W p) n120
    refine ⟨ot, _, _, _, rfl, .tup (SqT.of hot) (dp_ns _), pDue, by decide, by decide, ?_⟩
    refine ⟨_, rfl, du, _, _, _, rfl, .tup (SqT.of (s5 _ _ hdue)) (dp_ns _), pDue, by decide, by decide, ?_⟩
    refine ⟨rfl, false, ?_, iteF ?_⟩
    · rw [decide_eq_true rfl]
      rfl
    refine ⟨_, rfl, .ref ap, R, rfl, ia.keep (.of (t4.trans s5)), aok, fun H6 ta xs s6 hta ens => ?_⟩
    have t6 : Same H1 H6 := t4.trans (s5.trans s6)
    refine ⟨_, rfl, _, rfl, _, rfl, .ref ap, ta, mi, R, xs, W, rfl, ia.keep (.of t6), aok, hta, ens, (s3.trans (s4.trans (s5.trans s6))) _ _ hmi, lostM_held ok held, fun H7 s7 => ?_⟩
    refine ⟨true, rfl, iteF ?_⟩
    have t7 := t6.trans s7
    have pTab := lost_plain aok
    refine ⟨_, rfl, .ref ap, R, rfl, ia.keep (.of t7), aok, fun H8 tb ys s8 htb ens2 => ?_⟩
    have t8 := t7.trans s8
    refine ⟨tb, _, _, _, rfl, ens2.dp htb, pTab, by decide, by decide, ?_⟩
    refine ⟨_, rfl, ta, _, _, _, rfl, (ens.keep (.of (s7.trans s8))).dp ((s7.trans s8) _ _ hta), pTab, by decide, by decide, ?_⟩
    refine ⟨rfl, true, congrArg V.bl (decide_eq_true rfl), ?_⟩
    rw [if_pos rfl]
    refine ⟨_, rfl, .ref ap, R, rfl, ia.keep (.of t8), aok, fun H9 o3 W3 Rj3 s9 held3 ho3 => ?_⟩
    have ew3 : (places R.n fun i => if true = true then !W3 i else W3 i) = places R.n fun p => !W p := places_congr fun p hp => by
      rw [if_pos rfl, held3.uniq ok held p hp]
    rw [ew3] at ho3
    have t9 := t8.trans s9
    refine ⟨_, rfl, dNs (places R.n fun p => !W p), dNs (places R.n fun p => !W p), .tup (SqT.of ho3) (dp_ns _), .tup (SqT.of ((s5.trans (s6.trans (s7.trans (s8.trans s9)))) _ _ hdue)) (dp_ns _), pDue.shaped (by decide), pDue.shaped (by decide), true, ?_, ?_⟩
    · unfold dNs
      simp only [PyData.eqv]
      rw [eqv_nats]
    rw [if_pos rfl]
    refine ⟨_, rfl, ap, dAr R, _, _, rfl, (ia.keep (.of t9)).dp, pAr, by decide, by decide, ?_⟩
    refine ⟨_, rfl, rfl, ?_⟩
    rw [decide_eq_true rfl]
    exact q _
end
end Wk

namespace Wk
open PySem PySem.Spec PyProof.Rows L2
/-! ### what the top has written -/
def DefAt (K : PySem.W.Frag) (x : Str) (st : Stmt) : Prop := ∃ f fd, PySem.W.nsIn K mainGlobals x = some (some (.ref f)) ∧ Fun K x x st f fd
def MethAt (K : PySem.W.Frag) (C : Addr) (x qual : Str) (st : Stmt) : Prop := ∃ f fd, Meth K C x f ∧ Fun K x qual st f fd
theorem def_at {K : PySem.W.Frag} {x : Str} {st : Stmt} {f : Addr} {oc : Value} {od an : Option Addr} {sl : Array (Option Value)} {kV dc pm cd ct : Value} (a : PySem.W.nsIn K mainGlobals x = some (some (.ref f)))
    (l : K.lookup f = some ⟨oc, od, .func (PySem.W.fnOf x x (defArgs st) (defBody st) (defScope st) .none kV dc pm an cd ct), sl⟩) (c : PySem.W.codeIn K cd x = true) (k : PySem.W.keepIn K (.ref f) = true) : DefAt K x st := ⟨_, _, a, fun_mk l c k⟩
theorem meth_at {K : PySem.W.Frag} {C : Addr} {x qual : Str} {st : Stmt} {f : Addr} {oc : Value} {od an : Option Addr} {sl : Array (Option Value)} {kV dc pm cd ct : Value} (a : PySem.W.findIn K (.ref C) x = some (some (.ref f))) (i : PySem.W.isFn K (.ref f) = true)
    (l : K.lookup f = some ⟨oc, od, .func (PySem.W.fnOf x qual (defArgs st) (defBody st) (defScope st) .none kV dc pm an cd ct), sl⟩) (c : PySem.W.codeIn K cd qual = true) (k : PySem.W.keepIn K (.ref f) = true) : MethAt K C x qual st := ⟨_, _, ⟨a, i, k⟩, fun_mk l c k⟩
theorem int_at {K : PySem.W.Frag} {x : Str} {n : Int} {t : Tok} (a : PySem.W.nsIn K mainGlobals x = some (some (.int n t))) : ∃ t, PySem.W.nsIn K mainGlobals x = some (some (.int n t)) := ⟨t, a⟩
/-- a class as it is made and asked -/
structure KlsAt (K : PySem.W.Frag) (x : Str) (C : Addr) : Prop where
  at_ : PySem.W.nsIn K mainGlobals x = some (some (.ref C))
  cl : Cls K C
  made : PySem.W.makesIn K C = true
  kc : PySem.W.keepIn K (.ref C) = true
theorem cls_at {K : PySem.W.Frag} {x : Str} {C : Addr} (a : PySem.W.nsIn K mainGlobals x = some (some (.ref C))) (pg : PySem.W.plainGet K C Str.empty = true) (hd : PySem.W.hasDictIn K C = true) (po : PySem.W.plainOver K C = true)
    (sa : PySem.W.findIn K (.ref C) "__setattr__" = some (some (.builtin "object.__setattr__"))) (mk : PySem.W.makesIn K C = true) (kc : PySem.W.keepIn K (.ref C) = true) : KlsAt K x C := ⟨a, ⟨pg, hd, po, sa⟩, mk, kc⟩

theorem bi_d_is_among {K : PySem.W.Frag} {f : Addr} {fd : FuncData} (F : Fun K "is_among" "is_among" sis_among f fd) : Binds K fd ["thing", "least", "most"] [] := F.binds (ps := ["thing", "least", "most"]) fun _ _ _ _ _ _ us hl => match us, hl with | [_, _, _], _ => rfl
theorem bi_d_are_too_many {K : PySem.W.Frag} {f : Addr} {fd : FuncData} (F : Fun K "are_too_many" "are_too_many" sare_too_many f fd) : Binds K fd ["places", "given", "wanted"] [] := F.binds (ps := ["places", "given", "wanted"]) fun _ _ _ _ _ _ us hl => match us, hl with | [_, _, _], _ => rfl
theorem bi_d_are_rising {K : PySem.W.Frag} {f : Addr} {fd : FuncData} (F : Fun K "are_rising" "are_rising" sare_rising f fd) : Binds K fd ["thing", "below"] [] := F.binds (ps := ["thing", "below"]) fun _ _ _ _ _ _ us hl => match us, hl with | [_, _], _ => rfl
theorem bi_d_is_move {K : PySem.W.Frag} {f : Addr} {fd : FuncData} (F : Fun K "is_move" "is_move" sis_move f fd) : Binds K fd ["thing", "places", "given", "wanted"] [] := F.binds (ps := ["thing", "places", "given", "wanted"]) fun _ _ _ _ _ _ us hl => match us, hl with | [_, _, _, _], _ => rfl
theorem bi_d_is_some {K : PySem.W.Frag} {f : Addr} {fd : FuncData} (F : Fun K "is_some" "is_some" sis_some f fd) : Binds K fd ["thing"] [] := F.binds (ps := ["thing"]) fun _ _ _ _ _ _ us hl => match us, hl with | [_], _ => rfl
theorem bi_d_is_place {K : PySem.W.Frag} {f : Addr} {fd : FuncData} (F : Fun K "is_place" "is_place" sis_place f fd) : Binds K fd ["thing", "places", "given", "wanted"] [] := F.binds (ps := ["thing", "places", "given", "wanted"]) fun _ _ _ _ _ _ us hl => match us, hl with | [_, _, _, _], _ => rfl
theorem bi_d_is_arena {K : PySem.W.Frag} {f : Addr} {fd : FuncData} (F : Fun K "is_arena" "is_arena" sis_arena f fd) : Binds K fd ["thing"] [] := F.binds (ps := ["thing"]) fun _ _ _ _ _ _ us hl => match us, hl with | [_], _ => rfl
theorem bi_d_need_arena {K : PySem.W.Frag} {f : Addr} {fd : FuncData} (F : Fun K "need_arena" "need_arena" sneed_arena f fd) : Binds K fd ["thing"] [] := F.binds (ps := ["thing"]) fun _ _ _ _ _ _ us hl => match us, hl with | [_], _ => rfl
theorem bi_m_Hope_does {K : PySem.W.Frag} {f : Addr} {fd : FuncData} (F : Fun K "does" "Hope.does" sHope_does f fd) : Binds K fd ["self", "move", "given", "stays"] [] := F.binds (ps := ["self", "move", "given", "stays"]) fun _ _ _ _ _ _ us hl => match us, hl with | [_, _, _, _], _ => rfl
theorem bi_m_Hope_can {K : PySem.W.Frag} {f : Addr} {fd : FuncData} (F : Fun K "can" "Hope.can" sHope_can f fd) : Binds K fd ["self", "place", "given", "stays"] [] := F.binds (ps := ["self", "place", "given", "stays"]) fun _ _ _ _ _ _ us hl => match us, hl with | [_, _, _, _], _ => rfl
theorem bi_m_Hope_kept_off {K : PySem.W.Frag} {f : Addr} {fd : FuncData} (F : Fun K "kept_off" "Hope.kept_off" sHope_kept_off f fd) : Binds K fd ["self", "given"] [] := F.binds (ps := ["self", "given"]) fun _ _ _ _ _ _ us hl => match us, hl with | [_, _], _ => rfl
theorem bi_m_Hope_step {K : PySem.W.Frag} {f : Addr} {fd : FuncData} (F : Fun K "step" "Hope.step" sHope_step f fd) : Binds K fd ["self", "number", "given"] [] := F.binds (ps := ["self", "number", "given"]) fun _ _ _ _ _ _ us hl => match us, hl with | [_, _, _], _ => rfl
theorem bi_m_Hope_reached {K : PySem.W.Frag} {f : Addr} {fd : FuncData} (F : Fun K "reached" "Hope.reached" sHope_reached f fd) : Binds K fd ["self"] [] := F.binds (ps := ["self"]) fun _ _ _ _ _ _ us hl => match us, hl with | [_], _ => rfl
theorem bi_m_Hope_init {K : PySem.W.Frag} {f : Addr} {fd : FuncData} (F : Fun K "__init__" "Hope.__init__" sHope_init f fd) : Binds K fd ["self", "arena", "goal", "hopes"] [] := F.binds (ps := ["self", "arena", "goal", "hopes"]) fun _ _ _ _ _ _ us hl => match us, hl with | [_, _, _, _], _ => rfl
theorem bi_d_held {K : PySem.W.Frag} {f : Addr} {fd : FuncData} (F : Fun K "held" "held" sheld f fd) : Binds K fd ["arena"] [] := F.binds (ps := ["arena"]) fun _ _ _ _ _ _ us hl => match us, hl with | [_], _ => rfl
theorem bi_d_ours {K : PySem.W.Frag} {f : Addr} {fd : FuncData} (F : Fun K "ours" "ours" sours f fd) : Binds K fd ["arena"] [] := F.binds (ps := ["arena"]) fun _ _ _ _ _ _ us hl => match us, hl with | [_], _ => rfl
theorem bi_d_others {K : PySem.W.Frag} {f : Addr} {fd : FuncData} (F : Fun K "others" "others" sothers f fd) : Binds K fd ["arena"] [] := F.binds (ps := ["arena"]) fun _ _ _ _ _ _ us hl => match us, hl with | [_], _ => rfl
theorem bi_m_Fear_undoes {K : PySem.W.Frag} {f : Addr} {fd : FuncData} (F : Fun K "undoes" "Fear.undoes" sFear_undoes f fd) : Binds K fd ["self", "move", "goal", "given", "stays", "counts"] [] := F.binds (ps := ["self", "move", "goal", "given", "stays", "counts"]) fun _ _ _ _ _ _ us hl => match us, hl with | [_, _, _, _, _, _], _ => rfl
theorem bi_m_Fear_forces {K : PySem.W.Frag} {f : Addr} {fd : FuncData} (F : Fun K "forces" "Fear.forces" sFear_forces f fd) : Binds K fd ["self", "place", "goal", "given", "stays", "counts"] [] := F.binds (ps := ["self", "place", "goal", "given", "stays", "counts"]) fun _ _ _ _ _ _ us hl => match us, hl with | [_, _, _, _, _, _], _ => rfl
theorem bi_m_Fear_counted {K : PySem.W.Frag} {f : Addr} {fd : FuncData} (F : Fun K "counted" "Fear.counted" sFear_counted f fd) : Binds K fd ["self", "goal", "given", "stays"] [] := F.binds (ps := ["self", "goal", "given", "stays"]) fun _ _ _ _ _ _ us hl => match us, hl with | [_, _, _, _], _ => rfl
theorem bi_m_Fear_tables {K : PySem.W.Frag} {f : Addr} {fd : FuncData} (F : Fun K "tables" "Fear.tables" sFear_tables f fd) : Binds K fd ["self", "goal"] [] := F.binds (ps := ["self", "goal"]) fun _ _ _ _ _ _ us hl => match us, hl with | [_, _], _ => rfl
theorem bi_m_Fear_step {K : PySem.W.Frag} {f : Addr} {fd : FuncData} (F : Fun K "step" "Fear.step" sFear_step f fd) : Binds K fd ["self", "number", "goal"] [] := F.binds (ps := ["self", "number", "goal"]) fun _ _ _ _ _ _ us hl => match us, hl with | [_, _, _], _ => rfl
theorem bi_m_Fear_init {K : PySem.W.Frag} {f : Addr} {fd : FuncData} (F : Fun K "__init__" "Fear.__init__" sFear_init f fd) : Binds K fd ["self", "arena"] [] := F.binds (ps := ["self", "arena"]) fun _ _ _ _ _ _ us hl => match us, hl with | [_, _], _ => rfl
theorem bi_d_lost {K : PySem.W.Frag} {f : Addr} {fd : FuncData} (F : Fun K "lost" "lost" slost f fd) : Binds K fd ["arena"] [] := F.binds (ps := ["arena"]) fun _ _ _ _ _ _ us hl => match us, hl with | [_], _ => rfl
theorem bi_d__law_begun {K : PySem.W.Frag} {f : Addr} {fd : FuncData} (F : Fun K "_law_begun" "_law_begun" sLbegun f fd) : Binds K fd ["_law_script", "_law_k"] [] := F.binds (ps := ["_law_script", "_law_k"]) fun _ _ _ _ _ _ us hl => match us, hl with | [_, _], _ => rfl
theorem bi_d__law_take {K : PySem.W.Frag} {f : Addr} {fd : FuncData} (F : Fun K "_law_take" "_law_take" sLtake f fd) : Binds K fd ["_law_draw", "_law_many"] [] := F.binds (ps := ["_law_draw", "_law_many"]) fun _ _ _ _ _ _ us hl => match us, hl with | [_, _], _ => rfl
theorem bi_d__law_move {K : PySem.W.Frag} {f : Addr} {fd : FuncData} (F : Fun K "_law_move" "_law_move" sLmove f fd) : Binds K fd ["_law_draw", "_law_size", "_law_given", "_law_wanted"] [] := F.binds (ps := ["_law_draw", "_law_size", "_law_given", "_law_wanted"]) fun _ _ _ _ _ _ us hl => match us, hl with | [_, _, _, _], _ => rfl
theorem bi_d__law_place {K : PySem.W.Frag} {f : Addr} {fd : FuncData} (F : Fun K "_law_place" "_law_place" sLplace f fd) : Binds K fd ["_law_draw", "_law_size", "_law_given", "_law_wanted", "_law_letters"] [] := F.binds (ps := ["_law_draw", "_law_size", "_law_given", "_law_wanted", "_law_letters"]) fun _ _ _ _ _ _ us hl => match us, hl with | [_, _, _, _, _], _ => rfl
theorem bi_d__law_with {K : PySem.W.Frag} {f : Addr} {fd : FuncData} (F : Fun K "_law_with" "_law_with" sLwith f fd) : Binds K fd ["_law_arena_here", "_law_place_here", "_law_came", "_law_row"] [] := F.binds (ps := ["_law_arena_here", "_law_place_here", "_law_came", "_law_row"]) fun _ _ _ _ _ _ us hl => match us, hl with | [_, _, _, _], _ => rfl
theorem bi_d__law_arena {K : PySem.W.Frag} {f : Addr} {fd : FuncData} (F : Fun K "_law_arena" "_law_arena" sLarena f fd) : Binds K fd ["_law_script", "_law_most"] [] := F.binds (ps := ["_law_script", "_law_most"]) fun _ _ _ _ _ _ us hl => match us, hl with | [_, _], _ => rfl
theorem bi_d__law_is_number {K : PySem.W.Frag} {f : Addr} {fd : FuncData} (F : Fun K "_law_is_number" "_law_is_number" sLis_number f fd) : Binds K fd ["_law_thing"] [] := F.binds (ps := ["_law_thing"]) fun _ _ _ _ _ _ us hl => match us, hl with | [_], _ => rfl
theorem bi_d__law_is_entry {K : PySem.W.Frag} {f : Addr} {fd : FuncData} (F : Fun K "_law_is_entry" "_law_is_entry" sLis_entry f fd) : Binds K fd ["_law_thing", "_law_arena_here"] [] := F.binds (ps := ["_law_thing", "_law_arena_here"]) fun _ _ _ _ _ _ us hl => match us, hl with | [_, _], _ => rfl
theorem bi_d__law_hurts {K : PySem.W.Frag} {f : Addr} {fd : FuncData} (F : Fun K "_law_hurts" "_law_hurts" sLhurts f fd) : Binds K fd ["_law_move_here", "_law_given", "_law_table", "_law_entry"] [] := F.binds (ps := ["_law_move_here", "_law_given", "_law_table", "_law_entry"]) fun _ _ _ _ _ _ us hl => match us, hl with | [_, _, _, _], _ => rfl
theorem bi_d__law_is_forced {K : PySem.W.Frag} {f : Addr} {fd : FuncData} (F : Fun K "_law_is_forced" "_law_is_forced" sLis_forced f fd) : Binds K fd ["_law_arena_here", "_law_place_here", "_law_given", "_law_table"] [] := F.binds (ps := ["_law_arena_here", "_law_place_here", "_law_given", "_law_table"]) fun _ _ _ _ _ _ us hl => match us, hl with | [_, _, _, _], _ => rfl
theorem bi_d__law_loses {K : PySem.W.Frag} {f : Addr} {fd : FuncData} (F : Fun K "_law_loses" "_law_loses" sLloses f fd) : Binds K fd ["_law_arena_here", "_law_table", "_law_mine"] [] := F.binds (ps := ["_law_arena_here", "_law_table", "_law_mine"]) fun _ _ _ _ _ _ us hl => match us, hl with | [_, _, _], _ => rfl
set_option maxHeartbeats 0 in
theorem all_at {l : PySem.W.OpenLaw} {w : World} {K : PySem.W.Frag} {h : Heap} {mg : Str → Option Value} {fa fl Ch Cf : Addr} {oc kV dc pm cd ct : Value} {od an : Option Addr} {sl : Array (Option Value)} (X : K.In h) (G : h.Ns mainGlobals mg) (hfa : mg "law" = some (.ref fa))
    (aH : PySem.W.nsIn K mainGlobals "Hope" = some (some (.ref Ch)))
    (aF : PySem.W.nsIn K mainGlobals "Fear" = some (some (.ref Cf)))
    (cH : KlsAt K "Hope" Ch)
    (cF : KlsAt K "Fear" Cf)
    (n_isinstance : PySem.W.nsIn K mainGlobals "isinstance" = some none)
    (n_int : PySem.W.nsIn K mainGlobals "int" = some none)
    (n_bool : PySem.W.nsIn K mainGlobals "bool" = some none)
    (n_tuple : PySem.W.nsIn K mainGlobals "tuple" = some none)
    (n_list : PySem.W.nsIn K mainGlobals "list" = some none)
    (n_len : PySem.W.nsIn K mainGlobals "len" = some none)
    (n_all : PySem.W.nsIn K mainGlobals "all" = some none)
    (n_any : PySem.W.nsIn K mainGlobals "any" = some none)
    (n_range : PySem.W.nsIn K mainGlobals "range" = some none)
    (n_max : PySem.W.nsIn K mainGlobals "max" = some none)
    (n_min : PySem.W.nsIn K mainGlobals "min" = some none)
    (n_zip : PySem.W.nsIn K mainGlobals "zip" = some none)
    (n_enumerate : PySem.W.nsIn K mainGlobals "enumerate" = some none)
    (n_repr : PySem.W.nsIn K mainGlobals "repr" = some none)
    (k_MOST_PLACES : ∃ t, PySem.W.nsIn K mainGlobals "MOST_PLACES" = some (some (.int 120 t)))
    (k_MOST_GOALS : ∃ t, PySem.W.nsIn K mainGlobals "MOST_GOALS" = some (some (.int 8 t)))
    (k_MOST_LETTERS : ∃ t, PySem.W.nsIn K mainGlobals "MOST_LETTERS" = some (some (.int 8 t)))
    (k_MOST_TIMES : ∃ t, PySem.W.nsIn K mainGlobals "MOST_TIMES" = some (some (.int 200 t)))
    (h_moves : NoAttr K Ch "moves")
    (h_given : NoAttr K Ch "given")
    (h_goal : NoAttr K Ch "goal")
    (h_hopes : NoAttr K Ch "hopes")
    (h_steps : NoAttr K Ch "steps")
    (f_moves : NoAttr K Cf "moves")
    (f_given : NoAttr K Cf "given")
    (f_entries : NoAttr K Cf "entries")
    (d_is_among : DefAt K "is_among" sis_among)
    (d_are_too_many : DefAt K "are_too_many" sare_too_many)
    (d_are_rising : DefAt K "are_rising" sare_rising)
    (d_is_move : DefAt K "is_move" sis_move)
    (d_is_some : DefAt K "is_some" sis_some)
    (d_is_place : DefAt K "is_place" sis_place)
    (d_is_arena : DefAt K "is_arena" sis_arena)
    (d_need_arena : DefAt K "need_arena" sneed_arena)
    (m_Hope_does : MethAt K Ch "does" "Hope.does" sHope_does)
    (m_Hope_can : MethAt K Ch "can" "Hope.can" sHope_can)
    (m_Hope_kept_off : MethAt K Ch "kept_off" "Hope.kept_off" sHope_kept_off)
    (m_Hope_step : MethAt K Ch "step" "Hope.step" sHope_step)
    (m_Hope_reached : MethAt K Ch "reached" "Hope.reached" sHope_reached)
    (m_Hope_init : MethAt K Ch "__init__" "Hope.__init__" sHope_init)
    (d_held : DefAt K "held" sheld)
    (d_ours : DefAt K "ours" sours)
    (d_others : DefAt K "others" sothers)
    (m_Fear_undoes : MethAt K Cf "undoes" "Fear.undoes" sFear_undoes)
    (m_Fear_forces : MethAt K Cf "forces" "Fear.forces" sFear_forces)
    (m_Fear_counted : MethAt K Cf "counted" "Fear.counted" sFear_counted)
    (m_Fear_tables : MethAt K Cf "tables" "Fear.tables" sFear_tables)
    (m_Fear_step : MethAt K Cf "step" "Fear.step" sFear_step)
    (m_Fear_init : MethAt K Cf "__init__" "Fear.__init__" sFear_init)
    (d_lost : DefAt K "lost" slost)
    (d__law_begun : DefAt K "_law_begun" sLbegun)
    (d__law_take : DefAt K "_law_take" sLtake)
    (d__law_move : DefAt K "_law_move" sLmove)
    (d__law_place : DefAt K "_law_place" sLplace)
    (d__law_with : DefAt K "_law_with" sLwith)
    (d__law_arena : DefAt K "_law_arena" sLarena)
    (d__law_is_number : DefAt K "_law_is_number" sLis_number)
    (d__law_is_entry : DefAt K "_law_is_entry" sLis_entry)
    (d__law_hurts : DefAt K "_law_hurts" sLhurts)
    (d__law_is_forced : DefAt K "_law_is_forced" sLis_forced)
    (d__law_loses : DefAt K "_law_loses" sLloses)
    (aL : PySem.W.nsIn K mainGlobals "law" = some (some (.ref fl)))
    (lL : K.lookup fl = some ⟨oc, od, .func (PySem.W.fnOf "law" "law" (defArgs slaw) (defBody slaw) (defScope slaw) .none kV dc pm an cd ct), sl⟩)
    (cL : PySem.W.codeIn K cd "law" = true)
    (kL : PySem.W.keepIn K (.ref fl) = true)
    : ∃ fd : FuncData, (∀ (s : Shared) (v : Value), BindsTo s fd ⟨[v], []⟩ [("_law_script", v)]) ∧ ∀ base : Heap, K.In base → base.Ns mainGlobals mg → RunsAt l.prog w K mg base callerA 8 fa fd ["_law_script"] (spLaw K) := by
  have e := hfa.symm.trans (PySem.W.mg_of X G aL)
  cases e
  have T : Txt K mg Ch Cf := {
    isinstance := PySem.W.mg_none_of X G n_isinstance
    int := PySem.W.mg_none_of X G n_int
    bool := PySem.W.mg_none_of X G n_bool
    tuple := PySem.W.mg_none_of X G n_tuple
    list := PySem.W.mg_none_of X G n_list
    len := PySem.W.mg_none_of X G n_len
    all := PySem.W.mg_none_of X G n_all
    any := PySem.W.mg_none_of X G n_any
    range := PySem.W.mg_none_of X G n_range
    max := PySem.W.mg_none_of X G n_max
    min := PySem.W.mg_none_of X G n_min
    zip := PySem.W.mg_none_of X G n_zip
    enumerate := PySem.W.mg_none_of X G n_enumerate
    repr := PySem.W.mg_none_of X G n_repr
    cMOST_PLACES := k_MOST_PLACES.imp fun _ z => PySem.W.mg_of X G z
    cMOST_GOALS := k_MOST_GOALS.imp fun _ z => PySem.W.mg_of X G z
    cMOST_LETTERS := k_MOST_LETTERS.imp fun _ z => PySem.W.mg_of X G z
    cMOST_TIMES := k_MOST_TIMES.imp fun _ z => PySem.W.mg_of X G z
    clHope := cH.cl
    clFear := cF.cl
    hMoves := h_moves
    hGiven := h_given
    hGoal := h_goal
    hHopes := h_hopes
    hSteps := h_steps
    fMoves := f_moves
    fGiven := f_given
    fEntries := f_entries
  }
  obtain ⟨fd_is_among, fdd_is_among, ad_is_among, Fd_is_among⟩ := d_is_among
  have bd_is_among := bi_d_is_among Fd_is_among
  obtain ⟨fd_are_too_many, fdd_are_too_many, ad_are_too_many, Fd_are_too_many⟩ := d_are_too_many
  have bd_are_too_many := bi_d_are_too_many Fd_are_too_many
  obtain ⟨fd_are_rising, fdd_are_rising, ad_are_rising, Fd_are_rising⟩ := d_are_rising
  have bd_are_rising := bi_d_are_rising Fd_are_rising
  obtain ⟨fd_is_move, fdd_is_move, ad_is_move, Fd_is_move⟩ := d_is_move
  have bd_is_move := bi_d_is_move Fd_is_move
  obtain ⟨fd_is_some, fdd_is_some, ad_is_some, Fd_is_some⟩ := d_is_some
  have bd_is_some := bi_d_is_some Fd_is_some
  obtain ⟨fd_is_place, fdd_is_place, ad_is_place, Fd_is_place⟩ := d_is_place
  have bd_is_place := bi_d_is_place Fd_is_place
  obtain ⟨fd_is_arena, fdd_is_arena, ad_is_arena, Fd_is_arena⟩ := d_is_arena
  have bd_is_arena := bi_d_is_arena Fd_is_arena
  obtain ⟨fd_need_arena, fdd_need_arena, ad_need_arena, Fd_need_arena⟩ := d_need_arena
  have bd_need_arena := bi_d_need_arena Fd_need_arena
  obtain ⟨fm_Hope_does, fdm_Hope_does, am_Hope_does, Fm_Hope_does⟩ := m_Hope_does
  have bm_Hope_does := bi_m_Hope_does Fm_Hope_does
  obtain ⟨fm_Hope_can, fdm_Hope_can, am_Hope_can, Fm_Hope_can⟩ := m_Hope_can
  have bm_Hope_can := bi_m_Hope_can Fm_Hope_can
  obtain ⟨fm_Hope_kept_off, fdm_Hope_kept_off, am_Hope_kept_off, Fm_Hope_kept_off⟩ := m_Hope_kept_off
  have bm_Hope_kept_off := bi_m_Hope_kept_off Fm_Hope_kept_off
  obtain ⟨fm_Hope_step, fdm_Hope_step, am_Hope_step, Fm_Hope_step⟩ := m_Hope_step
  have bm_Hope_step := bi_m_Hope_step Fm_Hope_step
  obtain ⟨fm_Hope_reached, fdm_Hope_reached, am_Hope_reached, Fm_Hope_reached⟩ := m_Hope_reached
  have bm_Hope_reached := bi_m_Hope_reached Fm_Hope_reached
  obtain ⟨fm_Hope_init, fdm_Hope_init, am_Hope_init, Fm_Hope_init⟩ := m_Hope_init
  have bm_Hope_init := bi_m_Hope_init Fm_Hope_init
  obtain ⟨fd_held, fdd_held, ad_held, Fd_held⟩ := d_held
  have bd_held := bi_d_held Fd_held
  obtain ⟨fd_ours, fdd_ours, ad_ours, Fd_ours⟩ := d_ours
  have bd_ours := bi_d_ours Fd_ours
  obtain ⟨fd_others, fdd_others, ad_others, Fd_others⟩ := d_others
  have bd_others := bi_d_others Fd_others
  obtain ⟨fm_Fear_undoes, fdm_Fear_undoes, am_Fear_undoes, Fm_Fear_undoes⟩ := m_Fear_undoes
  have bm_Fear_undoes := bi_m_Fear_undoes Fm_Fear_undoes
  obtain ⟨fm_Fear_forces, fdm_Fear_forces, am_Fear_forces, Fm_Fear_forces⟩ := m_Fear_forces
  have bm_Fear_forces := bi_m_Fear_forces Fm_Fear_forces
  obtain ⟨fm_Fear_counted, fdm_Fear_counted, am_Fear_counted, Fm_Fear_counted⟩ := m_Fear_counted
  have bm_Fear_counted := bi_m_Fear_counted Fm_Fear_counted
  obtain ⟨fm_Fear_tables, fdm_Fear_tables, am_Fear_tables, Fm_Fear_tables⟩ := m_Fear_tables
  have bm_Fear_tables := bi_m_Fear_tables Fm_Fear_tables
  obtain ⟨fm_Fear_step, fdm_Fear_step, am_Fear_step, Fm_Fear_step⟩ := m_Fear_step
  have bm_Fear_step := bi_m_Fear_step Fm_Fear_step
  obtain ⟨fm_Fear_init, fdm_Fear_init, am_Fear_init, Fm_Fear_init⟩ := m_Fear_init
  have bm_Fear_init := bi_m_Fear_init Fm_Fear_init
  obtain ⟨fd_lost, fdd_lost, ad_lost, Fd_lost⟩ := d_lost
  have bd_lost := bi_d_lost Fd_lost
  obtain ⟨fd__law_begun, fdd__law_begun, ad__law_begun, Fd__law_begun⟩ := d__law_begun
  have bd__law_begun := bi_d__law_begun Fd__law_begun
  obtain ⟨fd__law_take, fdd__law_take, ad__law_take, Fd__law_take⟩ := d__law_take
  have bd__law_take := bi_d__law_take Fd__law_take
  obtain ⟨fd__law_move, fdd__law_move, ad__law_move, Fd__law_move⟩ := d__law_move
  have bd__law_move := bi_d__law_move Fd__law_move
  obtain ⟨fd__law_place, fdd__law_place, ad__law_place, Fd__law_place⟩ := d__law_place
  have bd__law_place := bi_d__law_place Fd__law_place
  obtain ⟨fd__law_with, fdd__law_with, ad__law_with, Fd__law_with⟩ := d__law_with
  have bd__law_with := bi_d__law_with Fd__law_with
  obtain ⟨fd__law_arena, fdd__law_arena, ad__law_arena, Fd__law_arena⟩ := d__law_arena
  have bd__law_arena := bi_d__law_arena Fd__law_arena
  obtain ⟨fd__law_is_number, fdd__law_is_number, ad__law_is_number, Fd__law_is_number⟩ := d__law_is_number
  have bd__law_is_number := bi_d__law_is_number Fd__law_is_number
  obtain ⟨fd__law_is_entry, fdd__law_is_entry, ad__law_is_entry, Fd__law_is_entry⟩ := d__law_is_entry
  have bd__law_is_entry := bi_d__law_is_entry Fd__law_is_entry
  obtain ⟨fd__law_hurts, fdd__law_hurts, ad__law_hurts, Fd__law_hurts⟩ := d__law_hurts
  have bd__law_hurts := bi_d__law_hurts Fd__law_hurts
  obtain ⟨fd__law_is_forced, fdd__law_is_forced, ad__law_is_forced, Fd__law_is_forced⟩ := d__law_is_forced
  have bd__law_is_forced := bi_d__law_is_forced Fd__law_is_forced
  obtain ⟨fd__law_loses, fdd__law_loses, ad__law_loses, Fd__law_loses⟩ := d__law_loses
  have bd__law_loses := bi_d__law_loses Fd__law_loses
  refine ⟨PySem.W.fnOf "law" "law" (defArgs slaw) (defBody slaw) (defScope slaw) .none kV dc pm an cd ct, fun s v => .of_eq rfl, fun base _ _ => ?_⟩
  have dis_among : Df l.prog w K mg base 1 "is_among" ["thing", "least", "most"] spAmong := ⟨_, _, ok_among Fd_is_among T , PySem.W.mg_of X G ad_is_among, Fd_is_among.kp, bd_is_among⟩
  have dare_too_many : Df l.prog w K mg base 1 "are_too_many" ["places", "given", "wanted"] spTooMany := ⟨_, _, ok_toomany Fd_are_too_many T , PySem.W.mg_of X G ad_are_too_many, Fd_are_too_many.kp, bd_are_too_many⟩
  have dare_rising : Df l.prog w K mg base 2 "are_rising" ["thing", "below"] spRising := ⟨_, _, ok_rising Fd_are_rising T dis_among, PySem.W.mg_of X G ad_are_rising, Fd_are_rising.kp, bd_are_rising⟩
  have dis_move : Df l.prog w K mg base 3 "is_move" ["thing", "places", "given", "wanted"] spMove := ⟨_, _, ok_move Fd_is_move T dis_among dare_rising, PySem.W.mg_of X G ad_is_move, Fd_is_move.kp, bd_is_move⟩
  have dis_some : Df l.prog w K mg base 1 "is_some" ["thing"] spSome := ⟨_, _, ok_some Fd_is_some T , PySem.W.mg_of X G ad_is_some, Fd_is_some.kp, bd_is_some⟩
  have dis_place : Df l.prog w K mg base 4 "is_place" ["thing", "places", "given", "wanted"] spPlace := ⟨_, _, ok_place Fd_is_place T dis_some dis_move, PySem.W.mg_of X G ad_is_place, Fd_is_place.kp, bd_is_place⟩
  have dis_arena : Df l.prog w K mg base 5 "is_arena" ["thing"] spArena := ⟨_, _, ok_arena Fd_is_arena T dis_among dare_too_many dis_place, PySem.W.mg_of X G ad_is_arena, Fd_is_arena.kp, bd_is_arena⟩
  have dneed_arena : Df l.prog w K mg base 6 "need_arena" ["thing"] spNeed := ⟨_, _, ok_need Fd_need_arena T dis_arena, PySem.W.mg_of X G ad_need_arena, Fd_need_arena.kp, bd_need_arena⟩
  have dHope_does : Md l.prog w K mg base Ch 1 "does" ["self", "move", "given", "stays"] (spDoes Ch) := ⟨_, _, ok_does Fm_Hope_does T , am_Hope_does, bm_Hope_does⟩
  have dHope_can : Md l.prog w K mg base Ch 2 "can" ["self", "place", "given", "stays"] (spCan Ch) := ⟨_, _, ok_can Fm_Hope_can T dHope_does, am_Hope_can, bm_Hope_can⟩
  have dHope_kept_off : Md l.prog w K mg base Ch 3 "kept_off" ["self", "given"] (spKept Ch) := ⟨_, _, ok_kept Fm_Hope_kept_off T dHope_can, am_Hope_kept_off, bm_Hope_kept_off⟩
  have dHope_step : Md l.prog w K mg base Ch 4 "step" ["self", "number", "given"] (spHStep Ch) := ⟨_, _, ok_hstep Fm_Hope_step T dHope_kept_off, am_Hope_step, bm_Hope_step⟩
  have dHope_reached : Md l.prog w K mg base Ch 5 "reached" ["self"] (spReached Ch) := ⟨_, _, ok_reached Fm_Hope_reached T dHope_step, am_Hope_reached, bm_Hope_reached⟩
  have dHope : Kd l.prog w K mg base Ch 1 "Hope" ["self", "arena", "goal", "hopes"] (spHInit Ch) := ⟨_, _, ⟨cH.made, am_Hope_init.at_, am_Hope_init.fn, cH.kc⟩, ok_hinit Fm_Hope_init T , PySem.W.mg_of X G cH.at_, bm_Hope_init⟩
  have dheld : Df l.prog w K mg base 7 "held" ["arena"] spHeld := ⟨_, _, ok_held Fd_held T dneed_arena dHope dHope_reached, PySem.W.mg_of X G ad_held, Fd_held.kp, bd_held⟩
  have dours : Df l.prog w K mg base 8 "ours" ["arena"] (spOurs false) := ⟨_, _, ok_ours Fd_ours T dheld, PySem.W.mg_of X G ad_ours, Fd_ours.kp, bd_ours⟩
  have dothers : Df l.prog w K mg base 8 "others" ["arena"] (spOurs true) := ⟨_, _, ok_others Fd_others T dheld, PySem.W.mg_of X G ad_others, Fd_others.kp, bd_others⟩
  have dFear_undoes : Md l.prog w K mg base Cf 1 "undoes" ["self", "move", "goal", "given", "stays", "counts"] (spUndoes Cf) := ⟨_, _, ok_undoes Fm_Fear_undoes T , am_Fear_undoes, bm_Fear_undoes⟩
  have dFear_forces : Md l.prog w K mg base Cf 2 "forces" ["self", "place", "goal", "given", "stays", "counts"] (spForces Cf) := ⟨_, _, ok_forces Fm_Fear_forces T dFear_undoes, am_Fear_forces, bm_Fear_forces⟩
  have dFear_counted : Md l.prog w K mg base Cf 3 "counted" ["self", "goal", "given", "stays"] (spCounted Cf) := ⟨_, _, ok_counted Fm_Fear_counted T dFear_forces, am_Fear_counted, bm_Fear_counted⟩
  have dFear_tables : Md l.prog w K mg base Cf 4 "tables" ["self", "goal"] (spTables Cf) := ⟨_, _, ok_tables Fm_Fear_tables T dFear_counted, am_Fear_tables, bm_Fear_tables⟩
  have dFear_step : Md l.prog w K mg base Cf 5 "step" ["self", "number", "goal"] (spFStep Cf) := ⟨_, _, ok_fstep Fm_Fear_step T dFear_tables, am_Fear_step, bm_Fear_step⟩
  have dFear : Kd l.prog w K mg base Cf 1 "Fear" ["self", "arena"] (spFInit Cf) := ⟨_, _, ⟨cF.made, am_Fear_init.at_, am_Fear_init.fn, cF.kc⟩, ok_finit Fm_Fear_init T , PySem.W.mg_of X G cF.at_, bm_Fear_init⟩
  have dlost : Df l.prog w K mg base 7 "lost" ["arena"] spLost := ⟨_, _, ok_lost Fd_lost T dneed_arena dFear dFear_step, PySem.W.mg_of X G ad_lost, Fd_lost.kp, bd_lost⟩
  have d_law_begun : Df l.prog w K mg base 1 "_law_begun" ["_law_script", "_law_k"] (spBegun K) := ⟨_, _, ok_begun Fd__law_begun T , PySem.W.mg_of X G ad__law_begun, Fd__law_begun.kp, bd__law_begun⟩
  have d_law_take : Df l.prog w K mg base 1 "_law_take" ["_law_draw", "_law_many"] spTake := ⟨_, _, ok_take Fd__law_take T , PySem.W.mg_of X G ad__law_take, Fd__law_take.kp, bd__law_take⟩
  have d_law_move : Df l.prog w K mg base 2 "_law_move" ["_law_draw", "_law_size", "_law_given", "_law_wanted"] spLMove := ⟨_, _, ok_lmove Fd__law_move T d_law_take, PySem.W.mg_of X G ad__law_move, Fd__law_move.kp, bd__law_move⟩
  have d_law_place : Df l.prog w K mg base 3 "_law_place" ["_law_draw", "_law_size", "_law_given", "_law_wanted", "_law_letters"] spLPlace := ⟨_, _, ok_lplace Fd__law_place T d_law_take d_law_move, PySem.W.mg_of X G ad__law_place, Fd__law_place.kp, bd__law_place⟩
  have d_law_with : Df l.prog w K mg base 1 "_law_with" ["_law_arena_here", "_law_place_here", "_law_came", "_law_row"] spWith := ⟨_, _, ok_with Fd__law_with T , PySem.W.mg_of X G ad__law_with, Fd__law_with.kp, bd__law_with⟩
  have d_law_arena : Df l.prog w K mg base 4 "_law_arena" ["_law_script", "_law_most"] (spLArena K) := ⟨_, _, ok_larena Fd__law_arena T d_law_begun d_law_take d_law_move d_law_place d_law_with, PySem.W.mg_of X G ad__law_arena, Fd__law_arena.kp, bd__law_arena⟩
  have d_law_is_number : Df l.prog w K mg base 1 "_law_is_number" ["_law_thing"] spNumber := ⟨_, _, ok_number Fd__law_is_number T , PySem.W.mg_of X G ad__law_is_number, Fd__law_is_number.kp, bd__law_is_number⟩
  have d_law_is_entry : Df l.prog w K mg base 2 "_law_is_entry" ["_law_thing", "_law_arena_here"] spEntry := ⟨_, _, ok_entry Fd__law_is_entry T d_law_is_number, PySem.W.mg_of X G ad__law_is_entry, Fd__law_is_entry.kp, bd__law_is_entry⟩
  have d_law_hurts : Df l.prog w K mg base 1 "_law_hurts" ["_law_move_here", "_law_given", "_law_table", "_law_entry"] spHurts := ⟨_, _, ok_hurts Fd__law_hurts T , PySem.W.mg_of X G ad__law_hurts, Fd__law_hurts.kp, bd__law_hurts⟩
  have d_law_is_forced : Df l.prog w K mg base 2 "_law_is_forced" ["_law_arena_here", "_law_place_here", "_law_given", "_law_table"] spForced := ⟨_, _, ok_forced Fd__law_is_forced T d_law_hurts, PySem.W.mg_of X G ad__law_is_forced, Fd__law_is_forced.kp, bd__law_is_forced⟩
  have d_law_loses : Df l.prog w K mg base 3 "_law_loses" ["_law_arena_here", "_law_table", "_law_mine"] spLoses := ⟨_, _, ok_loses Fd__law_loses T d_law_is_entry d_law_is_forced, PySem.W.mg_of X G ad__law_loses, Fd__law_loses.kp, bd__law_loses⟩
  exact runs_law (fun_mk (st := slaw) lL cL kL) T d_law_arena dours dothers dlost d_law_loses
theorem walk {l : PySem.W.OpenLaw} {q : Program} {loose : List Str} {XP : (Str → Option Value) → Heap → Prop} {YP : World → Heap → Prop} {d : DefRec} {K : Params → PySem.W.Frag} (hn : l.most = some 63) (hdf : d.params.defaults = [])
    (hY : ∀ (w : World) (h : Heap), YP w h → (K w.params).In h)
    (F : ∀ (w : World) (mg : Str → Option Value) (fa : Addr) (h : Heap), (K w.params).In h → h.Ns mainGlobals mg → mg d.name = some (.ref fa) →
      ∃ fd : FuncData, (∀ (s : Shared) (u : Value), BindsTo s fd ⟨[u], []⟩ [("_law_script", u)]) ∧ ∀ base : Heap, (K w.params).In base → base.Ns mainGlobals mg → RunsAt l.prog w (K w.params) mg base callerA 8 fa fd ["_law_script"] (spLaw (K w.params))) :
    PySem.W.WalkO q loose XP YP l.row.toRowW d [] (fun f vs => PySem.call f vs) :=
  walk_at (n := 63) (k := 8) (x := "_law_script") (sp := spLaw) hn (by decide) hdf hY F (fun _ _ a ns hl hS => ⟨a, ns, rfl, hS, hl, fun _ => rfl⟩)
end Wk

open PySem PySem.W PyProof.Rows in
set_option maxRecDepth 100000 in
set_option maxHeartbeats 0 in
theorem PySem.Challenge.cw_wishkeep_k35_whole_lost_shows_holds : PySem.Challenge.rw_wishkeep_k35_whole_lost_shows.Holds := by
  w_on; o_law; k_head; (case hw => w_witness2)
  k_fill
  refine Wk.walk (l := PySem.Challenge.rw_wishkeep_k35_whole_lost_shows) rfl rfl (fun w h Y => PySem.W.kIn_of Y) ?F
  case F =>
    intro w mg fa h KX G hmg
    refine' Wk.all_at KX G hmg ?aH ?aF ?cH ?cF ?n_isinstance ?n_int ?n_bool ?n_tuple ?n_list ?n_len ?n_all ?n_any ?n_range ?n_max ?n_min ?n_zip ?n_enumerate ?n_repr ?k_MOST_PLACES ?k_MOST_GOALS ?k_MOST_LETTERS ?k_MOST_TIMES ?h_moves ?h_given ?h_goal ?h_hopes ?h_steps ?f_moves ?f_given ?f_entries ?d_is_among ?d_are_too_many ?d_are_rising ?d_is_move ?d_is_some ?d_is_place ?d_is_arena ?d_need_arena ?m_Hope_does ?m_Hope_can ?m_Hope_kept_off ?m_Hope_step ?m_Hope_reached ?m_Hope_init ?d_held ?d_ours ?d_others ?m_Fear_undoes ?m_Fear_forces ?m_Fear_counted ?m_Fear_tables ?m_Fear_step ?m_Fear_init ?d_lost ?d__law_begun ?d__law_take ?d__law_move ?d__law_place ?d__law_with ?d__law_arena ?d__law_is_number ?d__law_is_entry ?d__law_hurts ?d__law_is_forced ?d__law_loses ?aL ?lL ?cL ?kL
    case aH => k_is
    case aF => k_is
    case cH => refine' Wk.cls_at ?a ?pg ?hd ?po ?sa ?mk ?kc; (case a => k_is); (case pg => k_is); (case hd => k_is); (case po => k_is); (case sa => k_is); (case mk => k_is); (case kc => k_is)
    case cF => refine' Wk.cls_at ?a ?pg ?hd ?po ?sa ?mk ?kc; (case a => k_is); (case pg => k_is); (case hd => k_is); (case po => k_is); (case sa => k_is); (case mk => k_is); (case kc => k_is)
    case n_isinstance => k_is
    case n_int => k_is
    case n_bool => k_is
    case n_tuple => k_is
    case n_list => k_is
    case n_len => k_is
    case n_all => k_is
    case n_any => k_is
    case n_range => k_is
    case n_max => k_is
    case n_min => k_is
    case n_zip => k_is
    case n_enumerate => k_is
    case n_repr => k_is
    case k_MOST_PLACES => refine' Wk.int_at ?a; (case a => k_is)
    case k_MOST_GOALS => refine' Wk.int_at ?a; (case a => k_is)
    case k_MOST_LETTERS => refine' Wk.int_at ?a; (case a => k_is)
    case k_MOST_TIMES => refine' Wk.int_at ?a; (case a => k_is)
    case h_moves => unfold L2.NoAttr; k_is
    case h_given => unfold L2.NoAttr; k_is
    case h_goal => unfold L2.NoAttr; k_is
    case h_hopes => unfold L2.NoAttr; k_is
    case h_steps => unfold L2.NoAttr; k_is
    case f_moves => unfold L2.NoAttr; k_is
    case f_given => unfold L2.NoAttr; k_is
    case f_entries => unfold L2.NoAttr; k_is
    case d_is_among => refine' Wk.def_at ?a ?l ?c ?k; (case a => k_is); (case l => k_is); (case c => k_is); (case k => k_is)
    case d_are_too_many => refine' Wk.def_at ?a ?l ?c ?k; (case a => k_is); (case l => k_is); (case c => k_is); (case k => k_is)
    case d_are_rising => refine' Wk.def_at ?a ?l ?c ?k; (case a => k_is); (case l => k_is); (case c => k_is); (case k => k_is)
    case d_is_move => refine' Wk.def_at ?a ?l ?c ?k; (case a => k_is); (case l => k_is); (case c => k_is); (case k => k_is)
    case d_is_some => refine' Wk.def_at ?a ?l ?c ?k; (case a => k_is); (case l => k_is); (case c => k_is); (case k => k_is)
    case d_is_place => refine' Wk.def_at ?a ?l ?c ?k; (case a => k_is); (case l => k_is); (case c => k_is); (case k => k_is)
    case d_is_arena => refine' Wk.def_at ?a ?l ?c ?k; (case a => k_is); (case l => k_is); (case c => k_is); (case k => k_is)
    case d_need_arena => refine' Wk.def_at ?a ?l ?c ?k; (case a => k_is); (case l => k_is); (case c => k_is); (case k => k_is)
    case m_Hope_does => refine' Wk.meth_at ?a ?i ?l ?c ?k; (case a => k_is); (case i => k_is); (case l => k_is); (case c => k_is); (case k => k_is)
    case m_Hope_can => refine' Wk.meth_at ?a ?i ?l ?c ?k; (case a => k_is); (case i => k_is); (case l => k_is); (case c => k_is); (case k => k_is)
    case m_Hope_kept_off => refine' Wk.meth_at ?a ?i ?l ?c ?k; (case a => k_is); (case i => k_is); (case l => k_is); (case c => k_is); (case k => k_is)
    case m_Hope_step => refine' Wk.meth_at ?a ?i ?l ?c ?k; (case a => k_is); (case i => k_is); (case l => k_is); (case c => k_is); (case k => k_is)
    case m_Hope_reached => refine' Wk.meth_at ?a ?i ?l ?c ?k; (case a => k_is); (case i => k_is); (case l => k_is); (case c => k_is); (case k => k_is)
    case m_Hope_init => refine' Wk.meth_at ?a ?i ?l ?c ?k; (case a => k_is); (case i => k_is); (case l => k_is); (case c => k_is); (case k => k_is)
    case d_held => refine' Wk.def_at ?a ?l ?c ?k; (case a => k_is); (case l => k_is); (case c => k_is); (case k => k_is)
    case d_ours => refine' Wk.def_at ?a ?l ?c ?k; (case a => k_is); (case l => k_is); (case c => k_is); (case k => k_is)
    case d_others => refine' Wk.def_at ?a ?l ?c ?k; (case a => k_is); (case l => k_is); (case c => k_is); (case k => k_is)
    case m_Fear_undoes => refine' Wk.meth_at ?a ?i ?l ?c ?k; (case a => k_is); (case i => k_is); (case l => k_is); (case c => k_is); (case k => k_is)
    case m_Fear_forces => refine' Wk.meth_at ?a ?i ?l ?c ?k; (case a => k_is); (case i => k_is); (case l => k_is); (case c => k_is); (case k => k_is)
    case m_Fear_counted => refine' Wk.meth_at ?a ?i ?l ?c ?k; (case a => k_is); (case i => k_is); (case l => k_is); (case c => k_is); (case k => k_is)
    case m_Fear_tables => refine' Wk.meth_at ?a ?i ?l ?c ?k; (case a => k_is); (case i => k_is); (case l => k_is); (case c => k_is); (case k => k_is)
    case m_Fear_step => refine' Wk.meth_at ?a ?i ?l ?c ?k; (case a => k_is); (case i => k_is); (case l => k_is); (case c => k_is); (case k => k_is)
    case m_Fear_init => refine' Wk.meth_at ?a ?i ?l ?c ?k; (case a => k_is); (case i => k_is); (case l => k_is); (case c => k_is); (case k => k_is)
    case d_lost => refine' Wk.def_at ?a ?l ?c ?k; (case a => k_is); (case l => k_is); (case c => k_is); (case k => k_is)
    case d__law_begun => refine' Wk.def_at ?a ?l ?c ?k; (case a => k_is); (case l => k_is); (case c => k_is); (case k => k_is)
    case d__law_take => refine' Wk.def_at ?a ?l ?c ?k; (case a => k_is); (case l => k_is); (case c => k_is); (case k => k_is)
    case d__law_move => refine' Wk.def_at ?a ?l ?c ?k; (case a => k_is); (case l => k_is); (case c => k_is); (case k => k_is)
    case d__law_place => refine' Wk.def_at ?a ?l ?c ?k; (case a => k_is); (case l => k_is); (case c => k_is); (case k => k_is)
    case d__law_with => refine' Wk.def_at ?a ?l ?c ?k; (case a => k_is); (case l => k_is); (case c => k_is); (case k => k_is)
    case d__law_arena => refine' Wk.def_at ?a ?l ?c ?k; (case a => k_is); (case l => k_is); (case c => k_is); (case k => k_is)
    case d__law_is_number => refine' Wk.def_at ?a ?l ?c ?k; (case a => k_is); (case l => k_is); (case c => k_is); (case k => k_is)
    case d__law_is_entry => refine' Wk.def_at ?a ?l ?c ?k; (case a => k_is); (case l => k_is); (case c => k_is); (case k => k_is)
    case d__law_hurts => refine' Wk.def_at ?a ?l ?c ?k; (case a => k_is); (case l => k_is); (case c => k_is); (case k => k_is)
    case d__law_is_forced => refine' Wk.def_at ?a ?l ?c ?k; (case a => k_is); (case l => k_is); (case c => k_is); (case k => k_is)
    case d__law_loses => refine' Wk.def_at ?a ?l ?c ?k; (case a => k_is); (case l => k_is); (case c => k_is); (case k => k_is)
    case aL => k_is
    case lL => k_is
    case cL => k_is
    case kL => k_is
