import PyProof.Rows.All
import Wide.All
import OpenK.AllK
import Wide.FinOn
import HandS.ForMost
import HandS.Walk
import HandS.SortRule
import HandS.SortInts
import HandS.SortKw
import HandS.TupAny
import HandS.Deep
import HandS.SetFor
import HandS.Strs
import HandS.Conv
import HandS.Zip
import HandS.Style
import HandS.Flt
import HandS.NestedK
import HandS.HeadWalk
import HandS.HeadHook3
import HandS.Head2
import PySem.Challenge.RW_nochaingains_k61_whole_best_for_the_ends
import HandS.Head0
import HandS.Head1
import HandS.HeadEnd
import HandS.HeadHook1
import HandS.HeadHook2
import HandS.HeadHook4
import KE.GoesEnum
import KE.GoesMore
import HandS.Iter
import KE.KDictZip
import HandS.TupSets
import KE.KIndexOf
import HandS.Text
import KE.KxIndex
set_option Elab.async false
set_option linter.all false
set_option maxRecDepth 100000
/-! M1: markets with fully substitutable choices along chains: settled stands and networks at rest. -/
namespace Nc

/-- a market: contracts C, houses F; U tells which contracts there are -/
structure Mkt (C F : Type) where
  U : C → Prop
  s : C → F
  b : C → F
  ch : F → (C → Prop) → C → Prop
  rank : F → Nat
  asc : ∀ c, U c → rank (s c) < rank (b c)
  top : Nat
  bd : ∀ c, U c → rank (b c) < top
  sub : ∀ f Y c, ch f Y c → Y c ∧ U c ∧ (s c = f ∨ b c = f)
  irc : ∀ f Y Z, (∀ c, Z c → Y c) → (∀ c, ch f Y c → Z c) → ∀ c, ch f Z c ↔ ch f Y c
  fsb : ∀ f Y Y' c, (∀ d, U d → b d = f → Y' d → Y d) → (∀ d, U d → s d = f → Y d → Y' d) → b c = f → Y' c → ch f Y c → ch f Y' c
  fss : ∀ f Y Y' c, (∀ d, U d → s d = f → Y' d → Y d) → (∀ d, U d → b d = f → Y d → Y' d) → s c = f → Y' c → ch f Y c → ch f Y' c

namespace Mkt
variable {C F : Type} (M : Mkt C F)

theorem ne_sb {c : C} (h : M.U c) : M.s c ≠ M.b c := fun e => by
  have := M.asc c h
  rw [e] at this
  exact Nat.lt_irrefl _ this

/-- own contracts -/
def own (f : F) (c : C) : Prop := M.U c ∧ (M.s c = f ∨ M.b c = f)

/-- only own contracts matter -/
theorem ch_own {f : F} {Y Z : C → Prop} (h : ∀ c, M.own f c → (Y c ↔ Z c)) (c : C) : M.ch f Y c ↔ M.ch f Z c := by
  have e1 := M.irc f Y (fun c => Y c ∧ M.own f c) (fun c h => h.1) (fun c h => ⟨(M.sub f Y c h).1, (M.sub f Y c h).2⟩)
  have e2 := M.irc f Z (fun c => Y c ∧ M.own f c) (fun c h' => (h c h'.2).mp h'.1) (fun c h' => ⟨(h c (M.sub f Z c h').2).mpr (M.sub f Z c h').1, (M.sub f Z c h').2⟩)
  exact (e1 c).symm.trans (e2 c)

/-- what is offered to f at the stand (O, A) -/
def off (O A : C → Prop) (f : F) (c : C) : Prop := (M.b c = f ∧ O c) ∨ (M.s c = f ∧ A c)

def nextO (O A : C → Prop) (c : C) : Prop := ¬ A c ∨ M.ch (M.s c) (M.off O A (M.s c)) c
def nextA (O A : C → Prop) (c : C) : Prop := ¬ O c ∨ M.ch (M.b c) (M.off O A (M.b c)) c

def Settled (O A : C → Prop) : Prop := ∀ c, M.U c → (O c ↔ M.nextO O A c) ∧ (A c ↔ M.nextA O A c)

/-- (O, A) is at most (O', A') -/
def Le (O A O' A' : C → Prop) : Prop := ∀ c, M.U c → (O c → O' c) ∧ (A' c → A c)

theorem next_mono {O A O' A' : C → Prop} (h : M.Le O A O' A') : M.Le (M.nextO O A) (M.nextA O A) (M.nextO O' A') (M.nextA O' A') := by
  intro c hc
  have hne := M.ne_sb hc
  constructor
  · intro h1
    rcases h1 with h1 | h1
    · exact Or.inl fun z => h1 ((h c hc).2 z)
    · by_cases ha : A' c
      · refine Or.inr (M.fss _ _ _ _ ?_ ?_ rfl (Or.inr ⟨rfl, ha⟩) h1)
        · intro d hd e hy
          rcases hy with ⟨e2, _⟩ | ⟨_, hy⟩
          · exact absurd (e.trans e2.symm) (M.ne_sb hd)
          · exact Or.inr ⟨e, (h d hd).2 hy⟩
        · intro d hd e hy
          rcases hy with ⟨_, hy⟩ | ⟨e2, _⟩
          · exact Or.inl ⟨e, (h d hd).1 hy⟩
          · exact absurd (e2.trans e.symm) (M.ne_sb hd)
      · exact Or.inl ha
  · intro h1
    rcases h1 with h1 | h1
    · exact Or.inl fun z => h1 ((h c hc).1 z)
    · by_cases ho : O c
      · refine Or.inr (M.fsb _ _ _ _ ?_ ?_ rfl (Or.inl ⟨rfl, ho⟩) h1)
        · intro d hd e hy
          rcases hy with ⟨_, hy⟩ | ⟨e2, _⟩
          · exact Or.inl ⟨e, (h d hd).1 hy⟩
          · exact absurd (e2.trans e.symm) (M.ne_sb hd)
        · intro d hd e hy
          rcases hy with ⟨e2, _⟩ | ⟨_, hy⟩
          · exact absurd (e.trans e2.symm) (M.ne_sb hd)
          · exact Or.inr ⟨e, (h d hd).2 hy⟩
      · exact Or.inl ho

/-- at rest -/
def Kept (N : C → Prop) : Prop := ∀ f c, M.own f c → (N c → M.ch f N c)
def Gains (N L : C → Prop) : Prop := (∃ c, L c) ∧ (∀ c, L c → M.U c ∧ ¬ N c) ∧ ∀ f c, M.own f c → L c → M.ch f (fun d => N d ∨ L d) c
def Rest (N : C → Prop) : Prop := M.Kept N ∧ ∀ L, ¬ M.Gains N L

section
variable {M}
variable {O A : C → Prop}
/-- at a settled stand each house chooses its part of the network -/
theorem Settled.choice (h : M.Settled O A) (f : F) (c : C) : M.ch f (M.off O A f) c ↔ (M.own f c ∧ O c ∧ A c) := by
  constructor
  · intro hc
    obtain ⟨h1, h2, h3⟩ := M.sub _ _ _ hc
    refine ⟨⟨h2, h3⟩, ?_⟩
    rcases h1 with ⟨e, ho⟩ | ⟨e, ha⟩
    · refine ⟨ho, (h c h2).2.mpr (Or.inr ?_)⟩
      rw [e]; exact hc
    · refine ⟨(h c h2).1.mpr (Or.inr ?_), ha⟩
      rw [e]; exact hc
  · rintro ⟨⟨hu, e⟩, ho, ha⟩
    rcases e with e | e
    · rcases (h c hu).1.mp ho with z | z
      · exact absurd ha z
      · rw [e] at z; exact z
    · rcases (h c hu).2.mp ha with z | z
      · exact absurd ho z
      · rw [e] at z; exact z

theorem Settled.kept (h : M.Settled O A) : M.Kept (fun c => O c ∧ A c) := by
  intro f c ho hn
  -- cut to own contracts
  have e := M.irc f (M.off O A f) (fun c => M.own f c ∧ O c ∧ A c) ?_ ?_ c
  · have hch : M.ch f (fun c => M.own f c ∧ O c ∧ A c) c := e.mpr ((h.choice f c).mpr ⟨ho, hn⟩)
    exact (M.ch_own (f := f) (fun d hd => ⟨fun z => z.2, fun z => ⟨hd, z⟩⟩) c).mp hch
  · rintro d ⟨⟨_, e⟩, h1, h2⟩
    rcases e with e | e
    · exact Or.inr ⟨e, h2⟩
    · exact Or.inl ⟨e, h1⟩
  · intro d hd
    exact (h.choice f d).mp hd

/-- a set of f's contracts between the network's and the offered ones: f chooses the network's -/
theorem Settled.between (h : M.Settled O A) {f : F} {Z : C → Prop} (h1 : ∀ c, M.own f c → Z c → M.off O A f c) (h2 : ∀ c, M.own f c → O c → A c → Z c) (c : C) (hc : M.ch f Z c) : O c ∧ A c := by
  have e := M.irc f (M.off O A f) (fun c => M.own f c ∧ Z c) (fun d hd => h1 d hd.1 hd.2) (fun d hd => by
    obtain ⟨a, b, c⟩ := (h.choice f d).mp hd
    exact ⟨a, h2 d a b c⟩) c
  have e2 := M.ch_own (f := f) (Y := Z) (Z := fun c => M.own f c ∧ Z c) (fun d hd => ⟨fun z => ⟨hd, z⟩, fun z => z.2⟩) c
  exact ((h.choice f c).mp (e.mp (e2.mp hc))).2

theorem Settled.covers (h : M.Settled O A) {c : C} (hc : M.U c) (ho : ¬ O c) : A c := (h c hc).2.mpr (Or.inl ho)

/-- of a lot that gains, no contract is asked of its seller -/
theorem Settled.notAsked (h : M.Settled O A) {L : C → Prop} (g : M.Gains (fun c => O c ∧ A c) L) : ∀ (n : Nat) (c : C), M.rank (M.s c) < n → L c → ¬ A c := by
  intro n
  induction n with
  | zero => intro c hn; exact absurd hn (Nat.not_lt_zero _)
  | succ n ih =>
    intro c hn hl ha
    obtain ⟨_, g1, g2⟩ := g
    obtain ⟨hu, hnn⟩ := g1 c hl
    have hch := g2 (M.s c) c ⟨hu, Or.inl rfl⟩ hl
    -- leave out the sells of the lot that are not asked
    have h1 : M.ch (M.s c) (fun d => (O d ∧ A d) ∨ (L d ∧ (M.b d = M.s c ∨ A d))) c := by
      refine M.fss _ _ _ _ ?_ ?_ rfl (Or.inr ⟨hl, Or.inr ha⟩) hch
      · intro d hd e hy
        rcases hy with hy | hy
        · exact Or.inl hy
        · exact Or.inr hy.1
      · intro d hd e hy
        rcases hy with hy | hy
        · exact Or.inl hy
        · exact Or.inr ⟨hy, Or.inl e⟩
    refine hnn (h.between (f := M.s c) ?_ ?_ c h1)
    · rintro d ⟨hd, e⟩ hy
      rcases hy with ⟨y1, y2⟩ | ⟨y1, y2⟩
      · rcases e with e | e
        · exact Or.inr ⟨e, y2⟩
        · exact Or.inl ⟨e, y1⟩
      · rcases e with e | e
        · rcases y2 with y2 | y2
          · exact absurd (e.trans y2.symm) (M.ne_sb hd)
          · exact Or.inr ⟨e, y2⟩
        · -- a buy of the lot: its seller stands above
          refine Or.inl ⟨e, ?_⟩
          have hr : M.rank (M.s d) < n := by
            have := M.asc d hd
            rw [e] at this
            omega
          have na := ih d hr y1
          cases Classical.em (O d) with
          | inl z => exact z
          | inr z => exact absurd (h.covers hd z) na
    · intro d _ y1 y2
      exact Or.inl ⟨y1, y2⟩

theorem Settled.rest (h : M.Settled O A) : M.Rest (fun c => O c ∧ A c) := by
  refine ⟨h.kept, fun L g => ?_⟩
  have na : ∀ c, L c → ¬ A c := fun c hl => h.notAsked g _ c (Nat.lt_succ_self _) hl
  obtain ⟨⟨c, hl⟩, g1, g2⟩ := g
  obtain ⟨hu, hnn⟩ := g1 c hl
  -- climb down to a house that sells nothing in the lot: by the rank of the buyer
  have down : ∀ (n : Nat) (c : C), L c → (∀ d, L d → M.rank (M.b d) < M.rank (M.b c) + n) → False := by
    intro n
    induction n with
    | zero =>
      intro c hc hall
      exact absurd (hall c hc) (by omega)
    | succ n ih =>
      intro c hc hall
      by_cases hex : ∃ d, L d ∧ M.s d = M.b c
      · obtain ⟨d, hd, e⟩ := hex
        refine ih d hd fun x hx => ?_
        have h1 := hall x hx
        have h2 := M.asc d (g1 d hd).1
        rw [e] at h2
        omega
      · obtain ⟨hu, hnn⟩ := g1 c hc
        have hch := g2 (M.b c) c ⟨hu, Or.inr rfl⟩ hc
        refine hnn (h.between (f := M.b c) ?_ ?_ c hch)
        · rintro d ⟨hd, e⟩ hy
          rcases hy with ⟨y1, y2⟩ | y
          · rcases e with e | e
            · exact Or.inr ⟨e, y2⟩
            · exact Or.inl ⟨e, y1⟩
          · rcases e with e | e
            · exact absurd ⟨d, y, e⟩ hex
            · refine Or.inl ⟨e, ?_⟩
              cases Classical.em (O d) with
              | inl z => exact z
              | inr z => exact absurd (h.covers hd z) (na d y)
        · intro d _ y1 y2
          exact Or.inl ⟨y1, y2⟩
  exact down M.top c hl fun d hd => by
    have := M.bd d (g1 d hd).1
    omega
end

/-! ### a network at rest has a settled stand -/
section
variable {M}
variable {N : C → Prop}
/-- the told offers, by fuel -/
def told (M : Mkt C F) (N : C → Prop) : Nat → C → Prop
  | 0, x => N x
  | k + 1, x => N x ∨ M.ch (M.s x) (fun y => (M.b y = M.s x ∧ told M N k y) ∨ (M.s y = M.s x ∧ N y) ∨ y = x) x
theorem told_stable (N : C → Prop) : ∀ (k j : Nat) (x : C), M.U x → M.rank (M.s x) < k → M.rank (M.s x) < j → (M.told N k x ↔ M.told N j x)
  | 0, _, _, _, h, _ => absurd h (Nat.not_lt_zero _)
  | _ + 1, 0, _, _, _, h => absurd h (Nat.not_lt_zero _)
  | k + 1, j + 1, x, hx, h1, h2 => by
    have e : ∀ c, M.own (M.s x) c → (((M.b c = M.s x ∧ M.told N k c) ∨ (M.s c = M.s x ∧ N c) ∨ c = x) ↔ ((M.b c = M.s x ∧ M.told N j c) ∨ (M.s c = M.s x ∧ N c) ∨ c = x)) := by
      intro c hc
      by_cases hb : M.b c = M.s x
      · have hr := M.asc c hc.1
        rw [hb] at hr
        have := told_stable N k j c hc.1 (by omega) (by omega)
        simp only [hb, true_and, this]
      · simp only [hb, false_and]
    show (N x ∨ _) ↔ (N x ∨ _)
    rw [M.ch_own e x]
/-- the told offers -/
def offers (M : Mkt C F) (N : C → Prop) (x : C) : Prop := M.told N (M.rank (M.s x) + 1) x
theorem offers_eq (x : C) (hx : M.U x) : M.offers N x ↔ N x ∨ M.ch (M.s x) (fun y => (M.b y = M.s x ∧ M.offers N y) ∨ (M.s y = M.s x ∧ N y) ∨ y = x) x := by
  have e : ∀ c, M.own (M.s x) c → (((M.b c = M.s x ∧ M.told N (M.rank (M.s x)) c) ∨ (M.s c = M.s x ∧ N c) ∨ c = x) ↔ ((M.b c = M.s x ∧ M.offers N c) ∨ (M.s c = M.s x ∧ N c) ∨ c = x)) := by
    intro c hc
    by_cases hb : M.b c = M.s x
    · have hr := M.asc c hc.1
      rw [hb] at hr
      have := told_stable N (M.rank (M.s x)) (M.rank (M.s c) + 1) c hc.1 (by omega) (by omega)
      unfold offers
      simp only [hb, true_and, this]
    · simp only [hb, false_and]
  show (N x ∨ _) ↔ (N x ∨ _)
  rw [M.ch_own e x]

/-- a lot that ends at x: all houses but x's buyer take their part of it -/
structure Up (M : Mkt C F) (N : C → Prop) (x : C) (L : C → Prop) : Prop where
  has : L x
  new : ∀ c, L c → M.U c ∧ ¬ N c
  take : ∀ f c, f ≠ M.b x → M.own f c → L c → M.ch f (fun d => N d ∨ L d) c
  only : ∀ c, L c → (M.s c = M.b x ∨ M.b c = M.b x) → c = x
  low : ∀ c, L c → M.rank (M.b c) ≤ M.rank (M.b x)

theorem Up.ends {x : C} {L : C → Prop} (u : M.Up N x L) (h : M.ch (M.b x) (fun d => N d ∨ d = x) x) : M.Gains N L := by
  refine ⟨⟨x, u.has⟩, u.new, fun f c ho hl => ?_⟩
  by_cases hf : f = M.b x
  · subst hf
    have := u.only c hl ho.2
    subst this
    refine (M.ch_own (f := M.b c) ?_ c).mp h
    intro d hd
    constructor
    · rintro (z | z)
      · exact Or.inl z
      · rw [z]; exact Or.inr hl
    · rintro (z | z)
      · exact Or.inl z
      · exact Or.inr (u.only d z hd.2)
  · exact u.take f c hf ho hl

/-- from among the offers, added to what is without x, one brings x: finitely many are needed. The buys are given by a list -/
theorem bring (hfin : ∃ l : List C, ∀ c, M.U c → c ∈ l) (g : F) (x : C) (hx : M.U x) (hs : M.s x = g) (O : C → Prop) (h0 : ¬ M.ch g (fun y => N y ∨ y = x) x)
    (h1 : M.ch g (fun y => (M.b y = g ∧ (N y ∨ O y)) ∨ (M.s y = g ∧ N y) ∨ y = x) x) :
    ∃ y, M.U y ∧ M.b y = g ∧ O y ∧ ¬ N y ∧ (M.ch g (fun d => N d ∨ d = x ∨ d = y) y) := by
  obtain ⟨l, hl⟩ := hfin
  -- Z l: the network, x and the offers of l
  have key : ∀ l : List C, M.ch g (fun y => N y ∨ y = x ∨ (y ∈ l ∧ M.U y ∧ M.b y = g ∧ O y)) x → ∃ y, M.U y ∧ M.b y = g ∧ O y ∧ ¬ N y ∧ (M.ch g (fun d => N d ∨ d = x ∨ d = y) y) := by
    intro l
    induction l with
    | nil =>
      intro h
      exact absurd ((M.ch_own (f := g) (fun c _ => by simp) x).mp h) h0
    | cons y l ih =>
      intro h
      by_cases hy : M.ch g (fun d => N d ∨ d = x ∨ (d ∈ l ∧ M.U d ∧ M.b d = g ∧ O d)) x
      · exact ih hy
      · -- y brings x
        have hch : M.ch g (fun d => N d ∨ d = x ∨ (d ∈ y :: l ∧ M.U d ∧ M.b d = g ∧ O d)) y := by
          refine Classical.byContradiction fun hn => hy ?_
          refine (M.irc g (fun d => N d ∨ d = x ∨ (d ∈ y :: l ∧ M.U d ∧ M.b d = g ∧ O d)) _ ?_ ?_ x).mpr h
          · rintro c (z | z | ⟨z1, z2⟩)
            · exact Or.inl z
            · exact Or.inr (Or.inl z)
            · exact Or.inr (Or.inr ⟨List.mem_cons_of_mem _ z1, z2⟩)
          · intro c hc
            rcases (M.sub _ _ _ hc).1 with z | z | ⟨z1, z2⟩
            · exact Or.inl z
            · exact Or.inr (Or.inl z)
            · rcases List.mem_cons.mp z1 with e | e
              · subst e
                exact absurd hc hn
              · exact Or.inr (Or.inr ⟨e, z2⟩)
        have hyN : ¬ N y := fun z => hy ((M.ch_own (f := g) (fun c _ => by
          constructor
          · rintro (a | a | ⟨a1, a2⟩)
            · exact Or.inl a
            · exact Or.inr (Or.inl a)
            · rcases List.mem_cons.mp a1 with e | e
              · exact Or.inl (e ▸ z)
              · exact Or.inr (Or.inr ⟨e, a2⟩)
          · rintro (a | a | ⟨a1, a2⟩)
            · exact Or.inl a
            · exact Or.inr (Or.inl a)
            · exact Or.inr (Or.inr ⟨List.mem_cons_of_mem _ a1, a2⟩)) x).mp h)
        have hsub := M.sub _ _ _ hch
        have hyU := hsub.2.1
        have hyx : y ≠ x := by
          rintro rfl
          refine hy ((M.ch_own (f := g) (fun c _ => ?_) y).mp h)
          constructor
          · rintro (a | a | ⟨a1, a2⟩)
            · exact Or.inl a
            · exact Or.inr (Or.inl a)
            · rcases List.mem_cons.mp a1 with e | e
              · exact Or.inr (Or.inl e)
              · exact Or.inr (Or.inr ⟨e, a2⟩)
          · rintro (a | a | ⟨a1, a2⟩)
            · exact Or.inl a
            · exact Or.inr (Or.inl a)
            · exact Or.inr (Or.inr ⟨List.mem_cons_of_mem _ a1, a2⟩)
        obtain ⟨hyb, hyO⟩ : M.b y = g ∧ O y := by
          rcases hsub.1 with z | z | ⟨_, _, z2, z3⟩
          · exact absurd z hyN
          · exact absurd z hyx
          · exact ⟨z2, z3⟩
        refine ⟨y, hyU, hyb, hyO, hyN, ?_⟩
        refine M.fsb g _ _ y ?_ ?_ hyb (Or.inr (Or.inr rfl)) hch
        · rintro d _ _ (z | z | z)
          · exact Or.inl z
          · exact Or.inr (Or.inl z)
          · exact Or.inr (Or.inr ⟨z ▸ List.mem_cons_self, z ▸ hyU, z ▸ hyb, z ▸ hyO⟩)
        · rintro d hd e (z | z | ⟨_, _, z, _⟩)
          · exact Or.inl z
          · exact Or.inr (Or.inl z)
          · exact absurd (e.trans z.symm) (M.ne_sb hd)
  refine key l ?_
  refine (M.ch_own (f := g) (fun c hc => ?_) x).mp h1
  constructor
  · rintro (⟨a, b | b⟩ | ⟨a, b⟩ | a)
    · exact Or.inl b
    · exact Or.inr (Or.inr ⟨hl c hc.1, hc.1, a, b⟩)
    · exact Or.inl b
    · exact Or.inr (Or.inl a)
  · rintro (a | a | ⟨_, _, a, b⟩)
    · rcases hc.2 with e | e
      · exact Or.inr (Or.inl ⟨e, a⟩)
      · exact Or.inl ⟨e, Or.inl a⟩
    · exact Or.inr (Or.inr a)
    · exact Or.inl ⟨a, Or.inr b⟩

/-- an offer outside the network is the end of a chain from above, or a lot gains -/
theorem climbs (hfin : ∃ l : List C, ∀ c, M.U c → c ∈ l) : ∀ (n : Nat) (x : C), M.rank (M.s x) < n → M.U x → M.offers N x → ¬ N x → (∃ L, M.Gains N L) ∨ ∃ L, M.Up N x L := by
  intro n
  induction n with
  | zero => intro x h; exact absurd h (Nat.not_lt_zero _)
  | succ n ih =>
    intro x hr hx hO hN
    have hch : M.ch (M.s x) (fun y => (M.b y = M.s x ∧ M.offers N y) ∨ (M.s y = M.s x ∧ N y) ∨ y = x) x := by
      rcases (offers_eq x hx).mp hO with z | z
      · exact absurd z hN
      · exact z
    by_cases h0 : M.ch (M.s x) (fun y => N y ∨ y = x) x
    · -- x alone
      refine Or.inr ⟨fun c => c = x, rfl, ?_, ?_, fun c e _ => e, fun c e => e ▸ Nat.le_refl _⟩
      · rintro c rfl
        exact ⟨hx, hN⟩
      · rintro f c hf ⟨_, ho⟩ rfl
        rcases ho with e | e
        · subst e; exact h0
        · exact absurd e.symm hf
    · have hch' : M.ch (M.s x) (fun y => (M.b y = M.s x ∧ (N y ∨ M.offers N y)) ∨ (M.s y = M.s x ∧ N y) ∨ y = x) x := by
        refine (M.ch_own (f := M.s x) (fun c hc => ?_) x).mp hch
        constructor
        · rintro (⟨a, b⟩ | a)
          · exact Or.inl ⟨a, Or.inr b⟩
          · exact Or.inr a
        · rintro (⟨a, b | b⟩ | a)
          · exact Or.inl ⟨a, (offers_eq c hc.1).mpr (Or.inl b)⟩
          · exact Or.inl ⟨a, b⟩
          · exact Or.inr a
      obtain ⟨y, hy, hyb, hyO, hyN, hyc⟩ := bring hfin (M.s x) x hx rfl (M.offers N) h0 hch'
      have hry : M.rank (M.s y) < n := by
        have := M.asc y hy
        rw [hyb] at this
        omega
      have hxy : x ≠ y := by
        rintro rfl
        exact M.ne_sb hx hyb.symm
      rcases ih y hry hy hyO hyN with g | ⟨L, u⟩
      · exact Or.inl g
      · by_cases hx2 : M.ch (M.s x) (fun d => N d ∨ d = x ∨ d = y) x
        · -- the chain goes on to x
          have hrx := M.asc x hx
          refine Or.inr ⟨fun c => L c ∨ c = x, Or.inr rfl, ?_, ?_, ?_, ?_⟩
          · rintro c (z | rfl)
            · exact u.new c z
            · exact ⟨hx, hN⟩
          · intro f c hf ho hl
            by_cases hfs : f = M.s x
            · subst hfs
              have e : ∀ d, M.own (M.s x) d → ((N d ∨ d = x ∨ d = y) ↔ (N d ∨ L d ∨ d = x)) := by
                intro d hd
                constructor
                · rintro (z | z | z)
                  · exact Or.inl z
                  · exact Or.inr (Or.inr z)
                  · exact Or.inr (Or.inl (z ▸ u.has))
                · rintro (z | z | z)
                  · exact Or.inl z
                  · refine Or.inr (Or.inr (u.only d z ?_))
                    rw [hyb]; exact hd.2
                  · exact Or.inr (Or.inl z)
              refine (M.ch_own e c).mp ?_
              rcases hl with z | rfl
              · have hcy : c = y := u.only c z (by rw [hyb]; exact ho.2)
                rw [hcy]; exact hyc
              · exact hx2
            · have hcx : c ≠ x := by
                rintro rfl
                rcases ho.2 with e | e
                · exact hfs e.symm
                · exact hf e.symm
              have hlc : L c := hl.resolve_right hcx
              have := u.take f c (by rw [hyb]; exact hfs) ho hlc
              refine (M.ch_own (f := f) (fun d hd => ?_) c).mp this
              constructor
              · rintro (z | z)
                · exact Or.inl z
                · exact Or.inr (Or.inl z)
              · rintro (z | z | rfl)
                · exact Or.inl z
                · exact Or.inr z
                · rcases hd.2 with e | e
                  · exact absurd e.symm hfs
                  · exact absurd e.symm hf
          · rintro c (z | rfl) e
            · have h1 := u.low c z
              have h2 := M.asc c (u.new c z).1
              rw [hyb] at h1
              rcases e with e | e
              · rw [e] at h2; omega
              · rw [e] at h1; omega
            · rfl
          · rintro c (z | rfl)
            · have h1 := u.low c z
              rw [hyb] at h1
              omega
            · exact Nat.le_refl _
        · -- y is taken alone: a lot gains
          refine Or.inl ⟨L, u.ends ?_⟩
          rw [hyb]
          refine (M.irc (M.s x) (fun d => N d ∨ d = x ∨ d = y) (fun d => N d ∨ d = y) ?_ ?_ y).mpr hyc
          · rintro c (z | z)
            · exact Or.inl z
            · exact Or.inr (Or.inr z)
          · intro c hc
            rcases (M.sub _ _ _ hc).1 with z | z | z
            · exact Or.inl z
            · subst z; exact absurd hc hx2
            · exact Or.inr z

theorem Rest.settled (hfin : ∃ l : List C, ∀ c, M.U c → c ∈ l) (h : M.Rest N) : M.Settled (M.offers N) (fun c => N c ∨ ¬ M.offers N c) := by
  have hNO : ∀ c, M.U c → N c → M.offers N c := fun c hc hn => (offers_eq c hc).mpr (Or.inl hn)
  -- what each house chooses
  have main : ∀ f c, M.ch f (M.off (M.offers N) (fun c => N c ∨ ¬ M.offers N c) f) c → N c := by
    intro f
    -- no sell outside the network
    have noSell : ∀ c, M.s c = f → M.ch f (M.off (M.offers N) (fun c => N c ∨ ¬ M.offers N c) f) c → N c := by
      intro c hs hc
      have hu := (M.sub _ _ _ hc).2.1
      have hoff := (M.sub _ _ _ hc).1
      refine Classical.byContradiction fun hn => ?_
      have hno : ¬ M.offers N c := by
        rcases hoff with ⟨e, _⟩ | ⟨_, z | z⟩
        · exact absurd (hs.trans e.symm) (M.ne_sb hu)
        · exact absurd z hn
        · exact z
      refine hno ((offers_eq c hu).mpr (Or.inr ?_))
      rw [hs]
      refine M.fss f _ _ c ?_ ?_ hs (Or.inr (Or.inr rfl)) hc
      · rintro d hd e (⟨z, _⟩ | ⟨_, z⟩ | rfl)
        · exact absurd (e.trans z.symm) (M.ne_sb hd)
        · exact Or.inr ⟨e, Or.inl z⟩
        · exact Or.inr ⟨hs, Or.inr hno⟩
      · rintro d hd e (⟨_, z⟩ | ⟨z, _⟩)
        · exact Or.inl ⟨e, z⟩
        · exact absurd (z.trans e.symm) (M.ne_sb hd)
    intro c hc
    have hu := (M.sub _ _ _ hc).2.1
    rcases (M.sub _ _ _ hc).2.2 with e | e
    · exact noSell c e hc
    · refine Classical.byContradiction fun hn => ?_
      have hO : M.offers N c := by
        rcases (M.sub _ _ _ hc).1 with ⟨_, z⟩ | ⟨z, _⟩
        · exact z
        · exact absurd (z.trans e.symm) (M.ne_sb hu)
      -- leave out the sells outside
      have h1 := (M.irc f (M.off (M.offers N) (fun c => N c ∨ ¬ M.offers N c) f) (fun d => (M.b d = f ∧ M.offers N d) ∨ (M.s d = f ∧ N d)) ?_ ?_ c).mpr hc
      · -- x alone is taken by the buyer
        have h2 : M.ch (M.b c) (fun d => N d ∨ d = c) c := by
          rw [e]
          have h3 : M.ch f (fun d => M.U d ∧ (N d ∨ d = c)) c := by
            refine M.fsb f _ _ c ?_ ?_ e ⟨hu, Or.inr rfl⟩ h1
            · rintro d hd e2 ⟨_, z | rfl⟩
              · exact Or.inl ⟨e2, hNO d hd z⟩
              · exact Or.inl ⟨e2, hO⟩
            · rintro d hd e2 (⟨z, _⟩ | ⟨_, z⟩)
              · exact absurd (e2.trans z.symm) (M.ne_sb hd)
              · exact ⟨hd, Or.inl z⟩
          exact (M.ch_own (f := f) (fun d hd => ⟨fun z => z.2, fun z => ⟨hd.1, z⟩⟩) c).mp h3
        rcases climbs hfin _ c (Nat.lt_succ_self _) hu hO hn with ⟨L, g⟩ | ⟨L, u⟩
        · exact h.2 L g
        · exact h.2 L (u.ends h2)
      · rintro d (⟨z1, z2⟩ | ⟨z1, z2⟩)
        · exact Or.inl ⟨z1, z2⟩
        · exact Or.inr ⟨z1, Or.inl z2⟩
      · intro d hd
        rcases (M.sub _ _ _ hd).1 with ⟨z1, z2⟩ | ⟨z1, z2⟩
        · exact Or.inl ⟨z1, z2⟩
        · exact Or.inr ⟨z1, noSell d z1 hd⟩
  have all : ∀ f c, M.own f c → N c → M.ch f (M.off (M.offers N) (fun c => N c ∨ ¬ M.offers N c) f) c := by
    intro f c ho hn
    have hk : M.ch f (fun d => M.own f d ∧ N d) c := (M.ch_own (f := f) (fun d hd => ⟨fun z => ⟨hd, z⟩, fun z => z.2⟩) c).mp (h.1 f c ho hn)
    refine (M.irc f _ _ ?_ ?_ c).mp hk
    · rintro d ⟨⟨hd, e⟩, z⟩
      rcases e with e | e
      · exact Or.inr ⟨e, Or.inl z⟩
      · exact Or.inl ⟨e, hNO d hd z⟩
    · intro d hd
      exact ⟨(M.sub _ _ _ hd).2, main f d hd⟩
  intro c hc
  constructor
  · constructor
    · intro ho
      by_cases hn : N c
      · exact Or.inr (all _ c ⟨hc, Or.inl rfl⟩ hn)
      · exact Or.inl fun z => z.elim hn fun z => z ho
    · rintro (z | z)
      · exact Classical.byContradiction fun hn => z (Or.inr hn)
      · exact hNO c hc (main _ _ z)
  · constructor
    · rintro (z | z)
      · exact Or.inr (all _ c ⟨hc, Or.inr rfl⟩ z)
      · exact Or.inl z
    · rintro (z | z)
      · exact Or.inr z
      · exact Or.inl (main _ _ z)
end

/-! ### the ends -/
section
variable {M}
variable {O A O' A' : C → Prop}
/-- an end buyer likes the network of the greater stand at least as much -/
theorem likes_buyer (h : M.Settled O A) (h' : M.Settled O' A') (le : ∀ c, M.U c → O c → O' c) {e : F} (he : ∀ c, M.U c → M.s c ≠ e) (c : C) :
    M.ch e (fun d => (O' d ∧ A' d) ∨ (O d ∧ A d)) c ↔ (M.own e c ∧ O' c ∧ A' c) := by
  rw [← h'.choice e c]
  have e1 := M.ch_own (f := e) (Y := fun d => (O' d ∧ A' d) ∨ (O d ∧ A d)) (Z := fun d => M.own e d ∧ ((O' d ∧ A' d) ∨ (O d ∧ A d))) (fun d hd => ⟨fun z => ⟨hd, z⟩, fun z => z.2⟩) c
  rw [e1]
  refine M.irc e _ _ ?_ ?_ c
  · rintro d ⟨⟨hd, ho⟩, z⟩
    have hb : M.b d = e := ho.resolve_left (he d hd)
    rcases z with z | z
    · exact Or.inl ⟨hb, z.1⟩
    · exact Or.inl ⟨hb, le d hd z.1⟩
  · intro d hd
    have := (h'.choice e d).mp hd
    exact ⟨this.1, Or.inl this.2⟩
theorem likes_seller (h : M.Settled O A) (h' : M.Settled O' A') (le : ∀ c, M.U c → A c → A' c) {e : F} (he : ∀ c, M.U c → M.b c ≠ e) (c : C) :
    M.ch e (fun d => (O' d ∧ A' d) ∨ (O d ∧ A d)) c ↔ (M.own e c ∧ O' c ∧ A' c) := by
  rw [← h'.choice e c]
  have e1 := M.ch_own (f := e) (Y := fun d => (O' d ∧ A' d) ∨ (O d ∧ A d)) (Z := fun d => M.own e d ∧ ((O' d ∧ A' d) ∨ (O d ∧ A d))) (fun d hd => ⟨fun z => ⟨hd, z⟩, fun z => z.2⟩) c
  rw [e1]
  refine M.irc e _ _ ?_ ?_ c
  · rintro d ⟨⟨hd, ho⟩, z⟩
    have hb : M.s d = e := ho.resolve_right (he d hd)
    rcases z with z | z
    · exact Or.inr ⟨hb, z.2⟩
    · exact Or.inr ⟨hb, le d hd z.2⟩
  · intro d hd
    have := (h'.choice e d).mp hd
    exact ⟨this.1, Or.inl this.2⟩
end
end Mkt
end Nc
/-! M2: choices of houses: what they take, and that they are substitutable and independent of what is not taken. -/
namespace Nc

/-! ### lists -/
theorem take_filter_prefix {α : Type} {p q : α → Bool} : ∀ (l : List α) (i : Nat), (∀ x, q x = true → p x = true) → (∀ x ∈ (l.filter p).take i, q x = true) → (l.filter q).take i = (l.filter p).take i
  | [], i, _, _ => by simp
  | a :: l, 0, _, _ => by simp
  | a :: l, i + 1, h, hq => by
    by_cases hp : p a = true
    · rw [List.filter_cons_of_pos hp, List.take_succ_cons] at hq ⊢
      have ha : q a = true := hq a List.mem_cons_self
      rw [List.filter_cons_of_pos ha, List.take_succ_cons, take_filter_prefix l i h fun x hx => hq x (List.mem_cons_of_mem _ hx)]
    · have ha : ¬ q a = true := fun z => hp (h a z)
      rw [List.filter_cons_of_neg hp] at hq ⊢
      rw [List.filter_cons_of_neg ha]
      exact take_filter_prefix l (i + 1) h hq

theorem sub_ix {α : Type} {l' l : List α} (h : l'.Sublist l) : l.Nodup → ∀ {i i' : Nat} {c : α}, l[i]? = some c → l'[i']? = some c → i' ≤ i := by
  induction h with
  | slnil => intro _ i i' c h; simp at h
  | @cons l1 l2 a h ih =>
    intro hn i i' c h1 h2
    cases i with
    | zero =>
      simp at h1
      subst h1
      exact absurd (h.subset (List.mem_of_getElem? h2)) (List.nodup_cons.mp hn).1
    | succ i =>
      have := ih (List.nodup_cons.mp hn).2 (by simpa using h1) h2
      omega
  | @cons_cons l1 l2 a h ih =>
    intro hn i i' c h1 h2
    cases i' with
    | zero => exact Nat.zero_le _
    | succ i' =>
      cases i with
      | zero =>
        simp at h1 h2
        subst h1
        exact absurd (h.subset (List.mem_of_getElem? h2)) (List.nodup_cons.mp hn).1
      | succ i =>
        have := ih (List.nodup_cons.mp hn).2 (by simpa using h1) (by simpa using h2)
        omega

/-- at each place a longer list has something at least as early -/
theorem sub_at {α : Type} {R : α → α → Prop} (tr : ∀ x y z, R x y → R y z → R x z) (rf : ∀ x, R x x) {l' l : List α} (h : l'.Sublist l) : l.Pairwise R → ∀ {i : Nat} {t : α}, l'[i]? = some t → ∃ u, l[i]? = some u ∧ R u t := by
  induction h with
  | slnil => intro _ i t h; simp at h
  | @cons l1 l2 a h ih =>
    intro hp i t h1
    have hp' := List.pairwise_cons.mp hp
    cases i with
    | zero => exact ⟨a, rfl, hp'.1 t (h.subset (List.mem_of_getElem? h1))⟩
    | succ i =>
      have hi : i < l1.length := by
        have := (List.getElem?_eq_some_iff.mp h1).1
        omega
      obtain ⟨u, hu, ru⟩ := ih hp'.2 (i := i) (t := l1[i]) (by simp)
      refine ⟨u, by simpa using hu, tr _ _ _ ru ?_⟩
      obtain ⟨h2, e2⟩ := List.getElem?_eq_some_iff.mp h1
      rw [← e2]
      exact List.pairwise_iff_getElem.mp (hp'.2.sublist h) i (i + 1) hi h2 (Nat.lt_succ_self _)
  | @cons_cons l1 l2 a h ih =>
    intro hp i t h1
    have hp' := List.pairwise_cons.mp hp
    cases i with
    | zero =>
      simp at h1
      subst h1
      exact ⟨a, rfl, rf a⟩
    | succ i =>
      obtain ⟨u, hu, ru⟩ := ih hp'.2 (i := i) (t := t) (by simpa using h1)
      exact ⟨u, by simpa using hu, ru⟩

theorem filter_le {α : Type} {p q : α → Bool} (l : List α) (h : ∀ x ∈ l, q x = true → p x = true) : (l.filter q).Sublist (l.filter p) := by
  have e : l.filter q = (l.filter p).filter q := by
    rw [List.filter_filter]
    apply List.filter_congr
    intro x hx
    cases hq : q x with
    | false => simp
    | true => simp [h x hx hq]
  rw [e]
  exact List.filter_sublist

/-! ### matching two rows of offers -/
/-- what ok says is better for better ones -/
structure Mono (ok : Int → Int → Bool) (bl sl : List Int) : Prop where
  b : bl.Pairwise fun x y => ∀ s, ok y s = true → ok x s = true
  s : sl.Pairwise fun x y => ∀ b, ok b y = true → ok b x = true
theorem Mono.filter {ok : Int → Int → Bool} {bl sl : List Int} (m : Mono ok bl sl) (p q : Int → Bool) : Mono ok (bl.filter p) (sl.filter q) :=
  ⟨m.b.sublist List.filter_sublist, m.s.sublist List.filter_sublist⟩
theorem Mono.swap {ok : Int → Int → Bool} {bl sl : List Int} (m : Mono ok bl sl) : Mono (fun x y => ok y x) sl bl := ⟨m.s, m.b⟩

def mt (ok : Int → Int → Bool) : Nat → List Int → List Int → List (Int × Int)
  | n + 1, b :: bl, s :: sl => if ok b s then (b, s) :: mt ok n bl sl else []
  | _, _, _ => []
theorem mt_swap (ok : Int → Int → Bool) : ∀ (n : Nat) (bl sl : List Int), mt (fun x y => ok y x) n sl bl = (mt ok n bl sl).map fun p => (p.2, p.1)
  | 0, _, _ => by simp [mt]
  | _ + 1, [], [] => by simp [mt]
  | _ + 1, [], _ :: _ => by simp [mt]
  | _ + 1, _ :: _, [] => by simp [mt]
  | n + 1, b :: bl, s :: sl => by
    simp only [mt]
    split
    · rw [mt_swap ok n bl sl]; rfl
    · rfl
theorem mt_at {ok : Int → Int → Bool} : ∀ {n : Nat} {bl sl : List Int}, Mono ok bl sl → ∀ {i : Nat} {c t : Int}, (mt ok n bl sl)[i]? = some (c, t) ↔ (i < n ∧ bl[i]? = some c ∧ sl[i]? = some t ∧ ok c t = true)
  | 0, _, _, _, i, c, t => by simp [mt]
  | _ + 1, [], _, _, i, c, t => by simp [mt]
  | _ + 1, _ :: _, [], _, i, c, t => by simp [mt]
  | n + 1, b :: bl, s :: sl, m, i, c, t => by
    have mb := List.pairwise_cons.mp m.b
    have ms := List.pairwise_cons.mp m.s
    simp only [mt]
    by_cases h : ok b s = true
    · rw [if_pos h]
      cases i with
      | zero =>
        simp only [List.getElem?_cons_zero, Option.some.injEq, Prod.mk.injEq]
        constructor
        · rintro ⟨rfl, rfl⟩
          exact ⟨Nat.zero_lt_succ _, rfl, rfl, h⟩
        · rintro ⟨_, h1, h2, _⟩
          exact ⟨h1, h2⟩
      | succ i =>
        simp only [List.getElem?_cons_succ]
        rw [mt_at (n := n) ⟨mb.2, ms.2⟩]
        constructor
        · rintro ⟨h1, h2⟩
          exact ⟨Nat.succ_lt_succ h1, h2⟩
        · rintro ⟨h1, h2⟩
          exact ⟨Nat.lt_of_succ_lt_succ h1, h2⟩
    · rw [if_neg h]
      constructor
      · intro z; simp at z
      · rintro ⟨_, h1, h2, h3⟩
        exfalso
        apply h
        cases i with
        | zero =>
          simp at h1 h2
          rw [h1, h2]; exact h3
        | succ i =>
          simp at h1 h2
          exact mb.1 c (List.mem_of_getElem? h1) s (ms.1 t (List.mem_of_getElem? h2) c h3)

/-- the buys that are matched out of the offered ones -/
def mtB (ok : Int → Int → Bool) (n : Nat) (bl sl : List Int) (off : Int → Bool) : List Int := (mt ok n (bl.filter off) (sl.filter off)).map (·.1)
def mtS (ok : Int → Int → Bool) (n : Nat) (bl sl : List Int) (off : Int → Bool) : List Int := (mt ok n (bl.filter off) (sl.filter off)).map (·.2)
theorem mtS_swap (ok : Int → Int → Bool) (n : Nat) (bl sl : List Int) (off : Int → Bool) : mtS ok n bl sl off = mtB (fun x y => ok y x) n sl bl off := by
  unfold mtS mtB
  rw [mt_swap ok n (bl.filter off) (sl.filter off), List.map_map]
  rfl
theorem mtB_mem {ok : Int → Int → Bool} {n : Nat} {bl sl : List Int} {off : Int → Bool} (m : Mono ok bl sl) {c : Int} :
    c ∈ mtB ok n bl sl off ↔ ∃ i t, i < n ∧ (bl.filter off)[i]? = some c ∧ (sl.filter off)[i]? = some t ∧ ok c t = true := by
  unfold mtB
  rw [List.mem_map]
  constructor
  · rintro ⟨⟨x, t⟩, h, rfl⟩
    obtain ⟨i, hi⟩ := List.mem_iff_getElem?.mp h
    exact ⟨i, t, (mt_at (m.filter off off)).mp hi⟩
  · rintro ⟨i, t, h⟩
    exact ⟨(c, t), List.mem_of_getElem? ((mt_at (m.filter off off)).mpr h), rfl⟩

section
variable {ok : Int → Int → Bool} {n : Nat} {bl sl : List Int} {off off' : Int → Bool}
theorem mtB_fs (m : Mono ok bl sl) (nb : bl.Nodup) (h1 : ∀ d ∈ bl, off' d = true → off d = true) (h2 : ∀ d ∈ sl, off d = true → off' d = true) {c : Int} (hc : off' c = true) (h : c ∈ mtB ok n bl sl off) : c ∈ mtB ok n bl sl off' := by
  obtain ⟨i, t, hi, hb, hs, ho⟩ := (mtB_mem m).mp h
  have hcb : c ∈ bl := (List.mem_filter.mp (List.mem_of_getElem? hb)).1
  obtain ⟨i', hi'⟩ := List.mem_iff_getElem?.mp (List.mem_filter.mpr ⟨hcb, hc⟩)
  have hle : i' ≤ i := sub_ix (filter_le bl h1) (nb.filter _) hb hi'
  have hs1 : i' < (sl.filter off).length := Nat.lt_of_le_of_lt hle (List.getElem?_eq_some_iff.mp hs).1
  have ms := (m.filter off off).s
  have ho1 : ok c (sl.filter off)[i'] = true := by
    obtain ⟨h3, e3⟩ := List.getElem?_eq_some_iff.mp hs
    rcases Nat.lt_or_eq_of_le hle with z | z
    · refine List.pairwise_iff_getElem.mp ms i' i hs1 h3 z c ?_
      rw [e3]; exact ho
    · subst z
      rw [e3]; exact ho
  obtain ⟨u, hu, ru⟩ := sub_at (R := fun x y => ∀ b, ok b y = true → ok b x = true) (fun x y z a b c h => a c (b c h)) (fun x b h => h) (filter_le sl h2) (m.filter off off').s (i := i') (t := (sl.filter off)[i']) (by simp)
  exact (mtB_mem m).mpr ⟨i', u, Nat.lt_of_le_of_lt hle hi, hi', hu, ru c ho1⟩
theorem mtB_fs2 (m : Mono ok bl sl) (nb : bl.Nodup) (h1 : ∀ d ∈ bl, off' d = true → off d = true) (h2 : ∀ d ∈ sl, off d = true → off' d = true) {c : Int} (hc : off' c = true) (h : c ∈ mtB ok n bl sl off) : c ∈ mtB ok n bl sl off' := mtB_fs m nb h1 h2 hc h

theorem mt_all (m : Mono ok bl sl) {i j : Nat} {c t : Int} (hi : (mt ok n (bl.filter off) (sl.filter off))[i]? = some (c, t)) (hj : j ≤ i) : ∃ d u, (mt ok n (bl.filter off) (sl.filter off))[j]? = some (d, u) := by
  have h1 := (List.getElem?_eq_some_iff.mp hi).1
  exact ⟨_, _, List.getElem?_eq_getElem (Nat.lt_of_le_of_lt hj h1)⟩

theorem mt_irc (m : Mono ok bl sl) (h1 : ∀ d, off' d = true → off d = true) (h2 : ∀ d, d ∈ mtB ok n bl sl off ∨ d ∈ mtS ok n bl sl off → off' d = true) : mt ok n (bl.filter off') (sl.filter off') = mt ok n (bl.filter off) (sl.filter off) := by
  have pre : ∀ {i : Nat} {c t : Int}, (mt ok n (bl.filter off) (sl.filter off))[i]? = some (c, t) → (bl.filter off')[i]? = some c ∧ (sl.filter off')[i]? = some t := by
    intro i c t hi
    have hm := (mt_at (m.filter off off)).mp hi
    constructor
    · have e := take_filter_prefix bl (i + 1) h1 fun x hx => by
        obtain ⟨j, hj⟩ := List.mem_iff_getElem?.mp hx
        have hj' : j < i + 1 := by
          have := (List.getElem?_eq_some_iff.mp hj).1
          rw [List.length_take] at this
          omega
        rw [List.getElem?_take_of_lt hj'] at hj
        obtain ⟨d, u, hd⟩ := mt_all m hi (Nat.le_of_lt_succ hj')
        have hd' := (mt_at (m.filter off off)).mp hd
        rw [hd'.2.1] at hj
        cases hj
        exact h2 _ (Or.inl (List.mem_map.mpr ⟨_, List.mem_of_getElem? hd, rfl⟩))
      have e2 : ((bl.filter off').take (i + 1))[i]? = some c := by
        rw [e, List.getElem?_take_of_lt (Nat.lt_succ_self i)]
        exact hm.2.1
      rwa [List.getElem?_take_of_lt (Nat.lt_succ_self i)] at e2
    · have e := take_filter_prefix sl (i + 1) h1 fun x hx => by
        obtain ⟨j, hj⟩ := List.mem_iff_getElem?.mp hx
        have hj' : j < i + 1 := by
          have := (List.getElem?_eq_some_iff.mp hj).1
          rw [List.length_take] at this
          omega
        rw [List.getElem?_take_of_lt hj'] at hj
        obtain ⟨d, u, hd⟩ := mt_all m hi (Nat.le_of_lt_succ hj')
        have hd' := (mt_at (m.filter off off)).mp hd
        rw [hd'.2.2.1] at hj
        cases hj
        exact h2 _ (Or.inr (List.mem_map.mpr ⟨_, List.mem_of_getElem? hd, rfl⟩))
      have e2 : ((sl.filter off').take (i + 1))[i]? = some t := by
        rw [e, List.getElem?_take_of_lt (Nat.lt_succ_self i)]
        exact hm.2.2.1
      rwa [List.getElem?_take_of_lt (Nat.lt_succ_self i)] at e2
  apply List.ext_getElem?
  intro i
  cases hz : (mt ok n (bl.filter off') (sl.filter off'))[i]? with
  | none =>
    cases hy : (mt ok n (bl.filter off) (sl.filter off))[i]? with
    | none => rfl
    | some ct =>
      obtain ⟨c, t⟩ := ct
      have hm := (mt_at (m.filter off off)).mp hy
      obtain ⟨p1, p2⟩ := pre hy
      have := (mt_at (m.filter off' off') (n := n)).mpr ⟨hm.1, p1, p2, hm.2.2.2⟩
      rw [this] at hz
      cases hz
  | some ct =>
    obtain ⟨c, t⟩ := ct
    have hm := (mt_at (m.filter off' off')).mp hz
    obtain ⟨c0, hc0, rc⟩ := sub_at (R := fun x y => ∀ s, ok x s = true ∨ ok y s = false) (fun x y z a b s => by
      rcases a s with h | h
      · exact Or.inl h
      · rcases b s with h' | h'
        · rw [h] at h'; cases h'
        · exact Or.inr h') (fun x s => by cases ok x s <;> simp) (filter_le bl fun d _ h => h1 d h) ((m.filter off off).b.imp fun {x y} h s => by
      cases hy : ok y s with
      | false => exact Or.inr rfl
      | true => exact Or.inl (h s hy)) hm.2.1
    obtain ⟨t0, ht0, rt⟩ := sub_at (R := fun x y => ∀ b, ok b y = true → ok b x = true) (fun x y z a b c h => a c (b c h)) (fun x b h => h) (filter_le sl fun d _ h => h1 d h) (m.filter off off).s hm.2.2.1
    have ho : ok c0 t0 = true := rt c0 (by
      rcases rc t with z | z
      · exact z
      · rw [hm.2.2.2] at z; cases z)
    have hy := (mt_at (m.filter off off) (n := n)).mpr ⟨hm.1, hc0, ht0, ho⟩
    obtain ⟨p1, p2⟩ := pre hy
    rw [hm.2.1] at p1
    rw [hm.2.2.1] at p2
    cases p1
    cases p2
    rw [hy]
end

/-! ### what is asked of a choice with these buys and sells -/
structure Good (bs ss : List Int) (f : (Int → Bool) → List Int) : Prop where
  mem : ∀ off c, c ∈ f off → off c = true ∧ (c ∈ bs ∨ c ∈ ss)
  nd : ∀ off, (f off).Nodup
  irc : ∀ off off', (∀ c, off' c = true → off c = true) → (∀ c ∈ f off, off' c = true) → ∀ c, c ∈ f off' ↔ c ∈ f off
  fsb : ∀ off off' c, (∀ d ∈ bs, off' d = true → off d = true) → (∀ d ∈ ss, off d = true → off' d = true) → c ∈ bs → off' c = true → c ∈ f off → c ∈ f off'
  fss : ∀ off off' c, (∀ d ∈ ss, off' d = true → off d = true) → (∀ d ∈ bs, off d = true → off' d = true) → c ∈ ss → off' c = true → c ∈ f off → c ∈ f off'
theorem Good.congr {bs ss : List Int} {f g : (Int → Bool) → List Int} (h : Good bs ss f) (hn : ∀ off, (g off).Nodup) (e : ∀ off c, c ∈ g off ↔ c ∈ f off) : Good bs ss g where
  mem := fun off c hc => h.mem off c ((e off c).mp hc)
  nd := hn
  irc := fun off off' h1 h2 c => by
    rw [e, e]
    exact h.irc off off' h1 (fun c hc => h2 c ((e off c).mpr hc)) c
  fsb := fun off off' c h1 h2 h3 h4 h5 => (e off' c).mpr (h.fsb off off' c h1 h2 h3 h4 ((e off c).mp h5))
  fss := fun off off' c h1 h2 h3 h4 h5 => (e off' c).mpr (h.fss off off' c h1 h2 h3 h4 ((e off c).mp h5))
/-- more own contracts, never wanted -/
theorem Good.more {bs ss bs' ss' : List Int} {f : (Int → Bool) → List Int} (h : Good bs ss f) (hb : ∀ c ∈ bs, c ∈ bs') (hs : ∀ c ∈ ss, c ∈ ss') (hd : ∀ c ∈ bs', c ∉ ss') : Good bs' ss' f where
  mem := fun off c hc => ⟨(h.mem off c hc).1, (h.mem off c hc).2.imp (hb c) (hs c)⟩
  nd := h.nd
  irc := h.irc
  fsb := fun off off' c h1 h2 h3 h4 h5 => h.fsb off off' c (fun d hd => h1 d (hb d hd)) (fun d hd => h2 d (hs d hd)) (by
    rcases (h.mem off c h5).2 with z | z
    · exact z
    · exact absurd (hs c z) (hd c h3)) h4 h5
  fss := fun off off' c h1 h2 h3 h4 h5 => h.fss off off' c (fun d hd => h1 d (hs d hd)) (fun d hd => h2 d (hb d hd)) (by
    rcases (h.mem off c h5).2 with z | z
    · exact absurd h3 (hd c (hb c z))
    · exact z) h4 h5

/-- a matching choice -/
def mtC (ok : Int → Int → Bool) (n : Nat) (bl sl : List Int) (off : Int → Bool) : List Int := mtB ok n bl sl off ++ mtS ok n bl sl off
theorem mtB_nodup {ok : Int → Int → Bool} {n : Nat} {bl sl : List Int} {off : Int → Bool} (nb : bl.Nodup) : (mtB ok n bl sl off).Nodup := by
  have sub : ∀ (n : Nat) (b s : List Int), ((mt ok n b s).map (·.1)).Sublist b := by
    intro n
    induction n with
    | zero => intro b s; simp [mt]
    | succ n ih =>
      intro b s
      cases b with
      | nil => simp [mt]
      | cons x b =>
        cases s with
        | nil => simp [mt]
        | cons y s =>
          simp only [mt]
          split
          · exact (ih b s).cons_cons x
          · simp
  exact (nb.filter off).sublist (sub _ _ _)
theorem mtS_nodup {ok : Int → Int → Bool} {n : Nat} {bl sl : List Int} {off : Int → Bool} (ns : sl.Nodup) : (mtS ok n bl sl off).Nodup := by
  rw [mtS_swap]
  exact mtB_nodup ns
theorem mtB_sub {ok : Int → Int → Bool} {n : Nat} {bl sl : List Int} {off : Int → Bool} (m : Mono ok bl sl) {c : Int} (h : c ∈ mtB ok n bl sl off) : off c = true ∧ c ∈ bl := by
  obtain ⟨i, t, _, hb, _⟩ := (mtB_mem m).mp h
  have := List.mem_filter.mp (List.mem_of_getElem? hb)
  exact ⟨this.2, this.1⟩
theorem mtC_good {ok : Int → Int → Bool} {n : Nat} {bl sl : List Int} (m : Mono ok bl sl) (nb : bl.Nodup) (ns : sl.Nodup) (hd : ∀ c ∈ bl, c ∉ sl) : Good bl sl (mtC ok n bl sl) := by
  have hS : ∀ {off c}, c ∈ mtS ok n bl sl off → off c = true ∧ c ∈ sl := fun {off c} h => by
    rw [mtS_swap] at h
    exact mtB_sub m.swap h
  refine ⟨fun off c h => ?_, fun off => ?_, fun off off' h1 h2 c => ?_, fun off off' c h1 h2 h3 h4 h5 => ?_, fun off off' c h1 h2 h3 h4 h5 => ?_⟩
  · rcases List.mem_append.mp h with h | h
    · exact ⟨(mtB_sub m h).1, Or.inl (mtB_sub m h).2⟩
    · exact ⟨(hS h).1, Or.inr (hS h).2⟩
  · refine List.nodup_append.mpr ⟨mtB_nodup nb, mtS_nodup ns, fun a ha b hb e => ?_⟩
    exact hd a (mtB_sub m ha).2 (e ▸ (hS hb).2)
  · have e := mt_irc m h1 (fun d hd => h2 d (List.mem_append.mpr hd))
    unfold mtC mtB mtS
    rw [e]
  · rcases List.mem_append.mp h5 with h | h
    · exact List.mem_append.mpr (Or.inl (mtB_fs m nb h1 h2 h4 h))
    · exact absurd (hS h).2 (hd c h3)
  · rcases List.mem_append.mp h5 with h | h
    · exact absurd h3 (hd c (mtB_sub m h).2)
    · rw [mtS_swap] at h
      refine List.mem_append.mpr (Or.inr ?_)
      rw [mtS_swap]
      exact mtB_fs m.swap ns h1 h2 h4 h

/-! ### one side: the first ones -/
theorem take_fs {l : List Int} (nb : l.Nodup) {n : Nat} {off off' : Int → Bool} (h1 : ∀ d ∈ l, off' d = true → off d = true) {c : Int} (hc : off' c = true) (h : c ∈ (l.filter off).take n) : c ∈ (l.filter off').take n := by
  obtain ⟨i, hi⟩ := List.mem_iff_getElem?.mp h
  have hn : i < n := by
    have := (List.getElem?_eq_some_iff.mp hi).1
    rw [List.length_take] at this
    omega
  rw [List.getElem?_take_of_lt hn] at hi
  have hcl : c ∈ l := (List.mem_filter.mp (List.mem_of_getElem? hi)).1
  obtain ⟨i', hi'⟩ := List.mem_iff_getElem?.mp (List.mem_filter.mpr ⟨hcl, hc⟩)
  have hle : i' ≤ i := sub_ix (filter_le l h1) (nb.filter _) hi hi'
  have : ((l.filter off').take n)[i']? = some c := by
    rw [List.getElem?_take_of_lt (by omega)]
    exact hi'
  exact List.mem_of_getElem? this
theorem take_sub {l : List Int} {n : Nat} {off : Int → Bool} {c : Int} (h : c ∈ (l.filter off).take n) : off c = true ∧ c ∈ l := by
  have := List.mem_filter.mp (List.mem_of_mem_take h)
  exact ⟨this.2, this.1⟩
theorem two_good {bl sl : List Int} {f g : (Int → Bool) → List Int} (hd : ∀ c ∈ bl, c ∉ sl) (hf : Good bl [] f) (hg : Good [] sl g) : Good bl sl (fun off => f off ++ g off) := by
  have mf : ∀ {off c}, c ∈ f off → off c = true ∧ c ∈ bl := fun {off c} h => ⟨(hf.mem off c h).1, (hf.mem off c h).2.resolve_right (by simp)⟩
  have mg : ∀ {off c}, c ∈ g off → off c = true ∧ c ∈ sl := fun {off c} h => ⟨(hg.mem off c h).1, (hg.mem off c h).2.resolve_left (by simp)⟩
  refine ⟨fun off c h => ?_, fun off => ?_, fun off off' h1 h2 c => ?_, fun off off' c h1 h2 h3 h4 h5 => ?_, fun off off' c h1 h2 h3 h4 h5 => ?_⟩
  · rcases List.mem_append.mp h with h | h
    · exact ⟨(mf h).1, Or.inl (mf h).2⟩
    · exact ⟨(mg h).1, Or.inr (mg h).2⟩
  · exact List.nodup_append.mpr ⟨hf.nd off, hg.nd off, fun a ha b hb e => hd a (mf ha).2 (e ▸ (mg hb).2)⟩
  · simp only [List.mem_append]
    rw [hf.irc off off' h1 (fun d hd => h2 d (List.mem_append.mpr (Or.inl hd))) c, hg.irc off off' h1 (fun d hd => h2 d (List.mem_append.mpr (Or.inr hd))) c]
  · rcases List.mem_append.mp h5 with h | h
    · exact List.mem_append.mpr (Or.inl (hf.fsb off off' c h1 (by simp) h3 h4 h))
    · exact absurd (mg h).2 (hd c h3)
  · rcases List.mem_append.mp h5 with h | h
    · exact absurd h3 (hd c (mf h).2)
    · exact List.mem_append.mpr (Or.inr (hg.fss off off' c h1 (by simp) h3 h4 h))
/-- one side only, of either kind -/
structure Side (l : List Int) (f : (Int → Bool) → List Int) : Prop where
  mem : ∀ off c, c ∈ f off → off c = true ∧ c ∈ l
  nd : ∀ off, (f off).Nodup
  irc : ∀ off off', (∀ c, off' c = true → off c = true) → (∀ c ∈ f off, off' c = true) → ∀ c, c ∈ f off' ↔ c ∈ f off
  fs : ∀ off off' c, (∀ d ∈ l, off' d = true → off d = true) → c ∈ l → off' c = true → c ∈ f off → c ∈ f off'
theorem Side.buys {l : List Int} {f : (Int → Bool) → List Int} (h : Side l f) : Good l [] f :=
  ⟨fun off c hc => ⟨(h.mem off c hc).1, Or.inl (h.mem off c hc).2⟩, h.nd, h.irc, fun off off' c h1 _ h3 h4 h5 => h.fs off off' c h1 h3 h4 h5, fun _ _ _ _ _ h3 _ _ => by simp at h3⟩
theorem Side.sells {l : List Int} {f : (Int → Bool) → List Int} (h : Side l f) : Good [] l f :=
  ⟨fun off c hc => ⟨(h.mem off c hc).1, Or.inr (h.mem off c hc).2⟩, h.nd, h.irc, fun _ _ _ _ _ h3 _ _ => by simp at h3, fun off off' c h1 _ h3 h4 h5 => h.fs off off' c h1 h3 h4 h5⟩
theorem Side.two {bl sl : List Int} {f g : (Int → Bool) → List Int} (hf : Side bl f) (hg : Side sl g) (hd : ∀ c ∈ bl, c ∉ sl) : Good bl sl (fun off => f off ++ g off) := two_good hd hf.buys hg.sells
theorem Side.take {l : List Int} (nb : l.Nodup) (n : Nat) : Side l fun off => (l.filter off).take n where
  mem := fun off c h => take_sub h
  nd := fun off => (nb.filter off).sublist (List.take_sublist _ _)
  irc := fun off off' h1 h2 c => by rw [take_filter_prefix l n h1 h2]
  fs := fun off off' c h1 _ h4 h5 => take_fs nb h1 h4 h5

/-! ### caps -/
/-- how many of these are in the group -/
def cg (g : List Int) (found : List Int) : Nat := found.countP fun x => g.contains x
def okg (gs : List (List Int × Int)) (found : List Int) (c : Int) : Bool := gs.all fun g => !(g.1.contains c) || decide ((cg g.1 found : Int) < g.2)
def greedy (gs : List (List Int × Int)) (off : Int → Bool) : List Int → List Int → List Int
  | [], found => found
  | c :: r, found => if off c = true ∧ okg gs found c = true then greedy gs off r (found ++ [c]) else greedy gs off r found
theorem okg_iff {gs : List (List Int × Int)} {found : List Int} {c : Int} : okg gs found c = true ↔ ∀ g ∈ gs, c ∈ g.1 → (cg g.1 found : Int) < g.2 := by
  unfold okg
  rw [List.all_eq_true]
  constructor
  · intro h g hg hc
    have := h g hg
    simp only [Bool.or_eq_true, Bool.not_eq_true', List.contains_eq_mem, decide_eq_false_iff_not, decide_eq_true_eq] at this
    exact this.resolve_left fun z => z hc
  · intro h g hg
    simp only [Bool.or_eq_true, Bool.not_eq_true', List.contains_eq_mem, decide_eq_false_iff_not, decide_eq_true_eq]
    by_cases hc : c ∈ g.1
    · exact Or.inr (h g hg hc)
    · exact Or.inl hc
theorem cg_snoc (g found : List Int) (c : Int) : cg g (found ++ [c]) = cg g found + if c ∈ g then 1 else 0 := by
  unfold cg
  rw [List.countP_append, List.countP_singleton]
  simp only [List.contains_eq_mem, decide_eq_true_eq]
theorem greedy_keeps {gs : List (List Int × Int)} {off : Int → Bool} : ∀ (r found : List Int) (c : Int), c ∈ found → c ∈ greedy gs off r found
  | [], _, _, h => h
  | x :: r, found, c, h => by
    unfold greedy
    split
    · exact greedy_keeps r _ c (List.mem_append.mpr (Or.inl h))
    · exact greedy_keeps r _ c h
theorem greedy_mem {gs : List (List Int × Int)} {off : Int → Bool} : ∀ (r found : List Int) (c : Int), c ∈ greedy gs off r found → c ∈ found ∨ (c ∈ r ∧ off c = true)
  | [], _, _, h => Or.inl h
  | x :: r, found, c, h => by
    unfold greedy at h
    split at h
    · rename_i hx
      rcases greedy_mem r _ c h with z | z
      · rcases List.mem_append.mp z with z | z
        · exact Or.inl z
        · rw [List.mem_singleton.mp z]
          exact Or.inr ⟨List.mem_cons_self, hx.1⟩
      · exact Or.inr ⟨List.mem_cons_of_mem _ z.1, z.2⟩
    · rcases greedy_mem r _ c h with z | z
      · exact Or.inl z
      · exact Or.inr ⟨List.mem_cons_of_mem _ z.1, z.2⟩
theorem greedy_nodup {gs : List (List Int × Int)} {off : Int → Bool} : ∀ (r found : List Int), (found ++ r).Nodup → (greedy gs off r found).Nodup
  | [], found, h => by simpa [greedy] using h
  | x :: r, found, h => by
    unfold greedy
    split
    · refine greedy_nodup r _ ?_
      simpa using h
    · refine greedy_nodup r _ (h.sublist ?_)
      exact (List.sublist_cons_self x r).append_left found
theorem greedy_congr {gs : List (List Int × Int)} {off off' : Int → Bool} : ∀ (r found : List Int), (∀ c ∈ r, off c = off' c) → greedy gs off r found = greedy gs off' r found
  | [], _, _ => rfl
  | x :: r, found, h => by
    unfold greedy
    rw [h x List.mem_cons_self, greedy_congr r found fun c hc => h c (List.mem_cons_of_mem _ hc), greedy_congr r (found ++ [x]) fun c hc => h c (List.mem_cons_of_mem _ hc)]
theorem greedy_irc {gs : List (List Int × Int)} {off off' : Int → Bool} : ∀ (r found : List Int), (∀ c, off' c = true → off c = true) → (∀ c ∈ greedy gs off r found, off' c = true) → greedy gs off' r found = greedy gs off r found
  | [], _, _, _ => rfl
  | x :: r, found, h1, h2 => by
    unfold greedy at h2 ⊢
    by_cases ha : off x = true ∧ okg gs found x = true
    · rw [if_pos ha] at h2 ⊢
      have hx : off' x = true := h2 x (greedy_keeps r _ x (by simp))
      rw [if_pos ⟨hx, ha.2⟩]
      exact greedy_irc r _ h1 h2
    · rw [if_neg ha] at h2 ⊢
      rw [if_neg fun z => ha ⟨h1 x z.1, z.2⟩]
      exact greedy_irc r _ h1 h2
/-- of two groups either one lies in the other or they are apart -/
def Laminar (gs : List (List Int × Int)) : Prop := ∀ g ∈ gs, ∀ h ∈ gs, (∀ c ∈ g.1, c ∉ h.1) ∨ (∀ c ∈ g.1, c ∈ h.1) ∨ (∀ c ∈ h.1, c ∈ g.1)
/-- one offer z taken away: A is found without it, B with it -/
theorem greedy_phase2 {gs : List (List Int × Int)} (lam : Laminar gs) {off : Int → Bool} {z x : Int} {G : List Int × Int} (hG : G ∈ gs) (hz : z ∈ G.1) (hx : x ∈ G.1) :
    ∀ (r A B : List Int), (cg G.1 A : Int) ≥ G.2 → (cg G.1 B : Int) ≥ G.2 → (∀ g ∈ gs, cg g.1 B + (if x ∈ g.1 then 1 else 0) = cg g.1 A + (if z ∈ g.1 then 1 else 0)) → (∀ c ∈ B, c ∈ A ∨ c = z) → ∀ c ∈ greedy gs off r B, c ∈ greedy gs off r A ∨ c = z
  | [], A, B, _, _, _, h => h
  | y :: r, A, B, fA, fB, hc, h => by
    unfold greedy
    have e : okg gs A y = true ↔ okg gs B y = true := by
      rw [okg_iff, okg_iff]
      by_cases hy : y ∈ G.1
      · constructor
        · intro q
          have := q G hG hy
          omega
        · intro q
          have := q G hG hy
          omega
      · have eq : ∀ g ∈ gs, y ∈ g.1 → cg g.1 B = cg g.1 A := by
          intro g hg hyg
          have := hc g hg
          rcases lam g hg G hG with l | l | l
          · rw [if_neg fun q => l x q hx, if_neg fun q => l z q hz] at this
            exact this
          · exact absurd (l y hyg) hy
          · rw [if_pos (l x hx), if_pos (l z hz)] at this
            exact Nat.succ.inj this
        constructor
        · intro q g hg hyg
          rw [eq g hg hyg]
          exact q g hg hyg
        · intro q g hg hyg
          rw [← eq g hg hyg]
          exact q g hg hyg
    by_cases ha : off y = true ∧ okg gs A y = true
    · rw [if_pos ha, if_pos ⟨ha.1, e.mp ha.2⟩]
      refine greedy_phase2 lam hG hz hx r _ _ ?_ ?_ ?_ ?_
      · rw [cg_snoc]; omega
      · rw [cg_snoc]; omega
      · intro g hg
        have := hc g hg
        rw [cg_snoc, cg_snoc]
        omega
      · intro c hcm
        rcases List.mem_append.mp hcm with q | q
        · exact (h c q).imp (fun q => List.mem_append.mpr (Or.inl q)) id
        · exact Or.inl (List.mem_append.mpr (Or.inr q))
    · rw [if_neg ha, if_neg fun q => ha ⟨q.1, e.mpr q.2⟩]
      exact greedy_phase2 lam hG hz hx r A B fA fB hc h
theorem greedy_phase1 {gs : List (List Int × Int)} (lam : Laminar gs) {off : Int → Bool} {z : Int} :
    ∀ (r A B : List Int), (∀ g ∈ gs, cg g.1 B = cg g.1 A + (if z ∈ g.1 then 1 else 0)) → (∀ c ∈ B, c ∈ A ∨ c = z) → ∀ c ∈ greedy gs off r B, c ∈ greedy gs off r A ∨ c = z
  | [], A, B, _, h => h
  | y :: r, A, B, hc, h => by
    unfold greedy
    by_cases hB : off y = true ∧ okg gs B y = true
    · have hA : off y = true ∧ okg gs A y = true := ⟨hB.1, okg_iff.mpr fun g hg hyg => by
        have h1 := okg_iff.mp hB.2 g hg hyg
        have h2 := hc g hg
        split at h2 <;> omega⟩
      rw [if_pos hB, if_pos hA]
      refine greedy_phase1 lam r _ _ ?_ ?_
      · intro g hg
        have := hc g hg
        rw [cg_snoc, cg_snoc]
        omega
      · intro c hcm
        rcases List.mem_append.mp hcm with q | q
        · exact (h c q).imp (fun q => List.mem_append.mpr (Or.inl q)) id
        · exact Or.inl (List.mem_append.mpr (Or.inr q))
    · rw [if_neg hB]
      by_cases hA : off y = true ∧ okg gs A y = true
      · rw [if_pos hA]
        -- a group is full with z
        have hex : ∃ g ∈ gs, y ∈ g.1 ∧ ¬ (cg g.1 B : Int) < g.2 := by
          refine Classical.byContradiction fun hn => hB ⟨hA.1, okg_iff.mpr fun g hg hyg => ?_⟩
          refine Classical.byContradiction fun q => hn ⟨g, hg, hyg, q⟩
        obtain ⟨G, hG, hyG, hf⟩ := hex
        have h1 := okg_iff.mp hA.2 G hG hyG
        have h2 := hc G hG
        have hzG : z ∈ G.1 := by
          by_cases q : z ∈ G.1
          · exact q
          · rw [if_neg q] at h2
            omega
        rw [if_pos hzG] at h2
        refine greedy_phase2 lam hG hzG hyG r _ _ ?_ ?_ ?_ ?_
        · rw [cg_snoc, if_pos hyG]; omega
        · omega
        · intro g hg
          have := hc g hg
          rw [cg_snoc]
          omega
        · intro c hcm
          exact (h c hcm).imp (fun q => List.mem_append.mpr (Or.inl q)) id
      · rw [if_neg hA]
        exact greedy_phase1 lam r A B hc h
theorem greedy_drop1 {gs : List (List Int × Int)} (lam : Laminar gs) {off : Int → Bool} {z : Int} :
    ∀ (r A : List Int), r.Nodup → ∀ c ∈ greedy gs off r A, c ∈ greedy gs (fun x => off x && x != z) r A ∨ c = z
  | [], A, _, c, h => Or.inl h
  | y :: r, A, nd, c, h => by
    have nd' := List.nodup_cons.mp nd
    by_cases hy : y = z
    · subst hy
      have e1 : greedy gs (fun x => off x && x != y) (y :: r) A = greedy gs off r A := by
        show (if (off y && y != y) = true ∧ okg gs A y = true then _ else greedy gs (fun x => off x && x != y) r A) = _
        rw [if_neg (by simp)]
        apply greedy_congr
        intro c hc
        have : c ≠ y := fun e => nd'.1 (e ▸ hc)
        simp [this]
      rw [e1]
      unfold greedy at h
      split at h
      · refine greedy_phase1 lam r A (A ++ [y]) ?_ ?_ c h
        · intro g hg
          rw [cg_snoc]
        · intro c hc
          simpa using hc
      · exact Or.inl h
    · have e0 : (off y && y != z) = off y := by simp [hy]
      unfold greedy at h ⊢
      simp only [e0]
      split at h
      · rename_i hx
        rw [if_pos hx]
        exact greedy_drop1 lam r _ nd'.2 c h
      · rename_i hx
        rw [if_neg hx]
        exact greedy_drop1 lam r _ nd'.2 c h
theorem greedy_drops {gs : List (List Int × Int)} (lam : Laminar gs) {r : List Int} (nd : r.Nodup) : ∀ (zs : List Int) (off : Int → Bool) (c : Int), c ∈ greedy gs off r [] → c ∉ zs → c ∈ greedy gs (fun x => off x && !(zs.contains x)) r []
  | [], off, c, h, _ => by
    rw [greedy_congr (off' := off) r [] fun x _ => by simp]
    exact h
  | z :: zs, off, c, h, hc => by
    have h1 := (greedy_drop1 lam (z := z) r [] nd c h).resolve_right fun e => hc (e ▸ List.mem_cons_self)
    have h2 := greedy_drops lam nd zs _ c h1 fun q => hc (List.mem_cons_of_mem _ q)
    rw [greedy_congr (off' := fun x => (off x && x != z) && !(zs.contains x)) r [] fun x _ => ?_]
    · exact h2
    · simp only [List.contains_cons, Bool.not_or, Bool.and_assoc, bne]
theorem Side.caps {l : List Int} (nd : l.Nodup) {gs : List (List Int × Int)} (lam : Laminar gs) : Side l fun off => greedy gs off l [] where
  mem := fun off c h => by
    rcases greedy_mem l [] c h with z | z
    · simp at z
    · exact ⟨z.2, z.1⟩
  nd := fun off => greedy_nodup l [] (by simpa using nd)
  irc := fun off off' h1 h2 c => by rw [greedy_irc l [] h1 h2]
  fs := fun off off' c h1 hcl h4 h5 => by
    have h := greedy_drops lam nd (l.filter fun x => !off' x) off c h5 (by simp [h4])
    rw [greedy_congr (off' := off') l [] fun x hx => ?_] at h
    · exact h
    · cases hq : off' x with
      | true => simp [hq, h1 x hx hq]
      | false =>
        simp [hx, hq]

/-! ### tables -/
def rowIn (off : Int → Bool) (row : List Int) : Bool := row.all off
def firstRow (rows : List (List Int)) (off : Int → Bool) : List Int := (rows.find? (rowIn off)).getD []

/-! ### a split -/
theorem split_good {bs ss : List Int} {fs : List ((Int → Bool) → List Int)} (h : ∀ f ∈ fs, Good bs ss f) (nd : ∀ off, (fs.flatMap fun f => f off).Nodup) : Good bs ss (fun off => fs.flatMap fun f => f off) where
  mem := fun off c hc => by
    obtain ⟨f, hf, hcf⟩ := List.mem_flatMap.mp hc
    exact (h f hf).mem off c hcf
  nd := nd
  irc := fun off off' h1 h2 c => by
    simp only [List.mem_flatMap]
    constructor
    · rintro ⟨f, hf, hc⟩
      exact ⟨f, hf, ((h f hf).irc off off' h1 (fun d hd => h2 d (List.mem_flatMap.mpr ⟨f, hf, hd⟩)) c).mp hc⟩
    · rintro ⟨f, hf, hc⟩
      exact ⟨f, hf, ((h f hf).irc off off' h1 (fun d hd => h2 d (List.mem_flatMap.mpr ⟨f, hf, hd⟩)) c).mpr hc⟩
  fsb := fun off off' c h1 h2 h3 h4 h5 => by
    obtain ⟨f, hf, hcf⟩ := List.mem_flatMap.mp h5
    exact List.mem_flatMap.mpr ⟨f, hf, (h f hf).fsb off off' c h1 h2 h3 h4 hcf⟩
  fss := fun off off' c h1 h2 h3 h4 h5 => by
    obtain ⟨f, hf, hcf⟩ := List.mem_flatMap.mp h5
    exact List.mem_flatMap.mpr ⟨f, hf, (h f hf).fss off off' c h1 h2 h3 h4 hcf⟩
end Nc
/-! M3: the choices as the program and as the law reckon them. -/
namespace Nc
abbrev Ctr := Int × Int × Int
inductive Plain where
  | maker (room : Int) (bs ss : List Int)
  | sides (br : Int) (bs : List Int) (sr : Int) (ss : List Int)
  | table (rows : List (List Int))
  | trader (room cost : Int) (bs ss : List Int)
  | caps (bs : List Int) (bg : List (List Int × Int)) (ss : List Int) (sg : List (List Int × Int))
inductive Choice where
  | plain (p : Plain)
  | split (ps : List Plain)
structure Web (ν : Type) where
  hs : List (ν × Choice)
  cs : List Ctr

/-! ### sorted rows -/
def leK (k : Int → Int) (a b : Int) : Bool := decide (k a < k b) || (decide (k a = k b) && decide (a ≤ b))
def sortK (k : Int → Int) (l : List Int) : List Int := l.mergeSort (leK k)
theorem leK_iff {k : Int → Int} {a b : Int} : leK k a b = true ↔ k a < k b ∨ (k a = k b ∧ a ≤ b) := by
  unfold leK
  simp
theorem leK_trans (k : Int → Int) (a b c : Int) (h1 : leK k a b = true) (h2 : leK k b c = true) : leK k a c = true := by
  rw [leK_iff] at *
  omega
theorem leK_total (k : Int → Int) (a b : Int) : (leK k a b || leK k b a) = true := by
  rw [Bool.or_eq_true, leK_iff, leK_iff]
  omega
theorem sortK_perm (k : Int → Int) (l : List Int) : (sortK k l).Perm l := List.mergeSort_perm _ _
theorem sortK_sorted (k : Int → Int) (l : List Int) : (sortK k l).Pairwise fun a b => leK k a b = true := List.pairwise_mergeSort (leK_trans k) (leK_total k) l
theorem sortK_uniq {k : Int → Int} {xs ys : List Int} (p : xs.Perm ys) (h1 : xs.Pairwise fun a b => leK k a b = true) (h2 : ys.Pairwise fun a b => leK k a b = true) : xs = ys :=
  p.eq_of_pairwise (fun a b _ _ h h' => by rw [leK_iff] at h h'; omega) h1 h2
theorem sortK_eq {k : Int → Int} {xs l : List Int} (p : xs.Perm l) (h : xs.Pairwise fun a b => leK k a b = true) : xs = sortK k l := sortK_uniq (p.trans (sortK_perm k l).symm) h (sortK_sorted k l)
theorem sortK_filter (k : Int → Int) (l : List Int) (p : Int → Bool) : sortK k (l.filter p) = (sortK k l).filter p :=
  (sortK_eq ((sortK_perm k l).filter p) ((sortK_sorted k l).sublist List.filter_sublist)).symm
def sortI (ns : List Int) : List Int := ns.mergeSort (fun a b => decide (a ≤ b))
theorem sortI_perm (ns : List Int) : (sortI ns).Perm ns := List.mergeSort_perm _ _
theorem sortI_sorted (ns : List Int) : (sortI ns).Pairwise (· ≤ ·) := by
  have := List.pairwise_mergeSort (le := fun a b : Int => decide (a ≤ b)) (by intro a b c; simp; omega) (by intro a b; simp; omega) ns
  exact this.imp (by simp)
theorem sorted_uniq {xs ys : List Int} (p : xs.Perm ys) (h1 : xs.Pairwise (· ≤ ·)) (h2 : ys.Pairwise (· ≤ ·)) : xs = ys :=
  p.eq_of_pairwise (fun a b _ _ h h' => Int.le_antisymm h h') h1 h2
theorem sortI_eq {xs ns : List Int} (p : xs.Perm ns) (h : xs.Pairwise (· ≤ ·)) : xs = sortI ns := sorted_uniq (p.trans (sortI_perm ns).symm) h (sortI_sorted ns)
theorem sortI_of_sorted {ns : List Int} (h : ns.Pairwise (· ≤ ·)) : sortI ns = ns := (sortI_eq (List.Perm.refl _) h).symm
theorem sortI_congr {xs ys : List Int} (p : xs.Perm ys) : sortI xs = sortI ys := sorted_uniq ((sortI_perm xs).trans (p.trans (sortI_perm ys).symm)) (sortI_sorted xs) (sortI_sorted ys)
theorem sortI_mem {ns : List Int} {c : Int} : c ∈ sortI ns ↔ c ∈ ns := (sortI_perm ns).mem_iff
theorem sortI_len (ns : List Int) : (sortI ns).length = ns.length := (sortI_perm ns).length_eq
theorem sortI_nodup {ns : List Int} : (sortI ns).Nodup ↔ ns.Nodup := (sortI_perm ns).nodup_iff
theorem sortI_ext {xs ys : List Int} (hx : xs.Nodup) (hy : ys.Nodup) (h : ∀ c, c ∈ xs ↔ c ∈ ys) : sortI xs = sortI ys := sortI_congr ((List.perm_ext_iff_of_nodup hx hy).mpr h)

/-! ### what the program takes -/
def okP (gs : List (List Int × Int)) (found : List Int) (c : Int) : Bool := gs.all fun g => !(decide (c ∈ g.1)) || decide (0 < g.2 - ((g.1.filter fun x => decide (x ∈ found)).length : Int))
def greedyP (gs : List (List Int × Int)) : List Int → List Int → List Int
  | [], found => found
  | c :: r, found => if okP gs found c = true then greedyP gs r (found ++ [c]) else greedyP gs r found
def pairsP (pr : Int → Int) (room cost : Int) (bs ss : List Int) (off : Int → Bool) : List (Int × Int) :=
  (((sortK pr (bs.filter off)).zip (sortK (fun c => -pr c) (ss.filter off))).filter fun p => decide (pr p.1 + cost < pr p.2)).take room.toNat
def progP (pr : Int → Int) : Plain → (Int → Bool) → List Int
  | .maker room bs ss, off =>
    let many := min (min room (bs.filter off).length) (ss.filter off).length
    (bs.filter off).take many.toNat ++ (ss.filter off).take many.toNat
  | .sides br bs sr ss, off => (bs.filter off).take br.toNat ++ (ss.filter off).take sr.toNat
  | .table rows, off => firstRow rows off
  | .trader room cost bs ss, off => (pairsP pr room cost bs ss off).flatMap fun p => [p.1, p.2]
  | .caps bs bg ss sg, off => greedyP bg (bs.filter off) [] ++ greedyP sg (ss.filter off) []
def progC (pr : Int → Int) : Choice → (Int → Bool) → List Int
  | .plain p, off => progP pr p off
  | .split ps, off => ps.flatMap fun p => progP pr p off

/-! ### what the law takes -/
def fullL (gs : List (List Int × Int)) (found : List Int) (c : Int) : Bool := gs.any fun g => decide (c ∈ g.1) && decide (g.2 ≤ ((found.filter fun x => decide (x ∈ g.1)).length : Int))
def greedyL (gs : List (List Int × Int)) (off : Int → Bool) : List Int → List Int → List Int
  | [], found => found
  | c :: r, found => if off c = true ∧ fullL gs found c = false then greedyL gs off r (found ++ [c]) else greedyL gs off r found
def tradedL (pr : Int → Int) (cost : Int) : Nat → List Int → List Int → List Int
  | n + 1, b :: bs, s :: ss => if pr s ≤ pr b + cost then [] else [b, s] ++ tradedL pr cost n bs ss
  | _, _, _ => []
def lawP (pr : Int → Int) : Plain → (Int → Bool) → List Int
  | .maker room bs ss, off =>
    let many := min (min (bs.filter off).length (ss.filter off).length : Int) room
    sortI ((bs.filter off).take many.toNat ++ (ss.filter off).take many.toNat)
  | .sides br bs sr ss, off => sortI ((bs.filter off).take br.toNat ++ (ss.filter off).take sr.toNat)
  | .table rows, off => firstRow rows off
  | .trader room cost bs ss, off => sortI (tradedL pr cost room.toNat (sortK pr (bs.filter off)) (sortK (fun c => -pr c) (ss.filter off)))
  | .caps bs bg ss sg, off => sortI (greedyL bg off bs [] ++ greedyL sg off ss [])
def lawC (pr : Int → Int) : Choice → (Int → Bool) → List Int
  | .plain p, off => lawP pr p off
  | .split ps, off => sortI (ps.flatMap fun p => lawP pr p off)

/-! ### they agree -/
theorem okP_okg {gs : List (List Int × Int)} {found : List Int} {c : Int} (hg : ∀ g ∈ gs, g.1.Nodup) (hf : found.Nodup) : okP gs found c = okg gs found c := by
  unfold okP okg
  apply Bool.eq_iff_iff.mpr
  rw [List.all_eq_true, List.all_eq_true]
  have e : ∀ g ∈ gs, (g.1.filter fun x => decide (x ∈ found)).length = cg g.1 found := by
    intro g h
    unfold cg
    rw [List.countP_eq_length_filter]
    apply List.Perm.length_eq
    rw [List.perm_ext_iff_of_nodup ((hg g h).filter _) (hf.filter _)]
    intro a
    simp only [List.mem_filter, decide_eq_true_eq, List.contains_eq_mem]
    exact And.comm
  constructor
  · intro h g hg'
    have := h g hg'
    rw [e g hg'] at this
    simp only [Bool.or_eq_true, Bool.not_eq_true', List.contains_eq_mem, decide_eq_false_iff_not, decide_eq_true_eq] at this ⊢
    exact this.imp id fun z => by omega
  · intro h g hg'
    have := h g hg'
    rw [e g hg']
    simp only [Bool.or_eq_true, Bool.not_eq_true', List.contains_eq_mem, decide_eq_false_iff_not, decide_eq_true_eq] at this ⊢
    exact this.imp id fun z => by omega
theorem fullL_okg {gs : List (List Int × Int)} {found : List Int} {c : Int} : fullL gs found c = !okg gs found c := by
  unfold fullL okg
  rw [List.not_all_eq_any_not]
  congr 1
  funext g
  unfold cg
  rw [List.countP_eq_length_filter]
  simp only [List.contains_eq_mem, Bool.not_or, Bool.not_not]
  congr 1
  rw [← decide_not]
  apply decide_eq_decide.mpr
  omega
theorem greedyL_eq {gs : List (List Int × Int)} {off : Int → Bool} : ∀ (r found : List Int), greedyL gs off r found = greedy gs off r found
  | [], _ => rfl
  | c :: r, found => by
    unfold greedyL greedy
    rw [fullL_okg, greedyL_eq r, greedyL_eq r]
    simp
theorem greedyP_eq {gs : List (List Int × Int)} {off : Int → Bool} (hg : ∀ g ∈ gs, g.1.Nodup) : ∀ (r found : List Int), (found ++ r).Nodup → greedyP gs (r.filter off) found = greedy gs off r found
  | [], _, _ => rfl
  | c :: r, found, nd => by
    have hf : found.Nodup := nd.sublist (List.sublist_append_left _ _)
    unfold greedy
    by_cases ho : off c = true
    · rw [List.filter_cons_of_pos ho]
      unfold greedyP
      rw [okP_okg hg hf]
      by_cases hk : okg gs found c = true
      · rw [if_pos hk, if_pos ⟨ho, hk⟩]
        exact greedyP_eq hg r _ (by simpa using nd)
      · rw [if_neg hk, if_neg fun z => hk z.2]
        exact greedyP_eq hg r _ (nd.sublist ((List.sublist_cons_self c r).append_left found))
    · rw [List.filter_cons_of_neg ho, if_neg fun z => ho z.1]
      exact greedyP_eq hg r _ (nd.sublist ((List.sublist_cons_self c r).append_left found))

theorem mt_true : ∀ (n : Nat) (b s : List Int), (mt (fun _ _ => true) n b s).map (·.1) = b.take (min (min n b.length) s.length)
  | 0, b, s => by simp [mt]
  | _ + 1, [], _ => by simp [mt]
  | _ + 1, _ :: _, [] => by simp [mt]
  | n + 1, x :: b, y :: s => by
    simp only [mt, if_true, List.map_cons, mt_true n b s, List.length_cons]
    rw [show min (min (n + 1) (b.length + 1)) (s.length + 1) = min (min n b.length) s.length + 1 by omega, List.take_succ_cons]
theorem mtB_true (n : Nat) (bl sl : List Int) (off : Int → Bool) : mtB (fun _ _ => true) n bl sl off = (bl.filter off).take (min (min n (bl.filter off).length) (sl.filter off).length) := mt_true _ _ _
theorem mtS_true (n : Nat) (bl sl : List Int) (off : Int → Bool) : mtS (fun _ _ => true) n bl sl off = (sl.filter off).take (min (min n (bl.filter off).length) (sl.filter off).length) := by
  rw [mtS_swap, mtB_true]
  congr 1
  omega
theorem mono_true (bl sl : List Int) : Mono (fun _ _ => true) bl sl :=
  ⟨List.pairwise_of_forall fun _ _ _ h => h, List.pairwise_of_forall fun _ _ _ h => h⟩
theorem maker_mtC (pr : Int → Int) {room : Int} (h0 : 0 ≤ room) (bs ss : List Int) (off : Int → Bool) : progP pr (.maker room bs ss) off = mtC (fun _ _ => true) room.toNat bs ss off := by
  unfold mtC
  rw [mtB_true, mtS_true]
  show (bs.filter off).take (min (min room (bs.filter off).length) (ss.filter off).length).toNat ++ (ss.filter off).take (min (min room (bs.filter off).length) (ss.filter off).length).toNat = _
  rw [show (min (min room (bs.filter off).length) (ss.filter off).length : Int).toNat = min (min room.toNat (bs.filter off).length) (ss.filter off).length by omega]

/-- what a trader finds worth it -/
def worth (pr : Int → Int) (cost : Int) (b s : Int) : Bool := decide (pr b + cost < pr s)
theorem mono_worth (pr : Int → Int) (cost : Int) (bs ss : List Int) : Mono (worth pr cost) (sortK pr bs) (sortK (fun c => -pr c) ss) := by
  constructor
  · refine (sortK_sorted pr bs).imp fun {x y} h s hs => ?_
    rw [leK_iff] at h
    unfold worth at hs ⊢
    rw [decide_eq_true_eq] at hs ⊢
    omega
  · refine (sortK_sorted (fun c => -pr c) ss).imp fun {x y} h b hb => ?_
    rw [leK_iff] at h
    unfold worth at hb ⊢
    rw [decide_eq_true_eq] at hb ⊢
    omega
theorem filter_zip_mt {ok : Int → Int → Bool} : ∀ (n : Nat) {b s : List Int}, Mono ok b s → ((b.zip s).filter fun p => ok p.1 p.2).take n = mt ok n b s
  | 0, _, _, _ => by simp [mt]
  | _ + 1, [], _, _ => by simp [mt]
  | _ + 1, _ :: _, [], _ => by simp [mt]
  | n + 1, x :: b, y :: s, m => by
    have mb := List.pairwise_cons.mp m.b
    have ms := List.pairwise_cons.mp m.s
    simp only [mt, List.zip_cons_cons]
    by_cases h : ok x y = true
    · rw [List.filter_cons_of_pos (by exact h), List.take_succ_cons, if_pos h, filter_zip_mt n ⟨mb.2, ms.2⟩]
    · rw [if_neg h]
      have e : ((x, y) :: b.zip s).filter (fun p => ok p.1 p.2) = [] := by
        rw [List.filter_eq_nil_iff]
        rintro ⟨p, q⟩ hp hok
        apply h
        rcases List.mem_cons.mp hp with e | hp
        · cases e; exact hok
        · obtain ⟨h1, h2⟩ := List.of_mem_zip hp
          exact mb.1 p h1 y (ms.1 q h2 p hok)
      rw [e]
      rfl
theorem pairsP_mt (pr : Int → Int) (room cost : Int) (bs ss : List Int) (off : Int → Bool) : pairsP pr room cost bs ss off = mt (worth pr cost) room.toNat ((sortK pr bs).filter off) ((sortK (fun c => -pr c) ss).filter off) := by
  unfold pairsP
  rw [sortK_filter, sortK_filter]
  exact filter_zip_mt room.toNat ((mono_worth pr cost bs ss).filter off off)
theorem tradedL_mt (pr : Int → Int) (cost : Int) : ∀ (n : Nat) (b s : List Int), tradedL pr cost n b s = (mt (worth pr cost) n b s).flatMap fun p => [p.1, p.2]
  | 0, _, _ => by simp [mt, tradedL]
  | _ + 1, [], _ => by simp [mt, tradedL]
  | _ + 1, _ :: _, [] => by simp [mt, tradedL]
  | n + 1, x :: b, y :: s => by
    simp only [mt, tradedL]
    by_cases h : pr y ≤ pr x + cost
    · have hw : ¬ worth pr cost x y = true := by
        unfold worth
        rw [decide_eq_true_eq]
        omega
      rw [if_pos h, if_neg hw]
      rfl
    · have hw : worth pr cost x y = true := by
        unfold worth
        rw [decide_eq_true_eq]
        omega
      rw [if_neg h, if_pos hw, tradedL_mt pr cost n b s]
      rfl
theorem flat_perm : ∀ l : List (Int × Int), (l.flatMap fun p => [p.1, p.2]).Perm (l.map (·.1) ++ l.map (·.2))
  | [] => .refl _
  | (x, y) :: l => by
    show (x :: y :: (l.flatMap fun p => [p.1, p.2])).Perm (x :: (l.map (·.1) ++ y :: l.map (·.2)))
    exact ((flat_perm l).cons y).trans List.perm_middle.symm |>.cons x
theorem trader_perm (pr : Int → Int) (room cost : Int) (bs ss : List Int) (off : Int → Bool) : (progP pr (.trader room cost bs ss) off).Perm (mtC (worth pr cost) room.toNat (sortK pr bs) (sortK (fun c => -pr c) ss) off) := by
  show ((pairsP pr room cost bs ss off).flatMap fun p => [p.1, p.2]).Perm _
  rw [pairsP_mt]
  exact flat_perm _

/-- the law's answer is the program's, sorted -/
structure Agrees (pr : Int → Int) (p : Plain) : Prop where
  eq : ∀ off, lawP pr p off = sortI (progP pr p off)
theorem agrees_maker (pr : Int → Int) (room : Int) (bs ss : List Int) : Agrees pr (.maker room bs ss) := ⟨fun off => by
  show sortI _ = sortI ((bs.filter off).take (min (min room (bs.filter off).length) (ss.filter off).length).toNat ++ (ss.filter off).take (min (min room (bs.filter off).length) (ss.filter off).length).toNat)
  rw [show (min (min room ((bs.filter off).length : Int)) ((ss.filter off).length : Int)) = min (min ((bs.filter off).length : Int) ((ss.filter off).length : Int)) room by omega]⟩
theorem agrees_sides (pr : Int → Int) (br : Int) (bs : List Int) (sr : Int) (ss : List Int) : Agrees pr (.sides br bs sr ss) := ⟨fun _ => rfl⟩
theorem agrees_trader (pr : Int → Int) (room cost : Int) (bs ss : List Int) : Agrees pr (.trader room cost bs ss) := ⟨fun off => by
  show sortI (tradedL pr cost room.toNat (sortK pr (bs.filter off)) (sortK (fun c => -pr c) (ss.filter off))) = sortI ((pairsP pr room cost bs ss off).flatMap fun p => [p.1, p.2])
  rw [tradedL_mt, pairsP_mt, sortK_filter, sortK_filter]⟩
theorem agrees_caps (pr : Int → Int) {bs ss : List Int} {bg sg : List (List Int × Int)} (nb : bs.Nodup) (ns : ss.Nodup) (hb : ∀ g ∈ bg, g.1.Nodup) (hs : ∀ g ∈ sg, g.1.Nodup) : Agrees pr (.caps bs bg ss sg) := ⟨fun off => by
  show sortI (greedyL bg off bs [] ++ greedyL sg off ss []) = sortI (greedyP bg (bs.filter off) [] ++ greedyP sg (ss.filter off) [])
  rw [greedyL_eq, greedyL_eq, greedyP_eq hb bs [] (by simpa using nb), greedyP_eq hs ss [] (by simpa using ns)]⟩
theorem agrees_table (pr : Int → Int) {rows : List (List Int)} (h : ∀ r ∈ rows, r.Pairwise (· ≤ ·)) : Agrees pr (.table rows) := ⟨fun off => by
  show firstRow rows off = sortI (firstRow rows off)
  refine (sortI_of_sorted ?_).symm
  unfold firstRow
  cases e : rows.find? (rowIn off) with
  | none => simp
  | some r => exact h r (List.mem_of_find?_eq_some e)⟩

/-! ### they are good -/
theorem good_maker (pr : Int → Int) {room : Int} (h0 : 0 ≤ room) {bs ss : List Int} (nb : bs.Nodup) (ns : ss.Nodup) (hd : ∀ c ∈ bs, c ∉ ss) : Good bs ss (progP pr (.maker room bs ss)) := by
  have e : progP pr (.maker room bs ss) = mtC (fun _ _ => true) room.toNat bs ss := funext fun off => maker_mtC pr h0 bs ss off
  rw [e]
  exact mtC_good (mono_true bs ss) nb ns hd
theorem good_sides (pr : Int → Int) (br : Int) {bs : List Int} (sr : Int) {ss : List Int} (nb : bs.Nodup) (ns : ss.Nodup) (hd : ∀ c ∈ bs, c ∉ ss) : Good bs ss (progP pr (.sides br bs sr ss)) :=
  (Side.take nb br.toNat).two (Side.take ns sr.toNat) hd
theorem good_trader (pr : Int → Int) (room cost : Int) {bs ss : List Int} (nb : bs.Nodup) (ns : ss.Nodup) (hd : ∀ c ∈ bs, c ∉ ss) : Good bs ss (progP pr (.trader room cost bs ss)) := by
  have nb' : (sortK pr bs).Nodup := (sortK_perm pr bs).nodup_iff.mpr nb
  have ns' : (sortK (fun c => -pr c) ss).Nodup := (sortK_perm _ ss).nodup_iff.mpr ns
  have hd' : ∀ c ∈ sortK pr bs, c ∉ sortK (fun c => -pr c) ss := fun c h1 h2 => hd c ((sortK_perm pr bs).mem_iff.mp h1) ((sortK_perm _ ss).mem_iff.mp h2)
  have g := mtC_good (n := room.toNat) (mono_worth pr cost bs ss) nb' ns' hd'
  have g2 := g.more (bs' := bs) (ss' := ss) (fun c h => (sortK_perm pr bs).mem_iff.mp h) (fun c h => (sortK_perm _ ss).mem_iff.mp h) hd
  exact g2.congr (fun off => (trader_perm pr room cost bs ss off).nodup_iff.mpr (g2.nd off)) fun off c => (trader_perm pr room cost bs ss off).mem_iff
theorem good_caps (pr : Int → Int) {bs ss : List Int} {bg sg : List (List Int × Int)} (nb : bs.Nodup) (ns : ss.Nodup) (hd : ∀ c ∈ bs, c ∉ ss) (hb : ∀ g ∈ bg, g.1.Nodup) (hs : ∀ g ∈ sg, g.1.Nodup) (lb : Laminar bg) (ls : Laminar sg) : Good bs ss (progP pr (.caps bs bg ss sg)) := by
  have e : progP pr (.caps bs bg ss sg) = fun off => greedy bg off bs [] ++ greedy sg off ss [] := funext fun off => by
    show greedyP bg (bs.filter off) [] ++ greedyP sg (ss.filter off) [] = _
    rw [greedyP_eq hb bs [] (by simpa using nb), greedyP_eq hs ss [] (by simpa using ns)]
  rw [e]
  exact (Side.caps nb lb).two (Side.caps ns ls) hd
end Nc
/-! M4: webs: the contracts of a house. -/
namespace Nc
def idxs (cs : List Ctr) (p : Ctr → Bool) : List Int := (cs.zipIdx.filter fun a => p a.1).map fun a => (a.2 : Int)
def buysOf (cs : List Ctr) (h : Int) : List Int := idxs cs fun c => decide (c.2.1 = h)
def sellsOf (cs : List Ctr) (h : Int) : List Int := idxs cs fun c => decide (c.1 = h)
def ownOf (cs : List Ctr) (h : Int) : List Int := idxs cs fun c => decide (h ∈ [c.1, c.2.1])
def price (cs : List Ctr) (c : Int) : Int := ((cs[c.toNat]?).map fun x => x.2.2).getD 0
/-- what the house h takes out of what is offered, by the program -/
def chooseW {ν : Type} (w : Web ν) (h : Int) (off : Int → Bool) : List Int := match w.hs[h.toNat]? with
  | some x => sortI (progC (price w.cs) x.2 off)
  | none => []
theorem idxs_len (cs : List Ctr) (p : Ctr → Bool) : (idxs cs p).length ≤ cs.length := by
  unfold idxs
  rw [List.length_map]
  refine Nat.le_trans (List.length_filter_le _ _) ?_
  rw [List.length_zipIdx]
  exact Nat.le_refl _
def rangeI (n : Nat) : List Int := (List.range n).map fun (i : Nat) => (i : Int)
theorem greedyP_snoc (gs : List (List Int × Int)) (c : Int) : ∀ (l f : List Int), greedyP gs (l ++ [c]) f = if okP gs (greedyP gs l f) c = true then greedyP gs l f ++ [c] else greedyP gs l f
  | [], f => by simp only [List.nil_append, greedyP]; rfl
  | x :: l, f => by
    simp only [List.cons_append, greedyP]
    split
    · exact greedyP_snoc gs c l _
    · exact greedyP_snoc gs c l _
theorem greedyP_len (gs : List (List Int × Int)) : ∀ (l f : List Int), (greedyP gs l f).length ≤ f.length + l.length
  | [], f => by simp [greedyP]
  | x :: l, f => by
    simp only [greedyP]
    split
    · have := greedyP_len gs l (f ++ [x])
      simp only [List.length_append, List.length_cons, List.length_nil] at this ⊢
      omega
    · have := greedyP_len gs l f
      simp only [List.length_cons]
      omega
theorem okP_all (gs : List (List Int × Int)) (F : List Int) (c : Int) :
    (((gs.filter fun g => decide (c ∈ g.1)).map fun g => g.2 - ((g.1.filter fun x => decide (x ∈ F)).length : Int)).all fun x => decide (0 < x)) = okP gs F c := by
  unfold okP
  rw [List.all_map, List.all_filter]
  rfl
end Nc
/-! M5: masks. -/
namespace Nc
def bitsN (ns : List Int) : Nat := (ns.map fun n => 2 ^ n.toNat).sum
def setL (m : Nat) : List Int := ((List.range 12).filter fun k => m.testBit k).map fun (k : Nat) => (k : Int)
theorem bitsN_perm {a b : List Int} (p : a.Perm b) : bitsN a = bitsN b := (p.map _).sum_nat
theorem bits_sorted : ∀ (r : List Int), r.Pairwise (· > ·) → (∀ c ∈ r, 0 ≤ c) → (∀ k : Nat, (bitsN r).testBit k = decide ((k : Int) ∈ r)) ∧ ∀ t : Nat, (∀ c ∈ r, c < t) → bitsN r < 2 ^ t
  | [], _, _ => ⟨fun k => by simp [bitsN], fun t _ => by simp [bitsN]; exact Nat.two_pow_pos t⟩
  | c :: r, hp, h0 => by
    obtain ⟨hc, hp⟩ := List.pairwise_cons.mp hp
    obtain ⟨ih1, ih2⟩ := bits_sorted r hp fun d hd => h0 d (List.mem_cons_of_mem _ hd)
    have c0 := h0 c List.mem_cons_self
    have hlt : bitsN r < 2 ^ c.toNat := ih2 c.toNat fun d hd => by
      have := hc d hd
      omega
    have e : bitsN (c :: r) = 2 ^ c.toNat + bitsN r := by simp [bitsN]
    constructor
    · intro k
      rw [e]
      rcases Nat.lt_trichotomy k c.toNat with h | h | h
      · rw [Nat.testBit_two_pow_add_gt h, ih1 k]
        apply decide_eq_decide.mpr
        constructor
        · exact fun z => List.mem_cons_of_mem _ z
        · intro z
          rcases List.mem_cons.mp z with z | z
          · omega
          · exact z
      · subst h
        rw [Nat.testBit_two_pow_add_eq, Nat.testBit_lt_two_pow hlt]
        have : ((c.toNat : Nat) : Int) ∈ c :: r := by
          rw [Int.toNat_of_nonneg c0]
          exact List.mem_cons_self
        rw [decide_eq_true this]
        rfl
      · have h2 : 2 ^ c.toNat + bitsN r < 2 ^ k := by
          have : 2 ^ (c.toNat + 1) ≤ 2 ^ k := Nat.pow_le_pow_right (by decide) h
          rw [Nat.pow_succ] at this
          omega
        rw [Nat.testBit_lt_two_pow h2]
        symm
        apply decide_eq_false
        intro z
        rcases List.mem_cons.mp z with z | z
        · omega
        · have := hc _ z
          omega
    · intro t ht
      rw [e]
      have h1 := ht c List.mem_cons_self
      have : 2 ^ (c.toNat + 1) ≤ 2 ^ t := Nat.pow_le_pow_right (by decide) (by omega)
      rw [Nat.pow_succ] at this
      omega
theorem sort_desc {r : List Int} (nd : r.Nodup) : ∃ r' : List Int, r'.Perm r ∧ r'.Pairwise (· > ·) := by
  refine ⟨(sortI r).reverse, (List.reverse_perm _).trans (sortI_perm r), ?_⟩
  rw [List.pairwise_reverse]
  have h1 := sortI_sorted r
  have h2 := sortI_nodup.mpr nd
  refine (List.pairwise_iff_getElem.mpr fun i j hi hj hij => ?_)
  have a := List.pairwise_iff_getElem.mp h1 i j hi hj hij
  have b := List.pairwise_iff_getElem.mp h2 i j hi hj hij
  omega
theorem bits_test {r : List Int} (nd : r.Nodup) (h0 : ∀ c ∈ r, 0 ≤ c) (k : Nat) : (bitsN r).testBit k = decide ((k : Int) ∈ r) := by
  obtain ⟨r', p, hs⟩ := sort_desc nd
  rw [← bitsN_perm p, (bits_sorted r' hs fun c hc => h0 c (p.mem_iff.mp hc)).1 k]
  exact decide_eq_decide.mpr p.mem_iff
theorem bits_lt {r : List Int} (nd : r.Nodup) (h0 : ∀ c ∈ r, 0 ≤ c) {t : Nat} (ht : ∀ c ∈ r, c < t) : bitsN r < 2 ^ t := by
  obtain ⟨r', p, hs⟩ := sort_desc nd
  rw [← bitsN_perm p]
  exact (bits_sorted r' hs fun c hc => h0 c (p.mem_iff.mp hc)).2 t fun c hc => ht c (p.mem_iff.mp hc)
theorem setL_mem {m : Nat} {c : Int} : c ∈ setL m ↔ 0 ≤ c ∧ c < 12 ∧ m.testBit c.toNat = true := by
  unfold setL
  rw [List.mem_map]
  constructor
  · rintro ⟨k, hk, rfl⟩
    obtain ⟨h1, h2⟩ := List.mem_filter.mp hk
    have := List.mem_range.mp h1
    exact ⟨by omega, by omega, by simpa using h2⟩
  · rintro ⟨h0, h1, h2⟩
    exact ⟨c.toNat, List.mem_filter.mpr ⟨List.mem_range.mpr (by omega), h2⟩, by omega⟩
theorem setL_sorted (m : Nat) : (setL m).Pairwise (· < ·) := by
  unfold setL
  rw [List.pairwise_map]
  exact (List.pairwise_lt_range.sublist List.filter_sublist).imp fun h => by omega
theorem setL_nodup (m : Nat) : (setL m).Nodup := (setL_sorted m).imp fun h => by omega
theorem setL_bits {r : List Int} (nd : r.Nodup) (h : ∀ c ∈ r, 0 ≤ c ∧ c < 12) (c : Int) : c ∈ setL (bitsN r) ↔ c ∈ r := by
  rw [setL_mem]
  constructor
  · rintro ⟨h0, _, h2⟩
    rw [bits_test nd (fun c hc => (h c hc).1)] at h2
    have := of_decide_eq_true h2
    rwa [Int.toNat_of_nonneg h0] at this
  · intro hc
    obtain ⟨h0, h1⟩ := h c hc
    refine ⟨h0, h1, ?_⟩
    rw [bits_test nd (fun c hc => (h c hc).1)]
    apply decide_eq_true
    rw [Int.toNat_of_nonneg h0]
    exact hc
theorem bits_setL {m : Nat} (hm : m < 2 ^ 12) : bitsN (setL m) = m := by
  apply Nat.eq_of_testBit_eq
  intro k
  rw [bits_test (setL_nodup m) (fun c hc => (setL_mem.mp hc).1)]
  by_cases hk : k < 12
  · by_cases hb : m.testBit k = true
    · rw [hb]
      exact decide_eq_true (setL_mem.mpr ⟨by omega, by omega, by simpa using hb⟩)
    · rw [Bool.eq_false_iff.mpr hb]
      apply decide_eq_false
      intro z
      have := (setL_mem.mp z).2.2
      simp at this
      exact hb this
  · have h2 : m < 2 ^ k := Nat.lt_of_lt_of_le hm (Nat.pow_le_pow_right (by decide) (by omega))
    rw [Nat.testBit_lt_two_pow h2]
    apply decide_eq_false
    intro z
    have := (setL_mem.mp z).2.1
    omega
theorem eq_setL {r : List Int} (h : r.Pairwise (· < ·)) {m : Nat} (hm : ∀ c, c ∈ r ↔ c ∈ setL m) : r = setL m := by
  have p : r.Perm (setL m) := (List.perm_ext_iff_of_nodup (h.imp fun z => by omega) (setL_nodup m)).mpr hm
  exact p.eq_of_pairwise (fun a b _ _ z z' => by omega) h (setL_sorted m)
/-! ### the plan by masks -/
structure Ent where
  b : Nat
  s : Nat
  f : Nat → Nat
def Ent.o (e : Ent) : Nat := e.b ||| e.s
def keptE (N : Nat) (e : Ent) : Bool := decide (e.f (N &&& e.o) = N &&& e.o)
def keptN (es : List Ent) (N : Nat) : Bool := es.all (keptE N)
def gainE (N L : Nat) (e : Ent) : Bool := !(decide (0 < L &&& e.o) && !decide (e.f ((N ||| L) &&& e.o) &&& (L &&& e.o) = L &&& e.o))
def gainsN (es : List Ent) (N L : Nat) : Bool := es.all (gainE N L)
def withinN (ev : Nat) : List Nat := (List.range (ev + 1)).filter fun m => decide (m &&& ev = m)
def hasN (es : List Ent) (N ev : Nat) : Bool := (withinN (ev - N)).any fun L => decide (0 < L) && gainsN es N L
def restN (es : List Ent) (ev : Nat) : List Nat := (List.range (ev + 1)).filter fun N => keptN es N && !hasN es N ev
theorem and_and_self (a b : Nat) : (a &&& b) &&& b = a &&& b := by rw [Nat.and_assoc, Nat.and_self]
end Nc
set_option maxHeartbeats 4000000
/-! W0: what is kept between two heaps, data, and the questions of the rules in these words. -/
namespace Nc
open PySem PySem.Spec L2

/-! ### what is kept -/
/-- all but the tables and the lists at M is kept -/
structure Fr (T : List (Addr × Str)) (M : List Addr) (H H' : Hp) : Prop where
  keep : ∀ a o, a ∉ M → H a = some o → (∀ ps, o ≠ .tbl ps) → H' a = some o
  tabs : LamX.Tabs T H → LamX.Tabs T H'
  m0 : ∀ p ∈ M, ∃ l, H p = some (.lst l)
  m1 : ∀ p ∈ M, ∃ l, H' p = some (.lst l)
/-- nothing but perhaps a table stands at p -/
def Fresh (H : Hp) (p : Addr) : Prop := ∀ o, H p = some o → ∃ ps, o = .tbl ps
theorem Fresh.of {H : Hp} {p : Addr} (h : H p = none) : Fresh H p := fun o e => by rw [h] at e; cases e
theorem Fresh.ne {H : Hp} {p a : Addr} {o : HO} (h : Fresh H p) (e : H a = some o) (n : ∀ ps, o ≠ .tbl ps) : a ≠ p := fun z => by
  subst z
  obtain ⟨ps, q⟩ := h o e
  exact n ps q
theorem Fresh.lst {H : Hp} {p a : Addr} {l : List V} (h : Fresh H p) (e : H a = some (.lst l)) : a ≠ p := h.ne e fun ps z => by cases z
section
variable {T : List (Addr × Str)} {M : List Addr} {H H0 H1 H2 : Hp} {p : Addr} {o : HO}
theorem Fr.refl (H : Hp) : Fr T [] H H := ⟨fun _ _ _ h _ => h, id, fun _ h => by simp at h, fun _ h => by simp at h⟩
theorem Fr.reflM (h : ∀ p ∈ M, ∃ l, H p = some (.lst l)) : Fr T M H H := ⟨fun _ _ _ h _ => h, id, h, h⟩
theorem Fr.fresh (f : Fr T M H H1) (h : Fresh H1 p) : Fresh H p := fun o e => Classical.byContradiction fun n => by
  by_cases hm : p ∈ M
  · obtain ⟨l, q⟩ := f.m1 p hm
    obtain ⟨ps, z⟩ := h _ q
    cases z
  · exact n (h o (f.keep p o hm e fun ps z => n ⟨ps, z⟩))
theorem Fr.there (f : Fr T M H H1) (h : H1 p = none) : Fresh H p := f.fresh (Fresh.of h)
theorem Fr.trans (a : Fr T M H H1) (b : Fr T M H1 H2) : Fr T M H H2 :=
  ⟨fun c o m h n => b.keep c o m (a.keep c o m h n) n, fun t => b.tabs (a.tabs t), a.m0, b.m1⟩
theorem Fr.wide (a : Fr T [] H H1) (h : ∀ p ∈ M, ∃ l, H p = some (.lst l)) : Fr T M H H1 :=
  ⟨fun c o _ e n => a.keep c o (by simp) e n, a.tabs, h, fun p hp => by
    obtain ⟨l, e⟩ := h p hp
    exact ⟨l, a.keep p _ (by simp) e (fun ps z => by cases z)⟩⟩
theorem tabs_same {T : List (Addr × Str)} {H H' : Hp} (h : ∀ a o, H a = some o → (∀ xs, o ≠ .lst xs) → (∀ kvs, o ≠ .dK kvs) → H' a = some o) (t : LamX.Tabs T H) : LamX.Tabs T H' := by
  intro q hq
  obtain ⟨ps, h1, h2, h3⟩ := t q hq
  refine ⟨ps, h _ _ h1 (fun xs z => by cases z) (fun xs z => by cases z), h2, fun pos cv hc => ?_⟩
  obtain ⟨c, e1, e2⟩ := h3 pos cv hc
  exact ⟨c, e1, h _ _ e2 (fun xs z => by unfold LamX.CodeO at z; cases z) (fun xs z => by unfold LamX.CodeO at z; cases z)⟩
/-- a new object -/
theorem Fr.new (hp : H p = none) : Fr T [] H (upd H p o) :=
  ⟨fun a u _ e _ => by rw [upd_ne (ne_of_none e hp)]; exact e, fun t => t.ext fun a u e => by rw [upd_ne (ne_of_none e hp)]; exact e, fun _ h => by simp at h, fun _ h => by simp at h⟩
theorem Fr.andNew (f : Fr T M H H1) (hp : H1 p = none) : Fr T M H (upd H1 p o) := f.trans (Fr.wide (Fr.new hp) f.m1)
/-- a list that the first heap does not know changes -/
theorem Fr.mut {l l' : List V} (f : Fr T M H H1) (hn : Fresh H p) (hp : H1 p = some (.lst l)) : Fr T M H (upd H1 p (.lst l')) := by
  refine ⟨fun a u m e n => ?_, fun t => ?_, f.m0, fun q hq => ?_⟩
  · rw [upd_ne (hn.ne e n)]
    exact f.keep a u m e n
  · refine tabs_same (fun a u e n _ => ?_) (f.tabs t)
    have : a ≠ p := by
      rintro rfl
      rw [hp] at e
      exact n l (Option.some.inj e).symm
    rw [upd_ne this]
    exact e
  · have : q ≠ p := by
      obtain ⟨l, e⟩ := f.m0 _ hq
      exact hn.lst e
    rw [upd_ne this]
    exact f.m1 q hq
/-- a dict that the first heap does not know changes -/
theorem Fr.mutD {l l' : List (Key × V)} (f : Fr T M H H1) (hn : Fresh H p) (hp : H1 p = some (.dK l)) : Fr T M H (upd H1 p (.dK l')) := by
  refine ⟨fun a u m e n => ?_, fun t => ?_, f.m0, fun q hq => ?_⟩
  · rw [upd_ne (hn.ne e n)]
    exact f.keep a u m e n
  · refine tabs_same (fun a u e _ n => ?_) (f.tabs t)
    have : a ≠ p := by
      rintro rfl
      rw [hp] at e
      exact n l (Option.some.inj e).symm
    rw [upd_ne this]
    exact e
  · have : q ≠ p := by
      obtain ⟨l, e⟩ := f.m0 _ hq
      exact hn.lst e
    rw [upd_ne this]
    exact f.m1 q hq
/-- a list of M changes -/
theorem Fr.set {l' : List V} (hM : ∀ p ∈ M, ∃ l, H p = some (.lst l)) (hp : p ∈ M) : Fr T M H (upd H p (.lst l')) := by
  obtain ⟨l, hl⟩ := hM p hp
  refine ⟨fun a u m e n => ?_, fun t => ?_, hM, fun q hq => ?_⟩
  · rw [upd_ne (fun z : a = p => m (by rw [z]; exact hp))]
    exact e
  · refine tabs_same (fun a u e n _ => ?_) t
    have : a ≠ p := by
      rintro rfl
      rw [hl] at e
      exact n l (Option.some.inj e).symm
    rw [upd_ne this]
    exact e
  · by_cases h : q = p
    · subst h; exact ⟨l', upd_same⟩
    · rw [upd_ne h]; exact hM q hq
theorem Fr.andSet {l' : List V} (f : Fr T M H H1) (hp : p ∈ M) : Fr T M H (upd H1 p (.lst l')) := f.trans (Fr.set f.m1 hp)
theorem Fr.lst {l : List V} (f : Fr T M H H1) (h : H p = some (.lst l)) (hm : p ∉ M) : H1 p = some (.lst l) := f.keep p _ hm h (fun ps z => by cases z)
theorem Fr.lst0 {l : List V} (f : Fr T [] H H1) (h : H p = some (.lst l)) : H1 p = some (.lst l) := f.lst h (by simp)
theorem Fr.dk {l : List (Key × V)} (f : Fr T [] H H1) (h : H p = some (.dK l)) : H1 p = some (.dK l) := f.keep p _ (by simp) h (fun ps z => by cases z)
theorem Fr.frz {ob : Obj} {u : HO} (f : Fr T M H H1) (h : H p = some (.frz ob u)) : H1 p = some (.frz ob u) := f.keep p _ (fun hm => by
  obtain ⟨l, e⟩ := f.m0 p hm
  rw [h] at e
  cases e) h (fun ps z => by cases z)
theorem Fr.tup {xs : List V} (f : Fr T M H H1) (h : H p = some (.tup xs)) : H1 p = some (.tup xs) := f.keep p _ (fun hm => by
  obtain ⟨l, e⟩ := f.m0 p hm
  rw [h] at e
  cases e) h (fun ps z => by cases z)
theorem Fr.sqT {K : PySem.W.Frag} {xs : List V} (f : Fr T M H H1) (h : SqT K H p xs) : SqT K H1 p xs := by
  rcases h with (h | ⟨ob, h⟩) | h
  · exact Or.inl (Or.inl (f.tup h))
  · exact Or.inl (Or.inr ⟨ob, f.frz h⟩)
  · exact Or.inr h
end

/-! ### data: tuples of tuples, ints, texts -/
mutual
inductive Td (K : PySem.W.Frag) (H : Hp) : V → PyData → Prop
  | non : Td K H .non .none
  | bl (b : Bool) : Td K H (.bl b) (.bool b)
  | int (i : Int) : Td K H (.int i) (.int i)
  | str (x : Str) : Td K H (.str x) (.str x)
  | tup {a : Addr} {xs : List V} {ds : List PyData} : SqT K H a xs → TdAll K H xs ds → Td K H (.ref a) (.tuple ds)
inductive TdAll (K : PySem.W.Frag) (H : Hp) : List V → List PyData → Prop
  | nil : TdAll K H [] []
  | cons {v : V} {vs : List V} {d : PyData} {ds : List PyData} : Td K H v d → TdAll K H vs ds → TdAll K H (v :: vs) (d :: ds)
end
section
variable {T : List (Addr × Str)} {M : List Addr} {K : PySem.W.Frag} {H H1 : Hp} {v : V} {d : PyData} {vs : List V} {ds : List PyData}
mutual
theorem Td.mono (f : Fr T M H H1) : ∀ {d : PyData} {v : V}, Td K H v d → Td K H1 v d
  | .none, _, h => by cases h; exact .non
  | .bool _, _, h => by cases h; exact .bl _
  | .int _, _, h => by cases h; exact .int _
  | .str _, _, h => by cases h; exact .str _
  | .list _, _, h => by cases h
  | .tuple ds, _, h => by
    cases h with
    | tup h1 h2 => exact .tup (f.sqT h1) (TdAll.mono f h2)
  | .dict _, _, h => by cases h
theorem TdAll.mono (f : Fr T M H H1) : ∀ {ds : List PyData} {vs : List V}, TdAll K H vs ds → TdAll K H1 vs ds
  | [], _, h => by cases h; exact .nil
  | d :: ds, _, h => by
    cases h with
    | cons h1 h2 => exact .cons (Td.mono f h1) (TdAll.mono f h2)
end
mutual
theorem Td.dp : ∀ {d : PyData} {v : V}, Td K H v d → Dp K H v d
  | .none, _, h => by cases h; exact .non
  | .bool _, _, h => by cases h; exact .bl _
  | .int _, _, h => by cases h; exact .int _
  | .str _, _, h => by cases h; exact .str _
  | .list _, _, h => by cases h
  | .tuple ds, _, h => by
    cases h with
    | tup h1 h2 => exact .tup h1 (TdAll.dp h2)
  | .dict _, _, h => by cases h
theorem TdAll.dp : ∀ {ds : List PyData} {vs : List V}, TdAll K H vs ds → DpAll K H vs ds
  | [], _, h => by cases h; exact .nil
  | d :: ds, _, h => by
    cases h with
    | cons h1 h2 => exact .cons (Td.dp h1) (TdAll.dp h2)
end
theorem Td.int_inv {i : Int} (h : Td K H v (.int i)) : v = .int i := by cases h; rfl
theorem Td.bl_inv {b : Bool} (h : Td K H v (.bool b)) : v = .bl b := by cases h; rfl
theorem Td.str_inv {x : Str} (h : Td K H v (.str x)) : v = .str x := by cases h; rfl
theorem Td.tup_inv (h : Td K H v (.tuple ds)) : ∃ a xs, v = .ref a ∧ SqT K H a xs ∧ TdAll K H xs ds := by
  cases h with
  | tup h1 h2 => exact ⟨_, _, rfl, h1, h2⟩
theorem TdAll.length (h : TdAll K H vs ds) : vs.length = ds.length := by
  induction ds generalizing vs with
  | nil => cases h; rfl
  | cons d ds ih =>
    cases h with
    | cons h1 h2 => simp [ih h2]
theorem TdAll.get (h : TdAll K H vs ds) {i : Nat} (hd : ds[i]? = some d) : ∃ v, vs[i]? = some v ∧ Td K H v d := by
  induction ds generalizing vs i with
  | nil => simp at hd
  | cons e ds ih =>
    cases h with
    | cons h1 h2 =>
      cases i with
      | zero =>
        simp at hd
        subst hd
        exact ⟨_, rfl, h1⟩
      | succ i =>
        simp at hd
        obtain ⟨v, hv, q⟩ := ih h2 hd
        exact ⟨v, by simpa using hv, q⟩
theorem TdAll.getV (h : TdAll K H vs ds) {i : Nat} (hv : vs[i]? = some v) : ∃ d, ds[i]? = some d ∧ Td K H v d := by
  have hi := (List.getElem?_eq_some_iff.mp hv).1
  rw [h.length] at hi
  obtain ⟨w, hw, q⟩ := h.get (List.getElem?_eq_getElem hi)
  rw [hv] at hw
  cases hw
  exact ⟨_, List.getElem?_eq_getElem hi, q⟩
theorem TdAll.snoc (h : TdAll K H vs ds) (q : Td K H v d) : TdAll K H (vs ++ [v]) (ds ++ [d]) := by
  induction ds generalizing vs with
  | nil => cases h; exact .cons q .nil
  | cons e ds ih =>
    cases h with
    | cons h1 h2 => exact .cons h1 (ih h2)
theorem TdAll.append {ws : List V} {es : List PyData} (h : TdAll K H vs ds) (q : TdAll K H ws es) : TdAll K H (vs ++ ws) (ds ++ es) := by
  induction ds generalizing vs with
  | nil => cases h; exact q
  | cons e ds ih =>
    cases h with
    | cons h1 h2 => exact .cons h1 (ih h2)
theorem TdAll.take (h : TdAll K H vs ds) (n : Nat) : TdAll K H (vs.take n) (ds.take n) := by
  induction ds generalizing vs n with
  | nil => cases h; simp; exact .nil
  | cons e ds ih =>
    cases h with
    | cons h1 h2 =>
      cases n with
      | zero => exact .nil
      | succ n => exact .cons h1 (ih h2 n)
theorem TdAll.drop (h : TdAll K H vs ds) (n : Nat) : TdAll K H (vs.drop n) (ds.drop n) := by
  induction ds generalizing vs n with
  | nil => cases h; simp; exact .nil
  | cons e ds ih =>
    cases h with
    | cons h1 h2 =>
      cases n with
      | zero => exact .cons h1 h2
      | succ n => exact ih h2 n
theorem TdAll.atI (h : TdAll K H vs ds) {k : Int} (hd : L2.atI ds k = some d) : ∃ v, L2.atI vs k = some v ∧ Td K H v d := by
  unfold L2.atI at hd ⊢
  rw [h.length]
  cases e : ixN ds.length k with
  | none => rw [e] at hd; cases hd
  | some j =>
    rw [e] at hd
    exact h.get (show ds[j]? = some d from hd)
theorem tdAll_ints (ns : List Int) : TdAll K H (ns.map V.int) (ns.map PyData.int) := by
  induction ns with
  | nil => exact .nil
  | cons n ns ih => exact .cons (.int n) ih
theorem TdAll.ints {ns : List Int} (h : TdAll K H vs (ns.map PyData.int)) : vs = ns.map V.int := by
  induction ns generalizing vs with
  | nil => cases h; rfl
  | cons n ns ih =>
    cases h with
    | cons h1 h2 =>
      rw [h1.int_inv, ih h2]
      rfl
end

/-- a tuple of ints -/
abbrev tI (ns : List Int) : PyData := .tuple (ns.map PyData.int)
section
variable {T : List (Addr × Str)} {M : List Addr} {K : PySem.W.Frag} {H H1 : Hp} {v : V} {ns : List Int}
theorem td_tI (h : Td K H v (tI ns)) : ∃ a, v = .ref a ∧ SqT K H a (ns.map V.int) := by
  obtain ⟨a, xs, rfl, h1, h2⟩ := h.tup_inv
  rw [h2.ints] at h1
  exact ⟨a, rfl, h1⟩
theorem td_of {a : Addr} (h : SqT K H a (ns.map V.int)) : Td K H (.ref a) (tI ns) := .tup h (tdAll_ints ns)
theorem td_new {a : Addr} {xs : List V} {ds : List PyData} (h : H a = some (.tup xs)) (hd : TdAll K H xs ds) : Td K H (.ref a) (.tuple ds) := .tup (SqT.of h) hd

/-- a list or a tuple of ints -/
def SqI (K : PySem.W.Frag) (H : Hp) (v : V) (ns : List Int) : Prop := ∃ a, v = .ref a ∧ ((∃ hl : H a = some (.lst (ns.map V.int)), True) ∨ SqT K H a (ns.map V.int))
theorem SqI.of_l {a : Addr} (h : H a = some (.lst (ns.map V.int))) : SqI K H (.ref a) ns := ⟨a, rfl, Or.inl ⟨h, trivial⟩⟩
theorem SqI.of_t (h : Td K H v (tI ns)) : SqI K H v ns := by
  obtain ⟨a, rfl, q⟩ := td_tI h
  exact ⟨a, rfl, Or.inr q⟩
theorem SqI.sq (h : SqI K H v ns) : ∃ a, v = .ref a ∧ (SqL K H a (ns.map V.int) ∨ SqT K H a (ns.map V.int)) := by
  obtain ⟨a, rfl, ⟨h, _⟩ | h⟩ := h
  · exact ⟨a, rfl, Or.inl (SqL.of h)⟩
  · exact ⟨a, rfl, Or.inr h⟩
theorem SqI.mono (f : Fr T [] H H1) (h : SqI K H v ns) : SqI K H1 v ns := by
  obtain ⟨a, rfl, ⟨h, _⟩ | h⟩ := h
  · exact ⟨a, rfl, Or.inl ⟨f.lst0 h, trivial⟩⟩
  · exact ⟨a, rfl, Or.inr (f.sqT h)⟩
end

/-! ### the questions of the rules -/
section
variable {T : List (Addr × Str)} {M : List Addr} {K : PySem.W.Frag} {H H1 : Hp} {v w : V} {d : PyData} {ds : List PyData} {ns : List Int} {Q : VK}
theorem q_ixT {k : Int} (h : Td K H v (.tuple ds)) (hk : atI ds k = some d) (q : ∀ u, Td K H u d → Q u H) : rIxT K v (.int k) H Q := by
  obtain ⟨a, xs, rfl, h1, h2⟩ := h.tup_inv
  obtain ⟨u, hu, hd⟩ := h2.atI hk
  exact ⟨a, xs, k, u, rfl, rfl, h1, hu, q u hd⟩
theorem q_ixL {a : Addr} {xs : List V} {k : Int} {u : V} (h : H a = some (.lst xs)) (hk : atI xs k = some u) (q : Q u H) : rIxL K (.ref a) (.int k) H Q := ⟨a, xs, k, u, rfl, rfl, SqL.of h, hk, q⟩
theorem inV_int (c : Int) (ns : List Int) : inV (.int c) (ns.map V.int) = decide (c ∈ ns) := by
  unfold inV
  induction ns with
  | nil => simp
  | cons n ns ih =>
    rw [List.map_cons, List.any_cons, ih]
    have e : eqV (.int n) (.int c) = decide (n = c) := by
      show (n == c) = decide (n = c)
      by_cases h : n = c
      · subst h; simp
      · simp [h]
    rw [e]
    by_cases h : n = c
    · subst h; simp
    · have h' : ¬ c = n := fun z => h z.symm
      simp [h, h']
theorem flat_ints (ns : List Int) : (ns.map V.int).all flatV = true := by
  induction ns with
  | nil => rfl
  | cons n ns ih => rw [List.map_cons, List.all_cons, ih]; rfl
theorem q_in {neg : Bool} {c : Int} (h : SqI K H v ns) (q : Q (.bl (if neg then !decide (c ∈ ns) else decide (c ∈ ns))) H) : rIn K neg (.int c) v H Q := by
  obtain ⟨a, ea, h2⟩ := h.sq
  refine ⟨a, ns.map V.int, ea, h2, rfl, flat_ints ns, ?_⟩
  rw [inV_int]
  exact q
theorem q_len {vs : List V} {n : Nat} {a : Addr} (h : SqL K H a vs ∨ SqT K H a vs) (hn : vs.length = n) (q : Q (.int n) H) : ∃ p ys, [V.ref a] = [V.ref p] ∧ (SqL K H p ys ∨ SqT K H p ys) ∧ Q (.int ys.length) H :=
  ⟨a, vs, rfl, h, by rw [hn]; exact q⟩
end

/-! ### sorted ints -/
section
variable {K : PySem.W.Frag} {H : Hp} {Q : VK} {ns : List Int}
theorem q_sortedL {a : Addr} (h : H a = some (.lst (ns.map V.int))) (q : ∀ p, H p = none → Q (.ref p) (upd H p (.lst ((sortI ns).map V.int)))) : rSortedI K [.ref a] H Q :=
  ⟨a, ns, rfl, SqL.of h, fun ns' p hp hs hn => by rw [sortI_eq hp hs]; exact q p hn⟩
end

/-! ### == of tuples of ints -/
theorem eqvAll_ints : ∀ xs ys : List Int, PyData.eqvAll (xs.map PyData.int) (ys.map PyData.int) = decide (xs = ys)
  | [], [] => by simp [PyData.eqvAll]
  | [], _ :: _ => by simp [PyData.eqvAll]
  | _ :: _, [] => by simp [PyData.eqvAll]
  | x :: xs, y :: ys => by
    rw [List.map_cons, List.map_cons, PyData.eqvAll, eqvAll_ints xs ys]
    have e : PyData.eqv (.int x) (.int y) = decide (x = y) := by
      rw [PyData.eqv]
      by_cases h : x = y
      · subst h; simp
      · simp [h]
    rw [e]
    by_cases h : x = y <;> by_cases h' : xs = ys <;> simp [h, h']
theorem eqv_tI (xs ys : List Int) : PyData.eqv (tI xs) (tI ys) = decide (xs = ys) := by rw [PyData.eqv, eqvAll_ints]
theorem lay_ints : ∀ ns : List Int, PyData.canLayAll0 (ns.map PyData.int) = true
  | [] => by simp [PyData.canLayAll0]
  | n :: ns => by simp [PyData.canLayAll0, PyData.canLay0, lay_ints ns]
theorem depth_ints : ∀ ns : List Int, PyData.depthAll (ns.map PyData.int) = 0
  | [] => by simp [PyData.depthAll]
  | n :: ns => by simp [PyData.depthAll, PyData.depth, depth_ints ns]
theorem tI_shaped (ns : List Int) : SeqAt.shaped (tI ns) = true := by
  have h := depth_ints ns
  show (PyData.canLay0 (tI ns) && decide (PyData.depth (tI ns) ≤ 64)) = true
  rw [Bool.and_eq_true]
  refine ⟨by simp only [PyData.canLay0]; exact lay_ints ns, decide_eq_true ?_⟩
  simp only [PyData.depth]
  omega
end Nc
set_option maxHeartbeats 4000000
/-! W1: comprehensions and loops over data; the text by places; defs and what they promise. -/
namespace Nc
open PySem PySem.Spec L2

section
variable {T : List (Addr × Str)} {M : List Addr} {K : PySem.W.Frag}
/-- what a comprehension's reading asks once its iterator has come -/
def LcQ (J : It) (g : TG) (tt : TT) (te : TE) (vs : List Nat) (σ : St) (H1 : Hp) (Q : VK) : Prop :=
  ∀ D, H1 D = none → ∃ W : Nat → Nat → Hp → Prop, (∃ m, W 0 m (upd H1 D (.lst []))) ∧ ∀ i m H, W i m H →
    (J.stop i H ∧ Q (.ref D) H) ∨ (J.go i H ∧ ∃ Nx : Hp → Prop, (∀ H', Nx H' → ∃ m', m' < m ∧ W (i + 1) m' H') ∧ ∀ x H', J.yld i H x H' → g x (wipe σ vs) H' fun σ2 H2 => wipe σ2 vs = wipe σ vs ∧ tt σ2 H2 fun b H3 =>
      if b = true then te σ2 H3 fun y H4 => ∃ acc, H4 D = some (.lst acc) ∧ acc.length < sizeLine ∧ Nx (upd H4 D (.lst (acc ++ [y]))) else Nx H3)
theorem filt_true {α : Type} (l : List α) : (l.filter fun _ => true) = l := List.filter_eq_self.mpr fun _ _ => rfl
theorem take_snoc {α : Type} {as : List α} {i : Nat} {a : α} (h : as[i]? = some a) : as.take (i + 1) = as.take i ++ [a] := by
  rw [List.take_add_one, h]; rfl
/-- a comprehension over anything walked: each turn's test and element are told of the item -/
theorem lc_td {J : It} {n : Nat} {G : Hp → Prop} {Y : Nat → Hp → V → Hp → Prop} (w : Walk J n G Y) {α : Type} (as : List α) (hn : as.length = n) (hz : as.length < sizeLine) {g : TG} {tt : TT} {te : TE} {vs : List Nat} {σ : St} {H1 : Hp} {Q : VK}
    (f : α → Bool) (d : α → PyData) (Tn : α → St → Hp → Prop) (hG : ∀ H', Fr T [] H1 H' → G H')
    (hg : ∀ (i : Nat) (a : α) (x : V) (Ha Hb : Hp), as[i]? = some a → Fr T [] H1 Ha → Y i Ha x Hb → ∀ R : St → Hp → Prop, (∀ σ2 H2, Fr T [] Ha H2 → wipe σ2 vs = wipe σ vs → Tn a σ2 H2 → R σ2 H2) → g x (wipe σ vs) Hb R)
    (ht : ∀ (i : Nat) (a : α) (σ2 : St) (H2 : Hp), as[i]? = some a → Fr T [] H1 H2 → Tn a σ2 H2 → ∀ (R1 : V → Hp → Prop) (R2 : Hp → Prop), (f a = true → ∀ v H3, Fr T [] H2 H3 → Td K H3 v (d a) → R1 v H3) → (f a = false → ∀ H3, Fr T [] H2 H3 → R2 H3) →
      tt σ2 H2 fun b H3 => if b = true then te σ2 H3 R1 else R2 H3)
    (hd : ∀ (D : Addr) (H' : Hp) (xs : List V), H1 D = none → Fr T [] H1 H' → H' D = some (.lst xs) → TdAll K H' xs ((as.filter f).map d) → Q (.ref D) H') : LcQ J g tt te vs σ H1 Q := by
  subst hn
  intro D hD
  refine lc_it w (fun i H' => Fr T [] H1 H' ∧ ∃ xs, H' D = some (.lst xs) ∧ TdAll K H' xs (((as.take i).filter f).map d)) ⟨Fr.new hD, [], upd_same, .nil⟩ (fun i H' _ p => hG H' p.1) ?_ (fun H' p => ?_)
  · rintro i x Ha Hb hi ⟨fa, xs, hx, tx⟩ hy
    have ha : as[i]? = some as[i] := List.getElem?_eq_getElem hi
    refine hg i as[i] x Ha Hb ha fa hy _ fun σ2 H2 f2 hw tn => ⟨hw, ?_⟩
    have hlen : xs.length < sizeLine := by
      rw [tx.length, List.length_map]
      have h1 := List.length_filter_le f (as.take i)
      rw [List.length_take] at h1
      omega
    refine ht i as[i] σ2 H2 ha (fa.trans f2) tn _ _ (fun ef v H3 f3 tv => ?_) (fun ef H3 f3 => ?_)
    · have e4 : H3 D = some (.lst xs) := (f2.trans f3).lst0 hx
      refine ⟨xs, e4, hlen, Fr.mut ((fa.trans f2).trans f3) (Fresh.of hD) e4, xs ++ [v], upd_same, ?_⟩
      have e5 : ((as.take (i + 1)).filter f).map d = ((as.take i).filter f).map d ++ [d as[i]] := by
        rw [take_snoc ha, List.filter_append, List.map_append, List.filter_cons, if_pos ef]
        rfl
      rw [e5]
      have f6 : Fr T [] Ha (upd H3 D (.lst (xs ++ [v]))) ∨ True := Or.inr trivial
      have keep : ∀ {u : V} {e : PyData}, Td K H3 u e → Td K (upd H3 D (.lst (xs ++ [v]))) u e := fun {u e} q => q.mono (T := T) (M := [D]) (Fr.set (fun p hp => by simp at hp; subst hp; exact ⟨_, e4⟩) (by simp))
      have keepA : ∀ {us : List V} {es : List PyData}, TdAll K H3 us es → TdAll K (upd H3 D (.lst (xs ++ [v]))) us es := fun {us es} q => q.mono (T := T) (M := [D]) (Fr.set (fun p hp => by simp at hp; subst hp; exact ⟨_, e4⟩) (by simp))
      exact (keepA (tx.mono (f2.trans f3))).snoc (keep tv)
    · refine ⟨(fa.trans f2).trans f3, xs, (f2.trans f3).lst0 hx, ?_⟩
      have e5 : ((as.take (i + 1)).filter f).map d = ((as.take i).filter f).map d := by
        rw [take_snoc ha, List.filter_append, List.map_append, List.filter_cons, if_neg (by rw [ef]; decide)]
        simp
      rw [e5]
      exact tx.mono (f2.trans f3)
  · obtain ⟨fa, xs, hx, tx⟩ := p
    rw [List.take_of_length_le (Nat.le_refl _)] at tx
    exact hd D H' xs hD fa hx tx

/-- over a tuple, to one name -/
theorem lc_T {α : Type} (as : List α) (e : α → PyData) {v : V} {H1 : Hp} (hv : Td K H1 v (.tuple (as.map e))) (hz : as.length < sizeLine) {j : Nat} {tt : TT} {te : TE} {vs : List Nat} {σ : St} {Q : VK} (f : α → Bool) (d : α → PyData)
    (hw : ∀ x, wipe ((wipe σ vs).set j (some x)) vs = wipe σ vs)
    (ht : ∀ (a : α) (u : V) (H2 : Hp), a ∈ as → Fr T [] H1 H2 → Td K H2 u (e a) → ∀ (R1 : V → Hp → Prop) (R2 : Hp → Prop), (f a = true → ∀ v H3, Fr T [] H2 H3 → Td K H3 v (d a) → R1 v H3) → (f a = false → ∀ H3, Fr T [] H2 H3 → R2 H3) →
      tt ((wipe σ vs).set j (some u)) H2 fun b H3 => if b = true then te ((wipe σ vs).set j (some u)) H3 R1 else R2 H3)
    (hd : ∀ (D : Addr) (H' : Hp) (xs : List V), H1 D = none → Fr T [] H1 H' → H' D = some (.lst xs) → TdAll K H' xs ((as.filter f).map d) → Q (.ref D) H') :
    ∃ a, v = .ref a ∧ (∃ xs, SqT K H1 a xs) ∧ LcQ (Itt K a) (gName j) tt te vs σ H1 Q := by
  obtain ⟨a, xs, rfl, h1, h2⟩ := hv.tup_inv
  refine ⟨a, rfl, ⟨xs, h1⟩, ?_⟩
  refine lc_td (T := T) (K := K) (walk_tup (K := K) (a := a) (xs := xs)) as (by rw [h2.length, List.length_map]) hz f d (fun b σ2 H2 => ∃ u, Td K H2 u (e b) ∧ σ2 = (wipe σ vs).set j (some u)) (fun H' fr => fr.sqT h1) ?_ ?_ hd
  · rintro i b x Ha Hb hb fa ⟨rfl, hx⟩ R hR
    obtain ⟨u, hu, tu⟩ := h2.get (i := i) (d := e b) (by rw [List.getElem?_map, hb]; rfl)
    rw [hx] at hu
    cases hu
    exact hR _ _ (Fr.refl _) (hw x) ⟨x, tu.mono fa, rfl⟩
  · rintro i b σ2 H2 hb f2 ⟨u, tu, rfl⟩ R1 R2 h1 h2
    exact ht b u H2 (List.mem_of_getElem? hb) f2 tu R1 R2 h1 h2
/-- over a list, to one name -/
theorem lc_L {α : Type} (as : List α) (e : α → PyData) {a : Addr} {xs : List V} {H1 : Hp} (ha : H1 a = some (.lst xs)) (hx : TdAll K H1 xs (as.map e)) (hz : as.length < sizeLine) {j : Nat} {tt : TT} {te : TE} {vs : List Nat} {σ : St} {Q : VK} (f : α → Bool) (d : α → PyData)
    (hw : ∀ x, wipe ((wipe σ vs).set j (some x)) vs = wipe σ vs)
    (ht : ∀ (a : α) (u : V) (H2 : Hp), a ∈ as → Fr T [] H1 H2 → Td K H2 u (e a) → ∀ (R1 : V → Hp → Prop) (R2 : Hp → Prop), (f a = true → ∀ v H3, Fr T [] H2 H3 → Td K H3 v (d a) → R1 v H3) → (f a = false → ∀ H3, Fr T [] H2 H3 → R2 H3) →
      tt ((wipe σ vs).set j (some u)) H2 fun b H3 => if b = true then te ((wipe σ vs).set j (some u)) H3 R1 else R2 H3)
    (hd : ∀ (D : Addr) (H' : Hp) (xs : List V), H1 D = none → Fr T [] H1 H' → H' D = some (.lst xs) → TdAll K H' xs ((as.filter f).map d) → Q (.ref D) H') :
    ∃ a', V.ref a = .ref a' ∧ (∃ xs, SqL K H1 a' xs) ∧ LcQ (Itl K a') (gName j) tt te vs σ H1 Q := by
  refine ⟨a, rfl, ⟨xs, SqL.of ha⟩, ?_⟩
  refine lc_td (T := T) (K := K) (walk_list (K := K) (a := a) (xs := xs)) as (by rw [hx.length, List.length_map]) hz f d (fun b σ2 H2 => ∃ u, Td K H2 u (e b) ∧ σ2 = (wipe σ vs).set j (some u)) (fun H' fr => SqL.of (fr.lst0 ha)) ?_ ?_ hd
  · rintro i b x Ha Hb hb fa ⟨rfl, hx'⟩ R hR
    obtain ⟨u, hu, tu⟩ := hx.get (i := i) (d := e b) (by rw [List.getElem?_map, hb]; rfl)
    rw [hx'] at hu
    cases hu
    exact hR _ _ (Fr.refl _) (hw x) ⟨x, tu.mono fa, rfl⟩
  · rintro i b σ2 H2 hb f2 ⟨u, tu, rfl⟩ R1 R2 h1 h2
    exact ht b u H2 (List.mem_of_getElem? hb) f2 tu R1 R2 h1 h2
/-- over a range from 0, to one name -/
theorem lc_R {H1 : Hp} {n : Nat} (hz : n < sizeLine) {j : Nat} {tt : TT} {te : TE} {vs : List Nat} {σ : St} {Q : VK} (f : Nat → Bool) (d : Nat → PyData)
    (hw : ∀ x, wipe ((wipe σ vs).set j (some x)) vs = wipe σ vs)
    (ht : ∀ (a : Nat) (H2 : Hp), a < n → Fr T [] H1 H2 → ∀ (R1 : V → Hp → Prop) (R2 : Hp → Prop), (f a = true → ∀ v H3, Fr T [] H2 H3 → Td K H3 v (d a) → R1 v H3) → (f a = false → ∀ H3, Fr T [] H2 H3 → R2 H3) →
      tt ((wipe σ vs).set j (some (.int (a : Int)))) H2 fun b H3 => if b = true then te ((wipe σ vs).set j (some (.int (a : Int)))) H3 R1 else R2 H3)
    (hd : ∀ (D : Addr) (H' : Hp) (xs : List V), H1 D = none → Fr T [] H1 H' → H' D = some (.lst xs) → TdAll K H' xs (((List.range n).filter f).map d) → Q (.ref D) H') : LcQ (Itr 0 n) (gName j) tt te vs σ H1 Q := by
  refine lc_td (T := T) (K := K) (walk_range (lo := 0) (n := n)) (List.range n) List.length_range (by rw [List.length_range]; exact hz) f d (fun b σ2 H2 => σ2 = (wipe σ vs).set j (some (.int (b : Int)))) (fun H' fr => trivial) ?_ ?_ hd
  · rintro i b x Ha Hb hb fa ⟨rfl, hx'⟩ R hR
    have hb' : b = i := by
      obtain ⟨h1, h2⟩ := List.getElem?_eq_some_iff.mp hb
      rw [List.getElem_range] at h2
      exact h2.symm
    subst hb'
    refine hR _ _ (Fr.refl _) (hw x) ?_
    have ex : x = V.int ((0 : Int) + (b : Int)) := hx'
    rw [ex, Int.zero_add]
  · rintro i b σ2 H2 hb f2 rfl R1 R2 h1 h2
    have hb' : b < n := List.mem_range.mp (List.mem_of_getElem? hb)
    exact ht b H2 hb' f2 R1 R2 h1 h2
end

/-! ### the text by places -/
def topS (i : Nat) : Stmt := PySem.Challenge.pw_nochaingains_k61_whole_best_for_the_ends.main.body.getD i (.Pass ⟨0, 0, 0, 0⟩)
abbrev FnP (K : PySem.W.Frag) (x : Str) (st : Stmt) (f : Addr) (fd : FuncData) : Prop := FunD K x x (defArgs st) (defBody st) (defScope st) [] [] f fd
/-- the def st stands under the name x -/
def At (K : PySem.W.Frag) (mg : Str → Option Value) (x : Str) (st : Stmt) : Prop := ∃ f fd, FnP K x st f fd ∧ mg x = some (.ref f)
/-- the name x holds a def that keeps the promise sp -/
def Dn (P : Program) (w : World) (K : PySem.W.Frag) (mg : Str → Option Value) (base : Heap) (x : Str) (ps : List Str) (k : Nat) (sp : Sp) : Prop :=
  ∃ f fd, FnOk P w K mg base CX0 k f fd ps sp ∧ mg x = some (.ref f) ∧ PySem.W.keepIn K (.ref f) = true ∧ Binds K fd ps []
/-- the built-in names stand as they are -/
structure B0 (mg : Str → Option Value) : Prop where
  tuple : mg "tuple" = none
  list : mg "list" = none
  set : mg "set" = none
  int : mg "int" = none
  sorted : mg "sorted" = none
  range : mg "range" = none
  len : mg "len" = none
  enumerate : mg "enumerate" = none
  zip : mg "zip" = none
  min : mg "min" = none
  max : mg "max" = none
  sum : mg "sum" = none
  all : mg "all" = none
  abs : mg "abs" = none

def Sp1 (R : V → Hp → VK → Prop) : Sp := fun vs H Q _ => ∃ a, vs = [a] ∧ R a H Q
def Sp2 (R : V → V → Hp → VK → Prop) : Sp := fun vs H Q _ => ∃ a b, vs = [a, b] ∧ R a b H Q
def Sp3 (R : V → V → V → Hp → VK → Prop) : Sp := fun vs H Q _ => ∃ a b c, vs = [a, b, c] ∧ R a b c H Q
def Sp4 (R : V → V → V → V → Hp → VK → Prop) : Sp := fun vs H Q _ => ∃ a b c d, vs = [a, b, c, d] ∧ R a b c d H Q
def Sp5 (R : V → V → V → V → V → Hp → VK → Prop) : Sp := fun vs H Q _ => ∃ a b c d e, vs = [a, b, c, d, e] ∧ R a b c d e H Q
section
variable {P : Program} {w : World} {K : PySem.W.Frag} {mg : Str → Option Value} {base : Heap} {x : Str} {st : Stmt} {N : List Str} {k : Nat}
theorem dn1 {p1 : Str} {R : V → Hp → VK → Prop} (A0 : At K mg x st) (S : FnScope N [p1] (defScope st)) (hb : ∀ f fd, FnP K x st f fd → Binds K fd [p1] [])
    (body : ∀ (f : Addr) (cdv : Value) (A : Around) (outer : List Env) (s : Shared) (H : Hp) (a : V) (Q : VK) (E : XK), Room k (A.deeper (PyProof.Rows.envOfC x (defScope st) s.heap.objs.size f cdv)) → R a H Q →
      ∃ t, PSs (cxOf CX0 P w K mg base N x (defScope st) f cdv A outer s H E).nox (defBody st) t ∧ t { nx := fun _ H' => Q .non H', rt := Q } (start N [a]) H) : Dn P w K mg base x [p1] (k + 1) (Sp1 R) := by
  obtain ⟨f, fd, F, gf⟩ := A0
  refine ⟨f, fd, F.ok S (fun vs H Q E h => ?_) (fun cdv A outer s H vs Q E hr h => ?_), gf, F.kp, hb f fd F⟩
  · obtain ⟨_, rfl, _⟩ := h; rfl
  · obtain ⟨a, rfl, h⟩ := h
    obtain ⟨t, ht, hq⟩ := body f cdv A outer s H a Q E hr h
    exact ⟨t, ht.nox, hq⟩
theorem dn2 {p1 p2 : Str} {R : V → V → Hp → VK → Prop} (A0 : At K mg x st) (S : FnScope N [p1, p2] (defScope st)) (hb : ∀ f fd, FnP K x st f fd → Binds K fd [p1, p2] [])
    (body : ∀ (f : Addr) (cdv : Value) (A : Around) (outer : List Env) (s : Shared) (H : Hp) (a b : V) (Q : VK) (E : XK), Room k (A.deeper (PyProof.Rows.envOfC x (defScope st) s.heap.objs.size f cdv)) → R a b H Q →
      ∃ t, PSs (cxOf CX0 P w K mg base N x (defScope st) f cdv A outer s H E).nox (defBody st) t ∧ t { nx := fun _ H' => Q .non H', rt := Q } (start N [a, b]) H) : Dn P w K mg base x [p1, p2] (k + 1) (Sp2 R) := by
  obtain ⟨f, fd, F, gf⟩ := A0
  refine ⟨f, fd, F.ok S (fun vs H Q E h => ?_) (fun cdv A outer s H vs Q E hr h => ?_), gf, F.kp, hb f fd F⟩
  · obtain ⟨_, _, rfl, _⟩ := h; rfl
  · obtain ⟨a, b, rfl, h⟩ := h
    obtain ⟨t, ht, hq⟩ := body f cdv A outer s H a b Q E hr h
    exact ⟨t, ht.nox, hq⟩
theorem dn3 {p1 p2 p3 : Str} {R : V → V → V → Hp → VK → Prop} (A0 : At K mg x st) (S : FnScope N [p1, p2, p3] (defScope st)) (hb : ∀ f fd, FnP K x st f fd → Binds K fd [p1, p2, p3] [])
    (body : ∀ (f : Addr) (cdv : Value) (A : Around) (outer : List Env) (s : Shared) (H : Hp) (a b c : V) (Q : VK) (E : XK), Room k (A.deeper (PyProof.Rows.envOfC x (defScope st) s.heap.objs.size f cdv)) → R a b c H Q →
      ∃ t, PSs (cxOf CX0 P w K mg base N x (defScope st) f cdv A outer s H E).nox (defBody st) t ∧ t { nx := fun _ H' => Q .non H', rt := Q } (start N [a, b, c]) H) : Dn P w K mg base x [p1, p2, p3] (k + 1) (Sp3 R) := by
  obtain ⟨f, fd, F, gf⟩ := A0
  refine ⟨f, fd, F.ok S (fun vs H Q E h => ?_) (fun cdv A outer s H vs Q E hr h => ?_), gf, F.kp, hb f fd F⟩
  · obtain ⟨_, _, _, rfl, _⟩ := h; rfl
  · obtain ⟨a, b, c, rfl, h⟩ := h
    obtain ⟨t, ht, hq⟩ := body f cdv A outer s H a b c Q E hr h
    exact ⟨t, ht.nox, hq⟩
theorem dn4 {p1 p2 p3 p4 : Str} {R : V → V → V → V → Hp → VK → Prop} (A0 : At K mg x st) (S : FnScope N [p1, p2, p3, p4] (defScope st)) (hb : ∀ f fd, FnP K x st f fd → Binds K fd [p1, p2, p3, p4] [])
    (body : ∀ (f : Addr) (cdv : Value) (A : Around) (outer : List Env) (s : Shared) (H : Hp) (a b c d : V) (Q : VK) (E : XK), Room k (A.deeper (PyProof.Rows.envOfC x (defScope st) s.heap.objs.size f cdv)) → R a b c d H Q →
      ∃ t, PSs (cxOf CX0 P w K mg base N x (defScope st) f cdv A outer s H E).nox (defBody st) t ∧ t { nx := fun _ H' => Q .non H', rt := Q } (start N [a, b, c, d]) H) : Dn P w K mg base x [p1, p2, p3, p4] (k + 1) (Sp4 R) := by
  obtain ⟨f, fd, F, gf⟩ := A0
  refine ⟨f, fd, F.ok S (fun vs H Q E h => ?_) (fun cdv A outer s H vs Q E hr h => ?_), gf, F.kp, hb f fd F⟩
  · obtain ⟨_, _, _, _, rfl, _⟩ := h; rfl
  · obtain ⟨a, b, c, d, rfl, h⟩ := h
    obtain ⟨t, ht, hq⟩ := body f cdv A outer s H a b c d Q E hr h
    exact ⟨t, ht.nox, hq⟩
theorem dn5 {p1 p2 p3 p4 p5 : Str} {R : V → V → V → V → V → Hp → VK → Prop} (A0 : At K mg x st) (S : FnScope N [p1, p2, p3, p4, p5] (defScope st)) (hb : ∀ f fd, FnP K x st f fd → Binds K fd [p1, p2, p3, p4, p5] [])
    (body : ∀ (f : Addr) (cdv : Value) (A : Around) (outer : List Env) (s : Shared) (H : Hp) (a b c d e : V) (Q : VK) (E : XK), Room k (A.deeper (PyProof.Rows.envOfC x (defScope st) s.heap.objs.size f cdv)) → R a b c d e H Q →
      ∃ t, PSs (cxOf CX0 P w K mg base N x (defScope st) f cdv A outer s H E).nox (defBody st) t ∧ t { nx := fun _ H' => Q .non H', rt := Q } (start N [a, b, c, d, e]) H) : Dn P w K mg base x [p1, p2, p3, p4, p5] (k + 1) (Sp5 R) := by
  obtain ⟨f, fd, F, gf⟩ := A0
  refine ⟨f, fd, F.ok S (fun vs H Q E h => ?_) (fun cdv A outer s H vs Q E hr h => ?_), gf, F.kp, hb f fd F⟩
  · obtain ⟨_, _, _, _, _, rfl, _⟩ := h; rfl
  · obtain ⟨a, b, c, d, e, rfl, h⟩ := h
    obtain ⟨t, ht, hq⟩ := body f cdv A outer s H a b c d e Q E hr h
    exact ⟨t, ht.nox, hq⟩
end
end Nc
set_option maxHeartbeats 0
/-! HA: the head's run. -/
namespace Nc
open PySem PySem.Spec PyProof.Rows L2
def dfn (x : Str) (i : Nat) : He.DefD := ⟨(x, none), x, x, defArgs (topS i), defBody (topS i), defScope (topS i), [], []⟩
def hfn0 : List He.DefD := [dfn "buys_of" 1, dfn "sells_of" 2, dfn "own_contracts" 3, dfn "wishes_of" 4, dfn "offered_of" 6, dfn "chosen_row" 7, dfn "traded" 8, dfn "within_caps" 9, dfn "chosen_by" 10, dfn "choose" 11, dfn "own_part" 13, dfn "joined_sets" 14, dfn "likes" 15, dfn "offered_to" 17, dfn "next_stand" 19, dfn "common" 20, dfn "network_of" 21, dfn "settled_from" 22, dfn "all_contracts" 23, dfn "best_for_buyers" 24]
def hfn1 : List He.DefD := [dfn "best_for_sellers" 25, dfn "_law_draws" 27, dfn "_law_take" 28, dfn "_law_word" 29, dfn "_law_cell" 30, dfn "_law_greedy" 31, dfn "_law_traded" 32, dfn "_law_choose" 33, dfn "_law_subsets" 34, dfn "_law_table" 35, dfn "_law_mixed" 36, dfn "_law_groups" 37, dfn "_law_pairs" 38, dfn "_law_plain_choice" 39, dfn "_law_choice" 40, dfn "_law_unsteady_web" 41, dfn "_law_wild" 42, dfn "_law_web" 43, dfn "_law_steady_web" 44, dfn "_law_own" 45]
def hfn2 : List He.DefD := [dfn "_law_takes" 46, dfn "_law_power" 47, dfn "_law_bits" 48, dfn "_law_set" 49, dfn "_law_plan" 50, dfn "_law_within" 51, dfn "_law_is_kept" 52, dfn "_law_gains" 53, dfn "_law_has_gain" 54, dfn "_law_at_rest" 55, dfn "_law_likes" 56, dfn "_law_are_liked" 57, dfn "law" 58]
def hfn : List He.DefD := hfn0 ++ hfn1 ++ hfn2
def hfa0 : List He.Fa := [.glo "buys_of", .glo "sells_of", .glo "own_contracts", .glo "wishes_of", .glo "offered_of", .glo "chosen_row", .glo "traded", .glo "within_caps", .glo "chosen_by", .glo "choose", .glo "own_part", .glo "joined_sets", .glo "likes", .glo "offered_to", .glo "next_stand", .glo "common", .glo "network_of", .glo "settled_from", .glo "all_contracts", .glo "best_for_buyers"]
def hfa1 : List He.Fa := [.glo "best_for_sellers", .glo "_law_draws", .glo "_law_take", .glo "_law_word", .glo "_law_cell", .glo "_law_greedy", .glo "_law_traded", .glo "_law_choose", .glo "_law_subsets", .glo "_law_table", .glo "_law_mixed", .glo "_law_groups", .glo "_law_pairs", .glo "_law_plain_choice", .glo "_law_choice", .glo "_law_unsteady_web", .glo "_law_wild", .glo "_law_web", .glo "_law_steady_web", .glo "_law_own"]
def hfa2 : List He.Fa := [.glo "_law_takes", .glo "_law_power", .glo "_law_bits", .glo "_law_set", .glo "_law_plan", .glo "_law_within", .glo "_law_is_kept", .glo "_law_gains", .glo "_law_has_gain", .glo "_law_at_rest", .glo "_law_likes", .glo "_law_are_liked", .glo "law", .free "tuple", .free "list", .free "set", .free "int", .free "sorted", .free "range", .free "len"]
def hfa3 : List He.Fa := [.free "enumerate", .free "zip", .free "min", .free "max", .free "sum", .free "all", .free "abs"]
def hfa : List He.Fa := hfa0 ++ hfa1 ++ hfa2 ++ hfa3
def hnm0 : List Str := ["buys_of", "sells_of", "own_contracts", "wishes_of", "offered_of", "chosen_row", "traded", "within_caps", "chosen_by", "choose", "own_part", "joined_sets", "likes", "offered_to", "next_stand", "common", "network_of", "settled_from", "all_contracts", "best_for_buyers"]
def hnm1 : List Str := ["best_for_sellers", "_law_draws", "_law_take", "_law_word", "_law_cell", "_law_greedy", "_law_traded", "_law_choose", "_law_subsets", "_law_table", "_law_mixed", "_law_groups", "_law_pairs", "_law_plain_choice", "_law_choice", "_law_unsteady_web", "_law_wild", "_law_web", "_law_steady_web", "_law_own"]
def hnm2 : List Str := ["_law_takes", "_law_power", "_law_bits", "_law_set", "_law_plan", "_law_within", "_law_is_kept", "_law_gains", "_law_has_gain", "_law_at_rest", "_law_likes", "_law_are_liked"]
def hnm : List Str := hnm0 ++ hnm1 ++ hnm2
def htf : List He.Defn := [("traded", none)]
abbrev HR : PySem.W.OpenRow := PySem.W.OpenLaw.row PySem.Challenge.rw_nochaingains_k61_whole_best_for_the_ends
abbrev hhk : PySem.W.Hook := He.hookX 4 hfa hfn [] htf fun _ => true
def hob (s : PySem.W.SharedT) : He.AlX := He.obsX 4 hfa hfn [] htf (fun _ => true) (HandSHeadRun.getT s)
theorem hob_eq (s : PySem.W.SharedT) : hob s = hhk.obs s.abs := He.obsX_eq (HandSHeadRun.getT_eq s)
theorem hrun (w : World) : HandSHeadRun.RunEq HR (PySem.W.view HR.prog [58]) hhk hob 6000 hnm w := by
  intro os
  kernel_rfl
end Nc
set_option maxHeartbeats 0
/-! HC0: the head: the law holds if its def does. -/
namespace Nc
open PySem PySem.W PySem.Calls PyProof.Rows
theorem holds_of (call : WalkO (view HR.prog [58]) hnm (XL (view HR.prog [58]) []) hhk.says HR.toRowW (HandSHeadRun.topDef HR.prog 58) [] fun f vs => PySem.call f vs) : PySem.Challenge.rw_nochaingains_k61_whole_best_for_the_ends.Holds := by
  w_on; o_law
  refine HandSHeadRun.head_any (r := HR) (q := view HR.prog [58]) (H := hhk) (ob := hob) (M := 6000) (loose := hnm) (d := HandSHeadRun.topDef HR.prog 58) (kwd := []) hob_eq
    (by kernel_rfl) (fun s => by kernel_rfl) hrun (by kernel_rfl) (by kernel_rfl) (by kernel_rfl) (by rfl) (by first | assumption | decide +kernel) (by decide +kernel) ⟨rfl, rfl, rfl, rfl, rfl, by decide +kernel⟩ ?hw ?hc
  case hw => w_witness2
  case hc => exact call
theorem law_name : (HandSHeadRun.topDef HR.prog 58).name = ("law" : PySem.Str) := by kernel_rfl
theorem law_plain : (HandSHeadRun.topDef HR.prog 58).params.defaults = [] := by kernel_rfl
end Nc
set_option maxHeartbeats 4000000
/-! X1: for i, a in enumerate(t), t a tuple. -/
namespace Nc
open PySem PySem.Spec PyProof L2
abbrev enObj (n : Addr) : Obj := { cls := .type "enumerate", data := .fields #[.none, .bool false, .ref n, rawInt 0, .none, .none] }
set_option maxHeartbeats 4000000 in
theorem en_meets {v : Value} {o : Obj} {G : Heap → Prop} (B : Begins v o G) : Meets (Builtin.«enumerate.__new__» ⟨[.type "enumerate", v], []⟩) (fun _ R s => G s.heap ∧
    R (.ok (.ret (.ref (s.heap.push o).objs.size))) { s with heap := (s.heap.push o).push (enObj s.heap.objs.size) }) := .of_wp fun prog w A R s hyp => by
  obtain ⟨hp, gs, dr, tk, os⟩ := s
  obtain ⟨hG, hR⟩ := hyp
  have hsub := sub_enumerate
  have it : ∀ {A' : Around} {E' : Value → Shared → Prop} {Q' : Value → Shared → Prop}, Q' (.ref hp.objs.size) ⟨hp.push o, gs, dr, tk, os⟩ → wpAny (model prog w) A' (pyIter v) Q' E' ⟨hp, gs, dr, tk, os⟩ := fun q => B.iter prog w _ _ ⟨hp, gs, dr, tk, os⟩ _ hG q
  wp_walk using it
  refine wpAny_stack_any fun st => wpAny_pure ?_
  split
  · rename_i c _ _ _ _ _
    cases hc : (c == Value.type "enumerate")
    · wp_walk using it
      exact ⟨_, rfl, hR⟩
    · wp_walk using it
      exact ⟨_, rfl, hR⟩
  · wp_walk using it
    exact ⟨_, rfl, hR⟩
section
variable {prog : Program} {w : World} {A : Around} {E : Value → Shared → Prop} {s : Shared}
theorem en_call {v : Value} {o : Obj} {G : Heap → Prop} {Q : Value → Shared → Prop} (B : Begins v o G) (hG : G s.heap)
    (k : ∀ h2, IsEnum h2 (s.heap.objs.size + 1) s.heap.objs.size 0 .none → h2.get? s.heap.objs.size = some o → (∀ b u, s.heap.get? b = some u → h2.get? b = some u) → Q (.ref (s.heap.objs.size + 1)) { s with heap := h2 }) :
    wpAny (model prog w) A (call (.type "enumerate") [v]) Q E s := by
  refine callType_new F.called_enumerate (by decide) (F.typeCall_enumerate_1 _) (F.newCall_enumerate_1 _) (fun obj => F.args_object_init_2 obj _) F.entry_enumerate_new (en_meets B) ⟨hG, ?_⟩
  have sz : (s.heap.push o).objs.size = s.heap.objs.size + 1 := Heap.size_push ..
  rw [sz]
  have at1 := Heap.get?_push_size (s.heap.push o) (o := enObj s.heap.objs.size) rfl
  rw [sz] at at1
  exact ⟨⟨_, at1, rfl⟩, k _ at1 (Heap.get?_push_of_some _ (Heap.get?_push_size _ B.free)) fun b u e => Heap.get?_push_of_some _ (Heap.get?_push_of_some _ e)⟩
end
/-- the tuple at a, each item in a new pair behind its number -/
def IteT (K : PySem.W.Frag) (a : Addr) : It where
  go := fun i H => ∃ (xs : List V) (x : V), SqT K H a xs ∧ xs[i]? = some x
  yld := fun i H v H' => ∃ t x, v = .ref t ∧ H t = none ∧ H' = upd H t (.tup [.int (i : Nat), x]) ∧ ∀ xs, SqT K H a xs → xs[i]? = some x
  stop := fun i H => ∃ xs : List V, SqT K H a xs ∧ xs.length = i
theorem two_mem {b e it : Addr} (h : b ∈ [e, it]) : b = e ∨ b = it := by simpa using h
theorem turn_enT {P : Program} {w : World} {K : PySem.W.Frag} {elts : List Expr} {kk : Nat} {tpos : Pos} (a e it : Addr) :
    Turn P w K (.Tuple elts kk tpos) (IteT K a) [e, it] e (fun i h => (∃ old, IsEnum h e it ((i : Nat) : Int) old) ∧ h.IsTupleIter it a i ∧ e ≠ it ∧ a ≠ it) where
  mem := List.mem_cons_self
  obj := by
    rintro i h ⟨⟨old, he⟩, ⟨o, ho, _, hd⟩, _⟩ b hb
    rcases two_mem hb with rfl | rfl
    · exact ⟨_, he, fun v q => nomatch q⟩
    · exact ⟨o, ho, fun v q => by rw [hd] at q; cases q⟩
  keep := by
    rintro i h h' ⟨⟨old, he⟩, hi, n1, n2⟩ k
    exact ⟨⟨old, k e List.mem_cons_self _ he⟩, hi.at fun o q => k it (List.mem_cons_of_mem _ List.mem_cons_self) o q, n1, n2⟩
  item := by
    rintro X rfl rfl rfl calm i pins s σ H E I fok ⟨⟨old, he⟩, hi, n1, n2⟩ ⟨xs, x, hq, hx⟩
    obtain ⟨its, rv, tup, _⟩ := I.tuple hq
    obtain ⟨u, hu, ru⟩ := rv.get hx
    have D := Draws.tuple (prog := X.prog) (w := X.w) (A := X.A.in1) (I.ok.hd calm) it a n2 its.toArray
    have hlt : i < its.toArray.size := by
      have := (List.getElem?_eq_some_iff.mp hu).1
      simpa using this
    have szE : e < s.heap.objs.size := Heap.lt_size he
    have szI : it < s.heap.objs.size := by
      obtain ⟨_, q, _⟩ := hi
      exact Heap.lt_size q
    have ae : a ≠ e := by
      rintro rfl
      obtain ⟨ob, q, c, _⟩ := tup
      rw [he] at q
      cases q
      exact absurd (Value.type.inj c) (by decide)
    refine wpAny_pyNext_enum_itemD D he ⟨hi, tup⟩ hlt n1 (by simp [n1, ae.symm]) fun y h' tk hy ho st hT _ hk => ?_
    have ey : y = u := by
      have h1 : its[i]? = some y := by simpa using hy
      rw [h1] at hu
      exact Option.some.inj hu
    subst ey
    refine ⟨_, rfl, wpAny_letOwnedTupleGo_enum (s := { s with heap := h', toks := tk + 1 }) ho fun h2 he2 sb => ?_⟩
    have hT2 : h2.get? s.heap.objs.size = some { cls := .type "tuple", data := .seq #[.int i tk, y] } := (sb.2 _ (Nat.ne_of_gt szE)).trans hT
    have nok : ObjOk X.prog X.w (upd H s.heap.objs.size (.tup [.int (i : Nat), x])) h2 s.heap.objs.size (.tup [.int (i : Nat), x]) :=
      ⟨by show 2 ≤ sizeLine; decide, [.int i tk, y], .cons ⟨_, rfl⟩ (.cons ru .nil), ⟨_, hT2, rfl, _, rfl⟩⟩
    have J := I.turnedNew (t' := tk + 1) (ch := [e, it]) (h' := h2) (fun b ob nb q => (sb.2 b fun z => nb (by simp [z])).trans (hk b ob (fun z => nb (by simp [z])) (fun z => nb (by simp [z])) q)) fok (Nat.le_refl _) nok
    refine ⟨.ref s.heap.objs.size, _, J, rfl, ⟨_, x, rfl, I.hok.fresh (Nat.le_refl _), rfl, fun ys hy => by rw [I.tuple_inj hy hq]; exact hx⟩, ⟨⟨y, ?_⟩, st.1.at fun o q => (sb.2 it (Ne.symm n1)).trans q, n1, n2⟩, fun b hb => ?_⟩
    · have ei : (((i + 1 : Nat) : Nat) : Int) = (i : Int) + 1 := by omega
      rw [ei]
      exact he2
    · have hlt : b < s.heap.objs.size := by
        rcases two_mem hb with rfl | rfl
        · exact szE
        · exact szI
      rw [upd_ne (Nat.ne_of_lt hlt)]
      exact (fok b hb).1
  done := by
    rintro X rfl rfl rfl calm i pins s σ H E I fok ⟨⟨old, he⟩, hi, n1, n2⟩ ⟨xs, hq, hl⟩
    obtain ⟨its, rv, tup, _⟩ := I.tuple hq
    have D := Draws.tuple (prog := X.prog) (w := X.w) (A := X.A.in1) (I.ok.hd calm) it a n2 its.toArray
    have en : i = its.toArray.size := by
      rw [← hl, rv.length]
      simp
    subst en
    obtain ⟨f0, f1, f2, f3, f4, f5⟩ := fok it (List.mem_cons_of_mem _ List.mem_cons_self)
    exact wpAny_pyNext_enum_endD D he ⟨hi, tup⟩ fun h' eb => ⟨rfl, I.turned (t' := s.toks) (fun b o hb q => eb b o hb q) f0 f1 f3 f4 f5⟩
  self := fun A i s Q E st h => let ⟨⟨_, he⟩, _⟩ := st; wpAny_pyIter_enum he h
def iEnT (K : PySem.W.Frag) (ta : TA) : TI := fun σ H R => ta σ H fun vs H1 => ∃ a xs, vs = [.ref a] ∧ SqT K H1 a xs ∧ R (IteT K a) H1
theorem pi_enumT {X : Cx} {e : Expr} {ta : TA} {p pos tpos : Pos} {elts : List Expr} {kk : Nat} (hg : Gl X "enumerate") (hm : X.mg "enumerate" = none) (ha : PA X [e] ta) (hs : starEach [e] X.env = [(false, eval e X.env)] := by rfl) :
    PI X (.Tuple elts kk tpos) (.Call (.Name "enumerate" p) [e] [] pos) (iEnT X.K ta) := by
  constructor
  intro pins s σ H R I hyp
  refine PyProof.Rows.Call_ (ld_blt I hg hm PyProof.Rows.boot_enumerate (PyProof.Rows.callWith_type1 (thn (ha.run pos pins s σ H _ I hyp) fun us s1 hp => ?_) hs rfl))
  obtain ⟨vs, H1, J, r1, a, xs, rfl, hq, q⟩ := hp
  obtain rfl := Vals.ref1 r1
  obtain ⟨its, rv, tup, _⟩ := J.tuple hq
  refine en_call (begins_tuple a its.toArray) tup fun h2 he ho hk => wpAny_pyIter_enum he ?_
  have J2 : Inv X pins σ H1 { s1 with heap := h2 } := J.kept (t' := s1.toks) hk
  have na : a ≠ s1.heap.objs.size := by
    obtain ⟨ob, q, _⟩ := tup
    exact Nat.ne_of_lt (Heap.lt_size q)
  refine ⟨s1.heap.objs.size + 1, [s1.heap.objs.size + 1, s1.heap.objs.size], _, _, H1, rfl, J2, turn_enT a (s1.heap.objs.size + 1) s1.heap.objs.size, ⟨⟨.none, he⟩, ⟨_, ho, rfl, rfl⟩, Nat.succ_ne_self _, na⟩, fun b hb => ?_, q⟩
  have le : s1.heap.objs.size ≤ b := by
    rcases two_mem hb with rfl | rfl
    · exact Nat.le_succ _
    · exact Nat.le_refl _
  exact J.fpOk le (J.hok.fresh le)
theorem walk_enT {K : PySem.W.Frag} {a : Addr} {xs : List V} : Walk (IteT K a) xs.length (fun H => SqT K H a xs) (YPair (fun i => some (.int (i : Nat))) (fun i => xs[i]?)) where
  goes := fun i _ hi q => ⟨xs, xs[i], q, by simp [hi]⟩
  stops := fun _ q => ⟨xs, q, rfl⟩
  yields := fun i H v H' _ q y => by
    obtain ⟨t, x, h1, h2, h3, h4⟩ := y
    exact ⟨t, .int (i : Nat), x, h1, h2, h3, rfl, h4 xs q⟩
end Nc
set_option maxHeartbeats 4000000
/-! W2: webs as data; comprehensions over enumerate; small questions. -/
namespace Nc
open PySem PySem.Spec L2
def eC (c : Ctr) : PyData := .tuple [.int c.1, .int c.2.1, .int c.2.2]
def eG (g : List Int × Int) : PyData := .tuple [tI g.1, .int g.2]
def eP : Plain → PyData
  | .maker r b s => .tuple [.str "maker", .int r, tI b, tI s]
  | .sides br b sr s => .tuple [.str "sides", .int br, tI b, .int sr, tI s]
  | .table rows => .tuple [.str "table", .tuple (rows.map tI)]
  | .trader r c b s => .tuple [.str "trader", .int r, .int c, tI b, tI s]
  | .caps b bg s sg => .tuple [.str "caps", tI b, .tuple (bg.map eG), tI s, .tuple (sg.map eG)]
def eCh : Choice → PyData
  | .plain p => eP p
  | .split ps => .tuple [.str "split", .tuple (ps.map eP)]
def eH (h : Str × Choice) : PyData := .tuple [.str h.1, eCh h.2]
def eW (w : Web Str) : PyData := .tuple [.tuple (w.hs.map eH), .tuple (w.cs.map eC)]
theorem line_of {n : Nat} (h : n ≤ 100000) : n < sizeLine := by rw [sizeLine_eq]; omega
section
variable {T : List (Addr × Str)} {K : PySem.W.Frag}
/-- over enumerate of a tuple, to two names -/
theorem lc_E {α : Type} (as : List α) (e : α → PyData) {v : V} {H1 : Hp} (hv : Td K H1 v (.tuple (as.map e))) (hz : as.length < sizeLine) {j1 j2 : Nat} {tt : TT} {te : TE} {vs : List Nat} {σ : St} {Q : VK} (f : α × Nat → Bool) (d : α × Nat → PyData)
    (hw : ∀ x y, wipe (((wipe σ vs).set j1 (some x)).set j2 (some y)) vs = wipe σ vs)
    (ht : ∀ (a : α) (i : Nat) (u : V) (H2 : Hp), as[i]? = some a → Fr T [] H1 H2 → Td K H2 u (e a) → ∀ (R1 : V → Hp → Prop) (R2 : Hp → Prop), (f (a, i) = true → ∀ v H3, Fr T [] H2 H3 → Td K H3 v (d (a, i)) → R1 v H3) → (f (a, i) = false → ∀ H3, Fr T [] H2 H3 → R2 H3) →
      tt (((wipe σ vs).set j1 (some (.int (i : Int)))).set j2 (some u)) H2 fun b H3 => if b = true then te (((wipe σ vs).set j1 (some (.int (i : Int)))).set j2 (some u)) H3 R1 else R2 H3)
    (hd : ∀ (D : Addr) (H' : Hp) (xs : List V), H1 D = none → Fr T [] H1 H' → H' D = some (.lst xs) → TdAll K H' xs ((as.zipIdx.filter f).map d) → Q (.ref D) H') :
    ∃ a xs, [v] = [V.ref a] ∧ SqT K H1 a xs ∧ LcQ (IteT K a) (gTup K 2 (gCons (gName j1) (gCons (gName j2) gNil))) tt te vs σ H1 Q := by
  obtain ⟨a, xs, rfl, h1, h2⟩ := hv.tup_inv
  refine ⟨a, xs, rfl, h1, ?_⟩
  refine lc_td (T := T) (K := K) (walk_enT (K := K) (a := a) (xs := xs)) as.zipIdx (by rw [h2.length, List.length_map, List.length_zipIdx]) (by rw [List.length_zipIdx]; exact hz) f d (fun b σ2 H2 => ∃ u, Td K H2 u (e b.1) ∧ σ2 = ((wipe σ vs).set j1 (some (.int (b.2 : Int)))).set j2 (some u)) (fun H' fr => fr.sqT h1) ?_ ?_ hd
  · rintro i ⟨b, k⟩ x Ha Hb hb fa ⟨t, y, z, rfl, ht, rfl, hy, hx⟩ R hR
    rw [List.getElem?_zipIdx] at hb
    cases hb' : as[i]? with
    | none => rw [hb'] at hb; cases hb
    | some c =>
      rw [hb'] at hb
      simp at hb
      obtain ⟨rfl, rfl⟩ := hb
      obtain ⟨u, hu, tu⟩ := h2.get (i := i) (d := e c) (by rw [List.getElem?_map, hb']; rfl)
      have hx' : xs[i]? = some z := hx
      have hy' : some (V.int (i : Int)) = some y := hy
      rw [hx'] at hu
      cases hu
      cases hy'
      have f1 : Fr T [] Ha (upd Ha t (.tup [.int (i : Int), z])) := Fr.new ht
      exact ⟨t, [.int (i : Int), z], rfl, SqT.of upd_same, rfl, _, _, rfl, _, _, rfl, rfl, hR _ _ f1 (hw _ _) ⟨z, (tu.mono fa).mono f1, rfl⟩⟩
  · rintro i ⟨b, k⟩ σ2 H2 hb f2 ⟨u, tu, rfl⟩ R1 R2 q1 q2
    have hb2 : as[k]? = some b := by
      rw [List.getElem?_zipIdx] at hb
      cases hb' : as[i]? with
      | none => rw [hb'] at hb; cases hb
      | some c =>
        rw [hb'] at hb
        simp at hb
        obtain ⟨rfl, rfl⟩ := hb
        exact hb'
    exact ht b k u H2 hb2 f2 tu R1 R2 q1 q2
variable {H : Hp} {Q : VK} {ds : List PyData} {xs : List V} {D : Addr}
/-- tuple(..) of a list -/
theorem q_tupleL (h : H D = some (.lst xs)) (hd : TdAll K H xs ds) (q : ∀ l H', Fr T [] H H' → Td K H' (.ref l) (.tuple ds) → Q (.ref l) H') :
    ∃ p ys, [V.ref D] = [V.ref p] ∧ ((SqL K H p ys ∧ ∀ l, H l = none → Q (.ref l) (upd H l (.tup ys))) ∨ (SqT K H p ys ∧ Q (.ref p) H)) :=
  ⟨D, xs, rfl, Or.inl ⟨SqL.of h, fun l hl => q l _ (Fr.new hl) (td_new upd_same (hd.mono (Fr.new (T := T) hl)))⟩⟩
/-- (a, b, ..) -/
theorem q_tup (hd : TdAll K H xs ds) (hz : ds.length ≤ 100000) (q : ∀ l H', Fr T [] H H' → Td K H' (.ref l) (.tuple ds) → Q (.ref l) H') :
    xs.length ≤ sizeLine ∧ ∀ p, H p = none → Q (.ref p) (upd H p (.tup xs)) :=
  ⟨by rw [hd.length]; exact Nat.le_of_lt (line_of hz), fun p hp => q p _ (Fr.new hp) (td_new upd_same (hd.mono (Fr.new (T := T) hp)))⟩
end
/-! ### the rules, the written part named -/
section
variable {X : Cx} {K : PySem.W.Frag}
theorem kIxT (e : X.K = K) : IxR X (rIxT K) := e ▸ ix_tup
theorem kIxL (e : X.K = K) : IxR X (rIxL K) := e ▸ ix_list
theorem kSlL (e : X.K = K) : SlR X (rSlL K) := e ▸ sl_list
theorem kSlT (e : X.K = K) : SlR X (rSlT K) := e ▸ sl_tup
theorem kIn (e : X.K = K) : OpR X (compareOp .In) (rIn K false) := e ▸ op_in_seq
theorem kNotIn (e : X.K = K) : OpR X (compareOp .NotIn) (rIn K true) := e ▸ op_notIn_seq
def rLenK (K : PySem.W.Frag) : List V → Hp → VK → Prop := fun xs H Q => ∃ p ys, xs = [V.ref p] ∧ (SqL K H p ys ∨ SqT K H p ys) ∧ Q (.int ys.length) H
theorem kLen (e : X.K = K) : CallR X (.builtin "len") (rLenK K) := e ▸ call_len_seq
def rTupleK (K : PySem.W.Frag) : List V → Hp → VK → Prop := fun xs H Q => ∃ p ys, xs = [V.ref p] ∧ ((SqL K H p ys ∧ ∀ l, H l = none → Q (.ref l) (upd H l (.tup ys))) ∨ (SqT K H p ys ∧ Q (.ref p) H))
theorem kTuple (e : X.K = K) : CallR X (.type "tuple") (rTupleK K) := e ▸ call_tuple_of
def rListK (K : PySem.W.Frag) : List V → Hp → VK → Prop := fun xs H Q => ∃ p ys, xs = [V.ref p] ∧ (SqL K H p ys ∨ SqT K H p ys) ∧ ∀ l, H l = none → Q (.ref l) (upd H l (.lst ys))
theorem kList (e : X.K = K) : CallR X (.type "list") (rListK K) := e ▸ call_list_of
theorem kSorted (e : X.K = K) : CallR X (.builtin "sorted") (rSortedI K) := e ▸ cr_sortedI
theorem kSum (hc : X.calm = true) (e : X.K = K) : CallR X (.builtin "sum") (rSum K) := e ▸ cr_sum hc
theorem kAll (hc : X.calm = true) (e : X.K = K) : CallR X (.builtin "all") (rAll K) := e ▸ cr_all hc
theorem kCatA (e : X.K = K) : OpR X (binaryOp .Add) (rCatA K) := e ▸ op_catA
theorem kEqD (hu : X.A.units + 64 < cLine) (e : X.K = K) : OpR X (compareOp .Eq) (rEqD K) := e ▸ op_eqD hu
theorem kNeD (hu : X.A.units + 64 < cLine) (e : X.K = K) : OpR X (compareOp .NotEq) (rNeD K) := e ▸ op_neD hu
theorem kInD (hu : X.A.units + 65 < cLine) (e : X.K = K) : OpR X (compareOp .In) (rInD K) := e ▸ op_inD hu
theorem kNotInD (hu : X.A.units + 65 < cLine) (e : X.K = K) : OpR X (compareOp .NotIn) (rNotInD K) := e ▸ op_notInD hu
theorem kIndex (e : X.K = K) : MtR X "list.index" (rIndex K) := e ▸ mt_index
theorem kpTup {tg l : Expr} {tl : TE} (e : X.K = K) (hl : PE X l tl) : PI X tg l (iTup K tl) := e ▸ pi_tup hl
theorem kpList {tg l : Expr} {tl : TE} (e : X.K = K) (hl : PE X l tl) : PI X tg l (iList K tl) := e ▸ pi_list hl
theorem kpEnumT {e1 : Expr} {ta : TA} {p pos tpos : Pos} {elts : List Expr} {kk : Nat} (e : X.K = K) (hg : Gl X "enumerate") (hm : X.mg "enumerate" = none) (ha : PA X [e1] ta) (hs : starEach [e1] X.env = [(false, eval e1 X.env)] := by rfl) :
    PI X (.Tuple elts kk tpos) (.Call (.Name "enumerate" p) [e1] [] pos) (iEnT K ta) := e ▸ pi_enumT hg hm ha hs
end
end Nc
set_option maxHeartbeats 4000000
/-! W3: the readings' parts one by one (each lemma opens one part). -/
namespace Nc
open PySem PySem.Spec L2
section
variable {K : PySem.W.Frag} {σ : St} {H : Hp} {Q : VK} {D : Ends} {te ta tb : TE} {t : TA} {tt tu : TT} {ts us ws : TS} {g : TG}
theorem r_var {i : Nat} {v : V} (e : σ[i]? = some (some v)) (h : Q v H) : tVar i σ H Q := ⟨v, e, h⟩
theorem r_c {v : V} (h : Q v H) : tC v σ H Q := h
theorem r_op {r : R2} (h : ta σ H fun x H1 => tb σ H1 fun y H2 => r x y H2 Q) : tOp r ta tb σ H Q := h
theorem r_un {r : V → Hp → VK → Prop} (h : ta σ H fun x H1 => r x H1 Q) : tUn r ta σ H Q := h
theorem r_notV (h : ta σ H fun x H1 => ∃ c, x = .bl c ∧ Q (.bl (!c)) H1) : tNotV ta σ H Q := h
theorem r_cb {r : List V → Hp → VK → Prop} (h : t σ H fun vs H1 => r vs H1 Q) : tCB r t σ H Q := h
theorem r_call {sp : Sp} {ds : List V} {E : XK} (h : t σ H fun vs H1 => sp (vs ++ ds) H1 Q E) : tCall sp ds E t σ H Q := h
theorem r_nil {R : List V → Hp → Prop} (h : R [] H) : tNil σ H R := h
theorem r_cons {R : List V → Hp → Prop} (h : te σ H fun x H1 => t σ H1 fun xs H2 => R (x :: xs) H2) : tCons te t σ H R := h
theorem r_tup (h : t σ H fun xs H1 => xs.length ≤ sizeLine ∧ ∀ p, H1 p = none → Q (.ref p) (upd H1 p (.tup xs))) : tTup t σ H Q := h
theorem r_lst (h : t σ H fun xs H1 => xs.length ≤ sizeLine ∧ ∀ p, H1 p = none → Q (.ref p) (upd H1 p (.lst xs))) : tLst t σ H Q := h
theorem r_noP {R : Option Int → Hp → Prop} (h : R none H) : tNoPart σ H R := h
theorem r_part {R : Option Int → Hp → Prop} (h : te σ H fun x H1 => ∃ i, x = .int i ∧ R (some i) H1) : tPart te σ H R := h
theorem r_sl {r : V → Option Int → Option Int → Hp → VK → Prop} {tl th : TO} (h : te σ H fun x H1 => tl σ H1 fun l H2 => th σ H2 fun u H3 => r x l u H3 Q) : tSl r te tl th σ H Q := h
theorem r_bm {ty : String} {r : V → List V → Hp → VK → Prop} (h : te σ H fun x H1 => tyV K ty x H1 ∧ t σ H1 fun xs H2 => r x xs H2 Q) : tBM K ty r te t σ H Q := h
theorem r_bm0 {ty : String} {r : V → List V → Hp → VK → Prop} (h : te σ H fun x H1 => tyV K ty x H1 ∧ r x [] H1 Q) : tBM0 K ty r te σ H Q := h
/-! tests -/
variable {R : Bool → Hp → Prop}
theorem r_test (h : te σ H fun x H' => ∃ k, x = .bl k ∧ R k H') : tTest te σ H R := h
theorem r_B (h : te σ H fun x H' => ∃ k, x = .bl k ∧ R k H') : tB te σ H R := h
theorem r_and (h : tt σ H fun c H1 => if c = true then tu σ H1 R else R false H1) : tAnd tt tu σ H R := h
theorem r_or (h : tt σ H fun c H1 => if c = true then R true H1 else tu σ H1 R) : tOr tt tu σ H R := h
theorem r_not (h : tt σ H fun c H1 => R (!c) H1) : tNot tt σ H R := h
theorem r_yes (h : R true H) : tYes σ H R := h
/-! iterables -/
variable {RI : It → Hp → Prop}
theorem r_iT (h : te σ H fun x H1 => ∃ a, x = .ref a ∧ (∃ xs, SqT K H1 a xs) ∧ RI (Itt K a) H1) : iTup K te σ H RI := h
theorem r_iL (h : te σ H fun x H1 => ∃ a, x = .ref a ∧ (∃ xs, SqL K H1 a xs) ∧ RI (Itl K a) H1) : iList K te σ H RI := h
theorem r_iE (h : t σ H fun vs H1 => ∃ a xs, vs = [.ref a] ∧ SqT K H1 a xs ∧ RI (IteT K a) H1) : iEnT K t σ H RI := h
theorem r_iR (h : t σ H fun vs H1 => ∃ j : Int, vs = [.int j] ∧ -(2 ^ 62) ≤ j ∧ j < 2 ^ 62 ∧ RI (Itr 0 j.toNat) H1) : iRng1 t σ H RI := h
theorem r_lc {wi : TI} {vs : List Nat} (h : wi σ H fun J H1 => LcQ J g tt te vs σ H1 Q) : tLc wi g tt te vs σ H Q := h
/-! statements -/
theorem r_tupRg {te : St → Hp → (Int → Int → Hp → Prop) → Prop} (h : te σ H fun a b H1 => RgOk a b ∧ ∀ q, H1 q = none → Q (.ref q) (upd H1 q (.tup (rgV a b)))) : tTupRg te σ H Q := h
theorem r_rg1 {te : TE} {RR : Int → Int → Hp → Prop} (h : te σ H fun x H1 => ∃ n, x = .int n ∧ RR 0 n H1) : tRg1 te σ H RR := h
theorem r_ret (h : te σ H D.rt) : tRet te D σ H := h
theorem r_asgS {i : Nat} (h : te σ H fun x H1 => us D (σ.set i (some x)) H1) : tSeq (tAsg te (gName i)) us D σ H := h
theorem r_asg1 {i : Nat} (h : te σ H fun x H1 => D.nx (σ.set i (some x)) H1) : tAsg te (gName i) D σ H := h
theorem r_asgTS {n : Nat} {gs : TGs} (h : te σ H fun x H1 => gTup K n gs x σ H1 fun σ' H' => us D σ' H') : tSeq (tAsg te (gTup K n gs)) us D σ H := h
theorem r_dropS (h : te σ H fun _ H1 => us D σ H1) : tSeq (tDrop te) us D σ H := h
theorem r_drop1 (h : te σ H fun _ H1 => D.nx σ H1) : tDrop te D σ H := h
theorem r_ifS (h : tt σ H fun b H1 => if b = true then ts { D with nx := us D } σ H1 else ws { D with nx := us D } σ H1) : tSeq (tIfS tt ts ws) us D σ H := h
theorem r_if1 (h : tt σ H fun b H1 => if b = true then ts D σ H1 else ws D σ H1) : tIfS tt ts ws D σ H := h
theorem r_gn {i : Nat} {v : V} {RS : St → Hp → Prop} (h : RS (σ.set i (some v)) H) : gName i v σ H RS := h
theorem r_next (h : D.nx σ H) : tNext D σ H := h
theorem r_break (h : D.bk σ H) : tBreak D σ H := h
/-! what a for asks once its iterator has come -/
def ForQ (J : It) (g : TG) (tb : TS) (D : Ends) (σ : St) (H1 : Hp) : Prop :=
  ∃ W : Nat → Nat → St → Hp → Prop, (∃ m, W 0 m σ H1) ∧ ∀ i m σ H, W i m σ H →
    (J.stop i H ∧ D.nx σ H) ∨ (J.go i H ∧ ∃ N : St → Hp → Prop, (∀ σ' H', N σ' H' → ∃ m', m' < m ∧ W (i + 1) m' σ' H') ∧ ∀ x H', J.yld i H x H' → g x σ H' fun σ2 H2 => tb { D with nx := N, ct := N, bk := D.nx } σ2 H2)
theorem r_for1 {wi : TI} (h : wi σ H fun J H1 => ForQ J g ts D σ H1) : tFor wi g ts D σ H := h
theorem r_forS {wi : TI} (h : wi σ H fun J H1 => ForQ J g ts { D with nx := us D } σ H1) : tSeq (tFor wi g ts) us D σ H := h
end

/-! ### for over data -/
section
variable {T : List (Addr × Str)} {M : List Addr} {K : PySem.W.Frag} {σ : St} {H H1 : Hp} {D : Ends} {tb : TS} {v : V} {g : TG}
/-- over a tuple of data; Pv i: behind i turns -/
theorem for_T {α : Type} (as : List α) (e : α → PyData) (hv : Td K H1 v (.tuple (as.map e))) (Pv : Nat → St → Hp → Prop) (h0 : Pv 0 σ H1) (hF : ∀ i σ H', Pv i σ H' → Fr T M H1 H')
    (hs : ∀ (i : Nat) (a : α) (u : V) (σ' : St) (H' : Hp), as[i]? = some a → Pv i σ' H' → Td K H' u (e a) → g u σ' H' fun σ2 H2 => tb { D with nx := Pv (i + 1), ct := Pv (i + 1), bk := D.nx } σ2 H2)
    (hd : ∀ σ' H', Pv as.length σ' H' → D.nx σ' H') : ∃ a, v = .ref a ∧ (∃ xs, SqT K H1 a xs) ∧ ForQ (Itt K a) g tb D σ H1 := by
  obtain ⟨a, xs, rfl, h1, h2⟩ := hv.tup_inv
  have hl : xs.length = as.length := by rw [h2.length, List.length_map]
  refine ⟨a, rfl, ⟨xs, h1⟩, for_it (walk_tup (K := K) (a := a) (xs := xs)) Pv h0 (fun i σ' H' _ p => (hF i σ' H' p).sqT h1) ?_ (fun σ' H' p => hd σ' H' (hl ▸ p))⟩
  rintro i x σ' Ha Hb hi p ⟨rfl, hx⟩
  have ha : as[i]? = some as[i] := List.getElem?_eq_getElem (hl ▸ hi)
  obtain ⟨u, hu, tu⟩ := h2.get (i := i) (d := e as[i]) (by rw [List.getElem?_map, ha]; rfl)
  rw [hx] at hu
  cases hu
  exact hs i _ x σ' Hb ha p (tu.mono (hF i σ' Hb p))
/-- over a list of data that stands still -/
theorem for_L {α : Type} (as : List α) (e : α → PyData) {a : Addr} {xs : List V} (ha : H1 a = some (.lst xs)) (hx : TdAll K H1 xs (as.map e)) (hM : a ∉ M) (Pv : Nat → St → Hp → Prop) (h0 : Pv 0 σ H1) (hF : ∀ i σ H', Pv i σ H' → Fr T M H1 H')
    (hs : ∀ (i : Nat) (a : α) (u : V) (σ' : St) (H' : Hp), as[i]? = some a → Pv i σ' H' → Td K H' u (e a) → g u σ' H' fun σ2 H2 => tb { D with nx := Pv (i + 1), ct := Pv (i + 1), bk := D.nx } σ2 H2)
    (hd : ∀ σ' H', Pv as.length σ' H' → D.nx σ' H') : ∃ a', V.ref a = .ref a' ∧ (∃ xs, SqL K H1 a' xs) ∧ ForQ (Itl K a') g tb D σ H1 := by
  have hl : xs.length = as.length := by rw [hx.length, List.length_map]
  refine ⟨a, rfl, ⟨xs, SqL.of ha⟩, for_it (walk_list (K := K) (a := a) (xs := xs)) Pv h0 (fun i σ' H' _ p => SqL.of ((hF i σ' H' p).lst ha hM)) ?_ (fun σ' H' p => hd σ' H' (hl ▸ p))⟩
  rintro i x σ' Ha Hb hi p ⟨rfl, hx'⟩
  have hb : as[i]? = some as[i] := List.getElem?_eq_getElem (hl ▸ hi)
  obtain ⟨u, hu, tu⟩ := hx.get (i := i) (d := e as[i]) (by rw [List.getElem?_map, hb]; rfl)
  rw [hx'] at hu
  cases hu
  exact hs i _ x σ' Hb hb p (tu.mono (hF i σ' Hb p))
/-- over a range from 0 -/
theorem for_R {n : Nat} {j : Nat} (Pv : Nat → St → Hp → Prop) (h0 : Pv 0 σ H1)
    (hs : ∀ (i : Nat) (σ' : St) (H' : Hp), i < n → Pv i σ' H' → tb { D with nx := Pv (i + 1), ct := Pv (i + 1), bk := D.nx } (σ'.set j (some (.int (i : Int)))) H')
    (hd : ∀ σ' H', Pv n σ' H' → D.nx σ' H') : ForQ (Itr 0 n) (gName j) tb D σ H1 := by
  refine for_it (walk_range (lo := 0) (n := n)) Pv h0 (fun _ _ _ _ _ => trivial) ?_ hd
  rintro i x σ' Ha Hb hi p ⟨rfl, hx⟩
  have ex : x = V.int ((0 : Int) + (i : Int)) := hx
  rw [ex, Int.zero_add]
  exact hs i σ' Hb hi p
end

/-! ### questions -/
section
variable {K : PySem.W.Frag} {H : Hp} {Q : VK} {v : V} {ns : List Int} {ds : List PyData} {D : Addr} {xs : List V} {T : List (Addr × Str)}
theorem q_I {g : Int → Int → V} {i j : Int} (q : Q (g i j) H) : rI0 g (.int i) (.int j) H Q := ⟨i, j, rfl, rfl, q⟩
theorem q_IC {C : Int → Int → Prop} {g : Int → Int → V} {i j : Int} (c : C i j) (q : Q (g i j) H) : rI C g (.int i) (.int j) H Q := ⟨i, j, rfl, rfl, c, q⟩
theorem q_U {g : Int → V} {i : Int} (q : Q (g i) H) : rU g (.int i) H Q := ⟨i, rfl, q⟩
theorem q_eqI {i j : Int} (q : Q (.bl (decide (i = j))) H) : rEq (.int i) (.int j) H Q := by
  refine ⟨rfl, ?_⟩
  have e : decide (V.int i = V.int j) = decide (i = j) := decide_eq_decide.mpr ⟨fun h => V.int.inj h, fun h => by rw [h]⟩
  rw [e]
  exact q
theorem q_eqS {i j : Str} (q : Q (.bl (decide (i = j))) H) : rEq (.str i) (.str j) H Q := by
  refine ⟨rfl, ?_⟩
  have e : decide (V.str i = V.str j) = decide (i = j) := decide_eq_decide.mpr ⟨fun h => V.str.inj h, fun h => by rw [h]⟩
  rw [e]
  exact q
theorem q_neI {i j : Int} (q : Q (.bl (!decide (i = j))) H) : rNe (.int i) (.int j) H Q := by
  refine ⟨rfl, ?_⟩
  have e : decide (V.int i = V.int j) = decide (i = j) := decide_eq_decide.mpr ⟨fun h => V.int.inj h, fun h => by rw [h]⟩
  rw [e]
  exact q
theorem q_lenT (h : Td K H v (.tuple ds)) (q : Q (.int ds.length) H) : rLenK K [v] H Q := by
  obtain ⟨a, xs, rfl, h1, h2⟩ := h.tup_inv
  exact ⟨a, xs, rfl, Or.inr h1, by rw [h2.length]; exact q⟩
theorem q_lenL (h : H D = some (.lst xs)) (q : Q (.int xs.length) H) : rLenK K [.ref D] H Q := ⟨D, xs, rfl, Or.inl (SqL.of h), q⟩
theorem q_tupK (h : H D = some (.lst xs)) (hd : TdAll K H xs ds) (q : ∀ l H', Fr T [] H H' → Td K H' (.ref l) (.tuple ds) → Q (.ref l) H') : rTupleK K [.ref D] H Q := q_tupleL h hd q
theorem q_listT (h : Td K H v (.tuple ds)) (q : ∀ l xs H', H l = none → Fr T [] H H' → H' l = some (.lst xs) → TdAll K H' xs ds → Q (.ref l) H') : rListK K [v] H Q := by
  obtain ⟨a, xs, rfl, h1, h2⟩ := h.tup_inv
  exact ⟨a, xs, rfl, Or.inr h1, fun l hl => q l xs _ hl (Fr.new hl) upd_same (h2.mono (Fr.new (T := T) hl))⟩
theorem q_slL {lo hi : Option Int} (h : H D = some (.lst xs)) (q : ∀ p, H p = none → Q (.ref p) (upd H p (.lst (cutV xs lo hi)))) : rSlL K (.ref D) lo hi H Q := ⟨D, xs, rfl, SqL.of h, q⟩
theorem q_cat {l b : Addr} {ys : List V} (h1 : H l = some (.lst xs)) (h2 : H b = some (.lst ys)) (hz : xs.length + ys.length ≤ sizeLine) (q : ∀ p, H p = none → Q (.ref p) (upd H p (.lst (xs ++ ys)))) : rCat (.ref l) (.ref b) H Q := ⟨l, b, xs, ys, rfl, rfl, h1, h2, hz, q⟩
theorem q_app {l : Addr} {y : V} (h : H l = some (.lst xs)) (hz : xs.length < sizeLine) (q : Q .non (upd H l (.lst (xs ++ [y])))) : rAppend (.ref l) [y] H Q := ⟨l, xs, y, rfl, rfl, h, hz, q⟩
theorem ty_lst (h : H D = some (.lst xs)) : tyV K "list" (.ref D) H := Or.inl ⟨rfl, xs, SqL.of h⟩
theorem cut_to (xs : List V) (k : Nat) : cutV xs none (some (k : Int)) = xs.take k := by
  unfold cutV
  rw [HT.sIx_none, HT.sIx_nat]
  simp only [List.drop_zero, Nat.sub_zero]
  rw [List.take_eq_take_iff]
  omega
theorem cut_toI (xs : List V) {k : Int} (h : 0 ≤ k) : cutV xs none (some k) = xs.take k.toNat := by
  have := cut_to xs k.toNat
  rwa [Int.toNat_of_nonneg h] at this
theorem cut_from (xs : List V) (k : Nat) : cutV xs (some (k : Int)) none = xs.drop k := by
  unfold cutV
  rw [HT.sIx_none, HT.sIx_nat]
  by_cases h : k ≤ xs.length
  · rw [Nat.min_eq_left h, List.take_of_length_le (by rw [List.length_drop]; omega)]
  · rw [Nat.min_eq_right (by omega), List.drop_of_length_le (Nat.le_refl _), List.drop_of_length_le (by omega)]
    simp
/-- a cut of a tuple that isn't the whole of it -/
theorem q_cutT {lo hi : Option Int} {es : List PyData} (h : Td K H v (.tuple ds)) (hn : ¬ (HT.sIx ds.length 0 lo = 0 ∧ HT.sIx ds.length ds.length hi = ds.length)) (he : (ds.drop (HT.sIx ds.length 0 lo)).take (HT.sIx ds.length ds.length hi - HT.sIx ds.length 0 lo) = es)
    (q : ∀ l H', Fr T [] H H' → Td K H' (.ref l) (.tuple es) → Q (.ref l) H') : rSlT K v lo hi H Q := by
  obtain ⟨a, xs, rfl, h1, h2⟩ := h.tup_inv
  have hl := h2.length
  refine ⟨a, xs, rfl, h1, by rw [hl]; exact hn, fun p hp => q p _ (Fr.new hp) (td_new upd_same ?_)⟩
  rw [← he]
  unfold cutV
  rw [hl]
  exact ((h2.drop _).take _).mono (Fr.new (T := T) hp)
theorem tdAll_bls {bs : List Bool} (h : TdAll K H xs (bs.map PyData.bool)) : xs = bs.map V.bl := by
  induction bs generalizing xs with
  | nil => cases h; rfl
  | cons b bs ih =>
    cases h with
    | cons h1 h2 => rw [h1.bl_inv, ih h2]; rfl
theorem q_all {bs : List Bool} (h : H D = some (.lst xs)) (hd : TdAll K H xs (bs.map PyData.bool)) (q : Q (.bl (bs.all id)) H) : rAll K [.ref D] H Q := ⟨D, bs, rfl, by rw [← tdAll_bls hd]; exact SqL.of h, q⟩
end
section
variable {T : List (Addr × Str)} {K : PySem.W.Frag}
/-- over a tuple of pairs, to two names -/
theorem lc_P {α : Type} (as : List α) (e1 e2 : α → PyData) {v : V} {H1 : Hp} (hv : Td K H1 v (.tuple (as.map fun a => .tuple [e1 a, e2 a]))) (hz : as.length < sizeLine) {j1 j2 : Nat} {tt : TT} {te : TE} {vs : List Nat} {σ : St} {Q : VK} (f : α → Bool) (d : α → PyData)
    (hw : ∀ x y, wipe (((wipe σ vs).set j1 (some x)).set j2 (some y)) vs = wipe σ vs)
    (ht : ∀ (a : α) (u1 u2 : V) (H2 : Hp), a ∈ as → Fr T [] H1 H2 → Td K H2 u1 (e1 a) → Td K H2 u2 (e2 a) → ∀ (R1 : V → Hp → Prop) (R2 : Hp → Prop), (f a = true → ∀ v H3, Fr T [] H2 H3 → Td K H3 v (d a) → R1 v H3) → (f a = false → ∀ H3, Fr T [] H2 H3 → R2 H3) →
      tt (((wipe σ vs).set j1 (some u1)).set j2 (some u2)) H2 fun b H3 => if b = true then te (((wipe σ vs).set j1 (some u1)).set j2 (some u2)) H3 R1 else R2 H3)
    (hd : ∀ (D : Addr) (H' : Hp) (xs : List V), H1 D = none → Fr T [] H1 H' → H' D = some (.lst xs) → TdAll K H' xs ((as.filter f).map d) → Q (.ref D) H') :
    ∃ a, v = .ref a ∧ (∃ xs, SqT K H1 a xs) ∧ LcQ (Itt K a) (gTup K 2 (gCons (gName j1) (gCons (gName j2) gNil))) tt te vs σ H1 Q := by
  obtain ⟨a, xs, rfl, h1, h2⟩ := hv.tup_inv
  refine ⟨a, rfl, ⟨xs, h1⟩, ?_⟩
  refine lc_td (T := T) (K := K) (walk_tup (K := K) (a := a) (xs := xs)) as (by rw [h2.length, List.length_map]) hz f d (fun b σ2 H2 => ∃ u1 u2, Td K H2 u1 (e1 b) ∧ Td K H2 u2 (e2 b) ∧ σ2 = ((wipe σ vs).set j1 (some u1)).set j2 (some u2)) (fun H' fr => fr.sqT h1) ?_ ?_ hd
  · rintro i b x Ha Hb hb fa ⟨rfl, hx⟩ R hR
    obtain ⟨u, hu, tu⟩ := h2.get (i := i) (d := .tuple [e1 b, e2 b]) (by rw [List.getElem?_map, hb]; rfl)
    rw [hx] at hu
    cases hu
    obtain ⟨t, ys, rfl, s1, s2⟩ := (tu.mono fa).tup_inv
    cases s2 with
    | cons p1 s2 =>
      cases s2 with
      | cons p2 s2 =>
        cases s2
        exact ⟨t, _, rfl, s1, rfl, _, _, rfl, _, _, rfl, rfl, hR _ _ (Fr.refl _) (hw _ _) ⟨_, _, p1, p2, rfl⟩⟩
  · rintro i b σ2 H2 hb f2 ⟨u1, u2, t1, t2, rfl⟩ R1 R2 q1 q2
    exact ht b u1 u2 H2 (List.mem_of_getElem? hb) f2 t1 t2 R1 R2 q1 q2
end
end Nc
set_option maxHeartbeats 4000000
/-! P1: the contracts of a house. -/
namespace Nc
open PySem PySem.Spec L2
local macro_rules | `(tactic| walk_at "st") => `(tactic| (repeat (first
  | ((with_reducible refine' r_var ?e ?_); (case e => exact rfl))
  | (with_reducible refine' r_op ?_)
  | (with_reducible refine' r_c ?_)
  | (with_reducible refine' r_cons ?_)
  | (with_reducible refine' r_nil ?_)
  | (with_reducible refine' r_cb ?_)
  | (with_reducible refine' r_call ?_)
  | (with_reducible refine' r_test ?_)
  | (with_reducible refine' r_lc ?_)
  | (with_reducible refine' r_iT ?_)
  | (with_reducible refine' r_iL ?_)
  | (with_reducible refine' r_iE ?_)
  | (with_reducible refine' r_iR ?_)
  | (with_reducible refine' r_ret ?_)
  | (with_reducible refine' r_asgS ?_)
  | (with_reducible refine' r_asg1 ?_)
  | (with_reducible refine' r_asgTS ?_)
  | (with_reducible refine' r_ifS ?_)
  | (with_reducible refine' r_if1 ?_)
  | (with_reducible refine' r_forS ?_)
  | (with_reducible refine' r_for1 ?_)
  | (with_reducible refine' r_dropS ?_)
  | (with_reducible refine' r_drop1 ?_)
  | (with_reducible refine' r_tup ?_)
  | (with_reducible refine' r_lst ?_)
  | (with_reducible refine' r_sl ?_)
  | (with_reducible refine' r_noP ?_)
  | (with_reducible refine' r_part ?_)
  | (with_reducible refine' r_bm ?_)
  | (with_reducible refine' r_bm0 ?_)
  | (with_reducible refine' r_un ?_)
  | (with_reducible refine' r_notV ?_)
  | (with_reducible refine' r_B ?_)
  | (with_reducible refine' r_and ?_)
  | (with_reducible refine' r_or ?_)
  | (with_reducible refine' r_not ?_)
  | (with_reducible refine' r_yes ?_)
  | (with_reducible refine' r_next ?_)
  | (with_reducible refine' r_break ?_)
  | (with_reducible refine' r_gn ?_)
  | (with_reducible refine' r_tupRg ?_)
  | (with_reducible refine' r_rg1 ?_)
  )))
section
variable {P : Program} {w : World} {K : PySem.W.Frag} {mg : Str → Option Value} {base : Heap}
variable {T : List (Addr × Str)}
def sp_buys_of (K : PySem.W.Frag) (T : List (Addr × Str)) : Sp := Sp2 fun a b H Q => ∃ (wb : Web Str) (h : Int), Td K H a (eW wb) ∧ b = .int h ∧ wb.cs.length ≤ 1000 ∧ ∀ v H', Fr T [] H H' → Td K H' v (tI (buysOf wb.cs h)) → Q v H'
/-! ### buys_of -/
abbrev s_buys_of : Stmt := topS 1
abbrev N_buys_of : List Str := ["web", "house", "number", "contract"]
theorem sc_buys_of : FnScope N_buys_of ["web", "house"] (defScope s_buys_of) := ⟨rfl, rfl, rfl, by decide +kernel, rfl, by decide +kernel, by decide +kernel⟩
theorem d_buys_of (B : B0 mg) (A0 : At K mg "buys_of" s_buys_of) : Dn P w K mg base "buys_of" ["web", "house"] 1 (sp_buys_of K T) := by
  refine dn2 A0 sc_buys_of (fun _ _ F => F.bindsN fun _ _ _ _ _ _ us hl => match us, hl with | [_, _], _ => rfl) fun f cdv A outer s H a0 a1 Q E hr h => ?_
  have nd := sc_buys_of.nd
  refine ⟨_, (pss_one
  (ps_ret (pe_callTy (kTuple (K := K) rfl) (by rfl) B.tuple (by decide +kernel) (pa_cons (pe_lc (own := [("number", 2), ("contract", 3)]) (g := (gTup K 2 (gCons (gName 2) (gCons (gName 3) gNil)))) (by rfl) nd (kpEnumT (K := K) rfl (by rfl) B.enumerate (pa_cons (pe_ix (kIxT (K := K) rfl) (pv 0) pe_int (fun _ _ => rfl)) pa_nil)) (blkOk_by (own := [("number", 2), ("contract", 3)]) (N := N_buys_of) (sc := defScope s_buys_of) (by decide +kernel)) (fun _ _ _ _ _ => (pg_tup rfl (pgs_cons (pg_name (i := 2) nd rfl (by first | exact Or.inl rfl | exact Or.inr rfl)) (pgs_cons (pg_name (i := 3) nd rfl (by first | exact Or.inl rfl | exact Or.inr rfl)) pgs_nil)))) (fun _ _ _ _ _ => (pts_one (pt_cmpR op_eq (pe_ix (kIxT (K := K) rfl) (pv 3) pe_int (fun _ _ => rfl)) (pv 1) (by rfl)))) (fun _ _ _ _ _ => (pv 2))) pa_nil)))), ?_⟩
  obtain ⟨wb, hh, tw, rfl, hl, q⟩ := h
  refine r_ret ?_
  walk_at "st"
  refine q_ixT tw rfl fun u hu => ?_
  walk_at "st"
  refine lc_E (T := T) (K := K) wb.cs eC hu (line_of (by omega)) (fun a => decide (a.1.2.1 = hh)) (fun a => .int a.2) (fun _ _ => rfl) ?_ ?_
  · intro a i x H2 ha fr tx R1 R2 r1 r2
    walk_at "st"
    refine q_ixT tx rfl fun y ty => ?_
    obtain rfl := ty.int_inv
    walk_at "st"
    refine q_eqI ⟨_, rfl, ite2 (fun e => ?_) (fun e => ?_)⟩
    · walk_at "st"
      exact r1 e _ _ (Fr.refl _) (.int _)
    · exact r2 (Bool.eq_false_iff.mpr e) _ (Fr.refl _)
  · intro D H' xs hD fr hx tx
    walk_at "st"
    refine q_tupK (T := T) hx tx fun l H2 f2 t2 => q _ _ (fr.trans f2) ?_
    unfold buysOf idxs tI
    rw [List.map_map]
    exact t2
def sp_sells_of (K : PySem.W.Frag) (T : List (Addr × Str)) : Sp := Sp2 fun a b H Q => ∃ (wb : Web Str) (h : Int), Td K H a (eW wb) ∧ b = .int h ∧ wb.cs.length ≤ 1000 ∧ ∀ v H', Fr T [] H H' → Td K H' v (tI (sellsOf wb.cs h)) → Q v H'
/-! ### sells_of -/
abbrev s_sells_of : Stmt := topS 2
abbrev N_sells_of : List Str := ["web", "house", "number", "contract"]
theorem sc_sells_of : FnScope N_sells_of ["web", "house"] (defScope s_sells_of) := ⟨rfl, rfl, rfl, by decide +kernel, rfl, by decide +kernel, by decide +kernel⟩
theorem d_sells_of (B : B0 mg) (A0 : At K mg "sells_of" s_sells_of) : Dn P w K mg base "sells_of" ["web", "house"] 1 (sp_sells_of K T) := by
  refine dn2 A0 sc_sells_of (fun _ _ F => F.bindsN fun _ _ _ _ _ _ us hl => match us, hl with | [_, _], _ => rfl) fun f cdv A outer s H a0 a1 Q E hr h => ?_
  have nd := sc_sells_of.nd
  refine ⟨_, (pss_one
  (ps_ret (pe_callTy (kTuple (K := K) rfl) (by rfl) B.tuple (by decide +kernel) (pa_cons (pe_lc (own := [("number", 2), ("contract", 3)]) (g := (gTup K 2 (gCons (gName 2) (gCons (gName 3) gNil)))) (by rfl) nd (kpEnumT (K := K) rfl (by rfl) B.enumerate (pa_cons (pe_ix (kIxT (K := K) rfl) (pv 0) pe_int (fun _ _ => rfl)) pa_nil)) (blkOk_by (own := [("number", 2), ("contract", 3)]) (N := N_sells_of) (sc := defScope s_sells_of) (by decide +kernel)) (fun _ _ _ _ _ => (pg_tup rfl (pgs_cons (pg_name (i := 2) nd rfl (by first | exact Or.inl rfl | exact Or.inr rfl)) (pgs_cons (pg_name (i := 3) nd rfl (by first | exact Or.inl rfl | exact Or.inr rfl)) pgs_nil)))) (fun _ _ _ _ _ => (pts_one (pt_cmpR op_eq (pe_ix (kIxT (K := K) rfl) (pv 3) pe_int (fun _ _ => rfl)) (pv 1) (by rfl)))) (fun _ _ _ _ _ => (pv 2))) pa_nil)))), ?_⟩
  obtain ⟨wb, hh, tw, rfl, hl, q⟩ := h
  refine r_ret ?_
  walk_at "st"
  refine q_ixT tw rfl fun u hu => ?_
  walk_at "st"
  refine lc_E (T := T) (K := K) wb.cs eC hu (line_of (by omega)) (fun a => decide (a.1.1 = hh)) (fun a => .int a.2) (fun _ _ => rfl) ?_ ?_
  · intro a i x H2 ha fr tx R1 R2 r1 r2
    walk_at "st"
    refine q_ixT tx rfl fun y ty => ?_
    obtain rfl := ty.int_inv
    walk_at "st"
    refine q_eqI ⟨_, rfl, ite2 (fun e => ?_) (fun e => ?_)⟩
    · walk_at "st"
      exact r1 e _ _ (Fr.refl _) (.int _)
    · exact r2 (Bool.eq_false_iff.mpr e) _ (Fr.refl _)
  · intro D H' xs hD fr hx tx
    walk_at "st"
    refine q_tupK (T := T) hx tx fun l H2 f2 t2 => q _ _ (fr.trans f2) ?_
    unfold sellsOf idxs tI
    rw [List.map_map]
    exact t2
def sp_own_contracts (K : PySem.W.Frag) (T : List (Addr × Str)) : Sp := Sp2 fun a b H Q => ∃ (wb : Web Str) (h : Int), Td K H a (eW wb) ∧ b = .int h ∧ wb.cs.length ≤ 1000 ∧ ∀ v H', Fr T [] H H' → Td K H' v (tI (ownOf wb.cs h)) → Q v H'
/-! ### own_contracts -/
abbrev s_own_contracts : Stmt := topS 3
abbrev N_own_contracts : List Str := ["web", "house", "number", "contract"]
theorem sc_own_contracts : FnScope N_own_contracts ["web", "house"] (defScope s_own_contracts) := ⟨rfl, rfl, rfl, by decide +kernel, rfl, by decide +kernel, by decide +kernel⟩
theorem d_own_contracts (B : B0 mg) (A0 : At K mg "own_contracts" s_own_contracts) : Dn P w K mg base "own_contracts" ["web", "house"] 1 (sp_own_contracts K T) := by
  refine dn2 A0 sc_own_contracts (fun _ _ F => F.bindsN fun _ _ _ _ _ _ us hl => match us, hl with | [_, _], _ => rfl) fun f cdv A outer s H a0 a1 Q E hr h => ?_
  have nd := sc_own_contracts.nd
  refine ⟨_, (pss_one
  (ps_ret (pe_callTy (kTuple (K := K) rfl) (by rfl) B.tuple (by decide +kernel) (pa_cons (pe_lc (own := [("number", 2), ("contract", 3)]) (g := (gTup K 2 (gCons (gName 2) (gCons (gName 3) gNil)))) (by rfl) nd (kpEnumT (K := K) rfl (by rfl) B.enumerate (pa_cons (pe_ix (kIxT (K := K) rfl) (pv 0) pe_int (fun _ _ => rfl)) pa_nil)) (blkOk_by (own := [("number", 2), ("contract", 3)]) (N := N_own_contracts) (sc := defScope s_own_contracts) (by decide +kernel)) (fun _ _ _ _ _ => (pg_tup rfl (pgs_cons (pg_name (i := 2) nd rfl (by first | exact Or.inl rfl | exact Or.inr rfl)) (pgs_cons (pg_name (i := 3) nd rfl (by first | exact Or.inl rfl | exact Or.inr rfl)) pgs_nil)))) (fun _ _ _ _ _ => (pts_one (pt_cmpR (kIn (K := K) rfl) (pv 1) (pe_slice (kSlT (K := K) rfl) (pv 3) po_none (po_some pe_int)) (by rfl)))) (fun _ _ _ _ _ => (pv 2))) pa_nil)))), ?_⟩
  obtain ⟨wb, hh, tw, rfl, hl, q⟩ := h
  refine r_ret ?_
  walk_at "st"
  refine q_ixT tw rfl fun u hu => ?_
  walk_at "st"
  refine lc_E (T := T) (K := K) wb.cs eC hu (line_of (by omega)) (fun a => decide (hh ∈ [a.1.1, a.1.2.1])) (fun a => .int a.2) (fun _ _ => rfl) ?_ ?_
  · intro a i x H2 ha fr tx R1 R2 r1 r2
    walk_at "st"
    refine ⟨_, rfl, ?_⟩
    refine q_cutT (T := T) (lo := none) (hi := some 2) (es := [.int a.1, .int a.2.1]) tx (show ¬ (HT.sIx 3 0 none = 0 ∧ HT.sIx 3 3 (some 2) = 3) by decide) rfl fun p H3 f3 tp => ?_
    refine q_in (ns := [a.1, a.2.1]) (SqI.of_t tp) ?_
    refine ⟨_, rfl, ite2 (fun e => ?_) (fun e => ?_)⟩
    · walk_at "st"
      exact r1 e _ _ f3 (.int _)
    · exact r2 (Bool.eq_false_iff.mpr e) _ f3
  · intro D H' xs hD fr hx tx
    walk_at "st"
    refine q_tupK (T := T) hx tx fun l H2 f2 t2 => q _ _ (fr.trans f2) ?_
    unfold ownOf idxs tI
    rw [List.map_map]
    exact t2
end
end Nc
set_option maxHeartbeats 4000000
/-! P2: what is offered, tables, caps. -/
namespace Nc
open PySem PySem.Spec L2
local macro_rules | `(tactic| walk_at "st") => `(tactic| (repeat (first
  | ((with_reducible refine' r_var ?e ?_); (case e => exact rfl))
  | (with_reducible refine' r_op ?_)
  | (with_reducible refine' r_c ?_)
  | (with_reducible refine' r_cons ?_)
  | (with_reducible refine' r_nil ?_)
  | (with_reducible refine' r_cb ?_)
  | (with_reducible refine' r_call ?_)
  | (with_reducible refine' r_test ?_)
  | (with_reducible refine' r_lc ?_)
  | (with_reducible refine' r_iT ?_)
  | (with_reducible refine' r_iL ?_)
  | (with_reducible refine' r_iE ?_)
  | (with_reducible refine' r_iR ?_)
  | (with_reducible refine' r_ret ?_)
  | (with_reducible refine' r_asgS ?_)
  | (with_reducible refine' r_asg1 ?_)
  | (with_reducible refine' r_asgTS ?_)
  | (with_reducible refine' r_ifS ?_)
  | (with_reducible refine' r_if1 ?_)
  | (with_reducible refine' r_forS ?_)
  | (with_reducible refine' r_for1 ?_)
  | (with_reducible refine' r_dropS ?_)
  | (with_reducible refine' r_drop1 ?_)
  | (with_reducible refine' r_tup ?_)
  | (with_reducible refine' r_lst ?_)
  | (with_reducible refine' r_sl ?_)
  | (with_reducible refine' r_noP ?_)
  | (with_reducible refine' r_part ?_)
  | (with_reducible refine' r_bm ?_)
  | (with_reducible refine' r_bm0 ?_)
  | (with_reducible refine' r_un ?_)
  | (with_reducible refine' r_notV ?_)
  | (with_reducible refine' r_B ?_)
  | (with_reducible refine' r_and ?_)
  | (with_reducible refine' r_or ?_)
  | (with_reducible refine' r_not ?_)
  | (with_reducible refine' r_yes ?_)
  | (with_reducible refine' r_next ?_)
  | (with_reducible refine' r_break ?_)
  | (with_reducible refine' r_gn ?_)
  | (with_reducible refine' r_tupRg ?_)
  | (with_reducible refine' r_rg1 ?_)
  )))
section
variable {P : Program} {w : World} {K : PySem.W.Frag} {mg : Str → Option Value} {base : Heap}
variable {T : List (Addr × Str)}
def sp_offered_of (K : PySem.W.Frag) (T : List (Addr × Str)) : Sp := Sp2 fun a b H Q => ∃ (row ns : List Int), Td K H a (tI row) ∧ SqI K H b ns ∧ row.length ≤ 1000 ∧
  ∀ p H', Fresh H p → Fr T [] H H' → H' p = some (.lst ((row.filter fun c => decide (c ∈ ns)).map V.int)) → Q (.ref p) H'
/-! ### offered_of -/
abbrev s_offered_of : Stmt := topS 6
abbrev N_offered_of : List Str := ["row", "offered", "contract"]
theorem sc_offered_of : FnScope N_offered_of ["row", "offered"] (defScope s_offered_of) := ⟨rfl, rfl, rfl, by decide +kernel, rfl, by decide +kernel, by decide +kernel⟩
theorem d_offered_of (B : B0 mg) (A0 : At K mg "offered_of" s_offered_of) : Dn P w K mg base "offered_of" ["row", "offered"] 1 (sp_offered_of K T) := by
  refine dn2 A0 sc_offered_of (fun _ _ F => F.bindsN fun _ _ _ _ _ _ us hl => match us, hl with | [_, _], _ => rfl) fun f cdv A outer s H a0 a1 Q E hr h => ?_
  have nd := sc_offered_of.nd
  refine ⟨_, (pss_one
  (ps_ret (pe_lc (own := [("contract", 2)]) (g := (gName 2)) (by rfl) nd (kpTup (K := K) rfl (pv 0)) (blkOk_by (own := [("contract", 2)]) (N := N_offered_of) (sc := defScope s_offered_of) (by decide +kernel)) (fun _ _ _ _ _ => (pg_name (i := 2) nd rfl (by first | exact Or.inl rfl | exact Or.inr rfl))) (fun _ _ _ _ _ => (pts_one (pt_cmpR (kIn (K := K) rfl) (pv 2) (pv 1) (by rfl)))) (fun _ _ _ _ _ => (pv 2))))), ?_⟩
  obtain ⟨row, ns, tr, sn, hl, q⟩ := h
  walk_at "st"
  refine lc_T (T := T) row .int tr (line_of (by omega)) (fun c => decide (c ∈ ns)) .int (fun _ => rfl) ?_ ?_
  · intro c u H2 hc fr tu R1 R2 r1 r2
    obtain rfl := tu.int_inv
    walk_at "st"
    refine q_in (sn.mono fr) ⟨_, rfl, ite2 (fun e => ?_) (fun e => ?_)⟩
    · walk_at "st"
      exact r1 e _ _ (Fr.refl _) (.int _)
    · exact r2 (Bool.eq_false_iff.mpr e) _ (Fr.refl _)
  · intro D H' xs hD fr hx tx
    rw [tx.ints] at hx
    exact q D H' (Fresh.of hD) fr hx
def sp_chosen_row (K : PySem.W.Frag) (T : List (Addr × Str)) : Sp := Sp2 fun a b H Q => ∃ (rows : List (List Int)) (ns : List Int), Td K H a (.tuple (rows.map tI)) ∧ SqI K H b ns ∧ rows.length ≤ 1000 ∧ (∀ r ∈ rows, r.length ≤ 1000) ∧
  ∀ p H', Fresh H p → Fr T [] H H' → H' p = some (.lst ((firstRow rows fun c => decide (c ∈ ns)).map V.int)) → Q (.ref p) H'
/-! ### chosen_row -/
abbrev s_chosen_row : Stmt := topS 7
abbrev N_chosen_row : List Str := ["rows", "offered", "row", "contract"]
theorem sc_chosen_row : FnScope N_chosen_row ["rows", "offered"] (defScope s_chosen_row) := ⟨rfl, rfl, rfl, by decide +kernel, rfl, by decide +kernel, by decide +kernel⟩
theorem d_chosen_row (B : B0 mg) (A0 : At K mg "chosen_row" s_chosen_row) : Dn P w K mg base "chosen_row" ["rows", "offered"] 1 (sp_chosen_row K T) := by
  refine dn2 A0 sc_chosen_row (fun _ _ F => F.bindsN fun _ _ _ _ _ _ us hl => match us, hl with | [_, _], _ => rfl) fun f cdv A outer s H a0 a1 Q E hr h => ?_
  have nd := sc_chosen_row.nd
  refine ⟨_, (pss_cons
  (ps_for PassesOwn.never rfl (kpTup (K := K) rfl (pv 0)) (pg_name (i := 2) nd rfl (by first | exact Or.inl rfl | exact Or.inr rfl)) (pss_one
  (ps_if (pt_val (pe_callB (kAll (K := K) rfl rfl) (by rfl) B.all (by decide +kernel) (pa_cons (pe_lc (own := [("contract", 3)]) (g := (gName 3)) (by rfl) nd (kpTup (K := K) rfl (pv 2)) (blkOk_by (own := [("contract", 3)]) (N := N_chosen_row) (sc := defScope s_chosen_row) (by decide +kernel)) (fun _ _ _ _ _ => (pg_name (i := 3) nd rfl (by first | exact Or.inl rfl | exact Or.inr rfl))) (fun _ _ _ _ _ => pts_nil) (fun _ _ _ _ _ => (pe_cmpR (kIn (K := K) rfl) (pv 3) (pv 1) (by rfl)))) pa_nil))) (pss_one
  (ps_ret (pe_callTy (kList (K := K) rfl) (by rfl) B.list (by decide +kernel) (pa_cons (pv 2) pa_nil)))) pss_nil)))
  (pss_one
  (ps_ret (pe_lst pa_nil)))), ?_⟩
  obtain ⟨rows, ns, tr, sn, hl, hr2, q⟩ := h
  walk_at "st"
  refine for_T (T := T) (M := []) rows tI tr (fun i σ H' => ∃ x y, σ = [some a0, some a1, x, y] ∧ Fr T [] H H' ∧ ∀ r ∈ rows.take i, rowIn (fun c => decide (c ∈ ns)) r = false) ⟨none, none, rfl, Fr.refl _, by simp⟩ (fun i σ H' p => by obtain ⟨_, _, _, fr, _⟩ := p; exact fr) ?_ ?_
  · rintro i r u σ' H' hi ⟨x, y, rfl, fr, hn⟩ tu
    have hrm : r ∈ rows := List.mem_of_getElem? hi
    show _
    walk_at "st"
    refine lc_T (T := T) r .int tu (line_of (by have := hr2 r hrm; omega)) (fun c => true) (fun c => .bool (decide (c ∈ ns))) (fun _ => rfl) ?_ ?_
    · intro c u2 H2 hc f2 t2 R1 R2 r1 r2
      obtain rfl := t2.int_inv
      walk_at "st"
      refine iteT ?_
      walk_at "st"
      exact q_in ((sn.mono fr).mono f2) (r1 rfl _ _ (Fr.refl _) (.bl _))
    · intro D H2 xs hD f2 hx tx
      have e1 : ((r.filter fun c => true).map fun c => PyData.bool (decide (c ∈ ns))) = (r.map fun c => decide (c ∈ ns)).map PyData.bool := by
        rw [filt_true, List.map_map]
        rfl
      rw [e1] at tx
      have e2 : (r.map fun c => decide (c ∈ ns)).all id = rowIn (fun c => decide (c ∈ ns)) r := by
        unfold rowIn
        rw [List.all_map]
        rfl
      walk_at "st"
      refine q_all hx tx ?_
      refine ⟨_, rfl, ?_⟩
      rw [e2]
      refine ite2 (fun e => ?_) (fun e => ?_)
      · walk_at "st"
        refine q_listT (T := T) (tu.mono f2) fun l ys H3 hn3 f3 hl3 t3 => q l H3 ((fr.trans f2).there hn3) ((fr.trans f2).trans f3) ?_
        rw [hl3, t3.ints]
        congr 3
        unfold firstRow
        have ef : rows.find? (rowIn fun c => decide (c ∈ ns)) = some r := by
          rw [List.find?_eq_some_iff_append]
          obtain ⟨h1, h2⟩ := List.getElem?_eq_some_iff.mp hi
          refine ⟨e, rows.take i, rows.drop (i + 1), ?_, fun z hz => by rw [hn z hz]; rfl⟩
          rw [← h2]
          simp
        rw [ef]
        rfl
      · walk_at "st"
        refine ⟨_, _, rfl, fr.trans f2, fun z hz => ?_⟩
        rw [take_snoc hi] at hz
        rcases List.mem_append.mp hz with hz | hz
        · exact hn z hz
        · rw [List.mem_singleton.mp hz]
          exact Bool.eq_false_iff.mpr e
  · rintro σ' H' ⟨x, y, rfl, fr, hn⟩
    show _
    walk_at "st"
    refine ⟨Nat.zero_le _, fun p hp => q p _ (fr.there hp) (fr.andNew hp) ?_⟩
    rw [upd_same]
    congr 2
    unfold firstRow
    rw [List.find?_eq_none.mpr fun z hz => ?_]
    · rfl
    · rw [hn z (by rw [List.take_of_length_le (Nat.le_refl _)]; exact hz)]
      decide
end
end Nc
set_option maxHeartbeats 4000000
/-! X2: set(t) of a tuple of ints; its sorted list. -/
namespace Nc
open PySem PySem.Spec L2
section
variable {X : Cx} {K : PySem.W.Frag} {w : World}
def rSetI (K : PySem.W.Frag) (w : World) : List V → Hp → VK → Prop := fun vs H Q => ∃ (a : Addr) (ns : List Int), vs = [.ref a] ∧ SqT K H a (ns.map V.int) ∧ ns.length ≤ 1000 ∧
  ∀ p n, n ≤ ns.length → H p = none → Q (.ref p) (upd H p (SetO w p (fun j => decide (j ∈ ns)) n))
theorem kSet (hc : X.calm = true) (e : X.K = K) (ew : X.w = w) : CallR X (.type "set") (rSetI K w) := by
  subst e ew
  intro pins s σ H vs us Q I r h
  obtain ⟨a, ns, rfl, hs, hl, q⟩ := h
  obtain rfl := Vals.ref1 r
  obtain ⟨its, rv, tup, _⟩ := I.tuple hs
  have hi : PyProof.Rows.IntsAre its.toArray.toList ns := by
    have := rv.ints
    simpa using this
  refine call_set_tupI ns (I.ok.hd hc) tup hi (Nat.lt_of_le_of_lt (Nat.succ_le_succ hl) (by decide)) fun h' tk c hset hc' hk => ?_
  exact ⟨.ref _, _, I.laid (a := s.heap.objs.size) (o := SetO X.w s.heap.objs.size (fun j => decide (j ∈ ns)) c) (t' := tk) hk (Nat.le_refl _) (setO_new hset), rfl, q _ c hc' (I.hok.fresh (Nat.le_refl _))⟩
theorem kSortedSet (hc : X.calm = true) (ew : X.w = w) : CallR X (.builtin "sorted") (rSortedSet w) := ew ▸ cr_sortedSet hc
end
section
variable {T : List (Addr × Str)} {K : PySem.W.Frag} {H : Hp} {Q : VK} {v u : V} {xs ys : List Int}
theorem q_catT (h1 : Td K H v (tI xs)) (h2 : Td K H u (tI ys)) (hz : xs.length + ys.length ≤ 100000) (q : ∀ l H', Fr T [] H H' → Td K H' l (tI (xs ++ ys)) → Q l H') : rCatA K v u H Q := by
  obtain ⟨a, rfl, s1⟩ := td_tI h1
  obtain ⟨b, rfl, s2⟩ := td_tI h2
  refine ⟨a, b, _, _, rfl, rfl, s1, s2, by simp only [List.length_map]; exact Nat.le_of_lt (line_of hz), fun e => ?_, fun _ e => ?_, fun _ _ p hp => ?_⟩
  · have : xs = [] := List.map_eq_nil_iff.mp e
    subst this
    exact q _ _ (Fr.refl _) h2
  · have : ys = [] := List.map_eq_nil_iff.mp e
    subst this
    rw [List.append_nil] at q
    exact q _ _ (Fr.refl _) h1
  · refine q _ _ (Fr.new hp) (td_of (SqT.of ?_))
    rw [upd_same, List.map_append]
theorem q_eqT (h1 : Td K H v (tI xs)) (h2 : Td K H u (tI ys)) (q : Q (.bl (decide (xs = ys))) H) : rEqD K v u H Q := ⟨tI xs, tI ys, h1.dp, h2.dp, tI_shaped _, tI_shaped _, by rw [eqv_tI]; exact q⟩
end
end Nc
set_option maxHeartbeats 4000000
/-! P3: caps; networks' sets. -/
namespace Nc
open PySem PySem.Spec L2
local macro_rules | `(tactic| walk_at "st") => `(tactic| (repeat (first
  | ((with_reducible refine' r_var ?e ?_); (case e => exact rfl))
  | (with_reducible refine' r_op ?_)
  | (with_reducible refine' r_c ?_)
  | (with_reducible refine' r_cons ?_)
  | (with_reducible refine' r_nil ?_)
  | (with_reducible refine' r_cb ?_)
  | (with_reducible refine' r_call ?_)
  | (with_reducible refine' r_test ?_)
  | (with_reducible refine' r_lc ?_)
  | (with_reducible refine' r_iT ?_)
  | (with_reducible refine' r_iL ?_)
  | (with_reducible refine' r_iE ?_)
  | (with_reducible refine' r_iR ?_)
  | (with_reducible refine' r_ret ?_)
  | (with_reducible refine' r_asgS ?_)
  | (with_reducible refine' r_asg1 ?_)
  | (with_reducible refine' r_asgTS ?_)
  | (with_reducible refine' r_ifS ?_)
  | (with_reducible refine' r_if1 ?_)
  | (with_reducible refine' r_forS ?_)
  | (with_reducible refine' r_for1 ?_)
  | (with_reducible refine' r_dropS ?_)
  | (with_reducible refine' r_drop1 ?_)
  | (with_reducible refine' r_tup ?_)
  | (with_reducible refine' r_lst ?_)
  | (with_reducible refine' r_sl ?_)
  | (with_reducible refine' r_noP ?_)
  | (with_reducible refine' r_part ?_)
  | (with_reducible refine' r_bm ?_)
  | (with_reducible refine' r_bm0 ?_)
  | (with_reducible refine' r_un ?_)
  | (with_reducible refine' r_notV ?_)
  | (with_reducible refine' r_B ?_)
  | (with_reducible refine' r_and ?_)
  | (with_reducible refine' r_or ?_)
  | (with_reducible refine' r_not ?_)
  | (with_reducible refine' r_yes ?_)
  | (with_reducible refine' r_next ?_)
  | (with_reducible refine' r_break ?_)
  | (with_reducible refine' r_gn ?_)
  | (with_reducible refine' r_tupRg ?_)
  | (with_reducible refine' r_rg1 ?_)
  )))
section
variable {P : Program} {w : World} {K : PySem.W.Frag} {mg : Str → Option Value} {base : Heap}
variable {T : List (Addr × Str)}
def sp_within_caps (K : PySem.W.Frag) (T : List (Addr × Str)) : Sp := Sp3 fun a b c H Q => ∃ (row : List Int) (gs : List (List Int × Int)) (ns : List Int), Td K H a (tI row) ∧ Td K H b (.tuple (gs.map eG)) ∧ SqI K H c ns ∧ row.length ≤ 1000 ∧ gs.length ≤ 1000 ∧ (∀ g ∈ gs, g.1.length ≤ 1000) ∧
  ∀ p H', Fresh H p → Fr T [] H H' → H' p = some (.lst ((greedyP gs (row.filter fun c => decide (c ∈ ns)) []).map V.int)) → Q (.ref p) H'
/-! ### within_caps -/
abbrev s_within_caps : Stmt := topS 9
abbrev N_within_caps : List Str := ["row", "groups", "offered", "found", "contract", "caps", "group", "cap"]
theorem sc_within_caps : FnScope N_within_caps ["row", "groups", "offered"] (defScope s_within_caps) := ⟨rfl, rfl, rfl, by decide +kernel, rfl, by decide +kernel, by decide +kernel⟩
theorem d_within_caps (B : B0 mg) (A0 : At K mg "within_caps" s_within_caps) (D_offered_of : Dn P w K mg base "offered_of" ["row", "offered"] 1 (sp_offered_of K T)) : Dn P w K mg base "within_caps" ["row", "groups", "offered"] 2 (sp_within_caps K T) := by
  obtain ⟨f_offered_of, fd_offered_of, G_offered_of, g_offered_of, k_offered_of, b_offered_of⟩ := D_offered_of
  refine dn3 A0 sc_within_caps (fun _ _ F => F.bindsN fun _ _ _ _ _ _ us hl => match us, hl with | [_, _, _], _ => rfl) fun f cdv A outer s H a0 a1 a2 Q E hr h => ?_
  have nd := sc_within_caps.nd
  refine ⟨_, (pss_cons
  (ps_set (i := 3) nd rfl (by first | exact Or.inl rfl | exact Or.inr rfl) (pe_lst pa_nil))
  (pss_cons
  (ps_for PassesOwn.never rfl (kpList (K := K) rfl (pe_call G_offered_of (hr.mono (by decide)) (by rfl) g_offered_of k_offered_of b_offered_of .nil pass0 (pa_cons (pv 0) (pa_cons (pv 2) pa_nil)))) (pg_name (i := 4) nd rfl (by first | exact Or.inl rfl | exact Or.inr rfl)) (pss_cons
  (ps_setLc (i := 5) (own := [("group", 6), ("cap", 7)]) (g := (gTup K 2 (gCons (gName 6) (gCons (gName 7) gNil)))) (by rfl) nd rfl rfl (sw_true rfl rfl rfl (by decide +kernel)) (kpTup (K := K) rfl (pv 1)) (blkOk_by (own := [("group", 6), ("cap", 7)]) (N := N_within_caps) (sc := defScope s_within_caps) (by decide +kernel)) (fun _ _ _ _ _ => (pg_tup rfl (pgs_cons (pg_name (i := 6) nd rfl (by first | exact Or.inl rfl | exact Or.inr rfl)) (pgs_cons (pg_name (i := 7) nd rfl (by first | exact Or.inl rfl | exact Or.inr rfl)) pgs_nil)))) (fun _ _ _ _ _ => (pts_one (pt_cmpR (kIn (K := K) rfl) (pv 4) (pv 6) (by rfl)))) (fun _ _ _ _ _ => (pe_op op_sub (pv 7) (pe_callB (kLen (K := K) rfl) (by rfl) B.len PySem.boot_len (pa_cons (pe_call G_offered_of (hr.mono (by decide)) (by rfl) g_offered_of k_offered_of b_offered_of .nil pass0 (pa_cons (pv 6) (pa_cons (pv 3) pa_nil))) pa_nil)))))
  (pss_one
  (ps_if (pt_val (pe_callB (kAll (K := K) rfl rfl) (by rfl) B.all (by decide +kernel) (pa_cons (pe_lc (own := [("cap", 7)]) (g := (gName 7)) (by rfl) nd (kpList (K := K) rfl (pv 5)) (blkOk_by (own := [("cap", 7)]) (N := N_within_caps) (sc := defScope s_within_caps) (by decide +kernel)) (fun _ _ _ _ _ => (pg_name (i := 7) nd rfl (by first | exact Or.inl rfl | exact Or.inr rfl))) (fun _ _ _ _ _ => pts_nil) (fun _ _ _ _ _ => (pe_cmpR op_gt (pv 7) pe_int (by rfl)))) pa_nil))) (pss_one
  (ps_expr (pe_bm PySem.F.plainAttrs_list PySem.F.slot_list_append PySem.F.type_list_append mt_append (pv 3) (pa_cons (pv 4) pa_nil)))) pss_nil))))
  (pss_one
  (ps_ret (pv 3))))), ?_⟩
  obtain ⟨row, gs, ns, tr, tg, sn, hl, hl2, hl3, q⟩ := h
  walk_at "st"
  refine ⟨Nat.zero_le _, fun fa hfa => ?_⟩
  have f0 : Fr T [] H (upd H fa (.lst [])) := Fr.new hfa
  walk_at "st"
  refine ⟨_, _, rfl, row, ns, tr.mono f0, sn.mono f0, hl, fun p H1 hp f1 hx => ?_⟩
  have hf1 : H1 fa = some (.lst []) := f1.lst0 upd_same
  have npf : p ≠ fa := (hp.lst (a := fa) upd_same).symm
  generalize hL : (row.filter fun c => decide (c ∈ ns)) = L at hx q
  have hLl : L.length ≤ 1000 := by
    rw [← hL]
    exact Nat.le_trans (List.length_filter_le _ _) hl
  refine for_L (T := T) (M := [fa]) L .int hx (tdAll_ints _) (by simpa using npf) (fun i σ H' => ∃ x y z u, σ = [some a0, some a1, some a2, some (.ref fa), x, y, z, u] ∧ Fr T [] H H' ∧ Fr T [fa] H1 H' ∧ H' fa = some (.lst ((greedyP gs (L.take i) []).map V.int)))
    ⟨none, none, none, none, rfl, f0.trans f1, Fr.reflM (fun z hz => by simp at hz; subst hz; exact ⟨_, hf1⟩), hf1⟩ (fun i σ H' p => by obtain ⟨_, _, _, _, _, _, f, _⟩ := p; exact f) ?_ ?_
  · rintro i c v σ' H2 hi ⟨x, y, z, u, rfl, f2, f3, hfa2⟩ tv
    obtain rfl := tv.int_inv
    generalize hF : greedyP gs (L.take i) [] = F at hfa2
    have hFl : F.length ≤ 1000 := by
      have := greedyP_len gs (L.take i) []
      rw [hF, List.length_take] at this
      simp only [List.length_nil] at this
      omega
    walk_at "st"
    refine lc_P (T := T) gs (fun g => tI g.1) (fun g => .int g.2) (tg.mono f2) (line_of (by omega)) (fun g => decide (c ∈ g.1)) (fun g => .int (g.2 - ((g.1.filter fun x => decide (x ∈ F)).length : Int))) (fun _ _ => rfl) ?_ ?_
    · intro g u1 u2 H3 hg f4 t1 t2 R1 R2 r1 r2
      obtain rfl := t2.int_inv
      walk_at "st"
      refine q_in (SqI.of_t t1) ⟨_, rfl, ite2 (fun e => ?_) (fun e => ?_)⟩
      · walk_at "st"
        refine ⟨_, _, rfl, g.1, F, t1, SqI.of_l (f4.lst0 hfa2), hl3 g hg, fun p2 H4 hp2 f5 hx2 => ?_⟩
        walk_at "st"
        refine q_lenL hx2 ?_
        refine q_I ?_
        rw [List.length_map]
        exact r1 e _ _ f5 (.int _)
      · exact r2 (Bool.eq_false_iff.mpr e) _ (Fr.refl _)
    · intro D H3 xs hD f4 hxs txs
      generalize hcl : ((gs.filter fun g => decide (c ∈ g.1)).map fun g => g.2 - ((g.1.filter fun x => decide (x ∈ F)).length : Int)) = cl
      have hcl2 : TdAll K H3 xs (cl.map .int) := by
        rw [← hcl, List.map_map]
        exact txs
      have hclen : cl.length ≤ 1000 := by
        rw [← hcl, List.length_map]
        exact Nat.le_trans (List.length_filter_le _ _) hl2
      walk_at "st"
      refine lc_L (T := T) cl .int hxs hcl2 (line_of (by omega)) (fun _ => true) (fun k => .bool (decide (0 < k))) (fun _ => rfl) ?_ ?_
      · intro k u2 H4 hk f5 t2 R1 R2 r1 r2
        obtain rfl := t2.int_inv
        walk_at "st"
        refine iteT ?_
        walk_at "st"
        exact q_I (r1 rfl _ _ (Fr.refl _) (.bl _))
      · intro D2 H4 ys hD2 f5 hy ty
        have e1 : ((cl.filter fun _ => true).map fun k => PyData.bool (decide (0 < k))) = (cl.map fun k => decide (0 < k)).map PyData.bool := by
          rw [filt_true, List.map_map]
          rfl
        rw [e1] at ty
        have e2 : (cl.map fun k => decide (0 < k)).all id = okP gs F c := by
          rw [List.all_map, ← okP_all, ← hcl]
          rfl
        walk_at "st"
        refine q_all hy ty ?_
        refine ⟨_, rfl, ?_⟩
        rw [e2]
        have f6 : Fr T [] H2 H4 := f4.trans f5
        have m2 : ∀ z ∈ [fa], ∃ l, H2 z = some (.lst l) := fun z hz => by simp at hz; subst hz; exact ⟨_, hfa2⟩
        refine ite2 (fun e => ?_) (fun e => ?_)
        · walk_at "st"
          refine ⟨ty_lst (f6.lst0 hfa2), ?_⟩
          walk_at "st"
          refine q_app (f6.lst0 hfa2) (by rw [List.length_map]; exact line_of (by omega)) ?_
          refine ⟨_, _, _, _, rfl, (f2.trans f6).mut (Fresh.of hfa) (f6.lst0 hfa2), (f3.trans (f6.wide m2)).andSet (by simp), ?_⟩
          rw [upd_same, take_snoc hi, greedyP_snoc, hF, if_pos e, List.map_append]
          rfl
        · walk_at "st"
          refine ⟨_, _, _, _, rfl, f2.trans f6, f3.trans (f6.wide m2), ?_⟩
          rw [take_snoc hi, greedyP_snoc, hF, if_neg e]
          exact f6.lst0 hfa2
  · rintro σ' H2 ⟨x, y, z, u, rfl, f2, f3, hfa2⟩
    rw [List.take_of_length_le (Nat.le_refl _)] at hfa2
    dsimp only
    walk_at "st"
    exact q fa H2 (Fresh.of hfa) f2 hfa2
end
end Nc
set_option maxHeartbeats 4000000
/-! P4: wishes; networks' sets. -/
namespace Nc
open PySem PySem.Spec L2
local macro_rules | `(tactic| walk_at "st") => `(tactic| (repeat (first
  | ((with_reducible refine' r_var ?e ?_); (case e => exact rfl))
  | (with_reducible refine' r_op ?_)
  | (with_reducible refine' r_c ?_)
  | (with_reducible refine' r_cons ?_)
  | (with_reducible refine' r_nil ?_)
  | (with_reducible refine' r_cb ?_)
  | (with_reducible refine' r_call ?_)
  | (with_reducible refine' r_test ?_)
  | (with_reducible refine' r_lc ?_)
  | (with_reducible refine' r_iT ?_)
  | (with_reducible refine' r_iL ?_)
  | (with_reducible refine' r_iE ?_)
  | (with_reducible refine' r_iR ?_)
  | (with_reducible refine' r_ret ?_)
  | (with_reducible refine' r_asgS ?_)
  | (with_reducible refine' r_asg1 ?_)
  | (with_reducible refine' r_asgTS ?_)
  | (with_reducible refine' r_ifS ?_)
  | (with_reducible refine' r_if1 ?_)
  | (with_reducible refine' r_forS ?_)
  | (with_reducible refine' r_for1 ?_)
  | (with_reducible refine' r_dropS ?_)
  | (with_reducible refine' r_drop1 ?_)
  | (with_reducible refine' r_tup ?_)
  | (with_reducible refine' r_lst ?_)
  | (with_reducible refine' r_sl ?_)
  | (with_reducible refine' r_noP ?_)
  | (with_reducible refine' r_part ?_)
  | (with_reducible refine' r_bm ?_)
  | (with_reducible refine' r_bm0 ?_)
  | (with_reducible refine' r_un ?_)
  | (with_reducible refine' r_notV ?_)
  | (with_reducible refine' r_B ?_)
  | (with_reducible refine' r_and ?_)
  | (with_reducible refine' r_or ?_)
  | (with_reducible refine' r_not ?_)
  | (with_reducible refine' r_yes ?_)
  | (with_reducible refine' r_next ?_)
  | (with_reducible refine' r_break ?_)
  | (with_reducible refine' r_gn ?_)
  | (with_reducible refine' r_tupRg ?_)
  | (with_reducible refine' r_rg1 ?_)
  )))
section
variable {P : Program} {w : World} {K : PySem.W.Frag} {mg : Str → Option Value} {base : Heap}
variable {T : List (Addr × Str)}
def sp_wishes_of (K : PySem.W.Frag) (T : List (Addr × Str)) : Sp := Sp1 fun a H Q => ∃ bs ss : List Int, ((∃ br sr, Td K H a (eP (.sides br bs sr ss))) ∨ ∃ room, Td K H a (eP (.maker room bs ss))) ∧ ∀ v H', Fr T [] H H' → Td K H' v (.tuple [tI bs, tI ss]) → Q v H'
/-! ### wishes_of -/
abbrev s_wishes_of : Stmt := topS 4
abbrev N_wishes_of : List Str := ["choice"]
theorem sc_wishes_of : FnScope N_wishes_of ["choice"] (defScope s_wishes_of) := ⟨rfl, rfl, rfl, by decide +kernel, rfl, by decide +kernel, by decide +kernel⟩
theorem d_wishes_of (B : B0 mg) (A0 : At K mg "wishes_of" s_wishes_of) : Dn P w K mg base "wishes_of" ["choice"] 1 (sp_wishes_of K T) := by
  refine dn1 A0 sc_wishes_of (fun _ _ F => F.bindsN fun _ _ _ _ _ _ us hl => match us, hl with | [_], _ => rfl) fun f cdv A outer s H a0 Q E hr h => ?_
  have nd := sc_wishes_of.nd
  refine ⟨_, (pss_cons
  (ps_if (pt_cmpR op_eq (pe_ix (kIxT (K := K) rfl) (pv 0) pe_int (fun _ _ => rfl)) pe_str (by rfl)) (pss_one
  (ps_ret (pe_tup (pa_cons (pe_ix (kIxT (K := K) rfl) (pv 0) pe_int (fun _ _ => rfl)) (pa_cons (pe_ix (kIxT (K := K) rfl) (pv 0) pe_int (fun _ _ => rfl)) pa_nil))))) pss_nil)
  (pss_cons
  (ps_if (pt_cmpR op_eq (pe_ix (kIxT (K := K) rfl) (pv 0) pe_int (fun _ _ => rfl)) pe_str (by rfl)) (pss_one
  (ps_ret (pe_tup (pa_cons (pe_ix (kIxT (K := K) rfl) (pv 0) pe_int (fun _ _ => rfl)) (pa_cons (pe_ix (kIxT (K := K) rfl) (pv 0) pe_int (fun _ _ => rfl)) pa_nil))))) pss_nil)
  (pss_one
  (ps_ret (pe_slice (kSlT (K := K) rfl) (pv 0) (po_some (pe_un un_neg pe_int)) po_none))))), ?_⟩
  obtain ⟨bs, ss, hc, q⟩ := h
  rcases hc with ⟨br, sr, tc⟩ | ⟨room, tc⟩
  · walk_at "st"
    refine q_ixT tc rfl fun y ty => ?_
    obtain rfl := ty.str_inv
    walk_at "st"
    refine q_eqS ⟨_, rfl, ite2 (fun _ => ?_) (fun e => absurd (decide_eq_true rfl) e)⟩
    walk_at "st"
    refine q_ixT tc rfl fun u1 t1 => ?_
    walk_at "st"
    refine q_ixT tc rfl fun u2 t2 => ?_
    walk_at "st"
    exact q_tup (T := T) (ds := [tI bs, tI ss]) (.cons t1 (.cons t2 .nil)) (by simp) fun l H' f t => q _ _ f t
  · walk_at "st"
    refine q_ixT tc rfl fun y ty => ?_
    obtain rfl := ty.str_inv
    walk_at "st"
    refine q_eqS ⟨_, rfl, ite2 (fun e => absurd (of_decide_eq_true e) (by decide +kernel)) (fun _ => ?_)⟩
    walk_at "st"
    dsimp only
    walk_at "st"
    refine q_ixT tc rfl fun y ty => ?_
    obtain rfl := ty.str_inv
    walk_at "st"
    refine q_eqS ⟨_, rfl, ite2 (fun e => absurd (of_decide_eq_true e) (by decide +kernel)) (fun _ => ?_)⟩
    walk_at "st"
    dsimp only
    walk_at "st"
    refine q_U ⟨_, rfl, ?_⟩
    walk_at "st"
    exact q_cutT (T := T) (es := [tI bs, tI ss]) tc (show ¬ (HT.sIx 4 0 (some (-2)) = 0 ∧ HT.sIx 4 4 none = 4) by decide) rfl fun l H' f t => q _ _ f t
def sp_own_part (K : PySem.W.Frag) (T : List (Addr × Str)) : Sp := Sp3 fun a b c H Q => ∃ (wb : Web Str) (h : Int) (ns : List Int), Td K H a (eW wb) ∧ b = .int h ∧ Td K H c (tI ns) ∧ wb.cs.length ≤ 1000 ∧ ns.length ≤ 1000 ∧ ∀ v H', Fr T [] H H' → Td K H' v (tI (ns.filter fun c => decide (c ∈ ownOf wb.cs h))) → Q v H'
/-! ### own_part -/
abbrev s_own_part : Stmt := topS 13
abbrev N_own_part : List Str := ["web", "house", "contracts", "own", "contract"]
theorem sc_own_part : FnScope N_own_part ["web", "house", "contracts"] (defScope s_own_part) := ⟨rfl, rfl, rfl, by decide +kernel, rfl, by decide +kernel, by decide +kernel⟩
theorem d_own_part (B : B0 mg) (A0 : At K mg "own_part" s_own_part) (D_own_contracts : Dn P w K mg base "own_contracts" ["web", "house"] 1 (sp_own_contracts K T)) : Dn P w K mg base "own_part" ["web", "house", "contracts"] 2 (sp_own_part K T) := by
  obtain ⟨f_own_contracts, fd_own_contracts, G_own_contracts, g_own_contracts, k_own_contracts, b_own_contracts⟩ := D_own_contracts
  refine dn3 A0 sc_own_part (fun _ _ F => F.bindsN fun _ _ _ _ _ _ us hl => match us, hl with | [_, _, _], _ => rfl) fun f cdv A outer s H a0 a1 a2 Q E hr h => ?_
  have nd := sc_own_part.nd
  refine ⟨_, (pss_cons
  (ps_set (i := 3) nd rfl (by first | exact Or.inl rfl | exact Or.inr rfl) (pe_call G_own_contracts (hr.mono (by decide)) (by rfl) g_own_contracts k_own_contracts b_own_contracts .nil pass0 (pa_cons (pv 0) (pa_cons (pv 1) pa_nil))))
  (pss_one
  (ps_ret (pe_callTy (kTuple (K := K) rfl) (by rfl) B.tuple (by decide +kernel) (pa_cons (pe_lc (own := [("contract", 4)]) (g := (gName 4)) (by rfl) nd (kpTup (K := K) rfl (pv 2)) (blkOk_by (own := [("contract", 4)]) (N := N_own_part) (sc := defScope s_own_part) (by decide +kernel)) (fun _ _ _ _ _ => (pg_name (i := 4) nd rfl (by first | exact Or.inl rfl | exact Or.inr rfl))) (fun _ _ _ _ _ => (pts_one (pt_cmpR (kIn (K := K) rfl) (pv 4) (pv 3) (by rfl)))) (fun _ _ _ _ _ => (pv 4))) pa_nil))))), ?_⟩
  obtain ⟨wb, hh, ns, tw, rfl, tn, hl, hn, q⟩ := h
  walk_at "st"
  refine ⟨_, _, rfl, wb, hh, tw, rfl, hl, fun o H1 f1 to => ?_⟩
  walk_at "st"
  refine lc_T (T := T) ns .int (tn.mono f1) (line_of (by omega)) (fun c => decide (c ∈ ownOf wb.cs hh)) .int (fun _ => rfl) ?_ ?_
  · intro c u H2 hc fr tu R1 R2 r1 r2
    obtain rfl := tu.int_inv
    walk_at "st"
    refine q_in (SqI.of_t (to.mono fr)) ⟨_, rfl, ite2 (fun e => ?_) (fun e => ?_)⟩
    · walk_at "st"
      exact r1 e _ _ (Fr.refl _) (.int _)
    · exact r2 (Bool.eq_false_iff.mpr e) _ (Fr.refl _)
  · intro D H' xs hD fr hx tx
    walk_at "st"
    exact q_tupK (T := T) hx tx fun l H2 f2 t2 => q _ _ ((f1.trans fr).trans f2) t2
def sp_joined_sets (K : PySem.W.Frag) (T : List (Addr × Str)) : Sp := Sp2 fun a b H Q => ∃ xs ys : List Int, Td K H a (tI xs) ∧ Td K H b (tI ys) ∧ xs.length ≤ 30 ∧ ys.length ≤ 30 ∧
  ∀ l v H', l.Pairwise (· < ·) → (∀ k, k ∈ l ↔ k ∈ xs ∨ k ∈ ys) → Fr T [] H H' → Td K H' v (tI l) → Q v H'
/-! ### joined_sets -/
abbrev s_joined_sets : Stmt := topS 14
abbrev N_joined_sets : List Str := ["one", "other"]
theorem sc_joined_sets : FnScope N_joined_sets ["one", "other"] (defScope s_joined_sets) := ⟨rfl, rfl, rfl, by decide +kernel, rfl, by decide +kernel, by decide +kernel⟩
theorem d_joined_sets (B : B0 mg) (A0 : At K mg "joined_sets" s_joined_sets) : Dn P w K mg base "joined_sets" ["one", "other"] 1 (sp_joined_sets K T) := by
  refine dn2 A0 sc_joined_sets (fun _ _ F => F.bindsN fun _ _ _ _ _ _ us hl => match us, hl with | [_, _], _ => rfl) fun f cdv A outer s H a0 a1 Q E hr h => ?_
  have nd := sc_joined_sets.nd
  refine ⟨_, (pss_one
  (ps_ret (pe_callTy (kTuple (K := K) rfl) (by rfl) B.tuple (by decide +kernel) (pa_cons (pe_callB (kSortedSet (w := w) rfl rfl) (by rfl) B.sorted (by decide +kernel) (pa_cons (pe_callTy (kSet (K := K) (w := w) rfl rfl rfl) (by rfl) B.set (by decide +kernel) (pa_cons (pe_op (kCatA (K := K) rfl) (pv 0) (pv 1)) pa_nil)) pa_nil)) pa_nil)))), ?_⟩
  obtain ⟨xs, ys, tx, ty, hx, hy, q⟩ := h
  walk_at "st"
  refine q_catT (T := T) tx ty (by omega) fun u H1 f1 tu => ?_
  obtain ⟨p, rfl, sp⟩ := td_tI tu
  walk_at "st"
  refine ⟨p, _, rfl, sp, by rw [List.length_append]; omega, fun s n hn hs => ?_⟩
  have f2 : Fr T [] H1 (upd H1 s (SetO w s (fun j => decide (j ∈ xs ++ ys)) n)) := Fr.new hs
  walk_at "st"
  refine ⟨s, _, n, rfl, upd_same, by rw [List.length_append] at hn; omega, fun l p2 hl1 hl2 _ hp2 => ?_⟩
  have f3 := (f1.trans f2).andNew (o := .lst (l.map V.int)) hp2
  walk_at "st"
  refine q_tupK (T := T) upd_same (tdAll_ints l) fun l2 H3 f4 t4 => q l _ H3 hl1 (fun k => ?_) (f3.trans f4) t4
  rw [hl2 k, decide_eq_true_eq, List.mem_append]
def sp_offered_to (K : PySem.W.Frag) (T : List (Addr × Str)) : Sp := Sp4 fun a b c d H Q => ∃ (wb : Web Str) (h : Int) (os as : List Int), Td K H a (eW wb) ∧ b = .int h ∧ Td K H c (tI os) ∧ Td K H d (tI as) ∧ wb.cs.length ≤ 1000 ∧
  ∀ v H', Fr T [] H H' → Td K H' v (tI (sortI (((buysOf wb.cs h).filter fun c => decide (c ∈ os)) ++ ((sellsOf wb.cs h).filter fun c => decide (c ∈ as))))) → Q v H'
/-! ### offered_to -/
abbrev s_offered_to : Stmt := topS 17
abbrev N_offered_to : List Str := ["web", "house", "offers", "asked", "buys", "sells", "contract"]
theorem sc_offered_to : FnScope N_offered_to ["web", "house", "offers", "asked"] (defScope s_offered_to) := ⟨rfl, rfl, rfl, by decide +kernel, rfl, by decide +kernel, by decide +kernel⟩
theorem d_offered_to (B : B0 mg) (A0 : At K mg "offered_to" s_offered_to) (D_buys_of : Dn P w K mg base "buys_of" ["web", "house"] 1 (sp_buys_of K T)) (D_sells_of : Dn P w K mg base "sells_of" ["web", "house"] 1 (sp_sells_of K T)) : Dn P w K mg base "offered_to" ["web", "house", "offers", "asked"] 2 (sp_offered_to K T) := by
  obtain ⟨f_buys_of, fd_buys_of, G_buys_of, g_buys_of, k_buys_of, b_buys_of⟩ := D_buys_of
  obtain ⟨f_sells_of, fd_sells_of, G_sells_of, g_sells_of, k_sells_of, b_sells_of⟩ := D_sells_of
  refine dn4 A0 sc_offered_to (fun _ _ F => F.bindsN fun _ _ _ _ _ _ us hl => match us, hl with | [_, _, _, _], _ => rfl) fun f cdv A outer s H a0 a1 a2 a3 Q E hr h => ?_
  have nd := sc_offered_to.nd
  refine ⟨_, (pss_cons
  (ps_setLc (i := 4) (own := [("contract", 6)]) (g := (gName 6)) (by rfl) nd rfl rfl (sw_true rfl rfl rfl (by decide +kernel)) (kpTup (K := K) rfl (pe_call G_buys_of (hr.mono (by decide)) (by rfl) g_buys_of k_buys_of b_buys_of .nil pass0 (pa_cons (pv 0) (pa_cons (pv 1) pa_nil)))) (blkOk_by (own := [("contract", 6)]) (N := N_offered_to) (sc := defScope s_offered_to) (by decide +kernel)) (fun _ _ _ _ _ => (pg_name (i := 6) nd rfl (by first | exact Or.inl rfl | exact Or.inr rfl))) (fun _ _ _ _ _ => (pts_one (pt_cmpR (kIn (K := K) rfl) (pv 6) (pv 2) (by rfl)))) (fun _ _ _ _ _ => (pv 6)))
  (pss_cons
  (ps_setLc (i := 5) (own := [("contract", 6)]) (g := (gName 6)) (by rfl) nd rfl rfl (sw_true rfl rfl rfl (by decide +kernel)) (kpTup (K := K) rfl (pe_call G_sells_of (hr.mono (by decide)) (by rfl) g_sells_of k_sells_of b_sells_of .nil pass0 (pa_cons (pv 0) (pa_cons (pv 1) pa_nil)))) (blkOk_by (own := [("contract", 6)]) (N := N_offered_to) (sc := defScope s_offered_to) (by decide +kernel)) (fun _ _ _ _ _ => (pg_name (i := 6) nd rfl (by first | exact Or.inl rfl | exact Or.inr rfl))) (fun _ _ _ _ _ => (pts_one (pt_cmpR (kIn (K := K) rfl) (pv 6) (pv 3) (by rfl)))) (fun _ _ _ _ _ => (pv 6)))
  (pss_one
  (ps_ret (pe_callTy (kTuple (K := K) rfl) (by rfl) B.tuple (by decide +kernel) (pa_cons (pe_callB (kSorted (K := K) rfl) (by rfl) B.sorted (by decide +kernel) (pa_cons (pe_op op_cat (pv 4) (pv 5)) pa_nil)) pa_nil)))))), ?_⟩
  obtain ⟨wb, hh, os, as, tw, rfl, to, ta, hl, q⟩ := h
  have hb : (buysOf wb.cs hh).length ≤ 1000 := by
    unfold buysOf
    exact Nat.le_trans (idxs_len _ _) hl
  have hs : (sellsOf wb.cs hh).length ≤ 1000 := by
    unfold sellsOf
    exact Nat.le_trans (idxs_len _ _) hl
  walk_at "st"
  refine ⟨_, _, rfl, wb, hh, tw, rfl, hl, fun b1 H1 f1 t1 => ?_⟩
  walk_at "st"
  refine lc_T (T := T) (buysOf wb.cs hh) .int t1 (line_of (by omega)) (fun c => decide (c ∈ os)) .int (fun _ => rfl) ?_ ?_
  · intro c u H2 hc fr tu R1 R2 r1 r2
    obtain rfl := tu.int_inv
    walk_at "st"
    refine q_in (SqI.of_t ((to.mono f1).mono fr)) ⟨_, rfl, ite2 (fun e => ?_) (fun e => ?_)⟩
    · walk_at "st"
      exact r1 e _ _ (Fr.refl _) (.int _)
    · exact r2 (Bool.eq_false_iff.mpr e) _ (Fr.refl _)
  · intro D H2 xs hD f2 hx tx
    rw [tx.ints] at hx
    walk_at "st"
    refine ⟨_, _, rfl, wb, hh, tw.mono (f1.trans f2), rfl, hl, fun s1 H3 f3 t3 => ?_⟩
    walk_at "st"
    refine lc_T (T := T) (sellsOf wb.cs hh) .int t3 (line_of (by omega)) (fun c => decide (c ∈ as)) .int (fun _ => rfl) ?_ ?_
    · intro c u H4 hc fr tu R1 R2 r1 r2
      obtain rfl := tu.int_inv
      walk_at "st"
      refine q_in (SqI.of_t ((ta.mono ((f1.trans f2).trans f3)).mono fr)) ⟨_, rfl, ite2 (fun e => ?_) (fun e => ?_)⟩
      · walk_at "st"
        exact r1 e _ _ (Fr.refl _) (.int _)
      · exact r2 (Bool.eq_false_iff.mpr e) _ (Fr.refl _)
    · intro D2 H4 ys hD2 f4 hy ty
      rw [ty.ints] at hy
      walk_at "st"
      refine q_cat ((f3.trans f4).lst0 hx) hy ?_ fun p hp => ?_
      · simp only [List.length_map]
        have h1 := List.length_filter_le (fun c => decide (c ∈ os)) (buysOf wb.cs hh)
        have h2 := List.length_filter_le (fun c => decide (c ∈ as)) (sellsOf wb.cs hh)
        exact Nat.le_of_lt (line_of (by omega))
      · have f5 := (((f1.trans f2).trans f3).trans f4).andNew (o := .lst ((((buysOf wb.cs hh).filter fun c => decide (c ∈ os)) ++ ((sellsOf wb.cs hh).filter fun c => decide (c ∈ as))).map V.int)) hp
        rw [← List.map_append]
        walk_at "st"
        refine q_sortedL upd_same fun p2 hp2 => ?_
        walk_at "st"
        exact q_tupK (T := T) upd_same (tdAll_ints _) fun l H6 f6 t6 => q _ _ ((f5.andNew hp2).trans f6) t6
def sp_common (K : PySem.W.Frag) (T : List (Addr × Str)) : Sp := Sp2 fun a b H Q => ∃ xs ys : List Int, Td K H a (tI xs) ∧ Td K H b (tI ys) ∧ xs.length ≤ 1000 ∧ ∀ v H', Fr T [] H H' → Td K H' v (tI (xs.filter fun c => decide (c ∈ ys))) → Q v H'
/-! ### common -/
abbrev s_common : Stmt := topS 20
abbrev N_common : List Str := ["one", "other", "contract"]
theorem sc_common : FnScope N_common ["one", "other"] (defScope s_common) := ⟨rfl, rfl, rfl, by decide +kernel, rfl, by decide +kernel, by decide +kernel⟩
theorem d_common (B : B0 mg) (A0 : At K mg "common" s_common) : Dn P w K mg base "common" ["one", "other"] 1 (sp_common K T) := by
  refine dn2 A0 sc_common (fun _ _ F => F.bindsN fun _ _ _ _ _ _ us hl => match us, hl with | [_, _], _ => rfl) fun f cdv A outer s H a0 a1 Q E hr h => ?_
  have nd := sc_common.nd
  refine ⟨_, (pss_one
  (ps_ret (pe_callTy (kTuple (K := K) rfl) (by rfl) B.tuple (by decide +kernel) (pa_cons (pe_lc (own := [("contract", 2)]) (g := (gName 2)) (by rfl) nd (kpTup (K := K) rfl (pv 0)) (blkOk_by (own := [("contract", 2)]) (N := N_common) (sc := defScope s_common) (by decide +kernel)) (fun _ _ _ _ _ => (pg_name (i := 2) nd rfl (by first | exact Or.inl rfl | exact Or.inr rfl))) (fun _ _ _ _ _ => (pts_one (pt_cmpR (kIn (K := K) rfl) (pv 2) (pv 1) (by rfl)))) (fun _ _ _ _ _ => (pv 2))) pa_nil)))), ?_⟩
  obtain ⟨xs, ys, t1, t2, hl, q⟩ := h
  walk_at "st"
  refine lc_T (T := T) xs .int t1 (line_of (by omega)) (fun c => decide (c ∈ ys)) .int (fun _ => rfl) ?_ ?_
  · intro c u H2 hc fr tu R1 R2 r1 r2
    obtain rfl := tu.int_inv
    walk_at "st"
    refine q_in (SqI.of_t (t2.mono fr)) ⟨_, rfl, ite2 (fun e => ?_) (fun e => ?_)⟩
    · walk_at "st"
      exact r1 e _ _ (Fr.refl _) (.int _)
    · exact r2 (Bool.eq_false_iff.mpr e) _ (Fr.refl _)
  · intro D H' xs hD fr hx tx
    walk_at "st"
    exact q_tupK (T := T) hx tx fun l H2 f2 t2 => q _ _ (fr.trans f2) t2
def sp_network_of (K : PySem.W.Frag) (T : List (Addr × Str)) : Sp := Sp1 fun a H Q => ∃ xs ys : List Int, Td K H a (.tuple [tI xs, tI ys]) ∧ xs.length ≤ 1000 ∧ ∀ v H', Fr T [] H H' → Td K H' v (tI (xs.filter fun c => decide (c ∈ ys))) → Q v H'
/-! ### network_of -/
abbrev s_network_of : Stmt := topS 21
abbrev N_network_of : List Str := ["stand"]
theorem sc_network_of : FnScope N_network_of ["stand"] (defScope s_network_of) := ⟨rfl, rfl, rfl, by decide +kernel, rfl, by decide +kernel, by decide +kernel⟩
theorem d_network_of (B : B0 mg) (A0 : At K mg "network_of" s_network_of) (D_common : Dn P w K mg base "common" ["one", "other"] 1 (sp_common K T)) : Dn P w K mg base "network_of" ["stand"] 2 (sp_network_of K T) := by
  obtain ⟨f_common, fd_common, G_common, g_common, k_common, b_common⟩ := D_common
  refine dn1 A0 sc_network_of (fun _ _ F => F.bindsN fun _ _ _ _ _ _ us hl => match us, hl with | [_], _ => rfl) fun f cdv A outer s H a0 Q E hr h => ?_
  have nd := sc_network_of.nd
  refine ⟨_, (pss_one
  (ps_ret (pe_call G_common (hr.mono (by decide)) (by rfl) g_common k_common b_common .nil pass0 (pa_cons (pe_ix (kIxT (K := K) rfl) (pv 0) pe_int (fun _ _ => rfl)) (pa_cons (pe_ix (kIxT (K := K) rfl) (pv 0) pe_int (fun _ _ => rfl)) pa_nil))))), ?_⟩
  obtain ⟨xs, ys, t1, hl, q⟩ := h
  walk_at "st"
  refine q_ixT t1 rfl fun u1 h1 => ?_
  walk_at "st"
  refine q_ixT t1 rfl fun u2 h2 => ?_
  walk_at "st"
  exact ⟨_, _, rfl, xs, ys, h1, h2, hl, q⟩
def sp_all_contracts (K : PySem.W.Frag) (T : List (Addr × Str)) : Sp := Sp1 fun a H Q => ∃ wb : Web Str, Td K H a (eW wb) ∧ wb.cs.length ≤ 1000 ∧ ∀ v H', Fr T [] H H' → Td K H' v (tI (rangeI wb.cs.length)) → Q v H'
/-! ### all_contracts -/
abbrev s_all_contracts : Stmt := topS 23
abbrev N_all_contracts : List Str := ["web"]
theorem sc_all_contracts : FnScope N_all_contracts ["web"] (defScope s_all_contracts) := ⟨rfl, rfl, rfl, by decide +kernel, rfl, by decide +kernel, by decide +kernel⟩
theorem d_all_contracts (B : B0 mg) (A0 : At K mg "all_contracts" s_all_contracts) : Dn P w K mg base "all_contracts" ["web"] 1 (sp_all_contracts K T) := by
  refine dn1 A0 sc_all_contracts (fun _ _ F => F.bindsN fun _ _ _ _ _ _ us hl => match us, hl with | [_], _ => rfl) fun f cdv A outer s H a0 Q E hr h => ?_
  have nd := sc_all_contracts.nd
  refine ⟨_, (pss_one
  (ps_ret (pe_tupRg rfl (by rfl) B.tuple (prg_1 (by rfl) B.range (pe_callB (kLen (K := K) rfl) (by rfl) B.len PySem.boot_len (pa_cons (pe_ix (kIxT (K := K) rfl) (pv 0) pe_int (fun _ _ => rfl)) pa_nil)))))), ?_⟩
  obtain ⟨wb, tw, hl, q⟩ := h
  refine r_ret ?_
  refine r_tupRg ?_
  walk_at "st"
  refine q_ixT tw rfl fun u1 h1 => ?_
  walk_at "st"
  refine q_lenT h1 ⟨_, rfl, RgOk.of_le (by omega) (by rw [List.length_map]; omega) (by omega) (by omega), fun p hp => q _ _ (Fr.new hp) (td_of (SqT.of ?_))⟩
  rw [upd_same]
  congr 2
  unfold rgV rangeI
  rw [List.map_map, List.length_map]
  have e : ((wb.cs.length : Int) - 0).toNat = wb.cs.length := by omega
  rw [e]
  apply List.map_congr_left
  intro i _
  show V.int (0 + (i : Int)) = V.int (i : Int)
  rw [Int.zero_add]
end
end Nc
set_option maxHeartbeats 4000000
/-! X3: sorted by keys, in the model's own words: the end, once the keys are there. -/
namespace Nc
open PySem PyProof.Rows Srt SrtO
section
variable {prog : Program} {w : World} {A : Around} {E : Value → Shared → Prop} {s : Shared} {G : PySem.Fin → Shared → Prop}
theorem key_tail {a kS : Addr} {keys : Array Value} {e e1 : Nat} {st : SortSt} (ha : s.heap.get? a = some (seqObj "list" #[] e1)) (hk : s.heap.get? kS = some (seqObj "list" keys e)) (hka : kS ≠ a)
    (z1 : keys.size ≤ sizeLine) (z2 : (arrOf st).size ≤ sizeLine) (hfl : failedOf st = none)
    (h : ∀ h' c, (∀ b o, b ≠ kS → b ≠ a → s.heap.get? b = some o → h'.get? b = some o) → h'.get? a = some (seqObj "list" ((arrOf st).map (·.2)) c) → (∃ o, h'.get? kS = some o) → G (.done (.ret .none)) { s with heap := h' }) :
    wpAny (model prog w) A (ksk_tail a false e1 (.ref kS) st) G E s := by
  have u1 := Heap.SameBut.update s.heap kS (Obj.mapSeq fun _ => (#[] : Array Value))
  have a1 : (s.heap.update kS (Obj.mapSeq fun _ => (#[] : Array Value))).get? a = some (seqObj "list" #[] e1) := (u1.2 a hka.symm).trans ha
  have k1 := get?_update_seq hk fun _ => (#[] : Array Value)
  have u2 := Heap.SameBut.update (s.heap.update kS (Obj.mapSeq fun _ => (#[] : Array Value))) a (Obj.mapSeq fun _ => (arrOf st).map (·.2))
  have a2 := get?_update_seq a1 fun _ => (arrOf st).map (·.2)
  unfold ksk_tail
  try dsimp only
  refine wpAny_bind (listUpdate_at hk rfl ?_ z1 (Nat.zero_le _))
  refine wpAny_bind (wpAny_letGo ?_)
  refine wpAny_bind (seqEpoch_at a1 rfl ?_)
  refine wpAny_bind (listUpdate_at a1 rfl ?_ (Nat.zero_le _) (Nat.le_trans (Nat.le_of_eq (Array.size_map ..)) (Nat.le_succ_of_le z2)))
  rw [hfl]
  simp only [bne_self_eq_false, Bool.false_eq_true, if_false]
  exact wpAny_pure (h _ _ (fun b o n1 n2 q => (u2.2 b n2).trans ((u1.2 b n1).trans q)) a2 ⟨_, (u2.2 kS hka).trans k1⟩)
theorem key_end {a kS : Addr} {ks vs : List Value} {e e1 : Nat} {ltv : Value → Value → Bool} (O : Swo ltv) (ha : s.heap.get? a = some (seqObj "list" #[] e1)) (hk : s.heap.get? kS = some (seqObj "list" ks.toArray e)) (hka : kS ≠ a)
    (hl : ks.length = vs.length) (hz : vs.length ≤ sizeLine) (hS : 2 ≤ ks.length → SortableO prog w A s a ks ltv)
    (h : ∀ (out : List Keyed) h' c, Srtd (lt2 ltv) out → out.Perm (ks.zip vs) → (∀ b o, b ≠ kS → b ≠ a → s.heap.get? b = some o → h'.get? b = some o) → h'.get? a = some (seqObj "list" (out.map (·.2)).toArray c) → (∃ o, h'.get? kS = some o) → G (.done (.ret .none)) { s with heap := h' }) :
    wpAny (model prog w) A (ksk_end a false vs.toArray e1 (.ref kS) ks.toArray) G E s := by
  have zl : (ks.toArray.zip vs.toArray).toList = ks.zip vs := by rw [ksk_zip]
  have zs : (ks.toArray.zip vs.toArray).size = vs.length := by rw [Array.size_zip, List.size_toArray, List.size_toArray, hl, Nat.min_self]
  have fin : ∀ st : SortSt, Srtd (lt2 ltv) (arrOf st).toList → (arrOf st).toList.Perm (ks.zip vs) → failedOf st = none → wpAny (model prog w) A (ksk_tail a false e1 (.ref kS) st) G E s := by
    intro st h1 h2 h3
    have hlen : (arrOf st).size = vs.length := by
      have := h2.length_eq
      rw [Array.length_toList, List.length_zip, hl, Nat.min_self] at this
      exact this
    refine key_tail ha hk hka (by rw [List.size_toArray, hl]; exact hz) (by rw [hlen]; exact hz) h3 fun h' c k1 k2 k3 => ?_
    refine h (arrOf st).toList h' c h1 h2 k1 ?_ k3
    rw [k2]
    congr 2
    apply Array.ext'
    simp
  unfold ksk_end
  try dsimp only
  simp only [Bool.false_eq_true, if_false]
  by_cases h2 : vs.toArray.size < 2
  · rw [if_pos h2, if_pos h2]
    refine wpAny_bind (wpAny_pure ?_)
    rw [StateT.run_pure]
    refine wpAny_bind (wpAny_pure ?_)
    try dsimp only
    refine fin (SortSt.mk' general' (ks.toArray.zip vs.toArray) #[] 7 none) ?_ ?_ rfl
    · show Srtd (lt2 ltv) (ks.toArray.zip vs.toArray).toList
      rw [zl]
      have hlz : (ks.zip vs).length < 2 := by
        rw [List.length_zip]
        rw [List.size_toArray] at h2
        omega
      match hq : ks.zip vs, hlz with
      | [], _ => exact List.Pairwise.nil
      | [p], _ => exact List.pairwise_singleton _ _
      | _ :: _ :: l, q => exact absurd q (by rw [List.length_cons, List.length_cons]; omega)
    · show (ks.toArray.zip vs.toArray).toList.Perm _
      rw [zl]
  · rw [if_neg h2, if_neg h2]
    rw [List.size_toArray] at h2
    obtain ⟨κ, hkind, hT⟩ := hS (by omega) s.heap fun b o _ q => q
    refine wpAny_bind (hkind _ _ ?_)
    have hall : AllL (fun p : Keyed => p.1 ∈ ks) (ks.toArray.zip vs.toArray).toList := fun p hm => by
      rw [zl] at hm
      exact (List.of_mem_zip hm).1
    refine wpAny_bind (wpAny_mono (wpS_sortO (st0 := SortSt.mk' κ (ks.toArray.zip vs.toArray) #[] 7 none)
      (Q := fun _ st' => Srtd (lt2 ltv) (arrOf st').toList ∧ (arrOf st').toList.Perm (ks.zip vs) ∧ failedOf st' = none) (swo2 O) hT rfl hall rfl rfl fun st' a1 a2 a3 => ⟨a1, zl ▸ a2.perm, a3⟩) ?_ fun _ _ e => e)
    rintro ⟨⟨⟩, st'⟩ s' ⟨rfl, p1, p2, p3⟩
    try dsimp only
    exact fin st' p1 p2 p3
end
end Nc
set_option maxHeartbeats 4000000
/-! X4: sorted(l, key=lambda n: (.., n)): the lambda's call, the keys one by one. -/
namespace Nc
open PySem PySem.Spec L2
open NdefX (NF CellsAt NScope startF ncx)
/-! ### the lambda is called -/
theorem lam_run {P : Program} {w : World} {K : PySem.W.Frag} {mg : Str → Option Value} {base : Heap} {N ps fr : List Str} {F : NF} {f : Addr} {A : Around} {outer : List Env} {s : Shared} {H : Hp} {us : List Value} {vs : List V} {ws : List (Option V)} {Q : VK} {tb : TE} {b : Expr} {k : Nat} {pm ctv : Value}
    (S : NScope N ps fr F.scope) (hb : bindArgs (PySem.W.kla_fn "<lambda>" F.qual F.params b F.scope F.cl pm (.ref F.c) ctv) ⟨us, []⟩ = pure (ps.zip us)) (hr : Room (k + 1) A) (e0 : Env0 P w K mg base A outer s H)
    (hf : s.heap.get? f = some (PySem.W.kla_obj "<lambda>" F.qual F.params b F.scope F.cl pm F.c ctv)) (hc : H F.c = some (LamX.CodeO F.c F.qual)) (C : CellsAt F.cl fr ws s.heap H) (r : Vals vs us) (hl : vs.length = ps.length)
    (body : PE (ncx CX0 P w K mg base N F f A outer s H E0) b tb) (hq : tb (startF N vs ws) H Q) : codeAny (model P w) A (.call (.ref f) ⟨us, []⟩) (CR CX0 outer P w H s Q E0) s := by
  have lim : s.heap.NoLimit := e0.mod.nolimit.keeps fun b o e => (e0.bs b o e).1
  refine PySem.W.kla_callFunE hr.depth hf rfl S.co S.gen rfl (NdefX.codeO_at e0.hok hc) ?_
  rw [hb]
  refine wpAny_pure (wpAny_newFunctionEnv S.nocell (fun ⟨n, _⟩ hy => S.par n (List.of_mem_zip hy).1) (fun h1 hns hsb => ⟨lim.fresh _ hsb, ?_⟩) S.kind)
  have old : ∀ x o, s.heap.get? x = some o → h1.get? x = some o := fun x o e => hsb.extBut x o (Nat.ne_of_lt (Heap.lt_size e)) (Heap.get?_push_of_some _ e)
  have J : Inv (ncx CX0 P w K mg base N F f A outer s H E0) [] (startF N vs ws) H { s with heap := h1, toks := s.toks + (ps.zip us).length } := NdefX.inv_startN S hr.hd e0 hl r C hns old
  show codeAny _ _ (.expr b (NdefX.envF F f s.heap.objs.size)) _ _
  refine PySem.W.kla_codeExpr (wpAny_mono (body.run [] _ _ H Q J hq) (fun v s' hv => ?_) fun e s' he => he)
  obtain ⟨x, H', J2, rv, q⟩ := hv
  exact ⟨x, H', J2.os, J2.bare, J2.base, J2.hok, rv, q⟩

/-! ### the keys -/
/-- the pair at a value -/
def pairAt (H : Hp) : Value → Int × Int
  | .ref t => (match H t with
    | some (.tup [.int x, .int y]) => (x, y)
    | _ => (0, 0))
  | _ => (0, 0)
theorem pairAt_of {H : Hp} {t : Addr} {x y : Int} (h : H t = some (.tup [.int x, .int y])) : pairAt H (.ref t) = (x, y) := by
  show (match H t with | some (.tup [.int x, .int y]) => (x, y) | _ => (0, 0)) = (x, y)
  rw [h]
section
variable {X : Cx} {pins : List (Addr × Obj)} {σ : L2.St} {H : Hp} {s : Shared} {T : List (Addr × Str)}
theorem isPair_of (I : Inv X pins σ H s) {t : Addr} {x y : Int} (h : H t = some (.tup [.int x, .int y])) : Srt.IsPair s.heap (.ref t) x y := by
  obtain ⟨_, its, r, o, ho, hc, n, hd⟩ := I.hok _ _ h
  obtain ⟨u1, u2, rfl, ri, rj⟩ := vals2 r
  obtain ⟨t1, rfl⟩ := ri
  obtain ⟨t2, rfl⟩ := rj
  exact ⟨t, o, t1, t2, n, rfl, ho, hc, hd⟩
/-- what the lambda at f is worth: a new pair for each n -/
def KeyOk (X : Cx) (pins : List (Addr × Obj)) (σ : L2.St) (T : List (Addr × Str)) (H : Hp) (s : Shared) (f : Addr) (kf : Int → Int) (n : Int) : Prop :=
  ∀ (tk : Tok) (H1 : Hp) (s1 : Shared), Inv X pins σ H1 s1 → Fr T [] H H1 → (∀ b o, b ∉ frs X.stack → H b = none → s.heap.get? b = some o → o.cls = .type "function" → s1.heap.get? b = some o ∧ H1 b = none) →
    wpAny (model X.prog X.w) X.A.in1.in1 (call (.ref f) [.int n tk]) (fun u s2 => ∃ t H2, u = .ref t ∧ Inv X pins σ H2 s2 ∧ Fr T [] H1 H2 ∧ H2 t = some (.tup [.int (kf n), .int n]) ∧ ∀ b o, b ∉ frs X.stack → H1 b = none → s1.heap.get? b = some o → s2.heap.get? b = some o ∧ H2 b = none) (fun _ _ => False) s1
/-- the objects a and kS: the list that is sorted (empty meanwhile) and the keys -/
structure KeySt (X : Cx) (pins : List (Addr × Obj)) (σ : L2.St) (T : List (Addr × Str)) (H : Hp) (s : Shared) (a kS : Addr) (e1 : Nat) (ns : List Int) (kf : Int → Int) (i : Nat) (ts : List Addr) (Hi : Hp) (si : Shared) : Prop where
  inv : Inv X pins σ Hi si
  fr : Fr T [] H Hi
  lst : si.heap.get? a = some (PyProof.Rows.seqObj "list" #[] e1)
  keys : ∃ e, si.heap.get? kS = some (PyProof.Rows.seqObj "list" (ts.map Value.ref).toArray e)
  na : Hi a = none
  nk : Hi kS = none
  len : ts.length = i
  at_ : ∀ (j : Nat) (t : Addr) (n : Int), ts[j]? = some t → ns[j]? = some n → Hi t = some (.tup [.int (kf n), .int n])
  fns : ∀ b o, b ∉ frs X.stack → H b = none → s.heap.get? b = some o → o.cls = .type "function" → si.heap.get? b = some o ∧ Hi b = none
theorem key_rest {a kS f : Addr} {vs : List Value} {ns : List Int} {kf : Int → Int} {e1 : Nat} {G : PySem.Fin → Shared → Prop} {E : Value → Shared → Prop} (I : Inv X pins σ H s) (hvs : PyProof.Rows.IntsAre vs ns) (hz : vs.length ≤ 1000)
    (ha : s.heap.get? a = some (PyProof.Rows.seqObj "list" #[] e1)) (hk : s.heap.get? kS = some (PyProof.Rows.seqObj "list" #[] 0)) (hak : kS ≠ a) (oka : FpOk X pins H a) (okk : FpOk X pins H kS) (fa : a ∉ frs X.stack) (fk : kS ∉ frs X.stack)
    (turn : ∀ n ∈ ns, KeyOk X pins σ T H s f kf n)
    (h : ∀ (Hn : Hp) (s2 : Shared) (out : List Int) (p : Addr), Inv X pins σ Hn s2 → Fr T [] H Hn → Hn a = some (.lst (out.map V.int)) → out = sortK kf ns → G (.done (.ret .none)) s2) :
    wpAny (model X.prog X.w) X.A.in1.in1 (PyProof.Rows.ksk_rest a (.ref f) false vs.toArray e1 (.ref kS)) G E s := by
  have hlen : vs.length = ns.length := hvs.length
  unfold PyProof.Rows.ksk_rest
  refine wpAny_bind (wpAny_rule ?_)
  rw [List.forIn_toArray]
  refine wpAny_bind (PyProof.Rows.ksk_fold (fun i si => ∃ ts Hi, KeySt X pins σ T H s a kS e1 ns kf i ts Hi si) vs 0 s
    ⟨[], H, I, Fr.refl H, ha, ⟨0, hk⟩, oka.1, okk.1, rfl, fun j t n q => by simp at q, fun b o _ n q _ => ⟨q, n⟩⟩ ?_ ?_)
  · rintro j x si hx ⟨ts, Hi, st⟩
    have hj : j < vs.length := (List.getElem?_eq_some_iff.mp hx).1
    obtain ⟨n, hn⟩ : ∃ n, ns[j]? = some n := ⟨_, List.getElem?_eq_getElem (hlen ▸ hj)⟩
    obtain ⟨tk, rfl⟩ : ∃ tk, x = .int n tk := by
      obtain ⟨u, hu, ru⟩ := (vals_of_ints hvs).get (i := j) (x := .int n) (by rw [List.getElem?_map, hn]; rfl)
      rw [hx] at hu
      cases hu
      exact ru
    refine wpAny_bind (wpAny_attempt (wpAny_mono (turn n (List.mem_of_getElem? hn) tk Hi si st.inv st.fr st.fns) (fun u s2 hu => ?_) fun _ _ z => z.elim))
    obtain ⟨t, H2, rfl, I2, f2, ht, kp⟩ := hu
    obtain ⟨e, hke⟩ := st.keys
    have k2 := kp kS _ fk st.nk hke
    have a2 := kp a _ fa st.na st.lst
    have hts : ts.length ≤ 1000 := by
      have := st.len
      omega
    try dsimp only
    have up := Heap.SameBut.update s2.heap kS (Obj.mapSeq (·.push (.ref t)))
    refine wpAny_bind (PyProof.Rows.listUpdate_at k2.1 rfl ?_ (by rw [List.size_toArray, List.length_map, sizeLine_eq]; omega) (by rw [Array.size_push, List.size_toArray, List.length_map, sizeLine_eq]; omega))
    refine wpAny_pure ⟨rfl, ts ++ [t], H2, ?_⟩
    have J : Inv X pins σ H2 { s2 with heap := s2.heap.update kS (Obj.mapSeq (·.push (.ref t))) } := I2.turned (t' := s2.toks) (fun b o hb q => (up.2 b hb).trans q) k2.2 okk.2.1 okk.2.2.2.1 okk.2.2.2.2.1 okk.2.2.2.2.2
    refine ⟨J, st.fr.trans f2, (up.2 a hak.symm).trans a2.1, ?_, a2.2, k2.2, by rw [List.length_append, st.len]; simp, fun i t' n' h1 h2 => ?_, fun b o nb hb q c => ?_⟩
    · have ea : (ts.map Value.ref).toArray.push (Value.ref t) = ((ts ++ [t]).map Value.ref).toArray := by simp
      have q := PyProof.Rows.get?_update_seq k2.1 (·.push (.ref t))
      simp only [ea] at q
      exact ⟨_, q⟩
    · by_cases hi : i < ts.length
      · rw [List.getElem?_append_left hi] at h1
        exact f2.tup (st.at_ i t' n' h1 h2)
      · rw [List.getElem?_append_right (by omega)] at h1
        have hi2 : i - ts.length = 0 := by
          have := (List.getElem?_eq_some_iff.mp h1).1
          simp at this
          omega
        rw [hi2] at h1
        simp at h1
        subst h1
        have hij : i = j := by
          have := st.len
          omega
        subst hij
        rw [hn] at h2
        cases h2
        exact ht
    · obtain ⟨q1, q2⟩ := st.fns b o nb hb q c
      obtain ⟨q3, q4⟩ := kp b o nb q2 q1
      refine ⟨(up.2 b fun z => ?_).trans q3, q4⟩
      subst z
      rw [k2.1] at q3
      cases q3
      exact absurd (Value.type.inj c) (by decide)
  · rintro si ⟨ts, Hi, st⟩
    obtain ⟨e, hke⟩ := st.keys
    have hts : ts.length = ns.length := by
      have := st.len
      omega
    have hpair : ∀ v ∈ ts.map Value.ref, Srt.IsPair si.heap v (pairAt Hi v).1 (pairAt Hi v).2 := by
      intro v hv
      obtain ⟨t, ht, rfl⟩ := List.mem_map.mp hv
      obtain ⟨j, hj⟩ := List.mem_iff_getElem?.mp ht
      have hj2 : j < ns.length := hts ▸ (List.getElem?_eq_some_iff.mp hj).1
      have hat := st.at_ j t _ hj (List.getElem?_eq_getElem hj2)
      rw [pairAt_of hat]
      exact isPair_of st.inv hat
    try dsimp only
    refine wpAny_bind (PyProof.Rows.listItems_at hke rfl ?_)
    refine key_end (SrtO.swo_lex (pairAt Hi)) st.lst hke hak (by rw [List.length_map, hts, hlen]) (by rw [sizeLine_eq]; omega) (fun h2 => SrtO.pairs_sortableO (by omega) hpair fun o ho => ?_) fun out h' c hs hp kp hla hkk => ?_
    · rw [st.lst] at ho
      cases ho
      intro z
      exact absurd (Value.type.inj z) (by decide)
    · -- the items' ints
      have hitem : ∀ p ∈ out, ∃ n tk t, n ∈ ns ∧ p = (Value.ref t, Value.int n tk) ∧ pairAt Hi p.1 = (kf n, n) := by
        intro p hpm
        obtain ⟨j, hj⟩ := List.mem_iff_getElem?.mp (hp.mem_iff.mp hpm)
        rw [List.getElem?_zip_eq_some] at hj
        obtain ⟨j1, j2⟩ := hj
        rw [List.getElem?_map] at j1
        cases ej : ts[j]? with
        | none => rw [ej] at j1; cases j1
        | some t =>
          rw [ej] at j1
          have hj2 : j < ns.length := hlen ▸ (List.getElem?_eq_some_iff.mp j2).1
          obtain ⟨u, hu, ru⟩ := (vals_of_ints hvs).get (i := j) (x := .int ns[j]) (by rw [List.getElem?_map, List.getElem?_eq_getElem hj2]; rfl)
          rw [j2] at hu
          obtain ⟨tk, eu⟩ := ru
          have e2 : p.2 = .int ns[j] tk := (Option.some.inj hu).trans eu
          have e1 : p.1 = .ref t := (Option.some.inj j1).symm
          refine ⟨ns[j], tk, t, List.getElem_mem hj2, by rw [← e1, ← e2], ?_⟩
          rw [e1]
          exact pairAt_of (st.at_ j t _ ej (List.getElem?_eq_getElem hj2))
      have hiv : ∀ p ∈ out, SrtO.iv p.2 = (pairAt Hi p.1).2 := by
        intro p hpm
        obtain ⟨n, tk, t, _, e, q⟩ := hitem p hpm
        rw [q, e]
        rfl
      have hperm : (out.map fun p => SrtO.iv p.2).Perm ns := by
        have q := hp.map fun p : PyProof.Rows.Keyed => SrtO.iv p.2
        have e2 : ((ts.map Value.ref).zip vs).map (fun p : PyProof.Rows.Keyed => SrtO.iv p.2) = vs.map SrtO.iv := by
          rw [show (fun p : PyProof.Rows.Keyed => SrtO.iv p.2) = SrtO.iv ∘ Prod.snd from rfl, ← List.map_map, List.map_snd_zip (by rw [List.length_map]; omega)]
        rw [e2, SrtO.iv_ints hvs] at q
        exact q
      have hsort : (out.map fun p => SrtO.iv p.2) = sortK kf ns := by
        refine sortK_eq hperm ?_
        rw [List.pairwise_map]
        refine List.Pairwise.imp_of_mem ?_ hs
        intro p q mp mq hlt
        obtain ⟨n, _, _, _, e1, k1⟩ := hitem p mp
        obtain ⟨m, _, _, _, e2, k2⟩ := hitem q mq
        have hlt' : SrtO.lexB (pairAt Hi q.1) (pairAt Hi p.1) = false := hlt
        rw [k1, k2, SrtO.lexB_no] at hlt'
        rw [hiv p mp, hiv q mq, k1, k2, leK_iff]
        simp only at hlt' ⊢
        omega
      have hvals : Vals ((out.map fun p => SrtO.iv p.2).map V.int) (out.map (·.2)) := by
        rw [List.map_map]
        have : ∀ l : List PyProof.Rows.Keyed, (∀ p ∈ l, ∃ n tk t, n ∈ ns ∧ p = (Value.ref t, Value.int n tk) ∧ pairAt Hi p.1 = (kf n, n)) → Vals (l.map (V.int ∘ fun p => SrtO.iv p.2)) (l.map (·.2)) := by
          intro l
          induction l with
          | nil => intro _; exact .nil
          | cons p l ih =>
            intro hl
            obtain ⟨n, tk, t, _, e, _⟩ := hl p List.mem_cons_self
            refine .cons ?_ (ih fun q hq => hl q (List.mem_cons_of_mem _ hq))
            rw [e]
            exact ⟨tk, rfl⟩
        exact this out hitem
      have hch : ∀ b ∈ [a, kS], (b ∈ X.ex ∨ X.s_0.heap.objs.size ≤ b) ∧ b ≠ X.env.locals ∧ (∀ x c, X.env.cells.lookup x = some c → c ≠ b) ∧ ∀ p ∈ X.pn ++ pins, p.1 ≠ b := by
        intro b hb
        have : b = a ∨ b = kS := by simpa using hb
        rcases this with rfl | rfl
        · exact ⟨oka.2.2.2.1, oka.2.1, oka.2.2.2.2.1, oka.2.2.2.2.2⟩
        · exact ⟨okk.2.2.2.1, okk.2.1, okk.2.2.2.2.1, okk.2.2.2.2.2⟩
      have nin : ∀ {b}, b ∉ [a, kS] → b ≠ kS ∧ b ≠ a := fun {b} hb => ⟨fun z => hb (by simp [z]), fun z => hb (by simp [z])⟩
      have trk : ∀ b u, Hi b = some u → b ≠ kS ∧ b ≠ a := fun b u q => ⟨fun z => (by rw [z, st.nk] at q; cases q), fun z => (by rw [z, st.na] at q; cases q)⟩
      have J : Inv X pins σ (upd Hi a (.lst ((out.map fun p => SrtO.iv p.2).map V.int))) { si with heap := h' } := by
        refine st.inv.step (g' := si.gens) (d' := si.drawn) (t' := si.toks) (ch := [a, kS]) hch (fun b o _ _ hb q _ => kp b o (nin hb).1 (nin hb).2 q) (fun b o _ _ hb q _ => ⟨o.slots, kp b o (nin hb).1 (nin hb).2 q⟩)
          (fun b o hb q n => by rw [upd_ne (nin hb).2]; exact n) (fun b o hb q => ⟨o, kp b o (nin hb).1 (nin hb).2 q⟩) (fun b xs q => by rw [upd_ne (trk b _ q).2]; exact q) (fun b o u q => by rw [upd_ne (trk b _ q).2]; exact q)
          (fun b ps q => ⟨#[], by rw [upd_ne (trk b _ q).2, q]; simp⟩) (fun m hm => ?_) (fun b o q => ?_) st.inv.bare
        · obtain ⟨ob, es, ep, ho, r⟩ := hm
          exact ⟨ob, es, ep, kp _ _ okk.2.1.symm oka.2.1.symm ho, r⟩
        · by_cases hb : b = a
          · subst hb
            rw [upd_same] at q
            cases q
            refine ⟨?_, out.map (·.2), c, hvals, hla⟩
            rw [List.length_map, List.length_map, hp.length_eq, List.length_zip, List.length_map, sizeLine_eq]
            omega
          · rw [upd_ne hb] at q
            refine (st.inv.hok b o q).stay (fun d v hd e => ?_) (fun d e => by rw [upd_ne (trk d _ e).2]; exact e) fun d xs e => by rw [upd_ne (trk d _ e).2]; exact e
            have : d ≠ kS ∧ d ≠ a := by
              rcases hd with rfl | hd
              · exact trk _ _ q
              · exact trk _ _ hd
            exact kp d v this.1 this.2 e
      exact h _ _ _ a J (st.fr.andNew st.na) upd_same hsort
end
end Nc
set_option maxHeartbeats 4000000
/-! X5: sorted(e, key=lambda n: (.., n)) as an expression. -/
namespace Nc
open PySem PySem.Spec L2
open NdefX (NF CellsAt NScope startF ncx)
section
variable {X : Cx} {pins : List (Addr × Obj)} {σ : L2.St} {H : Hp} {s : Shared} {T : List (Addr × Str)}
theorem not_frs (I : Inv X pins σ H s) {a : Addr} (h : s.heap.objs.size ≤ a) : a ∉ frs X.stack := fun z => by
  rcases List.mem_cons.mp (I.stkSub _ z) with e | e
  · have h1 := I.lt
    rw [← e] at h1
    exact Nat.lt_irrefl _ (Nat.lt_of_lt_of_le h1 h)
  · exact I.nofs h e
/-- the lambda's call gives a key -/
theorem keyOk_of {N ps fr : List Str} {F : NF} {b : Expr} {tb : TE} {f : Addr} {k : Nat} {pm ctv : Value} {kf : Int → Int} {n : Int} {js : List Nat} {p1 : Str} (I : Inv X pins σ H s) (S : NScope N [p1] fr F.scope)
    (hb : ∀ pm ctv u, bindArgs (PySem.W.kla_fn "<lambda>" F.qual F.params b F.scope F.cl pm (.ref F.c) ctv) ⟨[u], []⟩ = pure [(p1, u)]) (hr : Room (k + 3) X.A)
    (hf : s.heap.get? f = some (PySem.W.kla_obj "<lambda>" F.qual F.params b F.scope F.cl pm F.c ctv)) (hfn : H f = none) (hfr : f ∉ frs X.stack) (hc : H F.c = some (LamX.CodeO F.c F.qual)) (caps : NdefX.Caps X F.cl fr js)
    (body : ∀ (A : Around) (outer : List Env) (s : Shared) (H : Hp), PE (ncx CX0 X.prog X.w X.K X.mg X.base N F f A outer s H E0) b tb)
    (ht : ∀ H2, Fr T [] H H2 → ∀ R : VK, (∀ t H3, Fr T [] H2 H3 → H3 t = some (.tup [.int (kf n), .int n]) → R (.ref t) H3) → tb (startF N [.int n] (js.map (NdefX.slotAt σ))) H2 R) : KeyOk X pins σ T H s f kf n := by
  intro tk H1 s1 I1 fr1 keep
  have e0 : Env0 X.prog X.w X.K X.mg X.base X.A.in1.in1 X.stack s1 H1 := I1.env0.in1.in1
  have hr2 : Room (k + 1) X.A.in1.in1 := hr.in1.in1
  obtain ⟨hf1, hfn1⟩ := keep f _ hfr hfn hf rfl
  have hc1 : H1 F.c = some (LamX.CodeO F.c F.qual) := fr1.keep _ _ (by simp) hc fun ps => LamX.codeO_ne ps
  have run := lam_run (Q := fun v H3 => ∃ t, v = .ref t ∧ Fr T [] H1 H3 ∧ H3 t = some (.tup [.int (kf n), .int n])) S (us := [.int n tk]) (vs := [.int n]) (hb pm ctv _) hr2 e0 hf1 hc1 (NdefX.cells_of I1 caps) (.cons ⟨tk, rfl⟩ .nil) rfl (body _ _ _ _)
    (ht H1 fr1 _ fun t H3 f3 q => ⟨t, rfl, f3, q⟩)
  refine wpAny_call (codeAny_mono run fun r s2 hq => ?_)
  cases r with
  | error e => exact (show False from hq).elim
  | ok fl =>
    cases fl with
    | ret u =>
      obtain ⟨v, H3, os, bare, un, hok, rv, t, rfl, f3, ht3⟩ := hq
      obtain rfl : u = Value.ref t := rv
      exact ⟨t, H3, rfl, I1.call' (ch := []) os un hok bare (fun b z => absurd z (by simp)), f3, ht3, fun b o nb n q => ⟨un.keep b o q n nb (by simp), un.free b o q n (by simp)⟩⟩
    | next => exact (show False from hq).elim
    | brk => exact (show False from hq).elim
    | cont => exact (show False from hq).elim
theorem far_ne (n : Nat) : n + 3 ≠ n + 1 := by omega
/-- the call of the built-in sorted, the keys being told -/
theorem sorted_key {f a0 : Addr} {ns : List Int} {kf : Int → Int} {Q : VK} (I : Inv X pins σ H s) (hs : SqL X.K H a0 (ns.map V.int)) (hz : ns.length ≤ 1000) (turn : ∀ n ∈ ns, KeyOk X pins σ T H s f kf n)
    (q : ∀ p H', Fresh H p → Fr T [] H H' → H' p = some (.lst ((sortK kf ns).map V.int)) → Q (.ref p) H') : wpAny (model X.prog X.w) X.A (call (.builtin "sorted") [.ref a0] [(Str.ofString "key", .ref f)]) (EP X pins σ Q) X.xe s := by
  obtain ⟨its, rv, pl, _⟩ := I.list hs
  have hl := pl.isList
  have hints := rv.ints
  have hlen : its.length ≤ 1000 := by rw [hints.length]; exact hz
  have hz2 : its.length ≤ sizeLine := by rw [sizeLine_eq]; omega
  refine PyProof.Rows.call_function_entry_kw PyProof.Rows.kind_sorted PyProof.Rows.plain_sorted PyProof.Rows.entry_sorted (PyProof.Rows.ksk_s1 _ _) ?_
  unfold Builtin.«sorted»
  refine wpAny_bind (m := checkCount "sorted" 1 1 _) (wpAny_pure ?_)
  refine wpAny_bind (PyProof.Rows.collect_list hl ?_ hz2)
  refine wpAny_bind (wpAny_newList ?_ hz2)
  have hsz : ((s.heap.push (PyProof.Rows.seqObj "list" #[] 0)).update s.heap.objs.size (Obj.mapSeq (· ++ its.toArray))).objs.size = s.heap.objs.size + 1 := by
    rw [Heap.size_update, PyProof.Rows.size_push']
  generalize hg1 : ((s.heap.push (PyProof.Rows.seqObj "list" #[] 0)).update s.heap.objs.size (Obj.mapSeq (· ++ its.toArray))) = g1 at hsz
  have old1 : ∀ b o, s.heap.get? b = some o → g1.get? b = some o := fun b o e => by
    rw [← hg1, Heap.get?_update_ne _ _ _ _ (Nat.ne_of_lt (Heap.lt_size e))]
    exact Heap.get?_push_of_some _ e
  show wpAny _ _ _ _ _ { s with heap := g1.push (PyProof.Rows.seqObj "list" its.toArray 0) }
  have oL : (g1.push (PyProof.Rows.seqObj "list" its.toArray 0)).get? (s.heap.objs.size + 1) = some (PyProof.Rows.seqObj "list" its.toArray 0) := by
    rw [← hsz]; exact Heap.get?_push_size _ rfl
  rw [hsz]
  refine wpAny_bind (wpAny_holding (PyProof.Rows.wpAny_call_entry_kw PyProof.Rows.slot_list_sort ⟨_, oL, rfl⟩ PyProof.Rows.entry_list_sort ?_ (PyProof.Rows.ksk_l1 _ _)))
  rw [PyProof.Rows.ksk_t1]
  unfold PyProof.Rows.ksk_tree
  have o1 := PyProof.Rows.get?_update_seq oL fun _ => (#[] : Array Value)
  refine wpAny_bind (PyProof.Rows.listItems_at oL rfl ?_)
  refine wpAny_bind (PyProof.Rows.listUpdate_at oL rfl ?_ (by rw [List.size_toArray]; exact hz2) (Nat.zero_le _))
  refine wpAny_bind (PyProof.Rows.seqEpoch_at o1 rfl ?_)
  refine wpAny_bind (wpAny_newTuple ?_ (by show its.length ≤ _; exact hz2))
  refine wpAny_bind (wpAny_newList ?_ (Nat.zero_le _))
  refine wpAny_holding ?_
  generalize hg2 : ((g1.push (PyProof.Rows.seqObj "list" its.toArray 0)).update (s.heap.objs.size + 1) (Obj.mapSeq fun _ => (#[] : Array Value))) = g2 at o1
  have sz2 : g2.objs.size = s.heap.objs.size + 2 := by
    rw [← hg2, Heap.size_update, PyProof.Rows.size_push', hsz]
  have old2 : ∀ b o, s.heap.get? b = some o → g2.get? b = some o := fun b o e => by
    have hb := Heap.lt_size e
    rw [← hg2, Heap.get?_update_ne _ _ _ _ (Nat.ne_of_lt (Nat.lt_succ_of_lt hb))]
    exact Heap.get?_push_of_some _ (old1 b o e)
  have sz3 : (g2.push (PyProof.Rows.seqObj "tuple" its.toArray 0)).objs.size = s.heap.objs.size + 3 := by rw [PyProof.Rows.size_push', sz2]
  show wpAny (model X.prog X.w) X.A.in1.in1 (PyProof.Rows.ksk_rest (s.heap.objs.size + 1) (.ref f) false its.toArray _ (.ref (g2.push (PyProof.Rows.seqObj "tuple" its.toArray 0)).objs.size)) _ _ { s with heap := (g2.push (PyProof.Rows.seqObj "tuple" its.toArray 0)).push (PyProof.Rows.seqObj "list" #[] 0) }
  rw [sz3]
  have I0 : Inv X pins σ H { s with heap := (g2.push (PyProof.Rows.seqObj "tuple" its.toArray 0)).push (PyProof.Rows.seqObj "list" #[] 0) } := I.kept (t' := s.toks) fun b o e => Heap.get?_push_of_some _ (Heap.get?_push_of_some _ (old2 b o e))
  have nL : H (s.heap.objs.size + 1) = none := I.hok.fresh (Nat.le_succ _)
  have nK : H (s.heap.objs.size + 3) = none := I.hok.fresh (by omega)
  refine key_rest (T := T) (ns := ns) (kf := kf) I0 hints hlen (Heap.get?_push_of_some _ (Heap.get?_push_of_some _ o1)) (by rw [← sz3]; exact Heap.get?_push_size _ rfl) (far_ne _) (I.fpOk (Nat.le_succ _) nL) (I.fpOk (by omega) nK) (not_frs I (Nat.le_succ _)) (not_frs I (by omega))
    (fun n hn => ?_) fun Hn s2 out p J fr hla hout => ?_
  · intro tk H1 s1 I1 fr1 keep
    exact turn n hn tk H1 s1 I1 fr1 fun b o nb hb e c => keep b o nb hb (Heap.get?_push_of_some _ (Heap.get?_push_of_some _ (old2 b o e))) c
  · refine ⟨_, rfl, ?_⟩
    refine wpAny_pure ⟨_, rfl, .ref _, Hn, J, rfl, ?_⟩
    rw [hout] at hla
    exact q _ Hn (Fresh.of nL) fr hla
end
/-- sorted(e, key=lambda n: ..) -/
def tSortKey (K : PySem.W.Frag) (T : List (Addr × Str)) (N : List Str) (js : List Nat) (t : TA) (tb : TE) : TE := fun σ H Q => t σ H fun vs H1 => ∃ a ns kf, vs = [.ref a] ∧ SqL K H1 a (ns.map V.int) ∧ ns.length ≤ 1000 ∧ LamX.Tabs T H1 ∧
  (∀ n ∈ ns, ∀ H2, Fr T [] H1 H2 → ∀ R : VK, (∀ t H3, Fr T [] H2 H3 → H3 t = some (.tup [.int (kf n), .int n]) → R (.ref t) H3) → tb (startF N [.int n] (js.map (NdefX.slotAt σ))) H2 R) ∧
  ∀ p H', Fresh H1 p → Fr T [] H1 H' → H' p = some (.lst ((sortK kf ns).map V.int)) → Q (.ref p) H'
section
variable {X : Cx}
theorem pe_sortKey {K : PySem.W.Frag} {T : List (Addr × Str)} {c P : Addr} {x : Str} {p pos kpos lpos : Pos} {e : Expr} {t : TA} {tb : TE} {params : Arguments} {b : Expr} {scope : Scope} {N fr : List Str} {p1 : Str} {js : List Nat} {k : Nat} (eK : X.K = K)
    (TB : LamX.TabB X.base X.mg c P) (hcode : X.env.code = .ref c) (hm : (P, X.env.qual ++ "<lambda>") ∈ T) (hu : ∀ p ∈ T, p.1 = P → p.2 = X.env.qual ++ "<lambda>") (hr : Room (k + 3) X.A)
    (hg : Gl X x) (hmg : X.mg x = none) (hv : bootBuiltins x = some (.builtin "sorted")) (ha : PA X [e] t)
    (S : NScope N [p1] fr scope) (hfree : ∀ y ∈ scope.names, y.2 = .free → X.env.scope.names.lookup y.1 = some .cell ∨ X.env.scope.names.lookup y.1 = some .free) (hfr : ∀ y ∈ fr, (y, NameKind.free) ∈ scope.names) (hjs : js.map (fun j => X.N[j]?) = fr.map some)
    (hb : ∀ q cl c' pm ctv u, bindArgs (PySem.W.kla_fn "<lambda>" q params b scope cl pm (.ref c') ctv) ⟨[u], []⟩ = pure [(p1, u)])
    (body : ∀ (F : NF) (f : Addr) (A : Around) (outer : List Env) (s : Shared) (H : Hp), F.scope = scope → PE (ncx CX0 X.prog X.w X.K X.mg X.base N F f A outer s H E0) b tb)
    (hdef : defaultsOf params X.env = ([], []) := by rfl) (hn : x ≠ "__name__" := by decide) (hdb : (x == ("__debug__" : Str)) = false := by decide)
    (he : backTo pos (starEach [e] X.env) = (false, eval e X.env) :: backTo pos (starEach [] X.env) := by rfl) (hpl : (backTo pos (starEach [e] X.env)).any (·.1) = false := by rfl) :
    PE X (.Call (.Name x p) [e] [⟨some "key", .Lambda params b scope lpos, kpos⟩] pos) (tSortKey K T N js t tb) := by
  subst eK
  constructor
  intro pins s σ H Q I hyp
  refine wpAny_Call_Name_kw (ld_blt I hg hmg hv ?_ hn hdb)
  refine PyProof.Rows.callWith_kw (thn (ha.run pos pins s σ H _ I hyp) fun us s1 hp => ?_) he hpl rfl rfl
  obtain ⟨vs, H1, I1, r1, a, ns, kf, rfl, hs, hz, hT, hkey, q⟩ := hp
  obtain rfl := Vals.ref1 r1
  show wpAny _ _ (evalAll [(do let v ← eval (.Lambda params b scope lpos) X.env; standAt pos; pure v)]) _ _ s1
  refine wpAny_evalAll_cons (wpAny_bind ?_)
  refine LamX.lam_make2 I1 TB hcode hm hu hT hdef (fun y hy e => I1.ok.has _ (hfree y hy e)) fun f c' pm ctv H2 s2 I2 ext t2 hf hfn hfr2 hc => ?_
  refine wpAny_bind (wpAny_standAt (wpAny_pure (wpAny_evalAll_nil ?_)))
  have fr2 : Fr T [] H1 H2 := ⟨fun a o _ e n => ext a o e n, fun _ => t2, fun _ h => by simp at h, fun _ h => by simp at h⟩
  have hs2 : SqL X.K H2 a (ns.map V.int) := by
    rcases hs with (h | ⟨ob, h⟩) | h
    · exact Or.inl (Or.inl (fr2.lst0 h))
    · exact Or.inl (Or.inr ⟨ob, fr2.frz h⟩)
    · exact Or.inr h
  show wpAny _ _ (call (.builtin "sorted") [.ref a] [(Str.ofString "key", .ref f)]) _ _ s2
  refine sorted_key (T := T) (kf := kf) I2 hs2 hz (fun n hn => ?_) fun p H' hp f' hl => q p H' (fr2.fresh hp) (fr2.trans f') hl
  refine keyOk_of (F := ⟨"<lambda>", X.env.qual ++ "<lambda>", params, [], scope, cloFrom X.env.cells scope.names [], c'⟩) (N := N) (ps := [p1]) (js := js) (tb := tb) I2 S (fun pm ctv u => hb _ _ _ pm ctv u) hr hf hfn hfr2 hc (NdefX.Caps.made I2.ok hfree hfr hjs) (fun A outer s H => body _ f A outer s H rfl) fun H3 f3 R hR => ?_
  exact hkey n hn H3 (fr2.trans f3) R hR
end
end Nc
set_option maxHeartbeats 4000000
/-! X6: zip of two lists where the pair goes to one name: the iterator's own tuple stays out. -/
namespace Nc
open PySem PySem.Spec PyProof L2
/-- a zip; g: its mark of the tuple it gave out, b: whether it knows that this is still out -/
abbrev ZipF (h : Heap) (z TI TO : Addr) (g : Value) (b : Bool) : Prop :=
  h.get? z = some { cls := .type "zip", dict := none, data := .fields #[g, .bool b, .bool false, .ref TI, .ref TO], slots := #[] }
section
variable {prog : Program} {w : World} {A : Around} {E : Value → Shared → Prop} {s : Shared}
/-- the zip's own tuple can be used again -/
def Free (prog : Program) (w : World) (A : Around) (E : Value → Shared → Prop) (s : Shared) (z : Addr) : Prop :=
  ∀ R : Bool → Shared → Prop, R true s → wpAny (model prog w) A (Builtin.SmallTypes.ownedTupleIsFree (.ref z)) R E s
theorem free_none {z TI TO : Addr} {b : Bool} (hz : ZipF s.heap z TI TO .none b) : Free prog w A E s z := fun R h => by
  unfold Builtin.SmallTypes.ownedTupleIsFree
  exact wpAny_bind (wpAny_field hz rfl (x := .none) rfl (wpAny_pure h))
theorem free_dead {z TI TO T : Addr} {b : Bool} (hz : ZipF s.heap z TI TO (rawInt T) b) (hT : s.heap.get? T = none) : Free prog w A E s z := fun R h => by
  unfold Builtin.SmallTypes.ownedTupleIsFree
  refine wpAny_bind (wpAny_field hz rfl (x := rawInt T) rfl ?_)
  show wpAny _ _ (loadIfAlive ((T : Int).toNat) >>= _) _ _ _
  rw [Int.toNat_natCast]
  have hd : ∀ {R : Option Obj → Shared → Prop}, R none s → wpAny (model prog w) A (loadIfAlive T) R E s := fun {R} r => by
    have r' : R (s.heap.get? T) s := by rw [hT]; exact r
    exact fun _ _ _ => r'
  refine wpAny_bind (hd ?_)
  rw [if_pos (show (none : Option Obj).isNone = true from rfl)]
  exact wpAny_pure h
variable {z TI TO i1 i2 l1 l2 : Addr} {k1 k2 : Nat} {xs ys : Array Value} {x y a c : Value} {g : Value} {b : Bool}
theorem zf_item {Q : Value → Shared → Prop} (D : ZipApart z TI TO i1 i2 l1 l2) (hf : ∀ E', Free prog w A E' s z) (hz : ZipF s.heap z TI TO g b) (hI : IsPair s.heap TI (.ref i1) (.ref i2)) (hO : IsPair s.heap TO a c)
    (h1 : s.heap.IsListIter i1 l1 k1) (h2 : s.heap.IsListIter i2 l2 k2) (p1 : s.heap.IsList l1 xs) (p2 : s.heap.IsList l2 ys) (hx : xs[k1]? = some x) (hy : ys[k2]? = some y)
    (hQ : ∀ h', ZipF h' z TI TO (rawInt s.heap.objs.size) false → IsPair h' TO x y → h'.IsListIter i1 l1 (k1 + 1) → h'.IsListIter i2 l2 (k2 + 1) → IsPair h' s.heap.objs.size x y → h'.objs.size = s.heap.objs.size + 1 →
      (∀ e o, e ≠ z → e ≠ TO → e ≠ i1 → e ≠ i2 → s.heap.get? e = some o → h'.get? e = some o) → Q (.ref s.heap.objs.size) { s with heap := h' }) :
    wpAny (model prog w) A (Builtin.«zip.__next__» ⟨[.ref z], []⟩) (fun r s' => ∃ v, r = .done (.ret v) ∧ Q v s') E s := by
  show wpAny _ _ (field (.ref z) 2 >>= _) _ _ _
  refine wpAny_bind (wpAny_field hz rfl (x := .bool false) rfl ?_)
  show wpAny _ _ (field (.ref z) 3 >>= _) _ _ _
  refine wpAny_bind (wpAny_field hz rfl (x := .ref TI) rfl (wpAny_bind (wpAny_seqItems hI rfl ?_)))
  show wpAny _ _ (Builtin.SmallTypes.ownedTupleIsFree (.ref z) >>= _) _ _ _
  refine wpAny_bind (hf _ _ ?_)
  rw [if_pos rfl]
  refine wpAny_bind (wpAny_rule (wpAny_bind (wpAny_field hz rfl (x := .ref TO) rfl (wpAny_bind (wpAny_setField_rec hz (by simp) fun ha za ka => ?_)))))
  replace za : ZipF ha z TI TO .ellipsis b := za
  refine wpAny_bind ?_
  simp only [List.zipIdx_cons, List.zipIdx_nil, List.forIn_cons, List.forIn_nil]
  refine wpAny_bind (wpAny_bind (wpAny_onRaise ?_))
  show wpAny _ _ (Builtin.SmallTypes.nextOf (.ref i1) >>= _) _ _ _
  refine wpAny_bind (wpAny_nextOf_list_item (h1.extBut ka.extBut D.i1z) (p1.extBut ka.extBut D.l1z) hx fun hb ib kb => wpAny_pure ?_)
  have ob : IsPair hb TO a c := kb.extBut _ _ D.TOi1 (ka.extBut _ _ D.TOz hO)
  refine wpAny_bind (wpAny_seqItems ob rfl (wpAny_bind (wpAny_updateSeq_pair ob fun hc oc kc => wpAny_bind (wpAny_letGo (wpAny_pure ?_)))))
  replace oc : IsPair hc TO x c := oc
  refine wpAny_bind (wpAny_bind (wpAny_onRaise ?_))
  show wpAny _ _ (Builtin.SmallTypes.nextOf (.ref i2) >>= _) _ _ _
  have h2c : hc.IsListIter i2 l2 k2 := ((h2.extBut ka.extBut D.i2z).extBut kb.extBut D.i12.symm).extBut kc.extBut D.TOi2.symm
  have p2c : hc.IsList l2 ys := ((p2.extBut ka.extBut D.l2z).extBut kb.extBut D.l2i1).extBut kc.extBut D.l2TO
  refine wpAny_bind (wpAny_nextOf_list_item h2c p2c hy fun hd id kd => wpAny_pure ?_)
  have od : IsPair hd TO x c := kd.extBut _ _ D.TOi2 oc
  refine wpAny_bind (wpAny_seqItems od rfl (wpAny_bind (wpAny_updateSeq_pair od fun he oe ke => wpAny_bind (wpAny_letGo (wpAny_pure (wpAny_pure ?_))))))
  replace oe : IsPair he TO x y := oe
  refine wpAny_bind (wpAny_seqItems oe rfl (wpAny_bind (wpAny_newTuple ?_)))
  have sz : he.objs.size = s.heap.objs.size := by rw [ke.1, kd.1, kc.1, kb.1, ka.1]
  have ze : ZipF he z TI TO .ellipsis b := ke.extBut _ _ D.TOz.symm (kd.extBut _ _ D.i2z.symm (kc.extBut _ _ D.TOz.symm (kb.extBut _ _ D.i1z.symm za)))
  have kk : ∀ e o, e ≠ z → e ≠ TO → e ≠ i1 → e ≠ i2 → s.heap.get? e = some o → he.get? e = some o := fun e o n1 n2 n3 n4 q => ke.extBut _ _ n2 (kd.extBut _ _ n4 (kc.extBut _ _ n2 (kb.extBut _ _ n3 (ka.extBut _ _ n1 q))))
  have i1e : he.IsListIter i1 l1 (k1 + 1) := ((ib.extBut kc.extBut D.TOi1.symm).extBut kd.extBut D.i12).extBut ke.extBut D.TOi1.symm
  have i2e : he.IsListIter i2 l2 (k2 + 1) := id.extBut ke.extBut D.TOi2.symm
  have zl : z < he.objs.size := Heap.lt_size ze
  show wpAny _ _ (Builtin.SmallTypes.ownedTupleHandOut (.ref z) (.ref he.objs.size) >>= _) _ _ _
  refine wpAny_bind ?_
  unfold Builtin.SmallTypes.ownedTupleHandOut
  have zn : ZipF (he.push { cls := .type "tuple", data := .seq #[x, y] }) z TI TO .ellipsis b := Heap.get?_push_of_some _ ze
  refine wpAny_bind (wpAny_setField_rec zn (by simp) fun hg zg kg => ?_)
  replace zg : ZipF hg z TI TO (rawInt he.objs.size) b := zg
  refine wpAny_setField_rec zg (by simp) fun hh zh kh => ?_
  replace zh : ZipF hh z TI TO (rawInt he.objs.size) false := zh
  have up : ∀ e o, e ≠ z → he.get? e = some o → hh.get? e = some o := fun e o n q => kh.extBut _ _ n (kg.extBut _ _ n (Heap.get?_push_of_some _ q))
  have tn : IsPair hh he.objs.size x y := kh.extBut _ _ (Nat.ne_of_gt zl) (kg.extBut _ _ (Nat.ne_of_gt zl) (Heap.get?_push_size _ rfl))
  have sh : hh.objs.size = he.objs.size + 1 := by rw [kh.1, kg.1, Heap.size_push]
  rw [sz] at zh tn sh
  refine wpAny_pure ⟨_, rfl, ?_⟩
  show Q (.ref he.objs.size) _
  rw [sz]
  exact hQ hh zh (up _ _ D.TOz oe) (i1e.at fun o q => up _ o D.i1z q) (i2e.at fun o q => up _ o D.i2z q) tn sh fun e o n1 n2 n3 n4 q => up e o n1 (kk e o n1 n2 n3 n4 q)
theorem zf_end {Q : PySem.Fin → Shared → Prop} (hh : A.handled = none) (D : ZipApart z TI TO i1 i2 l1 l2) (hf : ∀ E', Free prog w A E' s z) (hz : ZipF s.heap z TI TO g b) (hI : IsPair s.heap TI (.ref i1) (.ref i2)) (hO : IsPair s.heap TO a c)
    (h1 : s.heap.IsListIter i1 l1 k1) (h2 : s.heap.IsListIter i2 l2 k2) (p1 : s.heap.IsList l1 xs) (p2 : s.heap.IsList l2 ys) (hn : xs[k1]? = none ∨ ys[k2]? = none)
    (hE : ∀ h' e, (∀ e o, e ≠ z → e ≠ TO → e ≠ i1 → e ≠ i2 → s.heap.get? e = some o → h'.get? e = some o) → (∃ o, h'.get? e = some o ∧ o.cls = .type "StopIteration") → E (.ref e) { s with heap := h' }) :
    wpAny (model prog w) A (Builtin.«zip.__next__» ⟨[.ref z], []⟩) Q E s := by
  show wpAny _ _ (field (.ref z) 2 >>= _) _ _ _
  refine wpAny_bind (wpAny_field hz rfl (x := .bool false) rfl ?_)
  show wpAny _ _ (field (.ref z) 3 >>= _) _ _ _
  refine wpAny_bind (wpAny_field hz rfl (x := .ref TI) rfl (wpAny_bind (wpAny_seqItems hI rfl ?_)))
  show wpAny _ _ (Builtin.SmallTypes.ownedTupleIsFree (.ref z) >>= _) _ _ _
  refine wpAny_bind (hf _ _ ?_)
  rw [if_pos rfl]
  refine wpAny_bind (wpAny_rule (wpAny_bind (wpAny_field hz rfl (x := .ref TO) rfl (wpAny_bind (wpAny_setField_rec hz (by simp) fun ha za ka => ?_)))))
  replace za : ZipF ha z TI TO .ellipsis b := za
  refine wpAny_bind ?_
  simp only [List.zipIdx_cons, List.zipIdx_nil, List.forIn_cons, List.forIn_nil]
  refine wpAny_bind (wpAny_bind (wpAny_onRaise ?_))
  show wpAny _ _ (Builtin.SmallTypes.nextOf (.ref i1) >>= _) _ _ _
  have fin : ∀ (hv : Heap) (e : Addr) (R : Unit → Shared → Prop), ZipF hv z TI TO .ellipsis b → (∀ e o, e ≠ z → e ≠ TO → e ≠ i1 → e ≠ i2 → s.heap.get? e = some o → hv.get? e = some o) → (∃ o, hv.get? e = some o ∧ o.cls = .type "StopIteration") →
      (∀ hv', (∃ o, hv'.get? e = some o ∧ o.cls = .type "StopIteration") → (∀ e o, e ≠ z → e ≠ TO → e ≠ i1 → e ≠ i2 → s.heap.get? e = some o → hv'.get? e = some o) → R () { s with heap := hv' }) → wpAny (model prog w) A (setField (.ref z) 0 .none) R E { s with heap := hv } := by
    rintro hv e R zv kv ⟨o, ho, co⟩ r
    have ne : e ≠ z := fun q => by
      subst q
      rw [zv] at ho
      cases ho
      simp at co
    exact wpAny_setField_rec zv (by simp) fun hw _ kw => r hw ⟨o, kw.extBut _ _ ne ho, co⟩ fun e o n1 n2 n3 n4 q => kw.extBut _ _ n1 (kv e o n1 n2 n3 n4 q)
  cases hx : xs[k1]? with
  | none =>
    refine wpAny_bind (wpAny_nextOf_list_end hh (h1.extBut ka.extBut D.i1z) (p1.extBut ka.extBut D.l1z) hx fun hb e kb he => ?_)
    exact fin hb e _ (kb _ _ D.i1z.symm za) (fun e o n1 _ n3 _ q => kb _ _ n3 (ka.extBut _ _ n1 q)) he fun hv o k => hE hv e k o
  | some x =>
    have hy : ys[k2]? = none := hn.resolve_left fun q => by rw [hx] at q; cases q
    refine wpAny_bind (wpAny_nextOf_list_item (h1.extBut ka.extBut D.i1z) (p1.extBut ka.extBut D.l1z) hx fun hb ib kb => wpAny_pure ?_)
    have ob : IsPair hb TO a c := kb.extBut _ _ D.TOi1 (ka.extBut _ _ D.TOz hO)
    refine wpAny_bind (wpAny_seqItems ob rfl (wpAny_bind (wpAny_updateSeq_pair ob fun hc oc kc => wpAny_bind (wpAny_letGo (wpAny_pure ?_)))))
    refine wpAny_bind (wpAny_bind (wpAny_onRaise ?_))
    show wpAny _ _ (Builtin.SmallTypes.nextOf (.ref i2) >>= _) _ _ _
    have h2c : hc.IsListIter i2 l2 k2 := ((h2.extBut ka.extBut D.i2z).extBut kb.extBut D.i12.symm).extBut kc.extBut D.TOi2.symm
    have p2c : hc.IsList l2 ys := ((p2.extBut ka.extBut D.l2z).extBut kb.extBut D.l2i1).extBut kc.extBut D.l2TO
    refine wpAny_bind (wpAny_nextOf_list_end hh h2c p2c hy fun hd e kd he => ?_)
    exact fin hd e _ (kd _ _ D.i2z.symm (kc.extBut _ _ D.TOz.symm (kb.extBut _ _ D.i1z.symm za))) (fun e o n1 n2 n3 n4 q => kd _ _ n4 (kc.extBut _ _ n2 (kb.extBut _ _ n3 (ka.extBut _ _ n1 q)))) he fun hv o k => hE hv e k o
theorem zf_next_item {Q : Option Value → Shared → Prop} (D : ZipApart z TI TO i1 i2 l1 l2) (hf : ∀ A' E', Free prog w A' E' s z) (hz : ZipF s.heap z TI TO g b) (hI : IsPair s.heap TI (.ref i1) (.ref i2)) (hO : IsPair s.heap TO a c)
    (h1 : s.heap.IsListIter i1 l1 k1) (h2 : s.heap.IsListIter i2 l2 k2) (p1 : s.heap.IsList l1 xs) (p2 : s.heap.IsList l2 ys) (hx : xs[k1]? = some x) (hy : ys[k2]? = some y)
    (hQ : ∀ h', ZipF h' z TI TO (rawInt s.heap.objs.size) false → IsPair h' TO x y → h'.IsListIter i1 l1 (k1 + 1) → h'.IsListIter i2 l2 (k2 + 1) → IsPair h' s.heap.objs.size x y → h'.objs.size = s.heap.objs.size + 1 →
      (∀ e o, e ≠ z → e ≠ TO → e ≠ i1 → e ≠ i2 → s.heap.get? e = some o → h'.get? e = some o) → Q (some (.ref s.heap.objs.size)) { s with heap := h' }) :
    wpAny (model prog w) A (pyNext (.ref z)) Q E s := by
  have ty : s.TypeIs (.ref z) "zip" := ⟨_, hz, rfl⟩
  unfold pyNext
  exact wpAny_bind (wpAny_attempt (wpAny_callSpecial?_slot (name := Str.ofString "__next__") ty PySem.F.slot_zip_next (wpAny_call_entry PySem.F.slot_zip_next ty PySem.F.entry_zip_next
    (zf_item D (hf _) hz hI hO h1 h2 p1 p2 hx hy fun h' q1 q2 q3 q4 q5 q6 q7 => wpAny_pure (hQ h' q1 q2 q3 q4 q5 q6 q7)) (PySem.F.args_zip_next_1 _))))
theorem zf_next_end {Q : Option Value → Shared → Prop} (hh : A.handled = none) (D : ZipApart z TI TO i1 i2 l1 l2) (hf : ∀ A' E', Free prog w A' E' s z) (hz : ZipF s.heap z TI TO g b) (hI : IsPair s.heap TI (.ref i1) (.ref i2)) (hO : IsPair s.heap TO a c)
    (h1 : s.heap.IsListIter i1 l1 k1) (h2 : s.heap.IsListIter i2 l2 k2) (p1 : s.heap.IsList l1 xs) (p2 : s.heap.IsList l2 ys) (hn : xs[k1]? = none ∨ ys[k2]? = none)
    (hQ : ∀ h', (∀ e o, e ≠ z → e ≠ TO → e ≠ i1 → e ≠ i2 → s.heap.get? e = some o → h'.get? e = some o) → Q none { s with heap := h' }) : wpAny (model prog w) A (pyNext (.ref z)) Q E s := by
  have ty : s.TypeIs (.ref z) "zip" := ⟨_, hz, rfl⟩
  unfold pyNext
  refine wpAny_bind (wpAny_attempt (wpAny_callSpecial?_slot (name := Str.ofString "__next__") ty PySem.F.slot_zip_next (wpAny_call_entry PySem.F.slot_zip_next ty PySem.F.entry_zip_next (zf_end hh D (hf _) hz hI hO h1 h2 p1 p2 hn fun h' e k he => ?_) (PySem.F.args_zip_next_1 _))))
  obtain ⟨o, ho, co⟩ := he
  exact wpAny_bind (wpAny_isInstance (T := "StopIteration") (b := true) ⟨o, ho, co⟩ isSubtype_stop (wpAny_pure (hQ _ k)))
end
/-- what the zip's object looks like at a turn -/
def ZipSt (a b z TI TO i1 i2 : Addr) (i : Nat) (h : Heap) : Prop :=
  (∃ g f, ZipF h z TI TO g f ∧ (g = .none ∨ ∃ T : Addr, g = rawInt T)) ∧ IsPair h TI (.ref i1) (.ref i2) ∧ (∃ x y, IsPair h TO x y) ∧ h.IsListIter i1 a i ∧ h.IsListIter i2 b i
theorem five_mem {c z TI TO i1 i2 : Addr} (h : c ∈ [z, TI, TO, i1, i2]) : c = z ∨ c = TI ∨ c = TO ∨ c = i1 ∨ c = i2 := by simpa using h
theorem turn_zip1 {P : Program} {w : World} {K : PySem.W.Frag} {x : Str} {pos : Pos} {a b z TI TO i1 i2 : Addr} (D : ZipApart z TI TO i1 i2 a b) :
    Turn P w K (.Name x pos) (Itz K a b) [z, TI, TO, i1, i2] z (ZipSt a b z TI TO i1 i2) where
  mem := List.mem_cons_self
  obj := by
    rintro i h ⟨⟨g, f, hz, _⟩, hI, ⟨x, y, hO⟩, ⟨o1, e1, _, d1⟩, ⟨o2, e2, _, d2⟩⟩ c hc
    rcases five_mem hc with rfl | rfl | rfl | rfl | rfl
    · exact ⟨_, hz, fun v q => nomatch q⟩
    · exact ⟨_, hI, fun v q => nomatch q⟩
    · exact ⟨_, hO, fun v q => nomatch q⟩
    · exact ⟨o1, e1, fun v q => by rw [d1] at q; cases q⟩
    · exact ⟨o2, e2, fun v q => by rw [d2] at q; cases q⟩
  keep := by
    rintro i h h' ⟨⟨g, f, hz, hg⟩, hI, ⟨x, y, hO⟩, h1, h2⟩ k
    exact ⟨⟨g, f, k z (by simp) _ hz, hg⟩, k TI (by simp) _ hI, ⟨x, y, k TO (by simp) _ hO⟩, h1.at fun o q => k i1 (by simp) o q, h2.at fun o q => k i2 (by simp) o q⟩
  item := by
    rintro X rfl rfl rfl calm i pins s σ H E I fok ⟨⟨g, f, hz, hg⟩, hI, ⟨x0, y0, hO⟩, h1, h2⟩ ⟨xs, ys, x, y, qx, qy, hx, hy⟩
    obtain ⟨its, rv, p, _⟩ := I.list qx
    obtain ⟨its2, rv2, p2, _⟩ := I.list qy
    obtain ⟨u, hu, ru⟩ := rv.get hx
    obtain ⟨u2, hu2, ru2⟩ := rv2.get hy
    have hu' : its.toArray[i]? = some u := by simpa using hu
    have hu2' : its2.toArray[i]? = some u2 := by simpa using hu2
    have lt : ∀ c ∈ [z, TI, TO, i1, i2], c < s.heap.objs.size := fun c hc => by
      rcases five_mem hc with rfl | rfl | rfl | rfl | rfl
      · exact Heap.lt_size hz
      · exact Heap.lt_size hI
      · exact Heap.lt_size hO
      · obtain ⟨_, e1, _⟩ := h1; exact Heap.lt_size e1
      · obtain ⟨_, e2, _⟩ := h2; exact Heap.lt_size e2
    have fin : ∀ h' : Heap, IsPair h' s.heap.objs.size u u2 → ZipSt a b z TI TO i1 i2 (i + 1) h' → (∀ e o, e ≠ z → e ≠ TO → e ≠ i1 → e ≠ i2 → s.heap.get? e = some o → h'.get? e = some o) →
        wpAny (model X.prog X.w) X.A (letOwnedTupleGo (.Name ‹Str› ‹Pos›) (.ref z) (.ref s.heap.objs.size)) (fun _ s2 => ∃ v H', Inv X pins σ H' s2 ∧ RelV v (.ref s.heap.objs.size) ∧ (Itz X.K a b).yld i H v H' ∧ ZipSt a b z TI TO i1 i2 (i + 1) s2.heap ∧ ∀ b ∈ [z, TI, TO, i1, i2], H' b = none) E { s with heap := h' } := by
      intro h' hT st hk
      refine wpAny_pure ?_
      have new : ObjOk X.prog X.w (upd H s.heap.objs.size (.tup [x, y])) h' s.heap.objs.size (.tup [x, y]) := ⟨by show 2 ≤ sizeLine; decide, [u, u2], .cons ru (.cons ru2 .nil), ⟨_, hT, rfl, _, rfl⟩⟩
      have J : Inv X pins σ (upd H s.heap.objs.size (.tup [x, y])) { s with heap := h' } :=
        I.turnedNew (t' := s.toks) (ch := [z, TI, TO, i1, i2]) (fun c o n q => hk c o (fun e => n (by simp [e])) (fun e => n (by simp [e])) (fun e => n (by simp [e])) (fun e => n (by simp [e])) q) fok (Nat.le_refl _) new
      refine ⟨.ref s.heap.objs.size, _, J, rfl, ⟨_, x, y, rfl, I.hok.fresh (Nat.le_refl _), rfl, fun l hl => by rw [I.list_inj hl qx]; exact hx, fun l hl => by rw [I.list_inj hl qy]; exact hy⟩, st, fun c hc => ?_⟩
      rw [upd_ne (Nat.ne_of_lt (lt c hc))]
      exact (fok c hc).1
    have again : (∀ A' E', Free X.prog X.w A' E' s z) → _ := fun hfree => zf_next_item (Q := fun r s1 => ∃ u, r = some u ∧ wpAny (model X.prog X.w) X.A (letOwnedTupleGo (.Name ‹Str› ‹Pos›) (.ref z) u) (fun _ s2 => ∃ v H', Inv X pins σ H' s2 ∧ RelV v u ∧ (Itz X.K a b).yld i H v H' ∧ ZipSt a b z TI TO i1 i2 (i + 1) s2.heap ∧ ∀ b ∈ [z, TI, TO, i1, i2], H' b = none) E s1)
      (E := E) (A := X.A) D hfree hz hI hO h1 h2 p.isList p2.isList hu' hu2' fun h' z' O' h1' h2' hT _ hk =>
        ⟨_, rfl, fin h' hT ⟨⟨_, _, z', Or.inr ⟨_, rfl⟩⟩, hk _ _ D.TIz D.TITO D.TIi1 D.TIi2 hI, ⟨_, _, O'⟩, h1', h2'⟩ hk⟩
    rcases hg with rfl | ⟨T, rfl⟩
    · exact again fun _ _ => free_none hz
    · cases hT : s.heap.get? T with
      | none => exact again fun _ _ => free_dead hz hT
      | some oT =>
        refine wpAny_pyNext_zip_item_held D hz hT hI h1 h2 p.isList p2.isList hu' hu2' fun h' z' h1' h2' hT' _ hk => ⟨_, rfl, fin h' hT' ⟨⟨_, _, z', Or.inr ⟨_, rfl⟩⟩, hk _ _ D.TIz D.TIi1 D.TIi2 hI, ⟨_, _, hk _ _ D.TOz D.TOi1 D.TOi2 hO⟩, h1', h2'⟩ fun e o n1 _ n3 n4 q => hk e o n1 n3 n4 q⟩
  done := by
    rintro X rfl rfl rfl calm i pins s σ H E I fok ⟨⟨g, f, hz, hg⟩, hI, ⟨x0, y0, hO⟩, h1, h2⟩ ⟨xs, ys, qx, qy, hn⟩
    obtain ⟨its, rv, p, _⟩ := I.list qx
    obtain ⟨its2, rv2, p2, _⟩ := I.list qy
    have l1 := rv.length
    have l2 := rv2.length
    have he : its.toArray[i]? = none ∨ its2.toArray[i]? = none := by
      rcases hn with q | q
      · exact .inl (by simp; omega)
      · exact .inr (by simp; omega)
    have fin : ∀ h' : Heap, (∀ e o, e ≠ z → e ≠ TO → e ≠ i1 → e ≠ i2 → s.heap.get? e = some o → h'.get? e = some o) → Inv X pins σ H { s with heap := h' } := fun h' hk =>
      I.turnedL (t' := s.toks) (ch := [z, TI, TO, i1, i2]) (fun c o n q => hk c o (fun e => n (by simp [e])) (fun e => n (by simp [e])) (fun e => n (by simp [e])) (fun e => n (by simp [e])) q) fok
    rcases hg with rfl | ⟨T, rfl⟩
    · exact zf_next_end (I.ok.hd calm) D (fun _ _ => free_none hz) hz hI hO h1 h2 p.isList p2.isList he fun h' hk => ⟨rfl, fin h' hk⟩
    · cases hT : s.heap.get? T with
      | none => exact zf_next_end (I.ok.hd calm) D (fun _ _ => free_dead hz hT) hz hI hO h1 h2 p.isList p2.isList he fun h' hk => ⟨rfl, fin h' hk⟩
      | some oT => exact wpAny_pyNext_zip_end_held (I.ok.hd calm) D hz hT hI h1 h2 p.isList p2.isList he fun h' hk => ⟨rfl, fin h' fun e o n1 _ n3 n4 q => hk e o n1 n3 n4 q⟩
  self := by
    rintro A i s Q E ⟨⟨g, f, hz, hg⟩, _⟩ h
    have ty : s.TypeIs (.ref z) "zip" := ⟨_, hz, rfl⟩
    refine wpAny_pyIter_slot ty PySem.F.slot_zip_iter (wpAny_call_entry PySem.F.slot_zip_iter ty PySem.F.entry_zip_iter ?_ (PySem.F.args_zip_iter_1 _))
    show wpAny _ _ (ret (.ref z)) _ _ s
    exact wpAny_pure ⟨_, rfl, "zip", _, ty, PySem.F.slot_zip_next.lookup, h⟩
theorem pi_zip1 {X : Cx} {K : PySem.W.Frag} {e e2 : Expr} {ta : TA} {p pos npos : Pos} {x : Str} (eK : X.K = K) (hg : Gl X "zip") (hm : X.mg "zip" = none) (ha : PA X [e, e2] ta)
    (hs : starEach [e, e2] X.env = (false, eval e X.env) :: starEach [e2] X.env := by rfl) (hpl : (backTo pos (starEach [e2] X.env)).any (·.1) = false := by rfl) :
    PI X (.Name x npos) (.Call (.Name "zip" p) [e, e2] [] pos) (iZip K ta) := by
  subst eK
  constructor
  intro pins s σ H R I h
  refine PyProof.Rows.Call_ (ld_blt I hg hm PyProof.Rows.boot_zip (PyProof.Rows.callWith_type1 (thn (ha.run pos pins s σ H _ I h) fun us s1 hp => ?_) hs hpl))
  obtain ⟨vs, H1, J, r1, a, b, xs, ys, rfl, qx, qy, q⟩ := hp
  obtain ⟨v1, v2, rfl, ra, rb⟩ := vals2 r1
  obtain rfl : v1 = Value.ref a := ra
  obtain rfl : v2 = Value.ref b := rb
  obtain ⟨its, rv, p1, _⟩ := J.list qx
  obtain ⟨its2, rv2, p2, _⟩ := J.list qy
  refine call_zip_2 p1.isList p2.isList fun h' hz hI hO h1 h2 _ hk => wpAny_pyIter_zip hz ?_
  have J2 : Inv X pins σ H1 { s1 with heap := h' } := J.kept (t' := s1.toks) hk
  refine ⟨s1.heap.objs.size + 4, [s1.heap.objs.size + 4, s1.heap.objs.size + 2, s1.heap.objs.size + 3, s1.heap.objs.size, s1.heap.objs.size + 1], _, _, H1, rfl, J2, turn_zip1 (PySem.W.ktu_apart s1.heap.objs.size a b p1.lt p2.lt), ⟨⟨.none, false, hz, Or.inl rfl⟩, hI, ⟨_, _, hO⟩, h1, h2⟩, fun c hc => ?_, q⟩
  have le : s1.heap.objs.size ≤ c := by
    rcases five_mem hc with e | e | e | e | e
    · rw [e]; exact Nat.le_add_right _ _
    · rw [e]; exact Nat.le_add_right _ _
    · rw [e]; exact Nat.le_add_right _ _
    · rw [e]; exact Nat.le_refl _
    · rw [e]; exact Nat.le_add_right _ _
  exact J.fpOk le (J.hok.fresh le)
end Nc
set_option maxHeartbeats 4000000
/-! X7: a comprehension over zip to one name; one of two clauses; a def with its code object. -/
namespace Nc
open PySem PySem.Spec L2
section
variable {T : List (Addr × Str)} {K : PySem.W.Frag}
/-- [.. for p in zip(xs, ys) if ..], ints -/
theorem lc_Z {xs ys : List Int} {a b : Addr} {H1 : Hp} (ha : H1 a = some (.lst (xs.map V.int))) (hb : H1 b = some (.lst (ys.map V.int))) (hz : xs.length < sizeLine) {j : Nat} {tt : TT} {te : TE} {vs : List Nat} {σ : St} {Q : VK} (f : Int × Int → Bool) (d : Int × Int → PyData)
    (hw : ∀ x, wipe ((wipe σ vs).set j (some x)) vs = wipe σ vs)
    (ht : ∀ (p : Int × Int) (u : V) (H2 : Hp), p ∈ xs.zip ys → Fr T [] H1 H2 → Td K H2 u (.tuple [.int p.1, .int p.2]) → ∀ (R1 : V → Hp → Prop) (R2 : Hp → Prop), (f p = true → ∀ v H3, Fr T [] H2 H3 → Td K H3 v (d p) → R1 v H3) → (f p = false → ∀ H3, Fr T [] H2 H3 → R2 H3) →
      tt ((wipe σ vs).set j (some u)) H2 fun b H3 => if b = true then te ((wipe σ vs).set j (some u)) H3 R1 else R2 H3)
    (hd : ∀ (D : Addr) (H' : Hp) (zs : List V), H1 D = none → Fr T [] H1 H' → H' D = some (.lst zs) → TdAll K H' zs (((xs.zip ys).filter f).map d) → Q (.ref D) H') :
    ∃ a' b' us ws, [V.ref a, V.ref b] = [V.ref a', V.ref b'] ∧ SqL K H1 a' us ∧ SqL K H1 b' ws ∧ LcQ (Itz K a' b') (gName j) tt te vs σ H1 Q := by
  refine ⟨a, b, _, _, rfl, SqL.of ha, SqL.of hb, ?_⟩
  have hlen : (xs.zip ys).length = min (xs.map V.int).length (ys.map V.int).length := by rw [List.length_zip, List.length_map, List.length_map]
  refine lc_td (T := T) (K := K) (walk_zip (K := K) (a := a) (b := b) (xs := xs.map V.int) (ys := ys.map V.int) rfl) (xs.zip ys) hlen ?_ f d (fun p σ2 H2 => ∃ u, Td K H2 u (.tuple [.int p.1, .int p.2]) ∧ σ2 = (wipe σ vs).set j (some u)) (fun H' fr => ⟨SqL.of (fr.lst0 ha), SqL.of (fr.lst0 hb)⟩) ?_ ?_ hd
  · rw [List.length_zip]
    exact Nat.lt_of_le_of_lt (Nat.min_le_left _ _) hz
  · rintro i ⟨p1, p2⟩ v Ha Hb hp fa ⟨t, x, y, rfl, ht, rfl, hx, hy⟩ R hR
    rw [List.getElem?_zip_eq_some] at hp
    obtain ⟨e1, e2⟩ := hp
    have hx' : (xs.map V.int)[i]? = some x := hx
    have hy' : (ys.map V.int)[i]? = some y := hy
    rw [List.getElem?_map, e1] at hx'
    rw [List.getElem?_map, e2] at hy'
    obtain rfl := Option.some.inj hx'
    obtain rfl := Option.some.inj hy'
    exact hR _ _ (Fr.new ht) (hw _) ⟨_, td_new upd_same (.cons (.int _) (.cons (.int _) .nil)), rfl⟩
  · rintro i p σ2 H2 hp f2 ⟨u, tu, rfl⟩ R1 R2 h1 h2
    exact ht p u H2 (List.mem_of_getElem? hp) f2 tu R1 R2 h1 h2

/-- what a comprehension of two clauses asks once its first iterator has come -/
def Lc2Q (J : It) (g : TG) (tt : TT) (wi1 : TI) (g1 : TG) (tt1 : TT) (te : TE) (vs vs1 : List Nat) (σ : St) (H1 : Hp) (Q : VK) : Prop := ∀ D, H1 D = none → ∃ W : Nat → Nat → Hp → Prop, (∃ m, W 0 m (upd H1 D (.lst []))) ∧ ∀ i m H, W i m H →
  (J.stop i H ∧ Q (.ref D) H) ∨ (J.go i H ∧ ∃ Nx : Hp → Prop, (∀ H', Nx H' → ∃ m', m' < m ∧ W (i + 1) m' H') ∧ ∀ x H', J.yld i H x H' → g x (wipe σ vs) H' fun σ2 H2 => wipe σ2 vs = wipe σ vs ∧ tt σ2 H2 fun b H3 =>
    if b = true then wi1 σ2 H3 fun J1 H4 => ∃ W1 : Nat → Nat → Hp → Prop, (∃ m, W1 0 m H4) ∧ ∀ j k H, W1 j k H →
      (J1.stop j H ∧ Nx H) ∨ (J1.go j H ∧ ∃ Nx1 : Hp → Prop, (∀ H', Nx1 H' → ∃ k', k' < k ∧ W1 (j + 1) k' H') ∧ ∀ x H', J1.yld j H x H' → g1 x (wipe σ2 vs1) H' fun σ3 H5 => wipe σ3 vs1 = wipe σ2 vs1 ∧ tt1 σ3 H5 fun b H6 =>
        if b = true then te σ3 H6 fun y H7 => ∃ acc, H7 D = some (.lst acc) ∧ acc.length < sizeLine ∧ Nx1 (upd H7 D (.lst (acc ++ [y]))) else Nx1 H6)
    else Nx H3)
theorem r_lc2 {wi wi1 : TI} {g g1 : TG} {tt tt1 : TT} {te : TE} {vs vs1 : List Nat} {σ : St} {H : Hp} {Q : VK} (h : wi σ H fun J H1 => Lc2Q J g tt wi1 g1 tt1 te vs vs1 σ H1 Q) : tLc2 wi g tt wi1 g1 tt1 te vs vs1 σ H Q := h
/-- the second source: a new list, or a tuple, of ints -/
def Src (K : PySem.W.Frag) (H2 : Hp) (J1 : It) (H4 : Hp) (ns : List Int) : Prop := ∃ p, (J1 = Itl K p ∧ Fresh H2 p ∧ H4 p = some (.lst (ns.map V.int))) ∨ (J1 = Itt K p ∧ SqT K H4 p (ns.map V.int))
theorem lc2_td {J : It} {n : Nat} {G : Hp → Prop} {Y : Nat → Hp → V → Hp → Prop} (w : Walk J n G Y) {α : Type} (as : List α) (hn : as.length = n) (bs : α → List Int) (hz : (as.flatMap bs).length < sizeLine) {g : TG} {wi1 : TI} {j1 : Nat} {vs : List Nat} {σ : St} {H1 : Hp} {Q : VK}
    (Tn : α → St → Hp → Prop) (hG : ∀ H', Fr T [] H1 H' → G H') (hj : ∀ a σ2 H2, Tn a σ2 H2 → j1 < σ2.length)
    (hg : ∀ (i : Nat) (a : α) (x : V) (Ha Hb : Hp), as[i]? = some a → Fr T [] H1 Ha → Y i Ha x Hb → ∀ R : St → Hp → Prop, (∀ σ2 H2, Fr T [] Ha H2 → wipe σ2 vs = wipe σ vs → Tn a σ2 H2 → R σ2 H2) → g x (wipe σ vs) Hb R)
    (hi : ∀ (i : Nat) (a : α) (σ2 : St) (H2 : Hp), as[i]? = some a → Fr T [] H1 H2 → Tn a σ2 H2 → ∀ R : It → Hp → Prop, (∀ J1 H4, Fr T [] H2 H4 → Src K H2 J1 H4 (bs a) → R J1 H4) → wi1 σ2 H2 R)
    (hd : ∀ (D : Addr) (H' : Hp), H1 D = none → Fr T [] H1 H' → H' D = some (.lst ((as.flatMap bs).map V.int)) → Q (.ref D) H') : Lc2Q J g tYes wi1 (gName j1) tYes (tVar j1) vs [j1] σ H1 Q := by
  subst hn
  intro D hD
  refine ⟨fun i m H => m = as.length - i ∧ i ≤ as.length ∧ Fr T [] H1 H ∧ H D = some (.lst (((as.take i).flatMap bs).map V.int)), ⟨as.length, rfl, Nat.zero_le _, Fr.new hD, upd_same⟩, ?_⟩
  rintro i m H ⟨rfl, hi2, fr, hDi⟩
  have gH := hG H fr
  by_cases hlt : i < as.length
  · have ha : as[i]? = some as[i] := List.getElem?_eq_getElem hlt
    refine Or.inr ⟨w.goes i H hlt gH, fun H' => Fr T [] H1 H' ∧ H' D = some (.lst (((as.take (i + 1)).flatMap bs).map V.int)), fun H' p => ⟨as.length - (i + 1), by omega, rfl, hlt, p.1, p.2⟩, fun x Hb y => ?_⟩
    refine hg i as[i] x H Hb ha fr (w.yields i H x Hb hlt gH y) _ fun σ2 H2 f2 hw tn => ⟨hw, ?_⟩
    refine r_yes ?_
    refine iteT ?_
    refine hi i as[i] σ2 H2 ha (fr.trans f2) tn _ fun J1 H4 f4 src => ?_
    have hj' := hj _ _ _ tn
    have hD2 : H2 D = some (.lst (((as.take i).flatMap bs).map V.int)) := f2.lst0 hDi
    have hD4 := f4.lst0 hD2
    have fr4 := (fr.trans f2).trans f4
    have e1 : (as.take (i + 1)).flatMap bs = (as.take i).flatMap bs ++ bs as[i] := by
      rw [take_snoc ha, List.flatMap_append]
      simp
    have hm : ∀ k, ((as.take i).flatMap bs ++ (bs as[i]).take k).length ≤ (as.flatMap bs).length := by
      intro k
      have h1 : ((as.take i).flatMap bs ++ (bs as[i]).take k).length ≤ ((as.take (i + 1)).flatMap bs).length := by
        rw [e1, List.length_append, List.length_append, List.length_take]
        exact Nat.add_le_add_left (Nat.min_le_right _ _) _
      have h2 : as.flatMap bs = (as.take (i + 1)).flatMap bs ++ (as.drop (i + 1)).flatMap bs := by
        rw [← List.flatMap_append, List.take_append_drop]
      rw [h2]
      refine Nat.le_trans h1 ?_
      generalize (as.take (i + 1)).flatMap bs = u
      rw [List.length_append]
      exact Nat.le_add_right _ _
    have main : ∀ (G1 : Hp → Prop), Walk J1 ((bs as[i]).map V.int).length G1 (YAt ((bs as[i]).map V.int)) → (∀ H', Fr T [D] H4 H' → G1 H') →
      ∃ W1 : Nat → Nat → Hp → Prop, (∃ m, W1 0 m H4) ∧ ∀ j k H, W1 j k H →
        (J1.stop j H ∧ (Fr T [] H1 H ∧ H D = some (.lst (((as.take (i + 1)).flatMap bs).map V.int)))) ∨ (J1.go j H ∧ ∃ Nx1 : Hp → Prop, (∀ H', Nx1 H' → ∃ k', k' < k ∧ W1 (j + 1) k' H') ∧ ∀ x H', J1.yld j H x H' → gName j1 x (wipe σ2 [j1]) H' fun σ3 H5 => wipe σ3 [j1] = wipe σ2 [j1] ∧ tYes σ3 H5 fun b H6 =>
          if b = true then tVar j1 σ3 H6 fun y H7 => ∃ acc, H7 D = some (.lst acc) ∧ acc.length < sizeLine ∧ Nx1 (upd H7 D (.lst (acc ++ [y]))) else Nx1 H6) := by
      intro G1 w1 k1
      refine ⟨fun k m H' => m = (bs as[i]).length - k ∧ k ≤ (bs as[i]).length ∧ Fr T [] H1 H' ∧ Fr T [D] H4 H' ∧ H' D = some (.lst (((as.take i).flatMap bs ++ (bs as[i]).take k).map V.int)), ⟨(bs as[i]).length, rfl, Nat.zero_le _, fr4, Fr.reflM (fun p hp => by simp at hp; subst hp; exact ⟨_, hD4⟩), by rw [List.take_zero, List.append_nil]; exact hD4⟩, ?_⟩
      rintro k m H' ⟨rfl, hk, fa, fb, hx⟩
      have g1 := k1 H' fb
      by_cases hk2 : k < (bs as[i]).length
      · refine Or.inr ⟨w1.goes k H' (by rw [List.length_map]; exact hk2) g1, fun H'' => Fr T [] H1 H'' ∧ Fr T [D] H4 H'' ∧ H'' D = some (.lst (((as.take i).flatMap bs ++ (bs as[i]).take (k + 1)).map V.int)), fun H'' p => ⟨(bs as[i]).length - (k + 1), by omega, rfl, hk2, p.1, p.2.1, p.2.2⟩, fun v Hv yv => ?_⟩
        obtain ⟨rfl, ev⟩ := w1.yields k H' v Hv (by rw [List.length_map]; exact hk2) g1 yv
        rw [List.getElem?_map, List.getElem?_eq_getElem hk2] at ev
        obtain rfl := Option.some.inj ev
        have es : (wipe σ2 [j1]).set j1 (some (V.int (bs as[i])[k])) = σ2.set j1 (some (V.int (bs as[i])[k])) := by
          show (σ2.set j1 none).set j1 _ = _
          rw [List.set_set]
        show wipe ((wipe σ2 [j1]).set j1 (some (V.int (bs as[i])[k]))) [j1] = wipe σ2 [j1] ∧ _
        rw [es]
        refine ⟨by show (σ2.set j1 _).set j1 none = σ2.set j1 none; rw [List.set_set], ?_⟩
        refine r_yes ?_
        refine iteT ⟨V.int (bs as[i])[k], by rw [List.getElem?_set_self hj'], _, hx, ?_, fa.mut (Fresh.of hD) hx, fb.andSet (by simp), ?_⟩
        · rw [List.length_map]
          exact Nat.lt_of_le_of_lt (hm k) hz
        · rw [upd_same, take_snoc (List.getElem?_eq_getElem hk2), ← List.append_assoc, List.map_append (l₁ := _ ++ _)]
          rfl
      · have ek : k = (bs as[i]).length := by omega
        subst ek
        refine Or.inl ⟨?_, fa, ?_⟩
        · have := w1.stops H' g1
          rwa [List.length_map] at this
        · rw [e1, hx, List.take_of_length_le (Nat.le_refl _)]
    obtain ⟨p, ⟨rfl, hp, h4⟩ | ⟨rfl, h4⟩⟩ := src
    · have npD : p ∉ [D] := by
        have := hp.lst hD2
        simpa using this.symm
      exact main _ walk_list fun H' f' => SqL.of (f'.lst h4 npD)
    · exact main _ walk_tup fun H' f' => f'.sqT h4
  · have ei : i = as.length := by omega
    subst ei
    refine Or.inl ⟨w.stops H gH, hd D H hD fr ?_⟩
    rw [hDi, List.take_of_length_le (Nat.le_refl _)]
end

/-! ### a def with its code object -/
section
variable {P : Program} {w : World} {K : PySem.W.Frag} {mg : Str → Option Value} {base : Heap} {x : Str} {st : Stmt} {N : List Str} {k : Nat}
theorem okC {CX : CXT} {ps : List Str} {sp : Sp} {params : Arguments} {bd : List Stmt} {scope : Scope} {f : Addr} {fd : FuncData} (F : FunD K x x params bd scope [] [] f fd) (S : FnScope N ps scope) (len : ∀ vs H Q E, sp vs H Q E → vs.length = ps.length)
    (hbody : ∀ (c : Addr) (A : Around) (outer : List Env) (s : Shared) (H : Hp) (vs : List V) (Q : VK) (E : XK), (∃ oc od osl, K.lookup f = some ⟨oc, od, .func fd, osl⟩) → fd.code = .ref c → Room k (A.deeper (PyProof.Rows.envOfC x scope s.heap.objs.size f (.ref c))) → sp vs H Q E →
      ∃ t, PSs (cxOf CX P w K mg base N x scope f (.ref c) A outer s H E) bd t ∧ t { nx := fun _ H' => Q .non H', rt := Q } (start N vs) H) : FnOk P w K mg base CX (k + 1) f fd ps sp := by
  obtain ⟨oc, od, dV, kV, doc, pm, an, cdv, ct, osl, e, lk, hcd, _, _⟩ := F.ex
  obtain ⟨c, rfl⟩ := He.codeIn_ref hcd
  have ec : fd.code = .ref c := by rw [e]
  subst e
  exact fn_of lk hcd S len fun A outer s H vs Q E hr hsp => hbody c A outer s H vs Q E ⟨_, _, _, lk⟩ ec hr hsp
/-- what is known of the table of the def x -/
def TabAt (K : PySem.W.Frag) (mg : Str → Option Value) (base : Heap) (x : Str) (Pa : Addr) : Prop := ∀ f fd c, mg x = some (.ref f) → (∃ oc od osl, K.lookup f = some ⟨oc, od, .func fd, osl⟩) → fd.code = .ref c → LamX.TabB base mg c Pa
theorem dn3C {Pa : Addr} {p1 p2 p3 : Str} {R : V → V → V → Hp → VK → Prop} (A0 : At K mg x st) (TA : TabAt K mg base x Pa) (S : FnScope N [p1, p2, p3] (defScope st)) (hb : ∀ f fd, FnP K x st f fd → Binds K fd [p1, p2, p3] [])
    (body : ∀ (f c : Addr) (A : Around) (outer : List Env) (s : Shared) (H : Hp) (a b d : V) (Q : VK) (E : XK), LamX.TabB base mg c Pa → Room k (A.deeper (PyProof.Rows.envOfC x (defScope st) s.heap.objs.size f (.ref c))) → R a b d H Q →
      ∃ t, PSs (cxOf CX0 P w K mg base N x (defScope st) f (.ref c) A outer s H E).nox (defBody st) t ∧ t { nx := fun _ H' => Q .non H', rt := Q } (start N [a, b, d]) H) : Dn P w K mg base x [p1, p2, p3] (k + 1) (Sp3 R) := by
  obtain ⟨f, fd, F, gf⟩ := A0
  refine ⟨f, fd, okC F S (fun vs H Q E h => ?_) (fun c A outer s H vs Q E lk ec hr h => ?_), gf, F.kp, hb f fd F⟩
  · obtain ⟨_, _, _, rfl, _⟩ := h; rfl
  · obtain ⟨a, b, d, rfl, h⟩ := h
    obtain ⟨t, ht, hq⟩ := body f c A outer s H a b d Q E (TA f fd c gf lk ec) hr h
    exact ⟨t, ht.nox, hq⟩
end
end Nc
set_option maxHeartbeats 4000000
/-! P5: traders. -/
namespace Nc
open PySem PySem.Spec L2
theorem vis_of {X : Cx} {sc : Scope} {x : Str} (e : X.env.scope = sc) (h : Vis sc x) : Vis X.env.scope x := e ▸ h
theorem fr_by (sc : Scope) {l : List (Str × NameKind)} (h : (l.all fun y => !(decide (y.2 = .free)) || decide (sc.names.lookup y.1 = some .cell)) = true) : ∀ y ∈ l, y.2 = .free → sc.names.lookup y.1 = some .cell ∨ sc.names.lookup y.1 = some .free := by
  intro y hy e
  have := List.all_eq_true.mp h y hy
  rw [Bool.or_eq_true] at this
  rcases this with h | h
  · rw [e] at h
    exact absurd h (by decide)
  · exact Or.inl (of_decide_eq_true h)
section
variable {K : PySem.W.Frag} {T : List (Addr × Str)} {σ : St} {H : Hp} {Q : VK}
theorem r_sk {N : List Str} {js : List Nat} {t : TA} {tb : TE} (h : t σ H fun vs H1 => ∃ a ns kf, vs = [.ref a] ∧ SqL K H1 a (ns.map V.int) ∧ ns.length ≤ 1000 ∧ LamX.Tabs T H1 ∧
  (∀ n ∈ ns, ∀ H2, Fr T [] H1 H2 → ∀ R : VK, (∀ t H3, Fr T [] H2 H3 → H3 t = some (.tup [.int (kf n), .int n]) → R (.ref t) H3) → tb (NdefX.startF N [.int n] (js.map (NdefX.slotAt σ))) H2 R) ∧
  ∀ p H', Fresh H1 p → Fr T [] H1 H' → H' p = some (.lst ((sortK kf ns).map V.int)) → Q (.ref p) H') : tSortKey K T N js t tb σ H Q := h
theorem r_iZ {t : TA} {RI : It → Hp → Prop} (h : t σ H fun vs H1 => ∃ a b xs ys, vs = [.ref a, .ref b] ∧ SqL K H1 a xs ∧ SqL K H1 b ys ∧ RI (Itz K a b) H1) : iZip K t σ H RI := h
theorem r_dg {td ty : TE} (h : td σ H fun x H1 => ty σ H1 fun y H2 => ∃ a v, x = .ref a ∧ DGet H2 a y (some v) ∧ Q v H2) : tDGet td ty σ H Q := h
theorem r_dpS {td ty tv : TE} {us : TS} {D : Ends} (h : tv σ H fun v H1 => td σ H1 fun x H2 => ty σ H2 fun y H3 => ∃ a H4, x = .ref a ∧ DPut H3 a y v H4 ∧ us D σ H4) : tSeq (sDPut td ty tv) us D σ H := h
theorem r_dp1 {td ty tv : TE} {D : Ends} (h : tv σ H fun v H1 => td σ H1 fun x H2 => ty σ H2 fun y H3 => ∃ a H4, x = .ref a ∧ DPut H3 a y v H4 ∧ D.nx σ H4) : sDPut td ty tv D σ H := h
theorem r_dn (h : ∀ p, H p = none → Q (.ref p) (upd H p (.dK []))) : tDNewK σ H Q := h
theorem tdAll5 {xs : List V} {d0 d1 d2 d3 d4 : PyData} (h : TdAll K H xs [d0, d1, d2, d3, d4]) : ∃ y0 y1 y2 y3 y4, xs = [y0, y1, y2, y3, y4] ∧ Td K H y0 d0 ∧ Td K H y1 d1 ∧ Td K H y2 d2 ∧ Td K H y3 d3 ∧ Td K H y4 d4 := by
  cases h with | cons t0 h => cases h with | cons t1 h => cases h with | cons t2 h => cases h with | cons t3 h => cases h with | cons t4 h => cases h; exact ⟨_, _, _, _, _, rfl, t0, t1, t2, t3, t4⟩
theorem tdAll3 {xs : List V} {d0 d1 d2 : PyData} (h : TdAll K H xs [d0, d1, d2]) : ∃ y0 y1 y2, xs = [y0, y1, y2] ∧ Td K H y0 d0 ∧ Td K H y1 d1 ∧ Td K H y2 d2 := by
  cases h with | cons t0 h => cases h with | cons t1 h => cases h with | cons t2 h => cases h; exact ⟨_, _, _, rfl, t0, t1, t2⟩
theorem tdAll2 {xs : List V} {d0 d1 : PyData} (h : TdAll K H xs [d0, d1]) : ∃ y0 y1, xs = [y0, y1] ∧ Td K H y0 d0 ∧ Td K H y1 d1 := by
  cases h with | cons t0 h => cases h with | cons t1 h => cases h; exact ⟨_, _, rfl, t0, t1⟩
end
theorem flat2_len : ∀ l : List (Int × Int), (l.flatMap fun p => [p.1, p.2]).length = 2 * l.length
  | [] => rfl
  | p :: l => by
    rw [List.flatMap_cons, List.length_append, flat2_len l, List.length_cons]
    show 2 + 2 * l.length = 2 * (l.length + 1)
    rw [Nat.mul_add, Nat.add_comm]
/-- a contract's number -/
def InC (cs : List Ctr) (n : Int) : Prop := 0 ≤ n ∧ n < cs.length
theorem at_nat {α : Type} {l : List α} {i : Nat} {x : α} (h : l[i]? = some x) : atI l (i : Int) = some x := by
  unfold atI
  have hi := (List.getElem?_eq_some_iff.mp h).1
  have e : ixN l.length (i : Int) = some i := by
    unfold ixN
    simp
    omega
  rw [e]
  exact h
theorem at_map {α β : Type} {l : List α} {e : α → β} {n : Int} {x : α} (h0 : 0 ≤ n) (h : l[n.toNat]? = some x) : atI (l.map e) n = some (e x) := by
  have := at_nat (l := l.map e) (i := n.toNat) (x := e x) (by rw [List.getElem?_map, h]; rfl)
  rwa [Int.toNat_of_nonneg h0] at this
theorem inC_at {cs : List Ctr} {n : Int} (h : InC cs n) : ∃ c, cs[n.toNat]? = some c ∧ atI (cs.map eC) n = some (eC c) ∧ price cs n = c.2.2 := by
  have hl : n.toNat < cs.length := by
    have := h.1
    have := h.2
    omega
  refine ⟨cs[n.toNat], List.getElem?_eq_getElem hl, at_map h.1 (List.getElem?_eq_getElem hl), ?_⟩
  unfold price
  rw [List.getElem?_eq_getElem hl]
  rfl
local macro_rules | `(tactic| walk_at "st") => `(tactic| (repeat (first
  | ((with_reducible refine' r_var ?e ?_); (case e => exact rfl))
  | (with_reducible refine' r_op ?_)
  | (with_reducible refine' r_c ?_)
  | (with_reducible refine' r_cons ?_)
  | (with_reducible refine' r_nil ?_)
  | (with_reducible refine' r_cb ?_)
  | (with_reducible refine' r_call ?_)
  | (with_reducible refine' r_test ?_)
  | (with_reducible refine' r_lc ?_)
  | (with_reducible refine' r_lc2 ?_)
  | (with_reducible refine' r_sk ?_)
  | (with_reducible refine' r_iZ ?_)
  | (with_reducible refine' r_dg ?_)
  | (with_reducible refine' r_dpS ?_)
  | (with_reducible refine' r_dp1 ?_)
  | (with_reducible refine' r_dn ?_)
  | (with_reducible refine' r_iT ?_)
  | (with_reducible refine' r_iL ?_)
  | (with_reducible refine' r_iE ?_)
  | (with_reducible refine' r_iR ?_)
  | (with_reducible refine' r_ret ?_)
  | (with_reducible refine' r_asgS ?_)
  | (with_reducible refine' r_asg1 ?_)
  | (with_reducible refine' r_asgTS ?_)
  | (with_reducible refine' r_ifS ?_)
  | (with_reducible refine' r_if1 ?_)
  | (with_reducible refine' r_forS ?_)
  | (with_reducible refine' r_for1 ?_)
  | (with_reducible refine' r_dropS ?_)
  | (with_reducible refine' r_drop1 ?_)
  | (with_reducible refine' r_tup ?_)
  | (with_reducible refine' r_lst ?_)
  | (with_reducible refine' r_sl ?_)
  | (with_reducible refine' r_noP ?_)
  | (with_reducible refine' r_part ?_)
  | (with_reducible refine' r_bm ?_)
  | (with_reducible refine' r_bm0 ?_)
  | (with_reducible refine' r_un ?_)
  | (with_reducible refine' r_notV ?_)
  | (with_reducible refine' r_B ?_)
  | (with_reducible refine' r_and ?_)
  | (with_reducible refine' r_or ?_)
  | (with_reducible refine' r_not ?_)
  | (with_reducible refine' r_yes ?_)
  | (with_reducible refine' r_next ?_)
  | (with_reducible refine' r_break ?_)
  | (with_reducible refine' r_gn ?_)
  | (with_reducible refine' r_tupRg ?_)
  | (with_reducible refine' r_rg1 ?_)
  )))
local macro_rules | `(tactic| walk_at "no") => `(tactic| (refine q_eqS ⟨_, rfl, ite2 (fun e => absurd (of_decide_eq_true e) (by decide +kernel)) (fun _ => ?_)⟩; walk_at "st"; try dsimp only))
local macro_rules | `(tactic| walk_at "yes") => `(tactic| (refine q_eqS ⟨_, rfl, ite2 (fun _ => ?_) (fun e => absurd (decide_eq_true rfl) e)⟩; walk_at "st"))
section
variable {P : Program} {w : World} {K : PySem.W.Frag} {mg : Str → Option Value} {base : Heap}
variable {T : List (Addr × Str)}
def sp_traded (K : PySem.W.Frag) (T : List (Addr × Str)) : Sp := Sp3 fun a b c H Q => ∃ (cs : List Ctr) (room cost : Int) (bs ss ns : List Int), Td K H a (.tuple (cs.map eC)) ∧ Td K H b (eP (.trader room cost bs ss)) ∧ SqI K H c ns ∧ LamX.Tabs T H ∧ bs.length ≤ 1000 ∧ ss.length ≤ 1000 ∧ 0 ≤ room ∧
  (∀ n ∈ bs, InC cs n) ∧ (∀ n ∈ ss, InC cs n) ∧ ∀ p H', Fresh H p → Fr T [] H H' → H' p = some (.lst ((progP (price cs) (.trader room cost bs ss) (fun c => decide (c ∈ ns))).map V.int)) → Q (.ref p) H'
/-! ### traded -/
abbrev s_traded : Stmt := topS 8
abbrev N_traded : List Str := ["contracts", "choice", "offered", "buys", "sells", "pairs", "_", "room", "cost", "pair", "contract"]
theorem sc_traded : FnScope N_traded ["contracts", "choice", "offered"] (defScope s_traded) := ⟨rfl, rfl, rfl, by decide +kernel, rfl, by decide +kernel, by decide +kernel⟩
theorem d_traded {Pa : Addr} (B : B0 mg) (TA : TabAt K mg base "traded" Pa) (hmT : (Pa, (("traded" : Str) ++ ".<locals>.") ++ "<lambda>") ∈ T) (huT : ∀ p ∈ T, p.1 = Pa → p.2 = (("traded" : Str) ++ ".<locals>.") ++ "<lambda>") (A0 : At K mg "traded" s_traded) (D_offered_of : Dn P w K mg base "offered_of" ["row", "offered"] 1 (sp_offered_of K T)) : Dn P w K mg base "traded" ["contracts", "choice", "offered"] 4 (sp_traded K T) := by
  obtain ⟨f_offered_of, fd_offered_of, G_offered_of, g_offered_of, k_offered_of, b_offered_of⟩ := D_offered_of
  refine dn3C A0 TA sc_traded (fun _ _ F => F.bindsN fun _ _ _ _ _ _ us hl => match us, hl with | [_, _, _], _ => rfl) fun f c A outer s H a0 a1 a2 Q E TB hr h => ?_
  have nd := sc_traded.nd
  refine ⟨_, (pss_cons
  (ps_asg (pv 1) (pg_tup rfl (pgs_cons (pg_name (i := 6) nd rfl (by first | exact Or.inl rfl | exact Or.inr rfl)) (pgs_cons (pg_name (i := 7) nd rfl (by first | exact Or.inl rfl | exact Or.inr rfl)) (pgs_cons (pg_name (i := 8) nd rfl (by first | exact Or.inl rfl | exact Or.inr rfl)) (pgs_cons (pg_name (i := 3) nd rfl (by first | exact Or.inl rfl | exact Or.inr rfl)) (pgs_cons (pg_name (i := 4) nd rfl (by first | exact Or.inl rfl | exact Or.inr rfl)) pgs_nil)))))))
  (pss_cons
  (ps_set (i := 3) nd rfl (by first | exact Or.inl rfl | exact Or.inr rfl) (pe_sortKey (K := K) (T := T) (k := 0) (N := ["contract", "contracts"]) (fr := ["contracts"]) (p1 := "contract") (js := [0]) rfl TB rfl hmT huT (hr.mono (by decide)) (by rfl) B.sorted (by decide +kernel) (pa_cons (pe_call G_offered_of (hr.mono (by decide)) (by rfl) g_offered_of k_offered_of b_offered_of .nil pass0 (pa_cons (pv 3) (pa_cons (pv 2) pa_nil))) pa_nil) (NdefX.nscope_by (by decide +kernel)) (fr_by (defScope s_traded) (by decide +kernel)) (by decide +kernel) rfl (fun _ _ _ _ _ _ => rfl) (fun F _ _ _ _ _ eF => (pe_tup (pa_cons (pe_ix (kIxT (K := K) rfl) (pe_ix (kIxT (K := K) rfl) (pv 1 (hv := vis_of eF (by first | exact Or.inl rfl | exact Or.inr (Or.inl rfl) | exact Or.inr (Or.inr rfl)))) (pv 0 (hv := vis_of eF (by first | exact Or.inl rfl | exact Or.inr (Or.inl rfl) | exact Or.inr (Or.inr rfl)))) (fun _ _ => rfl)) pe_int (fun _ _ => rfl)) (pa_cons (pv 0 (hv := vis_of eF (by first | exact Or.inl rfl | exact Or.inr (Or.inl rfl) | exact Or.inr (Or.inr rfl)))) pa_nil))))))
  (pss_cons
  (ps_set (i := 4) nd rfl (by first | exact Or.inl rfl | exact Or.inr rfl) (pe_sortKey (K := K) (T := T) (k := 0) (N := ["contract", "contracts"]) (fr := ["contracts"]) (p1 := "contract") (js := [0]) rfl TB rfl hmT huT (hr.mono (by decide)) (by rfl) B.sorted (by decide +kernel) (pa_cons (pe_call G_offered_of (hr.mono (by decide)) (by rfl) g_offered_of k_offered_of b_offered_of .nil pass0 (pa_cons (pv 4) (pa_cons (pv 2) pa_nil))) pa_nil) (NdefX.nscope_by (by decide +kernel)) (fr_by (defScope s_traded) (by decide +kernel)) (by decide +kernel) rfl (fun _ _ _ _ _ _ => rfl) (fun F _ _ _ _ _ eF => (pe_tup (pa_cons (pe_un un_neg (pe_ix (kIxT (K := K) rfl) (pe_ix (kIxT (K := K) rfl) (pv 1 (hv := vis_of eF (by first | exact Or.inl rfl | exact Or.inr (Or.inl rfl) | exact Or.inr (Or.inr rfl)))) (pv 0 (hv := vis_of eF (by first | exact Or.inl rfl | exact Or.inr (Or.inl rfl) | exact Or.inr (Or.inr rfl)))) (fun _ _ => rfl)) pe_int (fun _ _ => rfl))) (pa_cons (pv 0 (hv := vis_of eF (by first | exact Or.inl rfl | exact Or.inr (Or.inl rfl) | exact Or.inr (Or.inr rfl)))) pa_nil))))))
  (pss_cons
  (ps_set (i := 5) nd rfl (by first | exact Or.inl rfl | exact Or.inr rfl) (pe_slice (kSlL (K := K) rfl) (pe_lc (own := [("pair", 9)]) (g := (gName 9)) (by rfl) nd (pi_zip1 (K := K) rfl (by rfl) B.zip (pa_cons (pv 3) (pa_cons (pv 4) pa_nil))) (blkOk_by (own := [("pair", 9)]) (N := N_traded) (sc := defScope s_traded) (by decide +kernel)) (fun _ _ _ _ _ => (pg_name (i := 9) nd rfl (by first | exact Or.inl rfl | exact Or.inr rfl))) (fun _ _ _ _ _ => (pts_one (pt_cmpR op_gt (pe_ix (kIxT (K := K) rfl) (pe_ix (kIxT (K := K) rfl) (pv 0) (pe_ix (kIxT (K := K) rfl) (pv 9) pe_int (fun _ _ => rfl)) (fun _ _ => rfl)) pe_int (fun _ _ => rfl)) (pe_op op_add (pe_ix (kIxT (K := K) rfl) (pe_ix (kIxT (K := K) rfl) (pv 0) (pe_ix (kIxT (K := K) rfl) (pv 9) pe_int (fun _ _ => rfl)) (fun _ _ => rfl)) pe_int (fun _ _ => rfl)) (pv 8)) (by rfl)))) (fun _ _ _ _ _ => (pv 9))) po_none (po_some (pv 7))))
  (pss_one
  (ps_ret (pe_lc2 (own := [("pair", 9), ("contract", 10)]) (g := (gName 9)) (vs1 := [10]) (by rfl) nd (kpList (K := K) rfl (pv 5)) (blkOk_by (own := [("pair", 9), ("contract", 10)]) (N := N_traded) (sc := defScope s_traded) (by decide +kernel)) (by decide) (fun _ _ _ _ _ => (pg_name (i := 9) nd rfl (by first | exact Or.inl rfl | exact Or.inr rfl))) (fun _ _ _ _ _ => pts_nil) (fun _ _ _ _ _ => (kpTup (K := K) rfl (pv 9))) (fun _ _ _ _ _ => (pg_name (i := 10) nd rfl (by first | exact Or.inl rfl | exact Or.inr rfl))) (fun _ _ _ _ _ => pts_nil) (fun _ _ _ _ _ => (pv 10))))))))), ?_⟩
  obtain ⟨cs, room, cost, bs, ss, ns, tc, tch, sn, hT, hb, hs, hro, ib, is, q⟩ := h
  obtain ⟨ac, xs, rfl, sq, tx⟩ := tch.tup_inv
  obtain ⟨y0, y1, y2, y3, y4, rfl, t0, t1, t2, t3, t4⟩ := tdAll5 tx
  obtain rfl := t1.int_inv
  obtain rfl := t2.int_inv
  have t3' := t3
  have t4' := t4
  walk_at "st"
  refine ⟨ac, _, rfl, sq, rfl, _, _, rfl, _, _, rfl, _, _, rfl, _, _, rfl, _, _, rfl, rfl, ?_⟩
  walk_at "st"
  refine ⟨_, _, rfl, bs, ns, t3, sn, hb, fun p1 H1 hp1 f1 hx1 => ?_⟩
  walk_at "st"
  refine ⟨p1, _, price cs, rfl, SqL.of hx1, ?_, f1.tabs hT, fun n hn H2 f2 R hR => ?_, fun p2 H2 hp2 f2 hx2 => ?_⟩
  · exact Nat.le_trans (List.length_filter_le _ _) hb
  · have hn' : n ∈ bs := (List.mem_filter.mp hn).1
    obtain ⟨c, _, e1, e2⟩ := inC_at (ib n hn')
    walk_at "st"
    refine q_ixT (tc.mono (f1.trans f2)) e1 fun u1 h1 => ?_
    walk_at "st"
    refine q_ixT h1 (d := .int c.2.2) rfl fun u2 h2 => ?_
    obtain rfl := h2.int_inv
    walk_at "st"
    exact ⟨Nat.le_of_lt (line_of (show (2 : Nat) ≤ 100000 by decide)), fun t ht => hR t _ (Fr.new ht) (by rw [upd_same, e2])⟩
  have f02 := f1.trans f2
  walk_at "st"
  refine ⟨_, _, rfl, ss, ns, t4.mono f02, sn.mono f02, hs, fun p3 H3 hp3 f3 hx3 => ?_⟩
  have f03 := f02.trans f3
  walk_at "st"
  refine ⟨p3, _, fun c => -price cs c, rfl, SqL.of hx3, ?_, f03.tabs hT, fun n hn H4 f4 R hR => ?_, fun p4 H4 hp4 f4 hx4 => ?_⟩
  · exact Nat.le_trans (List.length_filter_le _ _) hs
  · have hn' : n ∈ ss := (List.mem_filter.mp hn).1
    obtain ⟨c, _, e1, e2⟩ := inC_at (is n hn')
    walk_at "st"
    refine q_ixT (tc.mono (f03.trans f4)) e1 fun u1 h1 => ?_
    walk_at "st"
    refine q_ixT h1 (d := .int c.2.2) rfl fun u2 h2 => ?_
    obtain rfl := h2.int_inv
    walk_at "st"
    refine q_U ?_
    walk_at "st"
    exact ⟨Nat.le_of_lt (line_of (show (2 : Nat) ≤ 100000 by decide)), fun t ht => hR t _ (Fr.new ht) (by rw [upd_same]; show _ = some (HO.tup [V.int (-price cs n), V.int n]); rw [e2])⟩
  have f04 := f03.trans f4
  generalize hB : sortK (price cs) (bs.filter fun c => decide (c ∈ ns)) = B at hx2
  generalize hS : sortK (fun c => -price cs c) (ss.filter fun c => decide (c ∈ ns)) = S at hx4
  have memB : ∀ n ∈ B, InC cs n := fun n hn => by
    rw [← hB] at hn
    exact ib n (List.mem_filter.mp ((sortK_perm _ _).mem_iff.mp hn)).1
  have memS : ∀ n ∈ S, InC cs n := fun n hn => by
    rw [← hS] at hn
    exact is n (List.mem_filter.mp ((sortK_perm _ _).mem_iff.mp hn)).1
  have lenB : B.length ≤ 1000 := by
    rw [← hB, (sortK_perm _ _).length_eq]
    exact Nat.le_trans (List.length_filter_le _ _) hb
  walk_at "st"
  refine lc_Z (T := T) ((f3.trans f4).lst0 hx2) hx4 (line_of (by omega)) (fun p => decide (price cs p.1 + cost < price cs p.2)) (fun p => .tuple [.int p.1, .int p.2]) (fun _ => rfl) ?_ ?_
  · rintro ⟨b1, s1⟩ u H5 hp f5 tu R1 R2 r1 r2
    have hb1 := List.of_mem_zip hp
    obtain ⟨c1, _, e1, e2⟩ := inC_at (memS s1 hb1.2)
    obtain ⟨c2, _, e3, e4⟩ := inC_at (memB b1 hb1.1)
    have tc5 := tc.mono (f04.trans f5)
    walk_at "st"
    refine q_ixT tu (d := .int s1) rfl fun u1 h1 => ?_
    obtain rfl := h1.int_inv
    walk_at "st"
    refine q_ixT tc5 e1 fun u2 h2 => ?_
    walk_at "st"
    refine q_ixT h2 (d := .int c1.2.2) rfl fun u3 h3 => ?_
    obtain rfl := h3.int_inv
    walk_at "st"
    refine q_ixT tu (d := .int b1) rfl fun u1 h1 => ?_
    obtain rfl := h1.int_inv
    walk_at "st"
    refine q_ixT tc5 e3 fun u2 h2 => ?_
    walk_at "st"
    refine q_ixT h2 (d := .int c2.2.2) rfl fun u3 h3 => ?_
    obtain rfl := h3.int_inv
    walk_at "st"
    refine q_I ?_
    refine q_I ⟨_, rfl, ?_⟩
    rw [← e2, ← e4]
    refine ite2 (fun e => ?_) (fun e => ?_)
    · walk_at "st"
      exact r1 e _ _ (Fr.refl _) tu
    · exact r2 (Bool.eq_false_iff.mpr e) _ (Fr.refl _)
  · intro D H5 zs hD f5 hz tz
    walk_at "st"
    refine ⟨_, rfl, ?_⟩
    refine q_slL hz fun p6 hp6 => ?_
    rw [cut_toI _ hro]
    have f6 : Fr T [] H5 (upd H5 p6 (.lst (zs.take room.toNat))) := Fr.new hp6
    generalize hH6 : upd H5 p6 (.lst (zs.take room.toNat)) = H6 at f6
    have hz6 : H6 p6 = some (.lst (zs.take room.toNat)) := by rw [← hH6, upd_same]
    have tz6 := (tz.mono f6).take room.toNat
    rw [← List.map_take] at tz6
    have hPr : (((B.zip S).filter fun p => decide (price cs p.1 + cost < price cs p.2)).take room.toNat) = pairsP (price cs) room cost bs ss (fun c => decide (c ∈ ns)) := by
      unfold pairsP
      rw [hB, hS]
    rw [hPr] at tz6
    have lenP : (pairsP (price cs) room cost bs ss (fun c => decide (c ∈ ns))).length ≤ 1000 := by
      rw [← hPr, List.length_take]
      have h1 := List.length_filter_le (fun p : Int × Int => decide (price cs p.1 + cost < price cs p.2)) (B.zip S)
      rw [List.length_zip] at h1
      omega
    generalize hL : pairsP (price cs) room cost bs ss (fun c => decide (c ∈ ns)) = L at tz6 lenP
    have q' : ∀ p H', Fresh H p → Fr T [] H H' → H' p = some (.lst ((L.flatMap fun p => [p.1, p.2]).map V.int)) → Q (.ref p) H' := by
      intro p H' h1 h2 h3
      refine q p H' h1 h2 ?_
      rw [h3, ← hL]
      rfl
    have hl6 : (zs.take room.toNat).length = L.length := by rw [tz6.length, List.length_map]
    have f06 := (f04.trans f5).trans f6
    walk_at "st"
    refine ⟨p6, rfl, ⟨_, SqL.of hz6⟩, ?_⟩
    refine lc2_td (T := T) (K := K) (walk_list (K := K) (a := p6) (xs := zs.take room.toNat)) L hl6.symm (fun p => [p.1, p.2]) ?_ (fun p σ2 H2 => ∃ u, Td K H2 u (.tuple [.int p.1, .int p.2]) ∧ σ2 = (wipe [some a0, some (.ref ac), some a2, some (.ref p2), some (.ref p4), some (.ref p6), some y0, some (.int room), some (.int cost), none, none] [9, 10]).set 9 (some u)) (fun H' fr => SqL.of (fr.lst0 hz6)) ?_ ?_ ?_ ?_
    · rw [flat2_len]
      exact line_of (by omega)
    · rintro p σ2 H2 ⟨u, _, rfl⟩
      rw [List.length_set, wipe_length]
      exact Nat.lt_succ_self 10
    · rintro i p x Ha Hb hp fa ⟨rfl, hx⟩ R hR
      obtain ⟨u, hu, tu⟩ := tz6.get (i := i) (d := .tuple [.int p.1, .int p.2]) (by rw [List.getElem?_map, hp]; rfl)
      rw [hx] at hu
      cases hu
      exact hR _ _ (Fr.refl _) rfl ⟨x, tu.mono fa, rfl⟩
    · rintro i p σ2 H2 hp f2 ⟨u, tu, rfl⟩ R hR
      obtain ⟨a, ys, rfl, s1, s2⟩ := tu.tup_inv
      have e := TdAll.ints (ns := [p.1, p.2]) s2
      subst e
      walk_at "st"
      exact ⟨a, rfl, ⟨_, s1⟩, hR _ _ (Fr.refl _) ⟨a, Or.inr ⟨rfl, s1⟩⟩⟩
    · intro D2 H7 hD2 f7 hx7
      exact q' D2 H7 (f06.there hD2) (f06.trans f7) hx7
end
end Nc
set_option maxHeartbeats 4000000
/-! P6: choices. -/
namespace Nc
open PySem PySem.Spec L2
def OkPl (cs : List Ctr) : Plain → Prop
  | .maker r b s => 0 ≤ r ∧ b.length ≤ 100 ∧ s.length ≤ 100
  | .sides br b sr s => 0 ≤ br ∧ 0 ≤ sr ∧ b.length ≤ 100 ∧ s.length ≤ 100
  | .table rows => rows.length ≤ 100 ∧ ∀ r ∈ rows, r.length ≤ 100
  | .trader r _ b s => 0 ≤ r ∧ b.length ≤ 100 ∧ s.length ≤ 100 ∧ (∀ n ∈ b, InC cs n) ∧ ∀ n ∈ s, InC cs n
  | .caps b bg s sg => b.length ≤ 100 ∧ s.length ≤ 100 ∧ bg.length ≤ 100 ∧ sg.length ≤ 100 ∧ (∀ g ∈ bg, g.1.length ≤ 100) ∧ ∀ g ∈ sg, g.1.length ≤ 100
def OkCh (cs : List Ctr) : Choice → Prop
  | .plain p => OkPl cs p
  | .split ps => ps.length ≤ 100 ∧ ∀ p ∈ ps, OkPl cs p
theorem filt_le {α : Type} {l : List α} {n : Nat} (p : α → Bool) (h : l.length ≤ n) : (l.filter p).length ≤ n := Nat.le_trans (List.length_filter_le _ _) h
theorem firstRow_len {rows : List (List Int)} {off : Int → Bool} {n : Nat} (h : ∀ r ∈ rows, r.length ≤ n) : (firstRow rows off).length ≤ n := by
  unfold firstRow
  cases e : rows.find? (rowIn off) with
  | none => exact Nat.zero_le _
  | some r => exact h r (List.mem_of_find?_eq_some e)
theorem pairsP_len {pr : Int → Int} {room cost : Int} {bs ss : List Int} {off : Int → Bool} {n : Nat} (h : bs.length ≤ n) : (pairsP pr room cost bs ss off).length ≤ n := by
  unfold pairsP
  rw [List.length_take]
  have h1 := List.length_filter_le (fun p : Int × Int => decide (pr p.1 + cost < pr p.2)) ((sortK pr (bs.filter off)).zip (sortK (fun c => -pr c) (ss.filter off)))
  rw [List.length_zip, (sortK_perm _ _).length_eq] at h1
  have h2 := filt_le off h
  omega
theorem progP_len {pr : Int → Int} {cs : List Ctr} {off : Int → Bool} {p : Plain} (h : OkPl cs p) : (progP pr p off).length ≤ 200 := by
  cases p with
  | maker r b s =>
    obtain ⟨_, h1, h2⟩ := h
    have e1 := filt_le off h1
    have e2 := filt_le off h2
    simp only [progP, List.length_append, List.length_take]
    omega
  | sides br b sr s =>
    obtain ⟨_, _, h1, h2⟩ := h
    have e1 := filt_le off h1
    have e2 := filt_le off h2
    simp only [progP, List.length_append, List.length_take]
    omega
  | table rows =>
    have := firstRow_len (off := off) h.2
    simp only [progP]
    omega
  | trader r c b s =>
    have := pairsP_len (pr := pr) (room := r) (cost := c) (ss := s) (off := off) h.2.1
    simp only [progP]
    rw [flat2_len]
    omega
  | caps b bg s sg =>
    obtain ⟨h1, h2, _⟩ := h
    have e1 := filt_le off h1
    have e2 := filt_le off h2
    have e3 := greedyP_len bg (b.filter off) []
    have e4 := greedyP_len sg (s.filter off) []
    simp only [progP, List.length_append, List.length_nil] at e3 e4 ⊢
    omega
theorem flat_len {α : Type} {f : α → List Int} {n : Nat} : ∀ {l : List α}, (∀ a ∈ l, (f a).length ≤ n) → (l.flatMap f).length ≤ l.length * n
  | [], _ => Nat.zero_le _
  | a :: l, h => by
    rw [List.flatMap_cons, List.length_append, List.length_cons, Nat.add_mul, Nat.one_mul, Nat.add_comm]
    exact Nat.add_le_add (flat_len fun b hb => h b (List.mem_cons_of_mem _ hb)) (h a List.mem_cons_self)
theorem nuMin2_int (a b : Int) : nuMin2 (.int a) (.int b) = some (.int (min a b)) := by
  unfold nuMin2
  show (some (decide (b < a))).map _ = _
  simp only [Option.map_some]
  by_cases h : b < a
  · rw [if_pos (decide_eq_true h), Int.min_eq_right (Int.le_of_lt h)]
  · rw [if_neg (by simpa using h), Int.min_eq_left (Int.not_lt.mp h)]
theorem q_min3 {a b c : Int} {H : Hp} {Q : VK} (q : Q (.int (min (min a b) c)) H) : rNuC3 nuMin3 [.int a, .int b, .int c] H Q := by
  refine ⟨_, _, _, _, rfl, ?_, q⟩
  unfold nuMin3
  rw [nuMin2_int]
  exact nuMin2_int _ _
/-- how deep a choice may be that is asked -/
def Dep : Nat → Choice → Prop
  | 0, _ => False
  | 1, c => ∃ p, c = .plain p
  | _ + 2, _ => True
theorem dep_plain {n : Nat} {ps : List Plain} (h : Dep (n + 1) (.split ps)) (p : Plain) : Dep n (.plain p) := by
  match n, h with
  | 0, ⟨_, e⟩ => cases e
  | 1, _ => exact ⟨p, rfl⟩
  | n + 2, _ => trivial
local macro_rules | `(tactic| walk_at "st") => `(tactic| (repeat (first
  | ((with_reducible refine' r_var ?e ?_); (case e => exact rfl))
  | (with_reducible refine' r_op ?_)
  | (with_reducible refine' r_c ?_)
  | (with_reducible refine' r_cons ?_)
  | (with_reducible refine' r_nil ?_)
  | (with_reducible refine' r_cb ?_)
  | (with_reducible refine' r_call ?_)
  | (with_reducible refine' r_test ?_)
  | (with_reducible refine' r_lc ?_)
  | (with_reducible refine' r_lc2 ?_)
  | (with_reducible refine' r_sk ?_)
  | (with_reducible refine' r_iZ ?_)
  | (with_reducible refine' r_dg ?_)
  | (with_reducible refine' r_dpS ?_)
  | (with_reducible refine' r_dp1 ?_)
  | (with_reducible refine' r_dn ?_)
  | (with_reducible refine' r_iT ?_)
  | (with_reducible refine' r_iL ?_)
  | (with_reducible refine' r_iE ?_)
  | (with_reducible refine' r_iR ?_)
  | (with_reducible refine' r_ret ?_)
  | (with_reducible refine' r_asgS ?_)
  | (with_reducible refine' r_asg1 ?_)
  | (with_reducible refine' r_asgTS ?_)
  | (with_reducible refine' r_ifS ?_)
  | (with_reducible refine' r_if1 ?_)
  | (with_reducible refine' r_forS ?_)
  | (with_reducible refine' r_for1 ?_)
  | (with_reducible refine' r_dropS ?_)
  | (with_reducible refine' r_drop1 ?_)
  | (with_reducible refine' r_tup ?_)
  | (with_reducible refine' r_lst ?_)
  | (with_reducible refine' r_sl ?_)
  | (with_reducible refine' r_noP ?_)
  | (with_reducible refine' r_part ?_)
  | (with_reducible refine' r_bm ?_)
  | (with_reducible refine' r_bm0 ?_)
  | (with_reducible refine' r_un ?_)
  | (with_reducible refine' r_notV ?_)
  | (with_reducible refine' r_B ?_)
  | (with_reducible refine' r_and ?_)
  | (with_reducible refine' r_or ?_)
  | (with_reducible refine' r_not ?_)
  | (with_reducible refine' r_yes ?_)
  | (with_reducible refine' r_next ?_)
  | (with_reducible refine' r_break ?_)
  | (with_reducible refine' r_gn ?_)
  | (with_reducible refine' r_tupRg ?_)
  | (with_reducible refine' r_rg1 ?_)
  )))
local macro_rules | `(tactic| walk_at "no") => `(tactic| (refine q_eqS ⟨_, rfl, ite2 (fun e => absurd (of_decide_eq_true e) (by decide +kernel)) (fun _ => ?_)⟩; walk_at "st"; try dsimp only))
local macro_rules | `(tactic| walk_at "yes") => `(tactic| (refine q_eqS ⟨_, rfl, ite2 (fun _ => ?_) (fun e => absurd (decide_eq_true rfl) e)⟩; walk_at "st"))
section
variable {P : Program} {w : World} {K : PySem.W.Frag} {mg : Str → Option Value} {base : Heap}
variable {T : List (Addr × Str)}
def sp_chosen_by (K : PySem.W.Frag) (T : List (Addr × Str)) (n : Nat) : Sp := Sp3 fun a b c H Q => ∃ (cs : List Ctr) (ch : Choice) (ns : List Int), Dep n ch ∧ Td K H a (.tuple (cs.map eC)) ∧ Td K H b (eCh ch) ∧ SqI K H c ns ∧ LamX.Tabs T H ∧ OkCh cs ch ∧
  ∀ p H', Fresh H p → Fr T [] H H' → H' p = some (.lst ((progC (price cs) ch (fun c => decide (c ∈ ns))).map V.int)) → Q (.ref p) H'
theorem chosen_by0 (A0 : At K mg "chosen_by" (topS 10)) (hb : ∀ f fd, FnP K "chosen_by" (topS 10) f fd → Binds K fd ["contracts", "choice", "offered"] []) {L : Nat} : Dn P w K mg base "chosen_by" ["contracts", "choice", "offered"] L (sp_chosen_by K T 0) := by
  obtain ⟨f, fd, F, gf⟩ := A0
  refine ⟨f, fd, ⟨fun vs H Q E h => ?_, fun A outer s H args us vs Q E _ _ _ _ h => ?_⟩, gf, F.kp, hb f fd F⟩
  · obtain ⟨_, _, _, _, _, _, _, h, _⟩ := h
    exact h.elim
  · obtain ⟨_, _, _, _, _, _, _, h, _⟩ := h
    exact h.elim
/-! ### chosen_by -/
abbrev s_chosen_by : Stmt := topS 10
abbrev N_chosen_by : List Str := ["contracts", "choice", "offered", "kind", "buys", "sells", "many", "part", "contract"]
theorem sc_chosen_by : FnScope N_chosen_by ["contracts", "choice", "offered"] (defScope s_chosen_by) := ⟨rfl, rfl, rfl, by decide +kernel, rfl, by decide +kernel, by decide +kernel⟩
theorem d_chosen_by {n L : Nat} (hL : 4 ≤ L) (B : B0 mg) (A0 : At K mg "chosen_by" s_chosen_by) (D_chosen_row : Dn P w K mg base "chosen_row" ["rows", "offered"] 1 (sp_chosen_row K T)) (D_traded : Dn P w K mg base "traded" ["contracts", "choice", "offered"] 4 (sp_traded K T)) (D_within_caps : Dn P w K mg base "within_caps" ["row", "groups", "offered"] 2 (sp_within_caps K T)) (D_chosen_by : Dn P w K mg base "chosen_by" ["contracts", "choice", "offered"] L (sp_chosen_by K T n)) (D_wishes_of : Dn P w K mg base "wishes_of" ["choice"] 1 (sp_wishes_of K T)) (D_offered_of : Dn P w K mg base "offered_of" ["row", "offered"] 1 (sp_offered_of K T)) : Dn P w K mg base "chosen_by" ["contracts", "choice", "offered"] (L + 1) (sp_chosen_by K T (n + 1)) := by
  obtain ⟨f_chosen_row, fd_chosen_row, G_chosen_row, g_chosen_row, k_chosen_row, b_chosen_row⟩ := D_chosen_row
  obtain ⟨f_traded, fd_traded, G_traded, g_traded, k_traded, b_traded⟩ := D_traded
  obtain ⟨f_within_caps, fd_within_caps, G_within_caps, g_within_caps, k_within_caps, b_within_caps⟩ := D_within_caps
  obtain ⟨f_chosen_by, fd_chosen_by, G_chosen_by, g_chosen_by, k_chosen_by, b_chosen_by⟩ := D_chosen_by
  obtain ⟨f_wishes_of, fd_wishes_of, G_wishes_of, g_wishes_of, k_wishes_of, b_wishes_of⟩ := D_wishes_of
  obtain ⟨f_offered_of, fd_offered_of, G_offered_of, g_offered_of, k_offered_of, b_offered_of⟩ := D_offered_of
  refine dn3 A0 sc_chosen_by (fun _ _ F => F.bindsN fun _ _ _ _ _ _ us hl => match us, hl with | [_, _, _], _ => rfl) fun f cdv A outer s H a0 a1 a2 Q E hr h => ?_
  have nd := sc_chosen_by.nd
  refine ⟨_, (pss_cons
  (ps_set (i := 3) nd rfl (by first | exact Or.inl rfl | exact Or.inr rfl) (pe_ix (kIxT (K := K) rfl) (pv 1) pe_int (fun _ _ => rfl)))
  (pss_cons
  (ps_if (pt_cmpR op_eq (pv 3) pe_str (by rfl)) (pss_one
  (ps_ret (pe_call G_chosen_row (hr.mono (by omega)) (by rfl) g_chosen_row k_chosen_row b_chosen_row .nil pass0 (pa_cons (pe_ix (kIxT (K := K) rfl) (pv 1) pe_int (fun _ _ => rfl)) (pa_cons (pv 2) pa_nil))))) pss_nil)
  (pss_cons
  (ps_if (pt_cmpR op_eq (pv 3) pe_str (by rfl)) (pss_one
  (ps_ret (pe_call G_traded (hr.mono (by omega)) (by rfl) g_traded k_traded b_traded .nil pass0 (pa_cons (pv 0) (pa_cons (pv 1) (pa_cons (pv 2) pa_nil)))))) pss_nil)
  (pss_cons
  (ps_if (pt_cmpR op_eq (pv 3) pe_str (by rfl)) (pss_one
  (ps_ret (pe_op op_cat (pe_call G_within_caps (hr.mono (by omega)) (by rfl) g_within_caps k_within_caps b_within_caps .nil pass0 (pa_cons (pe_ix (kIxT (K := K) rfl) (pv 1) pe_int (fun _ _ => rfl)) (pa_cons (pe_ix (kIxT (K := K) rfl) (pv 1) pe_int (fun _ _ => rfl)) (pa_cons (pv 2) pa_nil)))) (pe_call G_within_caps (hr.mono (by omega)) (by rfl) g_within_caps k_within_caps b_within_caps .nil pass0 (pa_cons (pe_ix (kIxT (K := K) rfl) (pv 1) pe_int (fun _ _ => rfl)) (pa_cons (pe_ix (kIxT (K := K) rfl) (pv 1) pe_int (fun _ _ => rfl)) (pa_cons (pv 2) pa_nil))))))) pss_nil)
  (pss_cons
  (ps_if (pt_cmpR op_eq (pv 3) pe_str (by rfl)) (pss_one
  (ps_ret (pe_lc2 (own := [("part", 7), ("contract", 8)]) (g := (gName 7)) (vs1 := [8]) (by rfl) nd (kpTup (K := K) rfl (pe_ix (kIxT (K := K) rfl) (pv 1) pe_int (fun _ _ => rfl))) (blkOk_by (own := [("part", 7), ("contract", 8)]) (N := N_chosen_by) (sc := defScope s_chosen_by) (by decide +kernel)) (by decide) (fun _ _ _ _ _ => (pg_name (i := 7) nd rfl (by first | exact Or.inl rfl | exact Or.inr rfl))) (fun _ _ _ _ _ => pts_nil) (fun _ _ _ _ _ => (kpList (K := K) rfl (pe_call G_chosen_by (hr.mono (by omega)) (by rfl) g_chosen_by k_chosen_by b_chosen_by .nil pass0 (pa_cons (pv 0) (pa_cons (pv 7) (pa_cons (pv 2) pa_nil)))))) (fun _ _ _ _ _ => (pg_name (i := 8) nd rfl (by first | exact Or.inl rfl | exact Or.inr rfl))) (fun _ _ _ _ _ => pts_nil) (fun _ _ _ _ _ => (pv 8))))) pss_nil)
  (pss_cons
  (ps_asg (pe_call G_wishes_of (hr.mono (by omega)) (by rfl) g_wishes_of k_wishes_of b_wishes_of .nil pass0 (pa_cons (pv 1) pa_nil)) (pg_tup rfl (pgs_cons (pg_name (i := 4) nd rfl (by first | exact Or.inl rfl | exact Or.inr rfl)) (pgs_cons (pg_name (i := 5) nd rfl (by first | exact Or.inl rfl | exact Or.inr rfl)) pgs_nil))))
  (pss_cons
  (ps_set (i := 4) nd rfl (by first | exact Or.inl rfl | exact Or.inr rfl) (pe_call G_offered_of (hr.mono (by omega)) (by rfl) g_offered_of k_offered_of b_offered_of .nil pass0 (pa_cons (pv 4) (pa_cons (pv 2) pa_nil))))
  (pss_cons
  (ps_set (i := 5) nd rfl (by first | exact Or.inl rfl | exact Or.inr rfl) (pe_call G_offered_of (hr.mono (by omega)) (by rfl) g_offered_of k_offered_of b_offered_of .nil pass0 (pa_cons (pv 5) (pa_cons (pv 2) pa_nil))))
  (pss_cons
  (ps_if (pt_cmpR op_eq (pv 3) pe_str (by rfl)) (pss_one
  (ps_ret (pe_op op_cat (pe_slice (kSlL (K := K) rfl) (pv 4) po_none (po_some (pe_ix (kIxT (K := K) rfl) (pv 1) pe_int (fun _ _ => rfl)))) (pe_slice (kSlL (K := K) rfl) (pv 5) po_none (po_some (pe_ix (kIxT (K := K) rfl) (pv 1) pe_int (fun _ _ => rfl))))))) pss_nil)
  (pss_cons
  (ps_set (i := 6) nd rfl (by first | exact Or.inl rfl | exact Or.inr rfl) (pe_callB (call_min3Nu rfl) (by rfl) B.min (by decide +kernel) (pa_cons (pe_ix (kIxT (K := K) rfl) (pv 1) pe_int (fun _ _ => rfl)) (pa_cons (pe_callB (kLen (K := K) rfl) (by rfl) B.len PySem.boot_len (pa_cons (pv 4) pa_nil)) (pa_cons (pe_callB (kLen (K := K) rfl) (by rfl) B.len PySem.boot_len (pa_cons (pv 5) pa_nil)) pa_nil)))))
  (pss_one
  (ps_ret (pe_op op_cat (pe_slice (kSlL (K := K) rfl) (pv 4) po_none (po_some (pv 6))) (pe_slice (kSlL (K := K) rfl) (pv 5) po_none (po_some (pv 6)))))))))))))))), ?_⟩
  obtain ⟨cs, ch, ns, hd, tc, tch, sn, hT, ok, q⟩ := h
  generalize hoff : (fun c => decide (c ∈ ns)) = off at q
  have start : ∀ (kind : Str) (u : V) (R : Prop), Td K H u (.str kind) → u = .str kind := fun _ _ _ h => h.str_inv
  walk_at "st"
  match ch, hd, tch, ok, q with
  | .split ps, hd, tch, ok, q =>
    refine q_ixT tch (d := .str "split") rfl fun u0 t0 => ?_
    obtain rfl := t0.str_inv
    walk_at "st"
    walk_at "no"
    walk_at "st"
    walk_at "no"
    walk_at "st"
    walk_at "no"
    walk_at "st"
    walk_at "yes"
    refine q_ixT tch (d := .tuple (ps.map eP)) rfl fun u1 t1 => ?_
    obtain ⟨a, xs, rfl, s1, s2⟩ := t1.tup_inv
    walk_at "st"
    refine ⟨a, rfl, ⟨xs, s1⟩, ?_⟩
    refine lc2_td (T := T) (K := K) (walk_tup (K := K) (a := a) (xs := xs)) ps (by rw [s2.length, List.length_map]) (fun p => progP (price cs) p off) ?_ (fun p σ2 H2 => ∃ u, Td K H2 u (eP p) ∧ σ2 = (wipe [some a0, some a1, some a2, some (.str "split"), none, none, none, none, none] [7, 8]).set 7 (some u)) (fun H' fr => fr.sqT s1) ?_ ?_ ?_ ?_
    · have h1 := flat_len (l := ps) (f := fun p => progP (price cs) p off) (n := 200) fun p hp => progP_len (ok.2 p hp)
      have h2 := ok.1
      exact line_of (by omega)
    · rintro p σ2 H2 ⟨u, _, rfl⟩
      rw [List.length_set, wipe_length]
      exact Nat.lt_succ_self 8
    · rintro i p x Ha Hb hp fa ⟨rfl, hx⟩ R hR
      obtain ⟨u, hu, tu⟩ := s2.get (i := i) (d := eP p) (by rw [List.getElem?_map, hp]; rfl)
      rw [hx] at hu
      cases hu
      exact hR _ _ (Fr.refl _) rfl ⟨x, tu.mono fa, rfl⟩
    · rintro i p σ2 H2 hp f2 ⟨u, tu, rfl⟩ R hR
      walk_at "st"
      refine ⟨_, _, _, rfl, cs, .plain p, ns, dep_plain hd p, tc.mono f2, tu, sn.mono f2, f2.tabs hT, ok.2 p (List.mem_of_getElem? hp), fun p2 H4 hp2 f4 hx4 => ?_⟩
      rw [hoff] at hx4
      exact ⟨p2, rfl, ⟨_, SqL.of hx4⟩, hR _ _ f4 ⟨p2, Or.inl ⟨rfl, hp2, hx4⟩⟩⟩
    · intro D2 H7 hD2 f7 hx7
      exact q D2 H7 (Fresh.of hD2) f7 hx7
  | .plain (.table rows), hd, tch, ok, q =>
    refine q_ixT tch (d := .str "table") rfl fun u0 t0 => ?_
    obtain rfl := t0.str_inv
    walk_at "st"
    walk_at "yes"
    refine q_ixT tch (d := .tuple (rows.map tI)) rfl fun u1 t1 => ?_
    walk_at "st"
    refine ⟨_, _, rfl, rows, ns, t1, sn, Nat.le_trans ok.1 (by decide), fun r hr => Nat.le_trans (ok.2 r hr) (by decide), fun p H1 hp f1 hx => ?_⟩
    rw [hoff] at hx
    exact q p H1 hp f1 hx
  | .plain (.trader r c b s), hd, tch, ok, q =>
    refine q_ixT tch (d := .str "trader") rfl fun u0 t0 => ?_
    obtain rfl := t0.str_inv
    walk_at "st"
    walk_at "no"
    walk_at "st"
    walk_at "yes"
    obtain ⟨o1, o2, o3, o4, o5⟩ := ok
    refine ⟨_, _, _, rfl, cs, r, c, b, s, ns, tc, tch, sn, hT, Nat.le_trans o2 (by decide), Nat.le_trans o3 (by decide), o1, o4, o5, fun p H1 hp f1 hx => ?_⟩
    rw [hoff] at hx
    exact q p H1 hp f1 hx
  | .plain (.caps b bg s sg), hd, tch, ok, q =>
    refine q_ixT tch (d := .str "caps") rfl fun u0 t0 => ?_
    obtain rfl := t0.str_inv
    walk_at "st"
    walk_at "no"
    walk_at "st"
    walk_at "no"
    walk_at "st"
    walk_at "yes"
    obtain ⟨o1, o2, o3, o4, o5, o6⟩ := ok
    refine q_ixT tch (d := tI b) rfl fun u1 t1 => ?_
    walk_at "st"
    refine q_ixT tch (d := .tuple (bg.map eG)) rfl fun u2 t2 => ?_
    walk_at "st"
    refine ⟨_, _, _, rfl, b, bg, ns, t1, t2, sn, Nat.le_trans o1 (by decide), Nat.le_trans o3 (by decide), fun g hg => Nat.le_trans (o5 g hg) (by decide), fun p1 H1 hp1 f1 hx1 => ?_⟩
    rw [hoff] at hx1
    walk_at "st"
    refine q_ixT (tch.mono f1) (d := tI s) rfl fun u3 t3 => ?_
    walk_at "st"
    refine q_ixT (tch.mono f1) (d := .tuple (sg.map eG)) rfl fun u4 t4 => ?_
    walk_at "st"
    refine ⟨_, _, _, rfl, s, sg, ns, t3, t4, sn.mono f1, Nat.le_trans o2 (by decide), Nat.le_trans o4 (by decide), fun g hg => Nat.le_trans (o6 g hg) (by decide), fun p2 H2 hp2 f2 hx2 => ?_⟩
    rw [hoff] at hx2
    have hl : (progP (price cs) (.caps b bg s sg) off).length ≤ 200 := progP_len (cs := cs) ⟨o1, o2, o3, o4, o5, o6⟩
    simp only [progP, List.length_append] at hl
    refine q_cat (f2.lst0 hx1) hx2 ?_ fun p3 hp3 => ?_
    · rw [List.length_map, List.length_map]
      exact Nat.le_of_lt (line_of (by omega))
    · have f3 := (f1.trans f2).andNew (o := .lst ((greedyP bg (b.filter off) []).map V.int ++ (greedyP sg (s.filter off) []).map V.int)) hp3
      exact q p3 _ ((f1.trans f2).there hp3) f3 (by rw [upd_same, ← List.map_append]; rfl)
  | .plain (.maker r b s), hd, tch, ok, q =>
    refine q_ixT tch (d := .str "maker") rfl fun u0 t0 => ?_
    obtain rfl := t0.str_inv
    walk_at "st"
    walk_at "no"
    walk_at "st"
    walk_at "no"
    walk_at "st"
    walk_at "no"
    walk_at "st"
    walk_at "no"
    walk_at "st"
    obtain ⟨o1, o2, o3⟩ := ok
    refine ⟨_, rfl, b, s, Or.inr ⟨r, tch⟩, fun v H1 f1 tv => ?_⟩
    obtain ⟨av, xs, rfl, s1, s2⟩ := tv.tup_inv
    obtain ⟨y0, y1, rfl, t1, t2⟩ := tdAll2 s2
    refine ⟨av, _, rfl, s1, rfl, _, _, rfl, _, _, rfl, rfl, ?_⟩
    walk_at "st"
    refine ⟨_, _, rfl, b, ns, t1, sn.mono f1, Nat.le_trans o2 (by decide), fun p2 H2 hp2 f2 hx2 => ?_⟩
    walk_at "st"
    refine ⟨_, _, rfl, s, ns, t2.mono f2, (sn.mono f1).mono f2, Nat.le_trans o3 (by decide), fun p3 H3 hp3 f3 hx3 => ?_⟩
    rw [hoff] at hx2 hx3
    have f03 := (f1.trans f2).trans f3
    have hx2' := f3.lst0 hx2
    have e1 := filt_le off o2
    have e2 := filt_le off o3
    walk_at "st"
    walk_at "no"
    walk_at "st"
    refine q_ixT (tch.mono f03) (d := .int r) rfl fun u3 t3 => ?_
    obtain rfl := t3.int_inv
    walk_at "st"
    refine q_lenL hx2' ?_
    walk_at "st"
    refine q_lenL hx3 ?_
    rw [List.length_map, List.length_map]
    walk_at "st"
    refine q_min3 ?_
    generalize hm : min (min r ((b.filter off).length : Int)) ((s.filter off).length : Int) = m
    have hm0 : 0 ≤ m := by omega
    walk_at "st"
    refine ⟨_, rfl, q_slL hx2' fun p4 hp4 => ?_⟩
    rw [cut_toI _ hm0]
    walk_at "st"
    have f4 : Fr T [] H3 (upd H3 p4 (.lst (((b.filter off).map V.int).take m.toNat))) := Fr.new hp4
    refine ⟨_, rfl, q_slL (f4.lst0 hx3) fun p5 hp5 => ?_⟩
    rw [cut_toI _ hm0]
    have f5 := f4.andNew (o := .lst (((s.filter off).map V.int).take m.toNat)) hp5
    refine q_cat ((Fr.new (T := T) hp5).lst0 upd_same) upd_same ?_ fun p6 hp6 => ?_
    · simp only [List.length_take, List.length_map]
      exact Nat.le_of_lt (line_of (by omega))
    · have f6 := (f03.trans f5).andNew (o := .lst (((b.filter off).map V.int).take m.toNat ++ ((s.filter off).map V.int).take m.toNat)) hp6
      refine q p6 _ ((f03.trans f5).there hp6) f6 ?_
      rw [upd_same, ← List.map_take, ← List.map_take, ← List.map_append, ← hm]
      rfl
  | .plain (.sides br b sr s), hd, tch, ok, q =>
    refine q_ixT tch (d := .str "sides") rfl fun u0 t0 => ?_
    obtain rfl := t0.str_inv
    walk_at "st"
    walk_at "no"
    walk_at "st"
    walk_at "no"
    walk_at "st"
    walk_at "no"
    walk_at "st"
    walk_at "no"
    walk_at "st"
    obtain ⟨o0, o1, o2, o3⟩ := ok
    refine ⟨_, rfl, b, s, Or.inl ⟨br, sr, tch⟩, fun v H1 f1 tv => ?_⟩
    obtain ⟨av, xs, rfl, s1, s2⟩ := tv.tup_inv
    obtain ⟨y0, y1, rfl, t1, t2⟩ := tdAll2 s2
    refine ⟨av, _, rfl, s1, rfl, _, _, rfl, _, _, rfl, rfl, ?_⟩
    walk_at "st"
    refine ⟨_, _, rfl, b, ns, t1, sn.mono f1, Nat.le_trans o2 (by decide), fun p2 H2 hp2 f2 hx2 => ?_⟩
    walk_at "st"
    refine ⟨_, _, rfl, s, ns, t2.mono f2, (sn.mono f1).mono f2, Nat.le_trans o3 (by decide), fun p3 H3 hp3 f3 hx3 => ?_⟩
    rw [hoff] at hx2 hx3
    have f03 := (f1.trans f2).trans f3
    have hx2' := f3.lst0 hx2
    have e1 := filt_le off o2
    have e2 := filt_le off o3
    walk_at "st"
    walk_at "yes"
    refine q_ixT (tch.mono f03) (d := .int br) rfl fun u3 t3 => ?_
    obtain rfl := t3.int_inv
    refine ⟨_, rfl, q_slL hx2' fun p4 hp4 => ?_⟩
    rw [cut_toI _ o0]
    walk_at "st"
    have f4 : Fr T [] H3 (upd H3 p4 (.lst (((b.filter off).map V.int).take br.toNat))) := Fr.new hp4
    refine q_ixT ((tch.mono f03).mono f4) (d := .int sr) rfl fun u3 t3 => ?_
    obtain rfl := t3.int_inv
    refine ⟨_, rfl, q_slL (f4.lst0 hx3) fun p5 hp5 => ?_⟩
    rw [cut_toI _ o1]
    have f5 := f4.andNew (o := .lst (((s.filter off).map V.int).take sr.toNat)) hp5
    refine q_cat ((Fr.new (T := T) hp5).lst0 upd_same) upd_same ?_ fun p6 hp6 => ?_
    · simp only [List.length_take, List.length_map]
      exact Nat.le_of_lt (line_of (by omega))
    · have f6 := (f03.trans f5).andNew (o := .lst (((b.filter off).map V.int).take br.toNat ++ ((s.filter off).map V.int).take sr.toNat)) hp6
      refine q p6 _ ((f03.trans f5).there hp6) f6 ?_
      rw [upd_same, ← List.map_take, ← List.map_take, ← List.map_append]
      rfl
end
end Nc
set_option maxHeartbeats 4000000
/-! P7: choices of houses; stands. -/
namespace Nc
open PySem PySem.Spec L2
theorem units5 {k : Nat} {A : Around} (r : Room k A) : A.units + 65 < cLine := by have := r.un; omega
theorem units1 {k : Nat} {A : Around} (r : Room k A) : A.units + 1 < cLine := by have := r.un; omega
structure OkW (wb : Web Str) : Prop where
  nc : wb.cs.length ≤ 12
  nh : wb.hs.length ≤ 100
  ch : ∀ x ∈ wb.hs, OkCh wb.cs x.2
  se : ∀ c ∈ wb.cs, 0 ≤ c.1 ∧ c.1 < wb.hs.length
  bu : ∀ c ∈ wb.cs, 0 ≤ c.2.1 ∧ c.2.1 < wb.hs.length
def InH (wb : Web Str) (h : Int) : Prop := 0 ≤ h ∧ h < wb.hs.length
theorem inH_at {wb : Web Str} {h : Int} (hh : InH wb h) : ∃ x, wb.hs[h.toNat]? = some x ∧ x ∈ wb.hs ∧ atI (wb.hs.map eH) h = some (eH x) ∧ ∀ off, chooseW wb h off = sortI (progC (price wb.cs) x.2 off) := by
  have hl : h.toNat < wb.hs.length := by
    have := hh.1
    have := hh.2
    omega
  have e := List.getElem?_eq_getElem hl
  refine ⟨wb.hs[h.toNat], e, List.getElem_mem hl, at_map hh.1 e, fun off => ?_⟩
  unfold chooseW
  rw [e]
def offTo (wb : Web Str) (h : Int) (os as : List Int) : List Int := sortI (((buysOf wb.cs h).filter fun c => decide (c ∈ os)) ++ ((sellsOf wb.cs h).filter fun c => decide (c ∈ as)))
def chL (wb : Web Str) (h : Int) (os as : List Int) : List Int := chooseW wb h fun c => decide (c ∈ offTo wb h os as)
def stepP (wb : Web Str) (os as : List Int) (x : Ctr × Nat) : Bool := !decide ((x.2 : Int) ∈ as) || decide ((x.2 : Int) ∈ chL wb x.1.1 os as)
def stepQ (wb : Web Str) (os as : List Int) (x : Ctr × Nat) : Bool := !decide ((x.2 : Int) ∈ os) || decide ((x.2 : Int) ∈ chL wb x.1.2.1 os as)
def step (wb : Web Str) (s : List Int × List Int) : List Int × List Int :=
  ((wb.cs.zipIdx.filter (stepP wb s.1 s.2)).map fun x => (x.2 : Int), (wb.cs.zipIdx.filter (stepQ wb s.1 s.2)).map fun x => (x.2 : Int))
def iter (f : List Int × List Int → List Int × List Int) : Nat → List Int × List Int → List Int × List Int
  | 0, s => s
  | n + 1, s => f (iter f n s)
abbrev eS (s : List Int × List Int) : PyData := .tuple [tI s.1, tI s.2]
theorem eqv_eS (s t : List Int × List Int) : PyData.eqv (eS s) (eS t) = decide (s = t) := by
  rw [PyData.eqv, PyData.eqvAll, PyData.eqvAll, PyData.eqvAll, eqv_tI, eqv_tI]
  obtain ⟨a, b⟩ := s
  obtain ⟨c, d⟩ := t
  by_cases h1 : a = c <;> by_cases h2 : b = d <;> simp [h1, h2]
theorem eS_shaped (s : List Int × List Int) : SeqAt.shaped (eS s) = true := by
  have h1 := depth_ints s.1
  have h2 := depth_ints s.2
  have l1 := lay_ints s.1
  have l2 := lay_ints s.2
  show (PyData.canLay0 (eS s) && decide (PyData.depth (eS s) ≤ 64)) = true
  rw [Bool.and_eq_true]
  refine ⟨by simp [PyData.canLay0, PyData.canLayAll0, l1, l2], decide_eq_true ?_⟩
  simp only [PyData.depth, PyData.depthAll]
  omega
section
variable {T : List (Addr × Str)} {M : List Addr} {K : PySem.W.Frag} {σ : St} {H H1 : Hp} {D : Ends} {tb : TS} {v : V} {g : TG}
theorem q_neS {v u : V} {s t : List Int × List Int} {Q : VK} (h1 : Td K H v (eS s)) (h2 : Td K H u (eS t)) (q : Q (.bl (!decide (s = t))) H) : rNeD K v u H Q := ⟨eS s, eS t, h1.dp, h2.dp, eS_shaped _, eS_shaped _, by rw [eqv_eS]; exact q⟩
/-- over enumerate of a tuple of data -/
theorem for_E {α : Type} (as : List α) (e : α → PyData) (hv : Td K H1 v (.tuple (as.map e))) (Pv : Nat → St → Hp → Prop) (h0 : Pv 0 σ H1) (hF : ∀ i σ H', Pv i σ H' → Fr T M H1 H')
    (hs : ∀ (i : Nat) (a : α) (t : Addr) (u : V) (σ' : St) (H' : Hp), as[i]? = some a → Pv i σ' H' → H' t = none → Td K (upd H' t (.tup [.int (i : Int), u])) u (e a) → g (.ref t) σ' (upd H' t (.tup [.int (i : Int), u])) fun σ2 H2 => tb { D with nx := Pv (i + 1), ct := Pv (i + 1), bk := D.nx } σ2 H2)
    (hd : ∀ σ' H', Pv as.length σ' H' → D.nx σ' H') : ∃ a xs, [v] = [V.ref a] ∧ SqT K H1 a xs ∧ ForQ (IteT K a) g tb D σ H1 := by
  obtain ⟨a, xs, rfl, h1, h2⟩ := hv.tup_inv
  have hl : xs.length = as.length := by rw [h2.length, List.length_map]
  refine ⟨a, xs, rfl, h1, for_it (walk_enT (K := K) (a := a) (xs := xs)) Pv h0 (fun i σ' H' _ p => (hF i σ' H' p).sqT h1) ?_ (fun σ' H' p => hd σ' H' (hl ▸ p))⟩
  rintro i x σ' Ha Hb hi p ⟨t, y, z, rfl, ht, rfl, hy, hx⟩
  have ha : as[i]? = some as[i] := List.getElem?_eq_getElem (hl ▸ hi)
  obtain ⟨u, hu, tu⟩ := h2.get (i := i) (d := e as[i]) (by rw [List.getElem?_map, ha]; rfl)
  have hx' : xs[i]? = some z := hx
  have hy' : some (V.int (i : Int)) = some y := hy
  rw [hx'] at hu
  cases hu
  cases hy'
  exact hs i _ t z σ' Ha ha p ht ((tu.mono (hF i σ' Ha p)).mono (Fr.new (T := T) ht))
end
theorem filt_pos {α : Type} {zs : List α} {i : Nat} {x : α} {f : α → Int} {p : α → Bool} (h : zs[i]? = some x) (hp : p x = true) : (((zs.take (i + 1)).filter p).map f).map V.int = (((zs.take i).filter p).map f).map V.int ++ [V.int (f x)] := by
  rw [take_snoc h, List.filter_append, List.map_append, List.map_append, List.filter_cons, if_pos hp]
  rfl
theorem filt_neg {α : Type} {zs : List α} {i : Nat} {x : α} {f : α → Int} {p : α → Bool} (h : zs[i]? = some x) (hp : p x = false) : (((zs.take (i + 1)).filter p).map f).map V.int = (((zs.take i).filter p).map f).map V.int := by
  rw [take_snoc h, List.filter_append, List.map_append, List.map_append, List.filter_cons, if_neg (by rw [hp]; decide)]
  simp
theorem filt_len {α : Type} {zs : List α} {i n : Nat} {f : α → Int} {p : α → Bool} (h : zs.length ≤ n) : ((((zs.take i).filter p).map f).map V.int).length ≤ n := by
  rw [List.length_map, List.length_map]
  have h1 := List.length_filter_le p (zs.take i)
  rw [List.length_take] at h1
  omega
local macro_rules | `(tactic| walk_at "st") => `(tactic| (repeat (first
  | ((with_reducible refine' r_var ?e ?_); (case e => exact rfl))
  | (with_reducible refine' r_op ?_)
  | (with_reducible refine' r_c ?_)
  | (with_reducible refine' r_cons ?_)
  | (with_reducible refine' r_nil ?_)
  | (with_reducible refine' r_cb ?_)
  | (with_reducible refine' r_call ?_)
  | (with_reducible refine' r_test ?_)
  | (with_reducible refine' r_lc ?_)
  | (with_reducible refine' r_lc2 ?_)
  | (with_reducible refine' r_sk ?_)
  | (with_reducible refine' r_iZ ?_)
  | (with_reducible refine' r_dg ?_)
  | (with_reducible refine' r_dpS ?_)
  | (with_reducible refine' r_dp1 ?_)
  | (with_reducible refine' r_dn ?_)
  | (with_reducible refine' r_iT ?_)
  | (with_reducible refine' r_iL ?_)
  | (with_reducible refine' r_iE ?_)
  | (with_reducible refine' r_iR ?_)
  | (with_reducible refine' r_ret ?_)
  | (with_reducible refine' r_asgS ?_)
  | (with_reducible refine' r_asg1 ?_)
  | (with_reducible refine' r_asgTS ?_)
  | (with_reducible refine' r_ifS ?_)
  | (with_reducible refine' r_if1 ?_)
  | (with_reducible refine' r_forS ?_)
  | (with_reducible refine' r_for1 ?_)
  | (with_reducible refine' r_dropS ?_)
  | (with_reducible refine' r_drop1 ?_)
  | (with_reducible refine' r_tup ?_)
  | (with_reducible refine' r_lst ?_)
  | (with_reducible refine' r_sl ?_)
  | (with_reducible refine' r_noP ?_)
  | (with_reducible refine' r_part ?_)
  | (with_reducible refine' r_bm ?_)
  | (with_reducible refine' r_bm0 ?_)
  | (with_reducible refine' r_un ?_)
  | (with_reducible refine' r_notV ?_)
  | (with_reducible refine' r_B ?_)
  | (with_reducible refine' r_and ?_)
  | (with_reducible refine' r_or ?_)
  | (with_reducible refine' r_not ?_)
  | (with_reducible refine' r_yes ?_)
  | (with_reducible refine' r_next ?_)
  | (with_reducible refine' r_break ?_)
  | (with_reducible refine' r_gn ?_)
  | (with_reducible refine' r_tupRg ?_)
  | (with_reducible refine' r_rg1 ?_)
  )))
local macro_rules | `(tactic| walk_at "no") => `(tactic| (refine q_eqS ⟨_, rfl, ite2 (fun e => absurd (of_decide_eq_true e) (by decide +kernel)) (fun _ => ?_)⟩; walk_at "st"; try dsimp only))
local macro_rules | `(tactic| walk_at "yes") => `(tactic| (refine q_eqS ⟨_, rfl, ite2 (fun _ => ?_) (fun e => absurd (decide_eq_true rfl) e)⟩; walk_at "st"))
section
variable {P : Program} {w : World} {K : PySem.W.Frag} {mg : Str → Option Value} {base : Heap}
variable {T : List (Addr × Str)}
def sp_choose (K : PySem.W.Frag) (T : List (Addr × Str)) : Sp := Sp3 fun a b c H Q => ∃ (wb : Web Str) (h : Int) (ns : List Int), OkW wb ∧ LamX.Tabs T H ∧ Td K H a (eW wb) ∧ b = .int h ∧ InH wb h ∧ Td K H c (tI ns) ∧ ∀ v H', Fr T [] H H' → Td K H' v (tI (chooseW wb h fun c => decide (c ∈ ns))) → Q v H'
/-! ### choose -/
abbrev s_choose : Stmt := topS 11
abbrev N_choose : List Str := ["web", "house", "offered"]
theorem sc_choose : FnScope N_choose ["web", "house", "offered"] (defScope s_choose) := ⟨rfl, rfl, rfl, by decide +kernel, rfl, by decide +kernel, by decide +kernel⟩
theorem d_choose (B : B0 mg) (A0 : At K mg "choose" s_choose) (D_chosen_by : Dn P w K mg base "chosen_by" ["contracts", "choice", "offered"] 6 (sp_chosen_by K T 2)) : Dn P w K mg base "choose" ["web", "house", "offered"] 7 (sp_choose K T) := by
  obtain ⟨f_chosen_by, fd_chosen_by, G_chosen_by, g_chosen_by, k_chosen_by, b_chosen_by⟩ := D_chosen_by
  refine dn3 A0 sc_choose (fun _ _ F => F.bindsN fun _ _ _ _ _ _ us hl => match us, hl with | [_, _, _], _ => rfl) fun f cdv A outer s H a0 a1 a2 Q E hr h => ?_
  have nd := sc_choose.nd
  refine ⟨_, (pss_one
  (ps_ret (pe_callTy (kTuple (K := K) rfl) (by rfl) B.tuple (by decide +kernel) (pa_cons (pe_callB (kSorted (K := K) rfl) (by rfl) B.sorted (by decide +kernel) (pa_cons (pe_call G_chosen_by (hr.mono (by decide)) (by rfl) g_chosen_by k_chosen_by b_chosen_by .nil pass0 (pa_cons (pe_ix (kIxT (K := K) rfl) (pv 0) pe_int (fun _ _ => rfl)) (pa_cons (pe_ix (kIxT (K := K) rfl) (pe_ix (kIxT (K := K) rfl) (pe_ix (kIxT (K := K) rfl) (pv 0) pe_int (fun _ _ => rfl)) (pv 1) (fun _ _ => rfl)) pe_int (fun _ _ => rfl)) (pa_cons (pv 2) pa_nil)))) pa_nil)) pa_nil)))), ?_⟩
  obtain ⟨wb, hh, ns, ok, hT, tw, rfl, ih, tn, q⟩ := h
  obtain ⟨x, _, hx, e1, e2⟩ := inH_at ih
  walk_at "st"
  refine q_ixT tw (d := .tuple (wb.cs.map eC)) rfl fun u0 t0 => ?_
  walk_at "st"
  refine q_ixT tw (d := .tuple (wb.hs.map eH)) rfl fun u1 t1 => ?_
  walk_at "st"
  refine q_ixT t1 e1 fun u2 t2 => ?_
  walk_at "st"
  refine q_ixT t2 (d := eCh x.2) rfl fun u3 t3 => ?_
  walk_at "st"
  refine ⟨_, _, _, rfl, wb.cs, x.2, ns, trivial, t0, t3, SqI.of_t tn, hT, ok.ch x hx, fun p H1 hp f1 hx1 => ?_⟩
  walk_at "st"
  refine q_sortedL hx1 fun p2 hp2 => ?_
  walk_at "st"
  exact q_tupK (T := T) upd_same (tdAll_ints _) fun l H2 f2 t4 => q _ _ ((f1.andNew hp2).trans f2) (by rw [e2]; exact t4)
def sp_likes (K : PySem.W.Frag) (T : List (Addr × Str)) : Sp := Sp4 fun a b c d H Q => ∃ (wb : Web Str) (h : Int) (xs ys : List Int), OkW wb ∧ LamX.Tabs T H ∧ Td K H a (eW wb) ∧ b = .int h ∧ InH wb h ∧ Td K H c (tI xs) ∧ Td K H d (tI ys) ∧ xs.length ≤ 30 ∧ ys.length ≤ 30 ∧
  ∀ H', Fr T [] H H' → Q (.bl (decide (chooseW wb h (fun c => decide (c ∈ xs ∨ c ∈ ys)) = xs.filter fun c => decide (c ∈ ownOf wb.cs h)))) H'
/-! ### likes -/
abbrev s_likes : Stmt := topS 15
abbrev N_likes : List Str := ["web", "house", "one", "other"]
theorem sc_likes : FnScope N_likes ["web", "house", "one", "other"] (defScope s_likes) := ⟨rfl, rfl, rfl, by decide +kernel, rfl, by decide +kernel, by decide +kernel⟩
theorem d_likes (B : B0 mg) (A0 : At K mg "likes" s_likes) (D_choose : Dn P w K mg base "choose" ["web", "house", "offered"] 7 (sp_choose K T)) (D_joined_sets : Dn P w K mg base "joined_sets" ["one", "other"] 1 (sp_joined_sets K T)) (D_own_part : Dn P w K mg base "own_part" ["web", "house", "contracts"] 2 (sp_own_part K T)) : Dn P w K mg base "likes" ["web", "house", "one", "other"] 8 (sp_likes K T) := by
  obtain ⟨f_choose, fd_choose, G_choose, g_choose, k_choose, b_choose⟩ := D_choose
  obtain ⟨f_joined_sets, fd_joined_sets, G_joined_sets, g_joined_sets, k_joined_sets, b_joined_sets⟩ := D_joined_sets
  obtain ⟨f_own_part, fd_own_part, G_own_part, g_own_part, k_own_part, b_own_part⟩ := D_own_part
  refine dn4 A0 sc_likes (fun _ _ F => F.bindsN fun _ _ _ _ _ _ us hl => match us, hl with | [_, _, _, _], _ => rfl) fun f cdv A outer s H a0 a1 a2 a3 Q E hr h => ?_
  have hu := hr.units
  have hu5 := units5 hr
  have hu1 := units1 hr
  have nd := sc_likes.nd
  refine ⟨_, (pss_one
  (ps_ret (pe_cmpR (kEqD (K := K) hu rfl) (pe_call G_choose (hr.mono (by decide)) (by rfl) g_choose k_choose b_choose .nil pass0 (pa_cons (pv 0) (pa_cons (pv 1) (pa_cons (pe_call G_joined_sets (hr.mono (by decide)) (by rfl) g_joined_sets k_joined_sets b_joined_sets .nil pass0 (pa_cons (pv 2) (pa_cons (pv 3) pa_nil))) pa_nil)))) (pe_call G_own_part (hr.mono (by decide)) (by rfl) g_own_part k_own_part b_own_part .nil pass0 (pa_cons (pv 0) (pa_cons (pv 1) (pa_cons (pv 2) pa_nil)))) (by rfl)))), ?_⟩
  obtain ⟨wb, hh, xs, ys, ok, hT, tw, rfl, ih, tx, ty, lx, ly, q⟩ := h
  walk_at "st"
  refine ⟨_, _, rfl, xs, ys, tx, ty, lx, ly, fun l v H1 hl1 hl2 f1 tv => ?_⟩
  walk_at "st"
  refine ⟨_, _, _, rfl, wb, hh, l, ok, f1.tabs hT, tw.mono f1, rfl, ih, tv, fun v2 H2 f2 t2 => ?_⟩
  walk_at "st"
  refine ⟨_, _, _, rfl, wb, hh, xs, (tw.mono f1).mono f2, rfl, (tx.mono f1).mono f2, Nat.le_trans ok.nc (by decide), by omega, fun v3 H3 f3 t3 => ?_⟩
  refine q_eqT (t2.mono f3) t3 ?_
  have e : (fun c => decide (c ∈ l)) = fun c => decide (c ∈ xs ∨ c ∈ ys) := funext fun c => decide_eq_decide.mpr (hl2 c)
  rw [e]
  exact q H3 ((f1.trans f2).trans f3)
def sp_next_stand (K : PySem.W.Frag) (T : List (Addr × Str)) : Sp := Sp2 fun a b H Q => ∃ (wb : Web Str) (s : List Int × List Int), OkW wb ∧ LamX.Tabs T H ∧ Td K H a (eW wb) ∧ Td K H b (eS s) ∧ ∀ v H', Fr T [] H H' → Td K H' v (eS (step wb s)) → Q v H'
/-! ### next_stand -/
abbrev s_next_stand : Stmt := topS 19
abbrev N_next_stand : List Str := ["web", "stand", "chosen", "open_then", "asked_then", "is_open", "asked", "contract", "house", "seller", "buyer", "_"]
theorem sc_next_stand : FnScope N_next_stand ["web", "stand"] (defScope s_next_stand) := ⟨rfl, rfl, rfl, by decide +kernel, rfl, by decide +kernel, by decide +kernel⟩
theorem d_next_stand (B : B0 mg) (A0 : At K mg "next_stand" s_next_stand) (D_choose : Dn P w K mg base "choose" ["web", "house", "offered"] 7 (sp_choose K T)) (D_offered_to : Dn P w K mg base "offered_to" ["web", "house", "offers", "asked"] 2 (sp_offered_to K T)) : Dn P w K mg base "next_stand" ["web", "stand"] 8 (sp_next_stand K T) := by
  obtain ⟨f_choose, fd_choose, G_choose, g_choose, k_choose, b_choose⟩ := D_choose
  obtain ⟨f_offered_to, fd_offered_to, G_offered_to, g_offered_to, k_offered_to, b_offered_to⟩ := D_offered_to
  refine dn2 A0 sc_next_stand (fun _ _ F => F.bindsN fun _ _ _ _ _ _ us hl => match us, hl with | [_, _], _ => rfl) fun f cdv A outer s H a0 a1 Q E hr h => ?_
  have nd := sc_next_stand.nd
  refine ⟨_, (pss_cons
  (ps_asg (pv 1) (pg_tup rfl (pgs_cons (pg_name (i := 5) nd rfl (by first | exact Or.inl rfl | exact Or.inr rfl)) (pgs_cons (pg_name (i := 6) nd rfl (by first | exact Or.inl rfl | exact Or.inr rfl)) pgs_nil))))
  (pss_cons
  (ps_setLc (i := 2) (own := [("house", 8)]) (g := (gName 8)) (by rfl) nd rfl rfl (sw_true rfl rfl rfl (by decide +kernel)) (pi_range1 (by rfl) B.range (pa_cons (pe_callB (kLen (K := K) rfl) (by rfl) B.len PySem.boot_len (pa_cons (pe_ix (kIxT (K := K) rfl) (pv 0) pe_int (fun _ _ => rfl)) pa_nil)) pa_nil)) (blkOk_by (own := [("house", 8)]) (N := N_next_stand) (sc := defScope s_next_stand) (by decide +kernel)) (fun _ _ _ _ _ => (pg_name (i := 8) nd rfl (by first | exact Or.inl rfl | exact Or.inr rfl))) (fun _ _ _ _ _ => pts_nil) (fun _ _ _ _ _ => (pe_call G_choose (hr.mono (by decide)) (by rfl) g_choose k_choose b_choose .nil pass0 (pa_cons (pv 0) (pa_cons (pv 8) (pa_cons (pe_call G_offered_to (hr.mono (by decide)) (by rfl) g_offered_to k_offered_to b_offered_to .nil pass0 (pa_cons (pv 0) (pa_cons (pv 8) (pa_cons (pv 5) (pa_cons (pv 6) pa_nil))))) pa_nil))))))
  (pss_cons
  (ps_set (i := 3) nd rfl (by first | exact Or.inl rfl | exact Or.inr rfl) (pe_lst pa_nil))
  (pss_cons
  (ps_set (i := 4) nd rfl (by first | exact Or.inl rfl | exact Or.inr rfl) (pe_lst pa_nil))
  (pss_cons
  (ps_for PassesOwn.never rfl (kpEnumT (K := K) rfl (by rfl) B.enumerate (pa_cons (pe_ix (kIxT (K := K) rfl) (pv 0) pe_int (fun _ _ => rfl)) pa_nil)) (pg_tup rfl (pgs_cons (pg_name (i := 7) nd rfl (by first | exact Or.inl rfl | exact Or.inr rfl)) (pgs_cons (pg_tup rfl (pgs_cons (pg_name (i := 9) nd rfl (by first | exact Or.inl rfl | exact Or.inr rfl)) (pgs_cons (pg_name (i := 10) nd rfl (by first | exact Or.inl rfl | exact Or.inr rfl)) (pgs_cons (pg_name (i := 11) nd rfl (by first | exact Or.inl rfl | exact Or.inr rfl)) pgs_nil)))) pgs_nil))) (pss_cons
  (ps_if (PW.pt (pw_or (pt_cmpR (kNotIn (K := K) rfl) (pv 7) (pv 6) (by rfl)) (pw_or1 (pt_cmpR (kIn (K := K) rfl) (pv 7) (pe_ix (kIxL (K := K) rfl) (pv 2) (pv 9) (fun _ _ => rfl)) (by rfl))))) (pss_one
  (ps_expr (pe_bm PySem.F.plainAttrs_list PySem.F.slot_list_append PySem.F.type_list_append mt_append (pv 3) (pa_cons (pv 7) pa_nil)))) pss_nil)
  (pss_one
  (ps_if (PW.pt (pw_or (pt_cmpR (kNotIn (K := K) rfl) (pv 7) (pv 5) (by rfl)) (pw_or1 (pt_cmpR (kIn (K := K) rfl) (pv 7) (pe_ix (kIxL (K := K) rfl) (pv 2) (pv 10) (fun _ _ => rfl)) (by rfl))))) (pss_one
  (ps_expr (pe_bm PySem.F.plainAttrs_list PySem.F.slot_list_append PySem.F.type_list_append mt_append (pv 4) (pa_cons (pv 7) pa_nil)))) pss_nil))))
  (pss_one
  (ps_ret (pe_tup (pa_cons (pe_callTy (kTuple (K := K) rfl) (by rfl) B.tuple (by decide +kernel) (pa_cons (pv 3) pa_nil)) (pa_cons (pe_callTy (kTuple (K := K) rfl) (by rfl) B.tuple (by decide +kernel) (pa_cons (pv 4) pa_nil)) pa_nil)))))))))), ?_⟩
  obtain ⟨wb, s, ok, hT, tw, ts, q⟩ := h
  obtain ⟨sa, xs, rfl, s1, s2⟩ := ts.tup_inv
  obtain ⟨y0, y1, rfl, t0, t1⟩ := tdAll2 s2
  walk_at "st"
  refine ⟨sa, _, rfl, s1, rfl, _, _, rfl, _, _, rfl, rfl, ?_⟩
  walk_at "st"
  refine q_ixT tw (d := .tuple (wb.hs.map eH)) rfl fun u0 th => ?_
  walk_at "st"
  refine q_lenT th ⟨_, rfl, by rw [List.length_map]; omega, by rw [List.length_map]; have := ok.nh; omega, ?_⟩
  rw [Int.toNat_natCast, List.length_map]
  refine lc_R (T := T) (K := K) (line_of (Nat.le_trans ok.nh (by decide))) (fun _ => true) (fun n => tI (chL wb (n : Int) s.1 s.2)) (fun _ => rfl) ?_ ?_
  · intro n H1 hn f1 R1 R2 r1 r2
    walk_at "st"
    refine iteT ?_
    walk_at "st"
    refine ⟨_, _, _, _, rfl, wb, n, s.1, s.2, tw.mono f1, rfl, t0.mono f1, t1.mono f1, Nat.le_trans ok.nc (by decide), fun v H2 f2 tv => ?_⟩
    walk_at "st"
    exact ⟨_, _, _, rfl, wb, n, _, ok, (f1.trans f2).tabs hT, (tw.mono f1).mono f2, rfl, ⟨by omega, by omega⟩, tv, fun v3 H3 f3 t3 => r1 rfl _ _ (f2.trans f3) t3⟩
  · intro Dc H1 cs hDc f1 hcs tcs
    rw [filt_true] at tcs
    walk_at "st"
    refine ⟨Nat.zero_le _, fun fa hfa => ?_⟩
    walk_at "st"
    refine ⟨Nat.zero_le _, fun fb hfb => ?_⟩
    have f2 : Fr T [] H1 (upd H1 fa (.lst [])) := Fr.new hfa
    have f3 : Fr T [] H1 (upd (upd H1 fa (.lst [])) fb (.lst [])) := f2.andNew hfb
    have nab : fa ≠ fb := ne_of_none upd_same hfb
    generalize hH3 : upd (upd H1 fa (.lst [])) fb (.lst []) = H3 at f3
    have ha3 : H3 fa = some (.lst []) := by rw [← hH3, upd_ne nab, upd_same]
    have hb3 : H3 fb = some (.lst []) := by rw [← hH3, upd_same]
    have na : Fresh H fa := f1.there hfa
    have nb : Fresh H fb := (f1.trans f2).there hfb
    have nDa : Dc ≠ fa := ne_of_none hcs hfa
    have nDb : Dc ≠ fb := ne_of_none (f2.lst0 hcs) hfb
    walk_at "st"
    refine q_ixT (tw.mono (f1.trans f3)) (d := .tuple (wb.cs.map eC)) rfl fun u1 tc => ?_
    walk_at "st"
    refine for_E (T := T) (M := [fa, fb]) wb.cs eC tc (fun i σ H' => ∃ x y z u r, σ = [some a0, some (.ref sa), some (.ref Dc), some (.ref fa), some (.ref fb), some y0, some y1, x, y, z, u, r] ∧ Fr T [] H H' ∧ Fr T [fa, fb] H3 H' ∧
      H' fa = some (.lst ((((wb.cs.zipIdx.take i).filter (stepP wb s.1 s.2)).map fun x => (x.2 : Int)).map V.int)) ∧ H' fb = some (.lst ((((wb.cs.zipIdx.take i).filter (stepQ wb s.1 s.2)).map fun x => (x.2 : Int)).map V.int)))
      ⟨_, _, _, _, _, rfl, f1.trans f3, Fr.reflM (fun p hp => ?_), ha3, hb3⟩ (fun i σ H' p => by obtain ⟨_, _, _, _, _, _, _, f, _⟩ := p; exact f) ?_ ?_
    · have : p = fa ∨ p = fb := by simpa using hp
      rcases this with rfl | rfl
      · exact ⟨_, ha3⟩
      · exact ⟨_, hb3⟩
    · rintro i c t u σ' H4 hi ⟨x, y, z, uu, r, rfl, f4, f5, ea, eb⟩ ht tu
      have f6 : Fr T [] H4 (upd H4 t (.tup [.int (i : Int), u])) := Fr.new ht
      have st0 : SqT K (upd H4 t (.tup [.int (i : Int), u])) t [.int (i : Int), u] := SqT.of upd_same
      generalize hH5 : upd H4 t (.tup [.int (i : Int), u]) = H5 at f6 st0 tu ⊢
      obtain ⟨ta, us, rfl, s3, s4⟩ := tu.tup_inv
      obtain ⟨v0, v1, v2, rfl, c0, c1, c2⟩ := tdAll3 s4
      obtain rfl := c0.int_inv
      obtain rfl := c1.int_inv
      obtain rfl := c2.int_inv
      have g4 : Fr T [] H H5 := f4.trans f6
      have g5 : Fr T [fa, fb] H3 H5 := f5.trans (f6.wide f5.m1)
      have ea5 := f6.lst0 ea
      have eb5 := f6.lst0 eb
      have hcD : H5 Dc = some (.lst cs) := g5.lst (f3.lst0 hcs) (by simp [nDa, nDb])
      have tcs5 := (tcs.mono f3).mono g5
      have hcm := List.mem_of_getElem? hi
      have hz : wb.cs.zipIdx[i]? = some (c, i) := by rw [List.getElem?_zipIdx, hi]; simp
      have at_ : ∀ k : Int, 0 ≤ k ∧ k < wb.hs.length → ∃ v, atI cs k = some v ∧ Td K H5 v (tI (chL wb k s.1 s.2)) := fun k hk => tcs5.atI (by
        have e1 : (List.range wb.hs.length)[k.toNat]? = some k.toNat := by
          rw [List.getElem?_range]
          omega
        have := at_map (e := fun n : Nat => tI (chL wb (n : Int) s.1 s.2)) hk.1 e1
        rwa [Int.toNat_of_nonneg hk.1] at this)
      obtain ⟨w1, hw1, tw1⟩ := at_ _ (ok.se c hcm)
      obtain ⟨w2, hw2, tw2⟩ := at_ _ (ok.bu c hcm)
      refine ⟨t, _, rfl, st0, rfl, _, _, rfl, _, _, rfl, ta, _, rfl, s3, rfl, _, _, rfl, _, _, rfl, _, _, rfl, rfl, rfl, ?_⟩
      walk_at "st"
      have hzl : wb.cs.zipIdx.length ≤ 12 := by
        rw [List.length_zipIdx]
        exact ok.nc
      refine q_in (SqI.of_t (t1.mono g4)) ⟨_, rfl, ite2 (fun h1 => ?_) (fun h1 => ?_)⟩
      · have h1' : (!decide ((i : Int) ∈ s.2)) = true := h1
        have hp : stepP wb s.1 s.2 (c, i) = true := by
          show (!decide ((i : Int) ∈ s.2) || decide ((i : Int) ∈ chL wb c.1 s.1 s.2)) = true
          rw [h1', Bool.true_or]
        refine iteT ?_
        walk_at "st"
        refine ⟨ty_lst ea5, ?_⟩
        walk_at "st"
        refine q_app ea5 (line_of (Nat.le_trans (filt_len hzl) (by decide))) ?_
        have k4 := g4.mut (l' := (((wb.cs.zipIdx.take i).filter (stepP wb s.1 s.2)).map fun x => (x.2 : Int)).map V.int ++ [.int (i : Int)]) na ea5
        have k5 := g5.andSet (p := fa) (l' := (((wb.cs.zipIdx.take i).filter (stepP wb s.1 s.2)).map fun x => (x.2 : Int)).map V.int ++ [.int (i : Int)]) (by simp)
        have k6 : Fr T [fa] H5 (upd H5 fa (.lst ((((wb.cs.zipIdx.take i).filter (stepP wb s.1 s.2)).map fun x => (x.2 : Int)).map V.int ++ [.int (i : Int)]))) := Fr.set (fun p hp => by simp at hp; subst hp; exact ⟨_, ea5⟩) (by simp)
        have ea6 : (upd H5 fa (.lst ((((wb.cs.zipIdx.take i).filter (stepP wb s.1 s.2)).map fun x => (x.2 : Int)).map V.int ++ [.int (i : Int)]))) fa = some (.lst ((((wb.cs.zipIdx.take (i + 1)).filter (stepP wb s.1 s.2)).map fun x => (x.2 : Int)).map V.int)) := by
          rw [upd_same, filt_pos hz hp]
        have eb6 : (upd H5 fa (.lst ((((wb.cs.zipIdx.take i).filter (stepP wb s.1 s.2)).map fun x => (x.2 : Int)).map V.int ++ [.int (i : Int)]))) fb = some (.lst ((((wb.cs.zipIdx.take i).filter (stepQ wb s.1 s.2)).map fun x => (x.2 : Int)).map V.int)) := by
          rw [upd_ne nab.symm]
          exact eb5
        walk_at "st"
        refine q_in (SqI.of_t (t0.mono k4)) ⟨_, rfl, ite2 (fun h2 => ?_) (fun h2 => ?_)⟩
        · have h2' : (!decide ((i : Int) ∈ s.1)) = true := h2
          have hq : stepQ wb s.1 s.2 (c, i) = true := by
            show (!decide ((i : Int) ∈ s.1) || decide ((i : Int) ∈ chL wb c.2.1 s.1 s.2)) = true
            rw [h2', Bool.true_or]
          refine iteT ?_
          walk_at "st"
          refine ⟨ty_lst eb6, ?_⟩
          walk_at "st"
          refine q_app eb6 (line_of (Nat.le_trans (filt_len hzl) (by decide))) ?_
          refine ⟨_, _, _, _, _, rfl, k4.mut nb eb6, k5.andSet (by simp), ?_, ?_⟩
          · rw [upd_ne nab]
            exact ea6
          · rw [upd_same, filt_pos hz hq]
        · have h2' : (!decide ((i : Int) ∈ s.1)) = false := Bool.eq_false_iff.mpr h2
          walk_at "st"
          refine q_ixL (k5.lst (f3.lst0 hcs) (by simp [nDa, nDb])) hw2 ?_
          refine q_in (SqI.of_t (tw2.mono k6)) ⟨_, rfl, ite2 (fun h3 => ?_) (fun h3 => ?_)⟩
          · have h3' : decide ((i : Int) ∈ chL wb c.2.1 s.1 s.2) = true := h3
            have hq : stepQ wb s.1 s.2 (c, i) = true := by
              show (!decide ((i : Int) ∈ s.1) || decide ((i : Int) ∈ chL wb c.2.1 s.1 s.2)) = true
              rw [h3', Bool.or_true]
            walk_at "st"
            refine ⟨ty_lst eb6, ?_⟩
            walk_at "st"
            refine q_app eb6 (line_of (Nat.le_trans (filt_len hzl) (by decide))) ?_
            refine ⟨_, _, _, _, _, rfl, k4.mut nb eb6, k5.andSet (by simp), ?_, ?_⟩
            · rw [upd_ne nab]
              exact ea6
            · rw [upd_same, filt_pos hz hq]
          · have h3' : decide ((i : Int) ∈ chL wb c.2.1 s.1 s.2) = false := Bool.eq_false_iff.mpr h3
            have hq : stepQ wb s.1 s.2 (c, i) = false := by
              show (!decide ((i : Int) ∈ s.1) || decide ((i : Int) ∈ chL wb c.2.1 s.1 s.2)) = false
              rw [h2', h3']
              rfl
            walk_at "st"
            refine ⟨_, _, _, _, _, rfl, k4, k5, ea6, ?_⟩
            rw [filt_neg hz hq]
            exact eb6
      · have h1' : (!decide ((i : Int) ∈ s.2)) = false := Bool.eq_false_iff.mpr h1
        walk_at "st"
        refine q_ixL hcD hw1 ?_
        refine q_in (SqI.of_t tw1) ⟨_, rfl, ite2 (fun h3 => ?_) (fun h3 => ?_)⟩
        · have h0' : decide ((i : Int) ∈ chL wb c.1 s.1 s.2) = true := h3
          have hp : stepP wb s.1 s.2 (c, i) = true := by
            show (!decide ((i : Int) ∈ s.2) || decide ((i : Int) ∈ chL wb c.1 s.1 s.2)) = true
            rw [h0', Bool.or_true]
          walk_at "st"
          refine ⟨ty_lst ea5, ?_⟩
          walk_at "st"
          refine q_app ea5 (line_of (Nat.le_trans (filt_len hzl) (by decide))) ?_
          have k4 := g4.mut (l' := (((wb.cs.zipIdx.take i).filter (stepP wb s.1 s.2)).map fun x => (x.2 : Int)).map V.int ++ [.int (i : Int)]) na ea5
          have k5 := g5.andSet (p := fa) (l' := (((wb.cs.zipIdx.take i).filter (stepP wb s.1 s.2)).map fun x => (x.2 : Int)).map V.int ++ [.int (i : Int)]) (by simp)
          have k6 : Fr T [fa] H5 (upd H5 fa (.lst ((((wb.cs.zipIdx.take i).filter (stepP wb s.1 s.2)).map fun x => (x.2 : Int)).map V.int ++ [.int (i : Int)]))) := Fr.set (fun p hp => by simp at hp; subst hp; exact ⟨_, ea5⟩) (by simp)
          have ea6 : (upd H5 fa (.lst ((((wb.cs.zipIdx.take i).filter (stepP wb s.1 s.2)).map fun x => (x.2 : Int)).map V.int ++ [.int (i : Int)]))) fa = some (.lst ((((wb.cs.zipIdx.take (i + 1)).filter (stepP wb s.1 s.2)).map fun x => (x.2 : Int)).map V.int)) := by
            rw [upd_same, filt_pos hz hp]
          have eb6 : (upd H5 fa (.lst ((((wb.cs.zipIdx.take i).filter (stepP wb s.1 s.2)).map fun x => (x.2 : Int)).map V.int ++ [.int (i : Int)]))) fb = some (.lst ((((wb.cs.zipIdx.take i).filter (stepQ wb s.1 s.2)).map fun x => (x.2 : Int)).map V.int)) := by
            rw [upd_ne nab.symm]
            exact eb5
          walk_at "st"
          refine q_in (SqI.of_t (t0.mono k4)) ⟨_, rfl, ite2 (fun h2 => ?_) (fun h2 => ?_)⟩
          · have h2' : (!decide ((i : Int) ∈ s.1)) = true := h2
            have hq : stepQ wb s.1 s.2 (c, i) = true := by
              show (!decide ((i : Int) ∈ s.1) || decide ((i : Int) ∈ chL wb c.2.1 s.1 s.2)) = true
              rw [h2', Bool.true_or]
            refine iteT ?_
            walk_at "st"
            refine ⟨ty_lst eb6, ?_⟩
            walk_at "st"
            refine q_app eb6 (line_of (Nat.le_trans (filt_len hzl) (by decide))) ?_
            refine ⟨_, _, _, _, _, rfl, k4.mut nb eb6, k5.andSet (by simp), ?_, ?_⟩
            · rw [upd_ne nab]
              exact ea6
            · rw [upd_same, filt_pos hz hq]
          · have h2' : (!decide ((i : Int) ∈ s.1)) = false := Bool.eq_false_iff.mpr h2
            walk_at "st"
            refine q_ixL (k5.lst (f3.lst0 hcs) (by simp [nDa, nDb])) hw2 ?_
            refine q_in (SqI.of_t (tw2.mono k6)) ⟨_, rfl, ite2 (fun h3 => ?_) (fun h3 => ?_)⟩
            · have h3' : decide ((i : Int) ∈ chL wb c.2.1 s.1 s.2) = true := h3
              have hq : stepQ wb s.1 s.2 (c, i) = true := by
                show (!decide ((i : Int) ∈ s.1) || decide ((i : Int) ∈ chL wb c.2.1 s.1 s.2)) = true
                rw [h3', Bool.or_true]
              walk_at "st"
              refine ⟨ty_lst eb6, ?_⟩
              walk_at "st"
              refine q_app eb6 (line_of (Nat.le_trans (filt_len hzl) (by decide))) ?_
              refine ⟨_, _, _, _, _, rfl, k4.mut nb eb6, k5.andSet (by simp), ?_, ?_⟩
              · rw [upd_ne nab]
                exact ea6
              · rw [upd_same, filt_pos hz hq]
            · have h3' : decide ((i : Int) ∈ chL wb c.2.1 s.1 s.2) = false := Bool.eq_false_iff.mpr h3
              have hq : stepQ wb s.1 s.2 (c, i) = false := by
                show (!decide ((i : Int) ∈ s.1) || decide ((i : Int) ∈ chL wb c.2.1 s.1 s.2)) = false
                rw [h2', h3']
                rfl
              walk_at "st"
              refine ⟨_, _, _, _, _, rfl, k4, k5, ea6, ?_⟩
              rw [filt_neg hz hq]
              exact eb6
        · have h0' : decide ((i : Int) ∈ chL wb c.1 s.1 s.2) = false := Bool.eq_false_iff.mpr h3
          have hp : stepP wb s.1 s.2 (c, i) = false := by
            show (!decide ((i : Int) ∈ s.2) || decide ((i : Int) ∈ chL wb c.1 s.1 s.2)) = false
            rw [h1', h0']
            rfl
          have k4 := g4
          have k5 := g5
          have k6 : Fr T [] H5 H5 := Fr.refl _
          have ea6 : H5 fa = some (.lst ((((wb.cs.zipIdx.take (i + 1)).filter (stepP wb s.1 s.2)).map fun x => (x.2 : Int)).map V.int)) := by
            rw [filt_neg hz hp]
            exact ea5
          have eb6 := eb5
          walk_at "st"
          dsimp only
          walk_at "st"
          refine q_in (SqI.of_t (t0.mono k4)) ⟨_, rfl, ite2 (fun h2 => ?_) (fun h2 => ?_)⟩
          · have h2' : (!decide ((i : Int) ∈ s.1)) = true := h2
            have hq : stepQ wb s.1 s.2 (c, i) = true := by
              show (!decide ((i : Int) ∈ s.1) || decide ((i : Int) ∈ chL wb c.2.1 s.1 s.2)) = true
              rw [h2', Bool.true_or]
            refine iteT ?_
            walk_at "st"
            refine ⟨ty_lst eb6, ?_⟩
            walk_at "st"
            refine q_app eb6 (line_of (Nat.le_trans (filt_len hzl) (by decide))) ?_
            refine ⟨_, _, _, _, _, rfl, k4.mut nb eb6, k5.andSet (by simp), ?_, ?_⟩
            · rw [upd_ne nab]
              exact ea6
            · rw [upd_same, filt_pos hz hq]
          · have h2' : (!decide ((i : Int) ∈ s.1)) = false := Bool.eq_false_iff.mpr h2
            walk_at "st"
            refine q_ixL (k5.lst (f3.lst0 hcs) (by simp [nDa, nDb])) hw2 ?_
            refine q_in (SqI.of_t (tw2.mono k6)) ⟨_, rfl, ite2 (fun h3 => ?_) (fun h3 => ?_)⟩
            · have h3' : decide ((i : Int) ∈ chL wb c.2.1 s.1 s.2) = true := h3
              have hq : stepQ wb s.1 s.2 (c, i) = true := by
                show (!decide ((i : Int) ∈ s.1) || decide ((i : Int) ∈ chL wb c.2.1 s.1 s.2)) = true
                rw [h3', Bool.or_true]
              walk_at "st"
              refine ⟨ty_lst eb6, ?_⟩
              walk_at "st"
              refine q_app eb6 (line_of (Nat.le_trans (filt_len hzl) (by decide))) ?_
              refine ⟨_, _, _, _, _, rfl, k4.mut nb eb6, k5.andSet (by simp), ?_, ?_⟩
              · rw [upd_ne nab]
                exact ea6
              · rw [upd_same, filt_pos hz hq]
            · have h3' : decide ((i : Int) ∈ chL wb c.2.1 s.1 s.2) = false := Bool.eq_false_iff.mpr h3
              have hq : stepQ wb s.1 s.2 (c, i) = false := by
                show (!decide ((i : Int) ∈ s.1) || decide ((i : Int) ∈ chL wb c.2.1 s.1 s.2)) = false
                rw [h2', h3']
                rfl
              walk_at "st"
              refine ⟨_, _, _, _, _, rfl, k4, k5, ea6, ?_⟩
              rw [filt_neg hz hq]
              exact eb6
    · rintro σ' H4 ⟨x, y, z, u, r, rfl, f4, f5, ea, eb⟩
      have hlen : wb.cs.length = wb.cs.zipIdx.length := by rw [List.length_zipIdx]
      rw [hlen, List.take_of_length_le (Nat.le_refl _)] at ea eb
      dsimp only
      walk_at "st"
      refine q_tupK (T := T) ea (tdAll_ints _) fun l1 H5 f6 t6 => ?_
      walk_at "st"
      refine q_tupK (T := T) (f6.lst0 eb) (tdAll_ints _) fun l2 H6 f7 t7 => ?_
      walk_at "st"
      exact q_tup (T := T) (ds := [tI (step wb s).1, tI (step wb s).2]) (.cons (t6.mono f7) (.cons t7 .nil)) (by simp) fun l H7 f8 t8 => q _ _ (((f4.trans f6).trans f7).trans f8) t8
end
end Nc
set_option maxHeartbeats 4000000
/-! P8: stands until they settle. -/
namespace Nc
open PySem PySem.Spec L2
theorem r_whileS {c : TT} {tb us : TS} {D : Ends} {σ : St} {H : Hp} (W : Nat → St → Hp → Prop) (m : Nat) (h0 : W m σ H) (h : ∀ m σ H, W m σ H → c σ H fun b H1 => if b = true then ∃ N : St → Hp → Prop, (∀ σ' H', N σ' H' → ∃ m', m' < m ∧ W m' σ' H') ∧ tb { { D with nx := us D } with nx := N, ct := N, bk := us D } σ H1 else us D σ H1) : tSeq (tWhile c tb) us D σ H := ⟨W, ⟨m, h0⟩, h⟩
local macro_rules | `(tactic| walk_at "st") => `(tactic| (repeat (first
  | ((with_reducible refine' r_var ?e ?_); (case e => exact rfl))
  | (with_reducible refine' r_op ?_)
  | (with_reducible refine' r_c ?_)
  | (with_reducible refine' r_cons ?_)
  | (with_reducible refine' r_nil ?_)
  | (with_reducible refine' r_cb ?_)
  | (with_reducible refine' r_call ?_)
  | (with_reducible refine' r_test ?_)
  | (with_reducible refine' r_lc ?_)
  | (with_reducible refine' r_lc2 ?_)
  | (with_reducible refine' r_sk ?_)
  | (with_reducible refine' r_iZ ?_)
  | (with_reducible refine' r_dg ?_)
  | (with_reducible refine' r_dpS ?_)
  | (with_reducible refine' r_dp1 ?_)
  | (with_reducible refine' r_dn ?_)
  | (with_reducible refine' r_iT ?_)
  | (with_reducible refine' r_iL ?_)
  | (with_reducible refine' r_iE ?_)
  | (with_reducible refine' r_iR ?_)
  | (with_reducible refine' r_ret ?_)
  | (with_reducible refine' r_asgS ?_)
  | (with_reducible refine' r_asg1 ?_)
  | (with_reducible refine' r_asgTS ?_)
  | (with_reducible refine' r_ifS ?_)
  | (with_reducible refine' r_if1 ?_)
  | (with_reducible refine' r_forS ?_)
  | (with_reducible refine' r_for1 ?_)
  | (with_reducible refine' r_dropS ?_)
  | (with_reducible refine' r_drop1 ?_)
  | (with_reducible refine' r_tup ?_)
  | (with_reducible refine' r_lst ?_)
  | (with_reducible refine' r_sl ?_)
  | (with_reducible refine' r_noP ?_)
  | (with_reducible refine' r_part ?_)
  | (with_reducible refine' r_bm ?_)
  | (with_reducible refine' r_bm0 ?_)
  | (with_reducible refine' r_un ?_)
  | (with_reducible refine' r_notV ?_)
  | (with_reducible refine' r_B ?_)
  | (with_reducible refine' r_and ?_)
  | (with_reducible refine' r_or ?_)
  | (with_reducible refine' r_not ?_)
  | (with_reducible refine' r_yes ?_)
  | (with_reducible refine' r_next ?_)
  | (with_reducible refine' r_break ?_)
  | (with_reducible refine' r_gn ?_)
  | (with_reducible refine' r_tupRg ?_)
  | (with_reducible refine' r_rg1 ?_)
  )))
local macro_rules | `(tactic| walk_at "no") => `(tactic| (refine q_eqS ⟨_, rfl, ite2 (fun e => absurd (of_decide_eq_true e) (by decide +kernel)) (fun _ => ?_)⟩; walk_at "st"; try dsimp only))
local macro_rules | `(tactic| walk_at "yes") => `(tactic| (refine q_eqS ⟨_, rfl, ite2 (fun _ => ?_) (fun e => absurd (decide_eq_true rfl) e)⟩; walk_at "st"))
section
variable {P : Program} {w : World} {K : PySem.W.Frag} {mg : Str → Option Value} {base : Heap}
variable {T : List (Addr × Str)}
def sp_settled_from (K : PySem.W.Frag) (T : List (Addr × Str)) : Sp := Sp2 fun a b H Q => ∃ (wb : Web Str) (s : List Int × List Int), OkW wb ∧ LamX.Tabs T H ∧ Td K H a (eW wb) ∧ Td K H b (eS s) ∧ (∃ n, iter (step wb) (n + 1) s = iter (step wb) n s) ∧
  ∀ n v H', iter (step wb) (n + 1) s = iter (step wb) n s → Fr T [] H H' → Td K H' v (eS (iter (step wb) n s)) → Q v H'
/-! ### settled_from -/
abbrev s_settled_from : Stmt := topS 22
abbrev N_settled_from : List Str := ["web", "stand", "behind"]
theorem sc_settled_from : FnScope N_settled_from ["web", "stand"] (defScope s_settled_from) := ⟨rfl, rfl, rfl, by decide +kernel, rfl, by decide +kernel, by decide +kernel⟩
theorem d_settled_from (B : B0 mg) (A0 : At K mg "settled_from" s_settled_from) (D_next_stand : Dn P w K mg base "next_stand" ["web", "stand"] 8 (sp_next_stand K T)) : Dn P w K mg base "settled_from" ["web", "stand"] 9 (sp_settled_from K T) := by
  obtain ⟨f_next_stand, fd_next_stand, G_next_stand, g_next_stand, k_next_stand, b_next_stand⟩ := D_next_stand
  refine dn2 A0 sc_settled_from (fun _ _ F => F.bindsN fun _ _ _ _ _ _ us hl => match us, hl with | [_, _], _ => rfl) fun f cdv A outer s H a0 a1 Q E hr h => ?_
  have hu := hr.units
  have hu5 := units5 hr
  have hu1 := units1 hr
  have nd := sc_settled_from.nd
  refine ⟨_, (pss_cons
  (ps_set (i := 2) nd rfl (by first | exact Or.inl rfl | exact Or.inr rfl) (pe_call G_next_stand (hr.mono (by decide)) (by rfl) g_next_stand k_next_stand b_next_stand .nil pass0 (pa_cons (pv 0) (pa_cons (pv 1) pa_nil))))
  (pss_cons
  (ps_while PassesOwn.never (pt_cmpR (kNeD (K := K) hu rfl) (pv 2) (pv 1) (by rfl)) (pss_cons
  (ps_set (i := 1) nd rfl (by first | exact Or.inl rfl | exact Or.inr rfl) (pv 2))
  (pss_one
  (ps_set (i := 2) nd rfl (by first | exact Or.inl rfl | exact Or.inr rfl) (pe_call G_next_stand (hr.mono (by decide)) (by rfl) g_next_stand k_next_stand b_next_stand .nil pass0 (pa_cons (pv 0) (pa_cons (pv 1) pa_nil)))))))
  (pss_one
  (ps_ret (pv 1))))), ?_⟩
  obtain ⟨wb, s, ok, hT, tw, ts, ⟨N, hN⟩, q⟩ := h
  walk_at "st"
  refine ⟨_, _, rfl, wb, s, ok, hT, tw, ts, fun v1 H1 f1 t1 => ?_⟩
  walk_at "st"
  refine r_whileS (fun m σ' H' => ∃ i x y, i ≤ N ∧ m = N - i ∧ σ' = [some a0, some x, some y] ∧ Fr T [] H H' ∧ Td K H' x (eS (iter (step wb) i s)) ∧ Td K H' y (eS (iter (step wb) (i + 1) s))) N ⟨0, _, _, Nat.zero_le _, rfl, rfl, f1, ts.mono f1, t1⟩ ?_
  rintro m σ' H2 ⟨i, x, y, hi, rfl, rfl, f2, tx, ty⟩
  walk_at "st"
  refine q_neS ty tx ⟨_, rfl, ?_⟩
  by_cases e : iter (step wb) (i + 1) s = iter (step wb) i s
  · rw [decide_eq_true e]
    show if false = true then _ else _
    rw [if_neg (by decide)]
    walk_at "st"
    exact q i _ _ e f2 tx
  · rw [decide_eq_false e]
    refine iteT ?_
    have hi2 : i ≠ N := fun z => e (z ▸ hN)
    refine ⟨fun σ' H' => ∃ x y, σ' = [some a0, some x, some y] ∧ Fr T [] H H' ∧ Td K H' x (eS (iter (step wb) (i + 1) s)) ∧ Td K H' y (eS (iter (step wb) (i + 2) s)), ?_, ?_⟩
    · rintro σ' H' ⟨x, y, h1, h2, h3, h4⟩
      exact ⟨N - (i + 1), by omega, i + 1, x, y, by omega, rfl, h1, h2, h3, h4⟩
    · walk_at "st"
      refine ⟨_, _, rfl, wb, iter (step wb) (i + 1) s, ok, f2.tabs hT, tw.mono f2, ty, fun v3 H3 f3 t3 => ?_⟩
      walk_at "st"
      exact ⟨_, _, rfl, f2.trans f3, ty.mono f3, t3⟩
def sp_best (K : PySem.W.Frag) (T : List (Addr × Str)) (f : Web Str → List Int × List Int) : Sp := Sp1 fun a H Q => ∃ (wb : Web Str), OkW wb ∧ LamX.Tabs T H ∧ Td K H a (eW wb) ∧ (∃ n, iter (step wb) (n + 1) (f wb) = iter (step wb) n (f wb)) ∧
  ∀ n v H', iter (step wb) (n + 1) (f wb) = iter (step wb) n (f wb) → Fr T [] H H' → Td K H' v (eS (iter (step wb) n (f wb))) → Q v H'
def sp_best_for_buyers (K : PySem.W.Frag) (T : List (Addr × Str)) : Sp := sp_best K T fun wb => (rangeI wb.cs.length, [])
def sp_best_for_sellers (K : PySem.W.Frag) (T : List (Addr × Str)) : Sp := sp_best K T fun wb => ([], rangeI wb.cs.length)
/-! ### best_for_buyers -/
abbrev s_best_for_buyers : Stmt := topS 24
abbrev N_best_for_buyers : List Str := ["web"]
theorem sc_best_for_buyers : FnScope N_best_for_buyers ["web"] (defScope s_best_for_buyers) := ⟨rfl, rfl, rfl, by decide +kernel, rfl, by decide +kernel, by decide +kernel⟩
theorem d_best_for_buyers (B : B0 mg) (A0 : At K mg "best_for_buyers" s_best_for_buyers) (D_settled_from : Dn P w K mg base "settled_from" ["web", "stand"] 9 (sp_settled_from K T)) (D_all_contracts : Dn P w K mg base "all_contracts" ["web"] 1 (sp_all_contracts K T)) : Dn P w K mg base "best_for_buyers" ["web"] 10 (sp_best_for_buyers K T) := by
  obtain ⟨f_settled_from, fd_settled_from, G_settled_from, g_settled_from, k_settled_from, b_settled_from⟩ := D_settled_from
  obtain ⟨f_all_contracts, fd_all_contracts, G_all_contracts, g_all_contracts, k_all_contracts, b_all_contracts⟩ := D_all_contracts
  refine dn1 A0 sc_best_for_buyers (fun _ _ F => F.bindsN fun _ _ _ _ _ _ us hl => match us, hl with | [_], _ => rfl) fun f cdv A outer s H a0 Q E hr h => ?_
  have nd := sc_best_for_buyers.nd
  refine ⟨_, (pss_one
  (ps_ret (pe_call G_settled_from (hr.mono (by decide)) (by rfl) g_settled_from k_settled_from b_settled_from .nil pass0 (pa_cons (pv 0) (pa_cons (pe_tup (pa_cons (pe_call G_all_contracts (hr.mono (by decide)) (by rfl) g_all_contracts k_all_contracts b_all_contracts .nil pass0 (pa_cons (pv 0) pa_nil)) (pa_cons (pe_tup pa_nil) pa_nil))) pa_nil))))), ?_⟩
  obtain ⟨wb, ok, hT, tw, hN, q⟩ := h
  walk_at "st"
  refine ⟨_, rfl, wb, tw, Nat.le_trans ok.nc (by decide), fun v1 H1 f1 t1 => ?_⟩
  walk_at "st"
  refine ⟨Nat.zero_le _, fun l2 hl2 => ?_⟩
  have f2 : Fr T [] H1 (upd H1 l2 (.tup [])) := Fr.new hl2
  have t2 : Td K (upd H1 l2 (.tup [])) (.ref l2) (tI []) := td_new upd_same .nil
  walk_at "st"
  refine ⟨Nat.le_of_lt (line_of (show (2 : Nat) ≤ 100000 by decide)), fun l3 hl3 => ?_⟩
  have f3 : Fr T [] _ _ := Fr.new (o := .tup [v1, .ref l2]) hl3
  have t3 : Td K _ (.ref l3) (.tuple [tI (rangeI wb.cs.length), tI []]) := td_new upd_same (.cons ((t1.mono f2).mono f3) (.cons (t2.mono f3) .nil))
  walk_at "st"
  have f03 := (f1.trans f2).trans f3
  exact ⟨_, _, rfl, wb, (rangeI wb.cs.length, []), ok, f03.tabs hT, tw.mono f03, t3, hN, fun n v H4 e f4 t4 => q n v H4 e (f03.trans f4) t4⟩
/-! ### best_for_sellers -/
abbrev s_best_for_sellers : Stmt := topS 25
abbrev N_best_for_sellers : List Str := ["web"]
theorem sc_best_for_sellers : FnScope N_best_for_sellers ["web"] (defScope s_best_for_sellers) := ⟨rfl, rfl, rfl, by decide +kernel, rfl, by decide +kernel, by decide +kernel⟩
theorem d_best_for_sellers (B : B0 mg) (A0 : At K mg "best_for_sellers" s_best_for_sellers) (D_settled_from : Dn P w K mg base "settled_from" ["web", "stand"] 9 (sp_settled_from K T)) (D_all_contracts : Dn P w K mg base "all_contracts" ["web"] 1 (sp_all_contracts K T)) : Dn P w K mg base "best_for_sellers" ["web"] 10 (sp_best_for_sellers K T) := by
  obtain ⟨f_settled_from, fd_settled_from, G_settled_from, g_settled_from, k_settled_from, b_settled_from⟩ := D_settled_from
  obtain ⟨f_all_contracts, fd_all_contracts, G_all_contracts, g_all_contracts, k_all_contracts, b_all_contracts⟩ := D_all_contracts
  refine dn1 A0 sc_best_for_sellers (fun _ _ F => F.bindsN fun _ _ _ _ _ _ us hl => match us, hl with | [_], _ => rfl) fun f cdv A outer s H a0 Q E hr h => ?_
  have nd := sc_best_for_sellers.nd
  refine ⟨_, (pss_one
  (ps_ret (pe_call G_settled_from (hr.mono (by decide)) (by rfl) g_settled_from k_settled_from b_settled_from .nil pass0 (pa_cons (pv 0) (pa_cons (pe_tup (pa_cons (pe_tup pa_nil) (pa_cons (pe_call G_all_contracts (hr.mono (by decide)) (by rfl) g_all_contracts k_all_contracts b_all_contracts .nil pass0 (pa_cons (pv 0) pa_nil)) pa_nil))) pa_nil))))), ?_⟩
  obtain ⟨wb, ok, hT, tw, hN, q⟩ := h
  walk_at "st"
  refine ⟨Nat.zero_le _, fun l1 hl1 => ?_⟩
  have f1 : Fr T [] H (upd H l1 (.tup [])) := Fr.new hl1
  have t1 : Td K (upd H l1 (.tup [])) (.ref l1) (tI []) := td_new upd_same .nil
  walk_at "st"
  refine ⟨_, rfl, wb, tw.mono f1, Nat.le_trans ok.nc (by decide), fun v2 H2 f2 t2 => ?_⟩
  walk_at "st"
  refine ⟨Nat.le_of_lt (line_of (show (2 : Nat) ≤ 100000 by decide)), fun l3 hl3 => ?_⟩
  have f3 : Fr T [] _ _ := Fr.new (o := .tup [.ref l1, v2]) hl3
  have t3 : Td K _ (.ref l3) (.tuple [tI [], tI (rangeI wb.cs.length)]) := td_new upd_same (.cons ((t1.mono f2).mono f3) (.cons (t2.mono f3) .nil))
  walk_at "st"
  have f03 := (f1.trans f2).trans f3
  exact ⟨_, _, rfl, wb, ([], rangeI wb.cs.length), ok, f03.tabs hT, tw.mono f03, t3, hN, fun n v H4 e f4 t4 => q n v H4 e (f03.trans f4) t4⟩
end
end Nc
set_option maxHeartbeats 4000000
/-! X8: sorted rows: tuples of some ints and, last, a tuple of ints. -/
namespace Nc
open PySem PySem.Spec PyProof L2
abbrev Row := List Int × List Int
abbrev eRow (r : Row) : PyData := .tuple (r.1.map PyData.int ++ [tI r.2])
/-! ### the order -/
theorem lex_irr : ∀ x : List Int, HT.lexLt x x = false
  | [] => rfl
  | a :: x => by rw [HT.lexLt_cons, if_pos rfl]; exact lex_irr x
theorem lex_asym : ∀ x y : List Int, HT.lexLt x y = true → HT.lexLt y x = false
  | [], [], h => by cases h
  | [], _ :: _, _ => rfl
  | _ :: _, [], h => by cases h
  | a :: x, b :: y, h => by
    rw [HT.lexLt_cons] at h ⊢
    by_cases e : a = b
    · rw [if_pos e] at h
      rw [if_pos e.symm]
      exact lex_asym x y h
    · rw [if_neg e] at h
      rw [if_neg fun z => e z.symm]
      have := of_decide_eq_true h
      exact decide_eq_false (by omega)
theorem lex_tr : ∀ x y z : List Int, HT.lexLt y x = false → HT.lexLt z y = false → HT.lexLt z x = false
  | x, y, [], h1, h2 => by
    match y, h2 with
    | [], _ =>
      match x, h1 with
      | [], _ => rfl
      | _ :: _, h1 => cases h1
    | _ :: _, h2 => cases h2
  | [], y, c :: z, h1, h2 => rfl
  | a :: x, y, c :: z, h1, h2 => by
    match y, h1, h2 with
    | [], h1, _ => cases h1
    | b :: y, h1, h2 =>
      rw [HT.lexLt_cons] at h1 h2 ⊢
      by_cases e1 : b = a
      · rw [if_pos e1] at h1
        by_cases e2 : c = b
        · rw [if_pos e2] at h2
          rw [if_pos (e2.trans e1)]
          exact lex_tr x y z h1 h2
        · rw [if_neg e2] at h2
          have := of_decide_eq_false h2
          rw [if_neg (by omega)]
          exact decide_eq_false (by omega)
      · rw [if_neg e1] at h1
        have h1' := of_decide_eq_false h1
        by_cases e2 : c = b
        · rw [if_neg (by omega)]
          exact decide_eq_false (by omega)
        · rw [if_neg e2] at h2
          have := of_decide_eq_false h2
          rw [if_neg (by omega)]
          exact decide_eq_false (by omega)
theorem lex_eq : ∀ x y : List Int, HT.lexLt x y = false → HT.lexLt y x = false → x = y
  | [], [], _, _ => rfl
  | [], _ :: _, h, _ => by cases h
  | _ :: _, [], _, h => by cases h
  | a :: x, b :: y, h1, h2 => by
    rw [HT.lexLt_cons] at h1 h2
    by_cases e : a = b
    · rw [if_pos e] at h1
      rw [if_pos e.symm] at h2
      rw [e, lex_eq x y h1 h2]
    · rw [if_neg e] at h1
      rw [if_neg fun z => e z.symm] at h2
      have := of_decide_eq_false h1
      have := of_decide_eq_false h2
      exact absurd (by omega) e
def rowLt (r q : Row) : Bool := if r.1 = q.1 then HT.lexLt r.2 q.2 else HT.lexLt r.1 q.1
theorem rowLt_asym (r q : Row) (h : rowLt r q = true) : rowLt q r = false := by
  unfold rowLt at h ⊢
  by_cases e : r.1 = q.1
  · rw [if_pos e] at h
    rw [if_pos e.symm]
    exact lex_asym _ _ h
  · rw [if_neg e] at h
    rw [if_neg fun z => e z.symm]
    exact lex_asym _ _ h
theorem rowLt_tr (x y z : Row) (h1 : rowLt y x = false) (h2 : rowLt z y = false) : rowLt z x = false := by
  unfold rowLt at h1 h2 ⊢
  by_cases e1 : y.1 = x.1
  · rw [if_pos e1] at h1
    by_cases e2 : z.1 = y.1
    · rw [if_pos e2] at h2
      rw [if_pos (e2.trans e1)]
      exact lex_tr _ _ _ h1 h2
    · rw [if_neg e2] at h2
      rw [if_neg (by rw [← e1]; exact e2), ← e1]
      exact h2
  · rw [if_neg e1] at h1
    by_cases e2 : z.1 = y.1
    · rw [if_neg (by rw [e2]; exact e1), e2]
      exact h1
    · rw [if_neg e2] at h2
      by_cases e3 : z.1 = x.1
      · rw [e3] at h2
        exact absurd (lex_eq _ _ h1 h2) e1
      · rw [if_neg e3]
        exact lex_tr _ _ _ h1 h2
/-! ### rows in the heap -/
def TupH (h : Heap) (a : Addr) (items : Array Value) : Prop := ∃ o, h.get? a = some o ∧ o.cls = .type "tuple" ∧ ∃ n, o.data = .seq items n
def RowIn (h : Heap) (v : Value) (r : Row) : Prop := ∃ (a b : Addr) (us ws : List Value), v = .ref a ∧ TupH h a (us ++ [Value.ref b]).toArray ∧ TupH h b ws.toArray ∧ PyProof.Rows.IntsAre us r.1 ∧ PyProof.Rows.IntsAre ws r.2
theorem TupH.keeps {h h' : Heap} {a : Addr} {items : Array Value} (x : TupH h a items) (k : ∀ b o, h.get? b = some o → o.cls = .type "tuple" → h'.get? b = some o) : TupH h' a items := by
  obtain ⟨o, ho, hc, n, hd⟩ := x
  exact ⟨o, k _ _ ho hc, hc, n, hd⟩
theorem RowIn.keeps {h h' : Heap} {v : Value} {r : Row} (x : RowIn h v r) (k : ∀ b o, h.get? b = some o → o.cls = .type "tuple" → h'.get? b = some o) : RowIn h' v r := by
  obtain ⟨a, b, us, ws, e, h1, h2, h3, h4⟩ := x
  exact ⟨a, b, us, ws, e, h1.keeps k, h2.keeps k, h3, h4⟩
theorem TupH.uniq {h : Heap} {a : Addr} {x y : Array Value} (h1 : TupH h a x) (h2 : TupH h a y) : x = y := by
  obtain ⟨o, ho, _, n, hd⟩ := h1
  obtain ⟨o', ho', _, n', hd'⟩ := h2
  rw [ho] at ho'
  cases ho'
  rw [hd] at hd'
  cases hd'
  rfl
theorem intsAre_uniq : ∀ {us : List Value} {x y : List Int}, PyProof.Rows.IntsAre us x → PyProof.Rows.IntsAre us y → x = y
  | _, _, _, .nil, .nil => rfl
  | _, _, _, .cons a t h1, .cons _ _ h2 => by rw [intsAre_uniq h1 h2]
theorem RowIn.uniq {h : Heap} {v : Value} {r q : Row} (x : RowIn h v r) (y : RowIn h v q) : r = q := by
  obtain ⟨a, b, us, ws, rfl, h1, h2, h3, h4⟩ := x
  obtain ⟨a', b', us', ws', e, g1, g2, g3, g4⟩ := y
  cases e
  have e1 := congrArg Array.toList (h1.uniq g1)
  simp only [List.toList_toArray] at e1
  have e2 := List.append_inj' e1 rfl
  obtain ⟨e3, e4⟩ := e2
  have e6 : b = b' := by
    have := List.cons.inj e4
    exact Value.ref.inj this.1
  subst e6
  subst e3
  have e5 := congrArg Array.toList (h2.uniq g2)
  simp only [List.toList_toArray] at e5
  subst e5
  exact Prod.ext (intsAre_uniq h3 g3) (intsAre_uniq h4 g4)
open Classical in
noncomputable def rowOf (h : Heap) (v : Value) : Row := if x : ∃ r, RowIn h v r then x.choose else ([], [])
theorem rowOf_eq {h : Heap} {v : Value} {r : Row} (x : RowIn h v r) : rowOf h v = r := by
  unfold rowOf
  have y : ∃ r, RowIn h v r := ⟨r, x⟩
  rw [dif_pos y]
  exact y.choose_spec.uniq x
section
variable {prog : Program} {w : World} {A : Around} {E : Value → Shared → Prop} {s : Shared}
theorem keyOf_ints {ws : List Value} {ns : List Int} (h : PyProof.Rows.IntsAre ws ns) : PySem.ItemsAre (L2.mixKind prog w) (ns.map Sum.inl) ws := by
  induction h with
  | nil => exact .nil
  | cons a t h ih => exact .cons (L2.mixKind_int prog w a t) ih
theorem row_lex {ns ns' : List Int} {b b' : Addr} {ws ws' : List Value} {Q : Bool → Shared → Prop} (hu : A.units < cLine) (t1 : TupH s.heap b ws.toArray) (t2 : TupH s.heap b' ws'.toArray) (i1 : PyProof.Rows.IntsAre ws ns) (i2 : PyProof.Rows.IntsAre ws' ns') :
    ∀ {us us' : List Value} {is is' : List Int} (i : Nat), PyProof.Rows.IntsAre us is → PyProof.Rows.IntsAre us' is' → is.length = is'.length → 0 < i + is.length → Q (rowLt (is, ns) (is', ns')) s →
      PySem.W.KatLex prog w A true false Q ((us ++ [Value.ref b]).zip (us' ++ [Value.ref b'])) i s
  | _, _, _, _, i, .nil, .nil, _, hp, hQ => by
    show PySem.W.KatLex prog w A true false Q [(Value.ref b, Value.ref b')] i s
    obtain ⟨o1, ho1, c1, n1, d1⟩ := t1
    obtain ⟨o2, ho2, c2, n2, d2⟩ := t2
    have k1 : IsTupleKey (L2.mixKind prog w) s.heap (ns.map Sum.inl) b := ⟨o1, _, n1, ho1, c1, d1, by simpa using keyOf_ints i1⟩
    have k2 : IsTupleKey (L2.mixKind prog w) s.heap (ns'.map Sum.inl) b' := ⟨o2, _, n2, ho2, c2, d2, by simpa using keyOf_ints i2⟩
    have hQ' : Q (HT.lexLt ns ns') s := hQ
    refine PySem.W.kat_cons (wpAny_eqBool_tuple hu k1 k2 ?_)
    refine PySem.W.kat_go (fun e => ?_) (fun _ => ?_)
    · have e1 := of_decide_eq_true e
      have e2 : ns = ns' := by
        have := congrArg (List.map fun k : L2.Key => match k with | .inl i => i | .inr _ => (0 : Int)) e1
        simpa [List.map_map, Function.comp_def] using this
      rw [e2, lex_irr] at hQ'
      exact PySem.W.kat_yes (PySem.W.kat_nil hQ')
    · refine PySem.W.kat_no ?_
      obtain ⟨j, rfl⟩ : ∃ j, i = j + 1 := ⟨i - 1, by simp at hp; omega⟩
      show wpAny _ _ (PyProof.Rows.oneLt' false _ _) _ _ _
      exact PySem.W.kat_one _ _ (HT.lt_tupInts ⟨o1, ho1, c1, n1, d1⟩ ⟨o2, ho2, c2, n2, d2⟩ (by simpa using i1) (by simpa using i2) hu hQ')
  | _, _, _, _, i, .cons x t h1, .cons y u h2, hl, hp, hQ => by
    rw [List.cons_append, List.cons_append, List.zip_cons_cons]
    refine PySem.W.kat_cons (SeqAt.EqAt.int_int x t y u prog w _ _ ?_)
    refine PySem.W.kat_go (fun e1 => ?_) (fun e1 => ?_)
    · have ex : x = y := by simpa using e1
      refine PySem.W.kat_yes (row_lex hu t1 t2 i1 i2 (i + 1) h1 h2 (by simpa using hl) (by omega) ?_)
      subst ex
      unfold rowLt at hQ ⊢
      simp only [List.cons.injEq, true_and] at hQ
      rw [HT.lexLt_cons, if_pos rfl] at hQ
      exact hQ
    · have ex : ¬ x = y := by simpa using e1
      refine PySem.W.kat_no (TS.oneLt_ints _ ?_)
      unfold rowLt at hQ
      simp only [List.cons.injEq, ex, false_and, if_false] at hQ
      rw [HT.lexLt_cons, if_neg ex] at hQ
      exact hQ
end
section
variable {prog : Program} {w : World} {A : Around} {E : Value → Shared → Prop} {s : Shared}
theorem firsts_row {h : Heap} {m : Nat} (hm : 1 ≤ m) : ∀ vs : List Value, (∀ v ∈ vs, ∃ r, RowIn h v r ∧ r.1.length = m) → ∃ fs : List Value, PySem.W.KatTups h vs fs ∧ fs.length = vs.length ∧ ∀ f ∈ fs, ∃ i t, f = Value.int i t
  | [], _ => ⟨[], PySem.W.KatTups.nil, rfl, fun f hf => by simp at hf⟩
  | v :: vs, x => by
    obtain ⟨fs, k, hl, hi⟩ := firsts_row hm vs fun u hu => x u (List.mem_cons_of_mem _ hu)
    obtain ⟨⟨is, ns⟩, ⟨a, b, us, ws, rfl, ⟨o, ho, hc, n, hd⟩, _, h3, _⟩, hlen⟩ := x v List.mem_cons_self
    cases h3 with
    | nil =>
      have : (0 : Nat) = m := hlen
      omega
    | cons i t h3 =>
      refine ⟨.int i t :: fs, PySem.W.KatTups.cons ho hc hd (by simp) k, by simp [hl], fun f hf => ?_⟩
      rcases List.mem_cons.mp hf with rfl | hf
      · exact ⟨i, t, rfl⟩
      · exact hi f hf
theorem rows_cmp {vs : List Value} {m : Nat} {kf : Value → Row} (hm : 1 ≤ m) (hu : A.units < cLine) (hp : ∀ v ∈ vs, RowIn s.heap v (kf v) ∧ (kf v).1.length = m) : SrtO.Cmp prog w A s (PyProof.Rows.tuples' true) (fun p => p.1 ∈ vs) (SrtO.lt2 fun v u => rowLt (kf v) (kf u)) := by
  intro p q hpm hqm
  obtain ⟨h1, l1⟩ := hp _ hpm
  obtain ⟨h2, l2⟩ := hp _ hqm
  show wpAny (model prog w) A (PyProof.Rows.keyLt' (PyProof.Rows.tuples' true) p.1 q.1) (fun r s' => s' = s ∧ r = rowLt (kf p.1) (kf q.1)) (fun _ _ => False) s
  generalize kf p.1 = r at h1 l1 ⊢
  generalize kf q.1 = r' at h2 l2 ⊢
  obtain ⟨is, ns⟩ := r
  obtain ⟨is', ns'⟩ := r'
  obtain ⟨a, b, us, ws, e, ⟨o, ho, hc, n, hd⟩, t1, i1, j1⟩ := h1
  obtain ⟨a', b', us', ws', e', ⟨o', ho', hc', n', hd'⟩, t2, i2, j2⟩ := h2
  rw [e, e']
  have z1 := i1.length
  have z2 := i2.length
  simp only at l1 l2 z1 z2
  refine PySem.W.kat_lt ho hd ho' hd' ?_
  have e3 : decide ((us ++ [Value.ref b]).toArray.size < (us' ++ [Value.ref b']).toArray.size) = false := by
    refine decide_eq_false ?_
    simp
    omega
  rw [e3]
  exact row_lex (Q := fun r s' => s' = s ∧ r = rowLt (is, ns) (is', ns')) hu t1 t2 j1 j2 0 i1 i2 (by rw [l1, l2]) (by simp; omega) ⟨rfl, rfl⟩
theorem rows_sortableO {a : Addr} {vs : List Value} {m : Nat} {kf : Value → Row} (hm : 1 ≤ m) (h0 : 0 < vs.length) (hu : A.units < cLine) (hp : ∀ v ∈ vs, RowIn s.heap v (kf v) ∧ (kf v).1.length = m) (ha : ∀ o, s.heap.get? a = some o → o.cls ≠ .type "tuple") :
    SrtO.SortableO prog w A s a vs fun v u => rowLt (kf v) (kf u) := by
  intro h' keep
  have hp' : ∀ v ∈ vs, RowIn h' v (kf v) ∧ (kf v).1.length = m := fun v hv => ⟨(hp v hv).1.keeps fun b o e c => keep b o (fun z => by subst z; exact ha o e c) e, (hp v hv).2⟩
  obtain ⟨fs, h1, h2, h3⟩ := firsts_row hm vs fun v hv => ⟨_, hp' v hv⟩
  refine ⟨PyProof.Rows.tuples' true, fun Q E hq => ?_, rows_cmp (s := { s with heap := h' }) hm hu hp'⟩
  refine PySem.W.kat_kind (T := .type "int") h1 (by omega) (fun f hf => ?_) (by rfl) ?_
  · obtain ⟨x, t, rfl⟩ := h3 f hf
    exact PySem.W.Looks.now
  · have e : (Value.type "int" != Value.type "tuple") = true := by first | decide +kernel | rfl | decide
    rw [e]
    exact hq
end
/-! ### the rule -/
def rSortRow (K : PySem.W.Frag) : List V → Hp → VK → Prop := fun vs H Q => ∃ (a : Addr) (xs : List V) (rows : List Row) (m : Nat), vs = [V.ref a] ∧ SqL K H a xs ∧ TdAll K H xs (rows.map eRow) ∧ 1 ≤ m ∧ (∀ r ∈ rows, r.1.length = m) ∧
  ∀ (ys : List V) (out : List Row) (p : Addr), TdAll K H ys (out.map eRow) → out.Perm rows → out.Pairwise (fun r q => rowLt q r = false) → H p = none → Q (.ref p) (upd H p (.lst ys))
section
variable {X : Cx} {pins : List (Addr × Obj)} {σ : L2.St} {H : Hp} {s : Shared}
theorem td_row (I : Inv X pins σ H s) {x : V} {r : Row} (h : Td X.K H x (eRow r)) : ∃ t, x = .ref t ∧ RowIn s.heap (.ref t) r := by
  obtain ⟨is, ns⟩ := r
  obtain ⟨t, xs, rfl, hs, hd⟩ := h.tup_inv
  obtain ⟨its, rv, ht, _⟩ := I.tuple hs
  have key : ∀ (is : List Int) (xs : List V) (its : List Value), Vals xs its → TdAll X.K H xs (is.map PyData.int ++ [tI ns]) → ∃ us b, its = us ++ [Value.ref b] ∧ PyProof.Rows.IntsAre us is ∧ SqT X.K H b (ns.map V.int) := by
    intro is
    induction is with
    | nil =>
      intro xs its rv hd
      cases hd with
      | cons h1 h2 =>
        cases h2
        obtain ⟨b, rfl, hb⟩ := td_tI h1
        cases rv with
        | cons r1 r2 =>
          cases r2
          cases r1
          exact ⟨[], b, rfl, .nil, hb⟩
    | cons i is ih =>
      intro xs its rv hd
      cases hd with
      | cons h1 h2 =>
        obtain rfl := h1.int_inv
        cases rv with
        | cons r1 r2 =>
          obtain ⟨us, b, e, hi, hb⟩ := ih _ _ r2 h2
          obtain ⟨tk, rfl⟩ := r1
          exact ⟨_ :: us, b, by rw [e]; rfl, .cons i tk hi, hb⟩
  obtain ⟨us, b, e, hi, hb⟩ := key is xs its rv hd
  obtain ⟨ws, rw_, hw, _⟩ := I.tuple hb
  subst e
  exact ⟨t, rfl, t, b, us, ws, rfl, ht, hw, hi, by simpa using rw_.ints⟩
theorem kSortRow {K : PySem.W.Frag} (hu : X.A.units + 64 < cLine) (eK : X.K = K) : CallR X (.builtin "sorted") (rSortRow K) := by
  subst eK
  intro pins s σ H vs us Q I r h
  obtain ⟨a, xs, rows, m, rfl, hs, hx, hm, hlen, q⟩ := h
  obtain ⟨its, rv, hl, hz⟩ := I.list hs
  rw [Vals.ref1 r]
  have hxm : ∀ x ∈ xs, ∃ r, r ∈ rows ∧ Td X.K H x (eRow r) := by
    intro x hxx
    obtain ⟨i, hi⟩ := List.mem_iff_getElem?.mp hxx
    obtain ⟨d, hd, td⟩ := hx.getV hi
    rw [List.getElem?_map] at hd
    cases e : rows[i]? with
    | none => rw [e] at hd; cases hd
    | some r =>
      rw [e] at hd
      cases hd
      exact ⟨r, List.mem_of_getElem? e, td⟩
  obtain ⟨e1, e2⟩ := bkV_refs rv fun x hxx => by
    obtain ⟨r, _, td⟩ := hxm x hxx
    obtain ⟨t, e, _⟩ := td_row I td
    exact ⟨t, e⟩
  have hrow : ∀ v ∈ its, ∃ r, r ∈ rows ∧ Td X.K H (bkV v) (eRow r) ∧ RowIn s.heap v r := by
    intro v hv
    obtain ⟨t, rfl⟩ := e2 v hv
    have hmx : bkV (Value.ref t) ∈ xs := by
      rw [e1]
      exact List.mem_map.mpr ⟨_, hv, rfl⟩
    obtain ⟨r, hr, td⟩ := hxm _ hmx
    obtain ⟨t', e, hri⟩ := td_row I td
    have e' : V.ref t = V.ref t' := e
    cases e'
    exact ⟨r, hr, td, hri⟩
  have hk : ∀ v ∈ its, RowIn s.heap v (rowOf s.heap v) ∧ (rowOf s.heap v).1.length = m := fun v hv => by
    obtain ⟨r, hr, _, hri⟩ := hrow v hv
    rw [rowOf_eq hri]
    exact ⟨hri, hlen r hr⟩
  have hmap : its.map (rowOf s.heap) = rows := by
    have key : ∀ (its : List Value) (xs : List V) (rows : List Row), xs = its.map bkV → (∀ v ∈ its, ∃ t, v = Value.ref t) → TdAll X.K H xs (rows.map eRow) → its.map (rowOf s.heap) = rows := by
      intro its
      induction its with
      | nil =>
        intro xs rows e _ hd
        subst e
        cases rows with
        | nil => rfl
        | cons r rows => cases hd
      | cons v its ih =>
        intro xs rows e hv hd
        subst e
        cases rows with
        | nil => cases hd
        | cons r rows =>
          cases hd with
          | cons h1 h2 =>
            obtain ⟨t, rfl⟩ := hv v List.mem_cons_self
            obtain ⟨t', et, hri⟩ := td_row I h1
            have et' : V.ref t = V.ref t' := et
            cases et'
            rw [List.map_cons, rowOf_eq hri, ih _ rows rfl (fun u hu => hv u (List.mem_cons_of_mem _ hu)) h2]
    exact key its xs rows e1 e2 hx
  refine SrtO.sorted_ord (ltv := fun v u => rowLt (rowOf s.heap v) (rowOf s.heap u)) ⟨fun x y => rowLt_asym _ _, fun x y z => rowLt_tr _ _ _⟩ hl.isList (by rw [← rv.length]; exact hz) (fun h2 h₁ b hb kk => ?_) fun out h1 h2 => ?_
  · refine rows_sortableO (s := { s with heap := h₁ }) (kf := rowOf s.heap) hm (by omega) (by show X.A.units + 1 + 1 < cLine; omega) (fun v hv => ⟨(hk v hv).1.keeps fun b o e _ => (kk b o e).2, (hk v hv).2⟩) fun o e => ?_
    have e' : some o = some (PyProof.Rows.seqObj "list" its.toArray 0) := e.symm.trans hb
    cases e'
    intro c
    exact absurd (Value.type.inj c) (by decide)
  · have hmem : ∀ u ∈ out, u ∈ its := fun u hu => h2.perm.mem_iff.mp hu
    have h3 : ∀ u ∈ out, ∃ a, u = Value.ref a := fun u hu => e2 u (hmem u hu)
    obtain ⟨ep, he'⟩ := PyProof.Rows.sortedAll_at s.heap its out.toArray
    have hlen2 : (out.map bkV).length ≤ sizeLine := by
      rw [List.length_map, h2.perm.length_eq, ← rv.length]
      exact hz
    refine ⟨.ref _, upd H (s.heap.objs.size + 1) (.lst (out.map bkV)), I.laid (t' := s.toks) (fun _ _ => PyProof.Rows.sortedAll_old) (Nat.le_succ _) ⟨hlen2, out, ep, bkV_vals h3, he'⟩, rfl, q _ (out.map (rowOf s.heap)) _ ?_ ?_ ?_ (I.hok.fresh (Nat.le_succ _))⟩
    · have key : ∀ out : List Value, (∀ u ∈ out, u ∈ its) → TdAll X.K H (out.map bkV) ((out.map (rowOf s.heap)).map eRow) := by
        intro out
        induction out with
        | nil => intro _; exact .nil
        | cons u out ih =>
          intro ho
          obtain ⟨r, _, td, hri⟩ := hrow u (ho u List.mem_cons_self)
          refine .cons ?_ (ih fun v hv => ho v (List.mem_cons_of_mem _ hv))
          rw [rowOf_eq hri]
          exact td
      exact key out hmem
    · rw [← hmap]
      exact h2.perm.map _
    · rw [List.pairwise_map]
      exact h1
end
end Nc
set_option maxHeartbeats 4000000
/-! X9: sorted(tuple of ints); t.index(n); a loop over a list or a tuple. -/
namespace Nc
open PySem PySem.Spec PyProof.Rows L2
section
variable {prog : Program} {w : World} {A : Around} {E : Value → Shared → Prop} {s : Shared}
theorem collect_tup {l : Addr} {vs : List Value} {Q : List Value → Shared → Prop} (hl : s.heap.IsTuple l vs.toArray)
    (h : Q vs { s with heap := (s.heap.push (seqObj "list" #[] 0)).update s.heap.objs.size (Obj.mapSeq (· ++ vs.toArray)) }) (hsz : vs.length ≤ sizeLine) : wpAny (model prog w) A (collect (.ref l)) Q E s := by
  obtain ⟨o, ho, hc, n, hd⟩ := hl
  have n0 : (s.heap.push (seqObj "list" #[] 0)).get? s.heap.objs.size = some (seqObj "list" #[] 0) := Heap.get?_push_size _ rfl
  have ho' : (s.heap.push (seqObj "list" #[] 0)).get? l = some o := Heap.get?_push_of_some _ ho
  unfold collect
  refine wpAny_bind (wpAny_runValue (codeAny_builtin entry_proto_collect' ?_))
  show wpAny _ _ (do again (.builtin "list.__iadd__" ⟨[← newList [], .ref l], []⟩)) _ _ s
  refine wpAny_bind (wpAny_newList (wpAny_pure ⟨Code.quiet_builtin _ (by decide +kernel), codeAny_builtin entry_list_iadd' ?_⟩))
  show wpAny _ _ (Builtin.List.listExtendWith (.ref s.heap.objs.size) (.ref l) (.ref s.heap.objs.size)) _ _ { s with heap := s.heap.push (seqObj "list" #[] 0) }
  unfold Builtin.List.listExtendWith
  refine wpAny_bind (wpAny_typeOf (T := "tuple") ⟨o, ho', hc⟩ ?_)
  have ht : (Value.type "tuple" == Value.type "tuple") = true := by rfl
  rw [if_pos (by rw [ht]; simp)]
  refine wpAny_bind (listItems_at ho' hd (wpAny_bind (listItems_at (xs := #[]) (n := 0) n0 rfl ?_)))
  rw [if_neg (by simp)]
  refine wpAny_bind (listUpdate_at (xs := #[]) (n := 0) n0 rfl ?_ (Nat.zero_le _) (by show (#[] ++ vs.toArray).size ≤ sizeLine + 1; simp only [Array.size_append, List.size_toArray, List.length_nil]; omega))
  refine wpAny_pure ?_
  show wpAny (model prog w) A (do
      let o ← load s.heap.objs.size
      match o.data with
      | .seq xs _ => pure xs.toList
      | _ => unsupported "internal:collect") Q E { s with heap := (s.heap.push (seqObj "list" #[] 0)).update s.heap.objs.size (Obj.mapSeq (· ++ vs.toArray)) }
  refine wpAny_bind (wpAny_load (get?_update_seq n0 _) ?_)
  show wpAny _ _ (pure ((#[] : Array Value) ++ vs.toArray).toList) Q E _
  have e : ((#[] : Array Value) ++ vs.toArray).toList = vs := by simp
  rw [e]
  exact wpAny_pure h
theorem sorted_tupO {l : Addr} {vs : List Value} {ltv : Value → Value → Bool} {Q : Value → Shared → Prop} (O : SrtO.Swo ltv) (hl : s.heap.IsTuple l vs.toArray) (hz : vs.length ≤ sizeLine)
    (hS : 2 ≤ vs.length → ∀ (h₁ : Heap) (a : Addr), SrtO.SortableO prog w A.in1.in1 { s with heap := h₁ } a vs ltv)
    (h : ∀ out : List Value, SrtO.Srtd ltv out → SrtO.Stb ltv out vs → Q (.ref (s.heap.objs.size + 1)) { s with heap := sortedAll s.heap vs out.toArray }) :
    wpAny (model prog w) A (call (.builtin "sorted") [.ref l]) Q E s := by
  refine Calls.call_function_entry kind_sorted plain_sorted entry_sorted (args_sorted1 _) ?_
  unfold Builtin.«sorted»
  refine wpAny_bind (m := checkCount "sorted" 1 1 _) (wpAny_pure ?_)
  refine wpAny_bind (collect_tup hl ?_ hz)
  refine wpAny_bind (wpAny_newList ?_ hz)
  have hsz : ((s.heap.push (seqObj "list" #[] 0)).update s.heap.objs.size (Obj.mapSeq (· ++ vs.toArray))).objs.size = s.heap.objs.size + 1 := by
    rw [Heap.size_update, size_push']
  have oL : (((s.heap.push (seqObj "list" #[] 0)).update s.heap.objs.size (Obj.mapSeq (· ++ vs.toArray))).push (seqObj "list" vs.toArray 0)).get? (s.heap.objs.size + 1) = some (seqObj "list" vs.toArray 0) := by
    rw [← hsz]; exact Heap.get?_push_size _ rfl
  show wpAny _ _ _ _ _ { s with heap := ((s.heap.push (seqObj "list" #[] 0)).update s.heap.objs.size (Obj.mapSeq (· ++ vs.toArray))).push (seqObj "list" vs.toArray 0) }
  rw [hsz]
  refine wpAny_bind (wpAny_holding (wpAny_call_entry slot_list_sort ⟨_, oL, rfl⟩ entry_list_sort (SrtO.list_sort_ord O oL hz (fun h2 => hS h2 _ _) fun out hs hb => ⟨_, rfl, ?_⟩) (args_list_sort _)))
  exact wpAny_pure ⟨_, rfl, h out hs hb⟩
end
section
variable {X : Cx} {K : PySem.W.Frag}
/-- sorted(t), t a tuple of ints -/
def rSortTI (K : PySem.W.Frag) : List V → Hp → VK → Prop := fun vs H Q => ∃ (a : Addr) (ns : List Int), vs = [V.ref a] ∧ SqT K H a (ns.map V.int) ∧ ∀ p, H p = none → Q (.ref p) (upd H p (.lst ((sortI ns).map V.int)))
theorem kSortTI (e : X.K = K) : CallR X (.builtin "sorted") (rSortTI K) := by
  subst e
  intro pins s σ H vs us Q I r h
  obtain ⟨a, ns, rfl, hs, q⟩ := h
  obtain ⟨its, rv, hl, hz⟩ := I.tuple hs
  rw [Vals.ref1 r]
  have hi := rv.ints
  refine sorted_tupO SrtO.swo_int hl (by rw [← rv.length]; exact hz) (fun h2 h₁ a' => SrtO.ints_sortable hi h2) fun out h1 h2 => ?_
  obtain ⟨k1, k2, k3⟩ := SrtO.ints_out hi h1 h2
  obtain ⟨ep, he'⟩ := sortedAll_at s.heap its out.toArray
  have e1 : out.map SrtO.iv = sortI ns := sortI_eq k2 k3
  rw [e1] at k1
  have hlen : ((sortI ns).map V.int).length ≤ sizeLine := by
    rw [List.length_map, sortI_len]
    rw [List.length_map] at hz
    exact hz
  exact ⟨.ref _, upd H (s.heap.objs.size + 1) (.lst ((sortI ns).map V.int)), I.laid (t' := s.toks) (fun _ _ => sortedAll_old) (Nat.le_succ _) ⟨hlen, out, ep, vals_of_ints k1, he'⟩, rfl, q _ (I.hok.fresh (Nat.le_succ _))⟩
/-- t.index(n), t a tuple of ints -/
def rTIndex (K : PySem.W.Frag) : V → List V → Hp → VK → Prop := fun x xs H Q => ∃ (p : Addr) (ns : List Int) (k : Int), x = .ref p ∧ xs = [.int k] ∧ SqT K H p (ns.map V.int) ∧ k ∈ ns ∧ Q (.int (ns.idxOf k : Nat)) H
theorem kTIndex (e : X.K = K) : MtR X "tuple.index" (rTIndex K) := by
  subst e
  intro pins s σ H x xs v us Q I rx rs h
  obtain ⟨p, ns, k, rfl, rfl, hq, hk, q⟩ := h
  cases rx
  obtain ⟨u, rfl, t, rfl⟩ := vals1 rs
  obtain ⟨its, r, pl, hz⟩ := I.tuple hq
  exact PySem.SeqAt.tuple_index_ints pl r.ints hk ⟨.int (ns.idxOf k : Nat), H, I.tok _, ⟨_, rfl⟩, q⟩
/-- over a list or a tuple -/
def iSeq (K : PySem.W.Frag) (tl : TE) : TI := fun σ H R => iList K tl σ H R ∨ iTup K tl σ H R
theorem kpSeq {tg l : Expr} {tl : TE} (e : X.K = K) (hl : PE X l tl) : PI X tg l (iSeq K tl) := by
  subst e
  exact ⟨fun pins s σ H R I h => h.elim ((pi_list hl).run pins s σ H R I) ((pi_tup hl).run pins s σ H R I)⟩
theorem kSortPO (e : X.K = K) : CallR X (.builtin "sorted") (rSortedPO K) := e ▸ cr_sortedPO
end
end Nc
set_option maxHeartbeats 4000000
/-! X10: sorted pairs of ints, told as data. -/
namespace Nc
open PySem PySem.Spec PyProof.Rows L2
abbrev eI2 (p : Int × Int) : PyData := .tuple [.int p.1, .int p.2]
def PairIn (h : Heap) (v : Value) (p : Int × Int) : Prop := Srt.IsPair h v p.1 p.2
theorem PairIn.uniq {h : Heap} {v : Value} {p q : Int × Int} (x : PairIn h v p) (y : PairIn h v q) : p = q := by
  obtain ⟨a, o, t, u, n, rfl, ho, _, hd⟩ := x
  obtain ⟨a', o', t', u', n', e, ho', _, hd'⟩ := y
  cases e
  rw [ho] at ho'
  cases ho'
  rw [hd] at hd'
  injection hd' with e1 _
  have e2 := congrArg Array.toList e1
  have e3 : [Value.int p.1 t, Value.int p.2 u] = [Value.int q.1 t', Value.int q.2 u'] := e2
  injection e3 with e4 e5
  injection e5 with e6 _
  injection e4 with e7 _
  injection e6 with e8 _
  exact Prod.ext e7 e8
open Classical in
noncomputable def pairOf (h : Heap) (v : Value) : Int × Int := if x : ∃ p, PairIn h v p then x.choose else (0, 0)
theorem pairOf_eq {h : Heap} {v : Value} {p : Int × Int} (x : PairIn h v p) : pairOf h v = p := by
  unfold pairOf
  have y : ∃ p, PairIn h v p := ⟨p, x⟩
  rw [dif_pos y]
  exact y.choose_spec.uniq x
def rSortPr (K : PySem.W.Frag) : List V → Hp → VK → Prop := fun vs H Q => ∃ (a : Addr) (xs : List V) (ps : List (Int × Int)), vs = [V.ref a] ∧ SqL K H a xs ∧ TdAll K H xs (ps.map eI2) ∧
  ∀ (ys : List V) (out : List (Int × Int)) (p : Addr), TdAll K H ys (out.map eI2) → out.Perm ps → out.Pairwise (fun r q => SrtO.lexB q r = false) → H p = none → Q (.ref p) (upd H p (.lst ys))
section
variable {X : Cx} {pins : List (Addr × Obj)} {σ : L2.St} {H : Hp} {s : Shared}
theorem td_pair (I : Inv X pins σ H s) {x : V} {p : Int × Int} (h : Td X.K H x (eI2 p)) : ∃ t, x = .ref t ∧ PairIn s.heap (.ref t) p := by
  obtain ⟨t, xs, rfl, hs, hd⟩ := h.tup_inv
  obtain ⟨its, rv, ht, _⟩ := I.tuple hs
  obtain ⟨y0, y1, rfl, t0, t1⟩ := tdAll2 hd
  obtain rfl := t0.int_inv
  obtain rfl := t1.int_inv
  obtain ⟨u1, u2, rfl, ⟨k1, rfl⟩, ⟨k2, rfl⟩⟩ := vals2 rv
  obtain ⟨o, ho, hc, n, hd⟩ := ht
  exact ⟨t, rfl, t, o, k1, k2, n, rfl, ho, hc, hd⟩
theorem kSortPr {K : PySem.W.Frag} (eK : X.K = K) : CallR X (.builtin "sorted") (rSortPr K) := by
  subst eK
  intro pins s σ H vs us Q I r h
  obtain ⟨a, xs, ps, rfl, hs, hx, q⟩ := h
  obtain ⟨its, rv, hl, hz⟩ := I.list hs
  rw [Vals.ref1 r]
  have hxm : ∀ x ∈ xs, ∃ r, r ∈ ps ∧ Td X.K H x (eI2 r) := by
    intro x hxx
    obtain ⟨i, hi⟩ := List.mem_iff_getElem?.mp hxx
    obtain ⟨d, hd, td⟩ := hx.getV hi
    rw [List.getElem?_map] at hd
    cases e : ps[i]? with
    | none => rw [e] at hd; cases hd
    | some r =>
      rw [e] at hd
      cases hd
      exact ⟨r, List.mem_of_getElem? e, td⟩
  obtain ⟨e1, e2⟩ := bkV_refs rv fun x hxx => by
    obtain ⟨r, _, td⟩ := hxm x hxx
    obtain ⟨t, e, _⟩ := td_pair I td
    exact ⟨t, e⟩
  have hrow : ∀ v ∈ its, ∃ r, r ∈ ps ∧ Td X.K H (bkV v) (eI2 r) ∧ PairIn s.heap v r := by
    intro v hv
    obtain ⟨t, rfl⟩ := e2 v hv
    have hmx : bkV (Value.ref t) ∈ xs := by
      rw [e1]
      exact List.mem_map.mpr ⟨_, hv, rfl⟩
    obtain ⟨r, hr, td⟩ := hxm _ hmx
    obtain ⟨t', e, hri⟩ := td_pair I td
    have e' : V.ref t = V.ref t' := e
    cases e'
    exact ⟨r, hr, td, hri⟩
  have hmap : its.map (pairOf s.heap) = ps := by
    have key : ∀ (its : List Value) (xs : List V) (ps : List (Int × Int)), xs = its.map bkV → (∀ v ∈ its, ∃ t, v = Value.ref t) → TdAll X.K H xs (ps.map eI2) → its.map (pairOf s.heap) = ps := by
      intro its
      induction its with
      | nil =>
        intro xs ps e _ hd
        subst e
        cases ps with
        | nil => rfl
        | cons r ps => cases hd
      | cons v its ih =>
        intro xs ps e hv hd
        subst e
        cases ps with
        | nil => cases hd
        | cons r ps =>
          cases hd with
          | cons h1 h2 =>
            obtain ⟨t, rfl⟩ := hv v List.mem_cons_self
            obtain ⟨t', et, hri⟩ := td_pair I h1
            have et' : V.ref t = V.ref t' := et
            cases et'
            rw [List.map_cons, pairOf_eq hri, ih _ ps rfl (fun u hu => hv u (List.mem_cons_of_mem _ hu)) h2]
    exact key its xs ps e1 e2 hx
  refine SrtO.sorted_pairsO (k := pairOf s.heap) hl.isList (by rw [← rv.length]; exact hz) (fun v hv => ?_) fun h' d out h1 h2 kp hd hn => ?_
  · obtain ⟨r, _, _, hri⟩ := hrow v hv
    rw [pairOf_eq hri]
    exact hri
  · have hmem : ∀ u ∈ out, u ∈ its := fun u hu => h2.perm.mem_iff.mp hu
    have h3 : ∀ u ∈ out, ∃ a, u = Value.ref a := fun u hu => e2 u (hmem u hu)
    obtain ⟨n, hn⟩ := hn
    have hlen2 : (out.map bkV).length ≤ sizeLine := by
      rw [List.length_map, h2.perm.length_eq, ← rv.length]
      exact hz
    refine ⟨.ref d, upd H d (.lst (out.map bkV)), I.laid (t' := s.toks) kp hd ⟨hlen2, out, n, bkV_vals h3, hn⟩, rfl, q _ (out.map (pairOf s.heap)) _ ?_ ?_ ?_ (I.hok.fresh hd)⟩
    · have key : ∀ out : List Value, (∀ u ∈ out, u ∈ its) → TdAll X.K H (out.map bkV) ((out.map (pairOf s.heap)).map eI2) := by
        intro out
        induction out with
        | nil => intro _; exact .nil
        | cons u out ih =>
          intro ho
          obtain ⟨r, _, td, hri⟩ := hrow u (ho u List.mem_cons_self)
          refine .cons ?_ (ih fun v hv => ho v (List.mem_cons_of_mem _ hv))
          rw [pairOf_eq hri]
          exact td
      exact key out hmem
    · rw [← hmap]
      exact h2.perm.map _
    · rw [List.pairwise_map]
      exact h1
end
/-- the order's words -/
theorem sorted_keys {k : Int → Int} {l : List Int} {out : List (Int × Int)} (p : out.Perm (l.map fun n => (k n, n))) (h : out.Pairwise fun r q => SrtO.lexB q r = false) : out = (sortK k l).map fun n => (k n, n) := by
  have hm : ∀ x ∈ out, x = (k x.2, x.2) := fun x hx => by
    obtain ⟨n, _, rfl⟩ := List.mem_map.mp (p.mem_iff.mp hx)
    rfl
  have e : out.map (·.2) = sortK k l := by
    refine sortK_eq ?_ ?_
    · have := p.map (·.2)
      rw [List.map_map] at this
      have e2 : l.map ((fun x : Int × Int => x.2) ∘ fun n => (k n, n)) = l := by
        simp [Function.comp_def]
      rw [e2] at this
      exact this
    · rw [List.pairwise_map]
      refine List.Pairwise.imp_of_mem ?_ h
      intro x y hx hy hlt
      rw [hm x hx, hm y hy, SrtO.lexB_no] at hlt
      rw [leK_iff]
      simp only at hlt
      omega
  rw [← e, List.map_map]
  exact (List.map_id out).symm.trans (List.map_congr_left fun x hx => hm x hx)
end Nc
set_option maxHeartbeats 4000000
/-! L1: the law's own reckoning of what is taken. -/
namespace Nc
open PySem PySem.Spec L2
theorem fullL_snoc (gs : List (List Int × Int)) (g : List Int × Int) (found : List Int) (c : Int) : fullL (gs ++ [g]) found c = (fullL gs found c || (decide (c ∈ g.1) && decide (g.2 ≤ ((found.filter fun x => decide (x ∈ g.1)).length : Int)))) := by
  unfold fullL
  rw [List.any_append]
  simp
theorem greedyL_snoc (gs : List (List Int × Int)) (off : Int → Bool) (c : Int) : ∀ (l f : List Int), greedyL gs off (l ++ [c]) f = if off c = true ∧ fullL gs (greedyL gs off l f) c = false then greedyL gs off l f ++ [c] else greedyL gs off l f
  | [], f => by
    simp only [List.nil_append, greedyL]
    rfl
  | x :: l, f => by
    simp only [List.cons_append, greedyL]
    split
    · exact greedyL_snoc gs off c l _
    · exact greedyL_snoc gs off c l _
theorem greedyL_len (gs : List (List Int × Int)) (off : Int → Bool) : ∀ (l f : List Int), (greedyL gs off l f).length ≤ f.length + l.length
  | [], f => by simp [greedyL]
  | x :: l, f => by
    simp only [greedyL]
    split
    · have := greedyL_len gs off l (f ++ [x])
      simp only [List.length_append, List.length_cons, List.length_nil] at this ⊢
      omega
    · have := greedyL_len gs off l f
      simp only [List.length_cons]
      omega
local macro_rules | `(tactic| walk_at "st") => `(tactic| (repeat (first
  | ((with_reducible refine' r_var ?e ?_); (case e => exact rfl))
  | (with_reducible refine' r_op ?_)
  | (with_reducible refine' r_c ?_)
  | (with_reducible refine' r_cons ?_)
  | (with_reducible refine' r_nil ?_)
  | (with_reducible refine' r_cb ?_)
  | (with_reducible refine' r_call ?_)
  | (with_reducible refine' r_test ?_)
  | (with_reducible refine' r_lc ?_)
  | (with_reducible refine' r_lc2 ?_)
  | (with_reducible refine' r_sk ?_)
  | (with_reducible refine' r_iZ ?_)
  | (with_reducible refine' r_dg ?_)
  | (with_reducible refine' r_dpS ?_)
  | (with_reducible refine' r_dp1 ?_)
  | (with_reducible refine' r_dn ?_)
  | (with_reducible refine' r_iT ?_)
  | (with_reducible refine' r_iL ?_)
  | (with_reducible refine' r_iE ?_)
  | (with_reducible refine' r_iR ?_)
  | (with_reducible refine' r_ret ?_)
  | (with_reducible refine' r_asgS ?_)
  | (with_reducible refine' r_asg1 ?_)
  | (with_reducible refine' r_asgTS ?_)
  | (with_reducible refine' r_ifS ?_)
  | (with_reducible refine' r_if1 ?_)
  | (with_reducible refine' r_forS ?_)
  | (with_reducible refine' r_for1 ?_)
  | (with_reducible refine' r_dropS ?_)
  | (with_reducible refine' r_drop1 ?_)
  | (with_reducible refine' r_tup ?_)
  | (with_reducible refine' r_lst ?_)
  | (with_reducible refine' r_sl ?_)
  | (with_reducible refine' r_noP ?_)
  | (with_reducible refine' r_part ?_)
  | (with_reducible refine' r_bm ?_)
  | (with_reducible refine' r_bm0 ?_)
  | (with_reducible refine' r_un ?_)
  | (with_reducible refine' r_notV ?_)
  | (with_reducible refine' r_B ?_)
  | (with_reducible refine' r_and ?_)
  | (with_reducible refine' r_or ?_)
  | (with_reducible refine' r_not ?_)
  | (with_reducible refine' r_yes ?_)
  | (with_reducible refine' r_next ?_)
  | (with_reducible refine' r_break ?_)
  | (with_reducible refine' r_gn ?_)
  | (with_reducible refine' r_tupRg ?_)
  | (with_reducible refine' r_rg1 ?_)
  )))
local macro_rules | `(tactic| walk_at "no") => `(tactic| (refine q_eqS ⟨_, rfl, ite2 (fun e => absurd (of_decide_eq_true e) (by decide +kernel)) (fun _ => ?_)⟩; walk_at "st"; try dsimp only))
local macro_rules | `(tactic| walk_at "yes") => `(tactic| (refine q_eqS ⟨_, rfl, ite2 (fun _ => ?_) (fun e => absurd (decide_eq_true rfl) e)⟩; walk_at "st"))
section
variable {P : Program} {w : World} {K : PySem.W.Frag} {mg : Str → Option Value} {base : Heap}
variable {T : List (Addr × Str)}
def sp_law_greedy (K : PySem.W.Frag) (T : List (Addr × Str)) : Sp := Sp3 fun a b c H Q => ∃ (row : List Int) (gs : List (List Int × Int)) (ns : List Int), Td K H a (tI row) ∧ Td K H b (.tuple (gs.map eG)) ∧ SqI K H c ns ∧ row.length ≤ 1000 ∧
  ∀ p H', Fresh H p → Fr T [] H H' → H' p = some (.lst ((greedyL gs (fun c => decide (c ∈ ns)) row []).map V.int)) → Q (.ref p) H'
/-! ### _law_greedy -/
abbrev s_law_greedy : Stmt := topS 31
abbrev N_law_greedy : List Str := ["_law_wishes", "_law_groups_here", "_law_offered", "_law_found", "_law_contract", "_law_full", "_law_group", "_law_x"]
theorem sc_law_greedy : FnScope N_law_greedy ["_law_wishes", "_law_groups_here", "_law_offered"] (defScope s_law_greedy) := ⟨rfl, rfl, rfl, by decide +kernel, rfl, by decide +kernel, by decide +kernel⟩
theorem d_law_greedy (B : B0 mg) (A0 : At K mg "_law_greedy" s_law_greedy) : Dn P w K mg base "_law_greedy" ["_law_wishes", "_law_groups_here", "_law_offered"] 1 (sp_law_greedy K T) := by
  refine dn3 A0 sc_law_greedy (fun _ _ F => F.bindsN fun _ _ _ _ _ _ us hl => match us, hl with | [_, _, _], _ => rfl) fun f cdv A outer s H a0 a1 a2 Q E hr h => ?_
  have nd := sc_law_greedy.nd
  refine ⟨_, (pss_cons
  (ps_set (i := 3) nd rfl (by first | exact Or.inl rfl | exact Or.inr rfl) (pe_lst pa_nil))
  (pss_cons
  (ps_for PassesOwn.never rfl (kpTup (K := K) rfl (pv 0)) (pg_name (i := 4) nd rfl (by first | exact Or.inl rfl | exact Or.inr rfl)) (pss_cons
  (ps_set (i := 5) nd rfl (by first | exact Or.inl rfl | exact Or.inr rfl) pe_bl)
  (pss_cons
  (ps_for PassesOwn.never rfl (kpTup (K := K) rfl (pv 1)) (pg_name (i := 6) nd rfl (by first | exact Or.inl rfl | exact Or.inr rfl)) (pss_one
  (ps_if (PW.pt (pw_and (pt_cmpR (kIn (K := K) rfl) (pv 4) (pe_ix (kIxT (K := K) rfl) (pv 6) pe_int (fun _ _ => rfl)) (by rfl)) (pw_and1 (pt_cmpR op_ge (pe_callB (kLen (K := K) rfl) (by rfl) B.len PySem.boot_len (pa_cons (pe_lc (own := [("_law_x", 7)]) (g := (gName 7)) (by rfl) nd (kpList (K := K) rfl (pv 3)) (blkOk_by (own := [("_law_x", 7)]) (N := N_law_greedy) (sc := defScope s_law_greedy) (by decide +kernel)) (fun _ _ _ _ _ => (pg_name (i := 7) nd rfl (by first | exact Or.inl rfl | exact Or.inr rfl))) (fun _ _ _ _ _ => (pts_one (pt_cmpR (kIn (K := K) rfl) (pv 7) (pe_ix (kIxT (K := K) rfl) (pv 6) pe_int (fun _ _ => rfl)) (by rfl)))) (fun _ _ _ _ _ => (pv 7))) pa_nil)) (pe_ix (kIxT (K := K) rfl) (pv 6) pe_int (fun _ _ => rfl)) (by rfl))))) (pss_one
  (ps_set (i := 5) nd rfl (by first | exact Or.inl rfl | exact Or.inr rfl) pe_bl)) pss_nil)))
  (pss_one
  (ps_if (PW.pt (pw_and (pt_cmpR (kIn (K := K) rfl) (pv 4) (pv 2) (by rfl)) (pw_and1 (pt_not (pt_val (pv 5)))))) (pss_one
  (ps_expr (pe_bm PySem.F.plainAttrs_list PySem.F.slot_list_append PySem.F.type_list_append mt_append (pv 3) (pa_cons (pv 4) pa_nil)))) pss_nil)))))
  (pss_one
  (ps_ret (pv 3))))), ?_⟩
  obtain ⟨row, gs, ns, tr, tg, sn, hl, q⟩ := h
  generalize hoff : (fun c => decide (c ∈ ns)) = off at q
  walk_at "st"
  refine ⟨Nat.zero_le _, fun fa hfa => ?_⟩
  have f0 : Fr T [] H (upd H fa (.lst [])) := Fr.new hfa
  generalize hH1 : upd H fa (.lst []) = H1 at f0
  have ha1 : H1 fa = some (.lst []) := by rw [← hH1, upd_same]
  walk_at "st"
  refine for_T (T := T) (M := [fa]) row .int (tr.mono f0) (fun i σ H' => ∃ x y z u, σ = [some a0, some a1, some a2, some (.ref fa), x, y, z, u] ∧ Fr T [] H H' ∧ Fr T [fa] H1 H' ∧ H' fa = some (.lst ((greedyL gs off (row.take i) []).map V.int)))
    ⟨_, _, _, _, rfl, f0, Fr.reflM (fun z hz => by simp at hz; subst hz; exact ⟨_, ha1⟩), ha1⟩ (fun i σ H' p => by obtain ⟨_, _, _, _, _, _, f, _⟩ := p; exact f) ?_ ?_
  · rintro i c v σ' H2 hi ⟨x, y, z, u, rfl, f2, f3, hfa2⟩ tv
    obtain rfl := tv.int_inv
    generalize hF : greedyL gs off (row.take i) [] = F at hfa2
    have hFl : F.length ≤ 1000 := by
      have := greedyL_len gs off (row.take i) []
      rw [hF, List.length_take] at this
      simp only [List.length_nil] at this
      omega
    walk_at "st"
    refine for_T (T := T) (M := []) gs eG (tg.mono f2) (fun j σ H' => ∃ z u, σ = [some a0, some a1, some a2, some (.ref fa), some (.int c), some (.bl (fullL (gs.take j) F c)), z, u] ∧ Fr T [] H2 H') ⟨_, _, rfl, Fr.refl _⟩ (fun i σ H' p => by obtain ⟨_, _, _, f⟩ := p; exact f) ?_ ?_
    · rintro j g v σ' H3 hj ⟨z, u, rfl, f4⟩ tv
      walk_at "st"
      refine q_ixT tv (d := tI g.1) rfl fun u1 t1 => ?_
      refine q_in (SqI.of_t t1) ⟨_, rfl, ite2 (fun e => ?_) (fun e => ?_)⟩
      · walk_at "st"
        refine lc_L (T := T) F .int (f4.lst0 hfa2) (tdAll_ints _) (line_of (by omega)) (fun x => decide (x ∈ g.1)) .int (fun _ => rfl) ?_ ?_
        · intro x u2 H4 hx f5 t2 R1 R2 r1 r2
          obtain rfl := t2.int_inv
          walk_at "st"
          refine q_ixT (tv.mono f5) (d := tI g.1) rfl fun u3 t3 => ?_
          refine q_in (SqI.of_t t3) ⟨_, rfl, ite2 (fun e => ?_) (fun e => ?_)⟩
          · walk_at "st"
            exact r1 e _ _ (Fr.refl _) (.int _)
          · exact r2 (Bool.eq_false_iff.mpr e) _ (Fr.refl _)
        · intro D H4 xs hD f5 hx tx
          walk_at "st"
          refine q_lenL hx ?_
          walk_at "st"
          refine q_ixT (tv.mono f5) (d := .int g.2) rfl fun u3 t3 => ?_
          obtain rfl := t3.int_inv
          refine q_I ⟨_, rfl, ?_⟩
          have e1 : xs.length = (F.filter fun x => decide (x ∈ g.1)).length := by rw [tx.length, List.length_map]
          rw [e1]
          refine ite2 (fun e2 => ?_) (fun e2 => ?_)
          · walk_at "st"
            refine ⟨some v, u, ?_, f4.trans f5⟩
            rw [take_snoc hj, fullL_snoc]
            have e3 : (decide (c ∈ g.1) && decide (g.2 ≤ ((F.filter fun x => decide (x ∈ g.1)).length : Int))) = true := by
              rw [Bool.and_eq_true]
              exact ⟨e, e2⟩
            rw [e3, Bool.or_true]
            rfl
          · walk_at "st"
            refine ⟨some v, u, ?_, f4.trans f5⟩
            rw [take_snoc hj, fullL_snoc]
            have e3 : (decide (c ∈ g.1) && decide (g.2 ≤ ((F.filter fun x => decide (x ∈ g.1)).length : Int))) = false := by
              rw [Bool.and_eq_false_iff]
              exact Or.inr (Bool.eq_false_iff.mpr e2)
            rw [e3, Bool.or_false]
            rfl
      · walk_at "st"
        refine iteF ?_
        walk_at "st"
        refine ⟨some v, u, ?_, f4⟩
        rw [take_snoc hj, fullL_snoc]
        have e3 : (decide (c ∈ g.1) && decide (g.2 ≤ ((F.filter fun x => decide (x ∈ g.1)).length : Int))) = false := by
          rw [Bool.and_eq_false_iff]
          exact Or.inl (Bool.eq_false_iff.mpr e)
        rw [e3, Bool.or_false]
        rfl
    · rintro σ' H3 ⟨z, u, rfl, f4⟩
      rw [List.take_of_length_le (Nat.le_refl _)]
      dsimp only
      have f23 := f2.trans f4
      have g3 : Fr T [fa] H1 H3 := f3.trans (f4.wide f3.m1)
      have hfa3 := f4.lst0 hfa2
      have eo : off c = decide (c ∈ ns) := by rw [← hoff]
      walk_at "st"
      refine q_in (sn.mono f23) ⟨_, rfl, ite2 (fun e => ?_) (fun e => ?_)⟩
      · walk_at "st"
        refine ⟨_, rfl, ?_⟩
        have e' : off c = true := eo.trans e
        refine ite2 (fun e2 => ?_) (fun e2 => ?_)
        · walk_at "st"
          refine ⟨ty_lst hfa3, ?_⟩
          walk_at "st"
          refine q_app hfa3 (by rw [List.length_map]; exact line_of (by omega)) ?_
          refine ⟨_, _, _, _, rfl, f23.mut (Fresh.of hfa) hfa3, g3.andSet (by simp), ?_⟩
          rw [upd_same, take_snoc hi, greedyL_snoc, hF, if_pos ⟨e', by simpa using e2⟩, List.map_append]
          rfl
        · walk_at "st"
          refine ⟨_, _, _, _, rfl, f23, g3, ?_⟩
          rw [take_snoc hi, greedyL_snoc, hF, if_neg fun z => e2 (by rw [z.2]; rfl)]
          exact hfa3
      · refine iteF ?_
        walk_at "st"
        refine ⟨_, _, _, _, rfl, f23, g3, ?_⟩
        rw [take_snoc hi, greedyL_snoc, hF, if_neg fun z => e (eo.symm.trans z.1)]
        exact hfa3
  · rintro σ' H2 ⟨x, y, z, u, rfl, f2, f3, hfa2⟩
    rw [List.take_of_length_le (Nat.le_refl _)] at hfa2
    dsimp only
    walk_at "st"
    exact q fa H2 (Fresh.of hfa) f2 hfa2
end
end Nc
set_option maxHeartbeats 4000000
/-! LB: the law's traders. -/
namespace Nc
open PySem PySem.Spec L2
theorem tradedL_while (pr : Int → Int) (cost : Int) : ∀ (n : Nat) (B S : List Int), tradedL pr cost n B S = (((B.zip S).take n).takeWhile fun p => !decide (pr p.2 ≤ pr p.1 + cost)).flatMap fun p => [p.1, p.2]
  | 0, B, S => by simp [tradedL]
  | n + 1, [], S => by simp [tradedL]
  | n + 1, _ :: _, [] => by simp [tradedL]
  | n + 1, b :: B, s :: S => by
    rw [tradedL, tradedL_while pr cost n B S, List.zip_cons_cons, List.take_succ_cons, List.takeWhile_cons]
    by_cases h : pr s ≤ pr b + cost
    · simp [h]
    · simp [h]
theorem while_stop {α : Type} {ok : α → Bool} : ∀ {L : List α} {i : Nat} {x : α}, (∀ y ∈ L.take i, ok y = true) → L[i]? = some x → ok x = false → L.takeWhile ok = L.take i
  | [], _, _, _, h, _ => by simp at h
  | a :: L, 0, x, _, h, hx => by
    simp at h
    subst h
    simp [List.takeWhile_cons, hx]
  | a :: L, i + 1, x, h1, h, hx => by
    rw [List.takeWhile_cons, if_pos (h1 a (by simp)), List.take_succ_cons, while_stop (L := L) (i := i) (fun y hy => h1 y (by rw [List.take_succ_cons]; exact List.mem_cons_of_mem _ hy)) (by simpa using h) hx]
theorem while_all {α : Type} {ok : α → Bool} : ∀ {L : List α}, (∀ y ∈ L, ok y = true) → L.takeWhile ok = L
  | [], _ => rfl
  | a :: L, h => by rw [List.takeWhile_cons, if_pos (h a List.mem_cons_self), while_all fun y hy => h y (List.mem_cons_of_mem _ hy)]
local macro_rules | `(tactic| walk_at "st") => `(tactic| (repeat (first
  | ((with_reducible refine' r_var ?e ?_); (case e => exact rfl))
  | (with_reducible refine' r_op ?_)
  | (with_reducible refine' r_c ?_)
  | (with_reducible refine' r_cons ?_)
  | (with_reducible refine' r_nil ?_)
  | (with_reducible refine' r_cb ?_)
  | (with_reducible refine' r_call ?_)
  | (with_reducible refine' r_test ?_)
  | (with_reducible refine' r_lc ?_)
  | (with_reducible refine' r_lc2 ?_)
  | (with_reducible refine' r_sk ?_)
  | (with_reducible refine' r_iZ ?_)
  | (with_reducible refine' r_dg ?_)
  | (with_reducible refine' r_dpS ?_)
  | (with_reducible refine' r_dp1 ?_)
  | (with_reducible refine' r_dn ?_)
  | (with_reducible refine' r_iT ?_)
  | (with_reducible refine' r_iL ?_)
  | (with_reducible refine' r_iE ?_)
  | (with_reducible refine' r_iR ?_)
  | (with_reducible refine' r_ret ?_)
  | (with_reducible refine' r_asgS ?_)
  | (with_reducible refine' r_asg1 ?_)
  | (with_reducible refine' r_asgTS ?_)
  | (with_reducible refine' r_ifS ?_)
  | (with_reducible refine' r_if1 ?_)
  | (with_reducible refine' r_forS ?_)
  | (with_reducible refine' r_for1 ?_)
  | (with_reducible refine' r_dropS ?_)
  | (with_reducible refine' r_drop1 ?_)
  | (with_reducible refine' r_tup ?_)
  | (with_reducible refine' r_lst ?_)
  | (with_reducible refine' r_sl ?_)
  | (with_reducible refine' r_noP ?_)
  | (with_reducible refine' r_part ?_)
  | (with_reducible refine' r_bm ?_)
  | (with_reducible refine' r_bm0 ?_)
  | (with_reducible refine' r_un ?_)
  | (with_reducible refine' r_notV ?_)
  | (with_reducible refine' r_B ?_)
  | (with_reducible refine' r_and ?_)
  | (with_reducible refine' r_or ?_)
  | (with_reducible refine' r_not ?_)
  | (with_reducible refine' r_yes ?_)
  | (with_reducible refine' r_next ?_)
  | (with_reducible refine' r_break ?_)
  | (with_reducible refine' r_gn ?_)
  | (with_reducible refine' r_tupRg ?_)
  | (with_reducible refine' r_rg1 ?_)
  )))
local macro_rules | `(tactic| walk_at "no") => `(tactic| (refine q_eqS ⟨_, rfl, ite2 (fun e => absurd (of_decide_eq_true e) (by decide +kernel)) (fun _ => ?_)⟩; walk_at "st"; try dsimp only))
local macro_rules | `(tactic| walk_at "yes") => `(tactic| (refine q_eqS ⟨_, rfl, ite2 (fun _ => ?_) (fun e => absurd (decide_eq_true rfl) e)⟩; walk_at "st"))
section
variable {P : Program} {w : World} {K : PySem.W.Frag} {mg : Str → Option Value} {base : Heap}
variable {T : List (Addr × Str)}
def sp_law_traded (K : PySem.W.Frag) (T : List (Addr × Str)) : Sp := Sp3 fun a b c H Q => ∃ (cs : List Ctr) (room cost : Int) (bs ss ns : List Int), Td K H a (.tuple (cs.map eC)) ∧ Td K H b (eP (.trader room cost bs ss)) ∧ SqI K H c ns ∧ bs.length ≤ 1000 ∧ ss.length ≤ 1000 ∧ 0 ≤ room ∧
  (∀ n ∈ bs, InC cs n) ∧ (∀ n ∈ ss, InC cs n) ∧
  ∀ p H', Fresh H p → Fr T [] H H' → H' p = some (.lst ((tradedL (price cs) cost room.toNat (sortK (price cs) (bs.filter fun c => decide (c ∈ ns))) (sortK (fun c => -price cs c) (ss.filter fun c => decide (c ∈ ns)))).map V.int)) → Q (.ref p) H'
/-! ### _law_traded -/
abbrev s_law_traded : Stmt := topS 32
abbrev N_law_traded : List Str := ["_law_contracts", "_law_choice_here", "_law_offered", "_law_buys", "_law_sells", "_law_found", "_law_k", "_law_number"]
theorem sc_law_traded : FnScope N_law_traded ["_law_contracts", "_law_choice_here", "_law_offered"] (defScope s_law_traded) := ⟨rfl, rfl, rfl, by decide +kernel, rfl, by decide +kernel, by decide +kernel⟩
theorem d_law_traded (B : B0 mg) (A0 : At K mg "_law_traded" s_law_traded) : Dn P w K mg base "_law_traded" ["_law_contracts", "_law_choice_here", "_law_offered"] 1 (sp_law_traded K T) := by
  refine dn3 A0 sc_law_traded (fun _ _ F => F.bindsN fun _ _ _ _ _ _ us hl => match us, hl with | [_, _, _], _ => rfl) fun f cdv A outer s H a0 a1 a2 Q E hr h => ?_
  have nd := sc_law_traded.nd
  refine ⟨_, (pss_cons
  (ps_set (i := 3) nd rfl (by first | exact Or.inl rfl | exact Or.inr rfl) (pe_callB (kSortPr (K := K) rfl) (by rfl) B.sorted (by decide +kernel) (pa_cons (pe_lc (own := [("_law_number", 7)]) (g := (gName 7)) (by rfl) nd (kpTup (K := K) rfl (pe_ix (kIxT (K := K) rfl) (pv 1) pe_int (fun _ _ => rfl))) (blkOk_by (own := [("_law_number", 7)]) (N := N_law_traded) (sc := defScope s_law_traded) (by decide +kernel)) (fun _ _ _ _ _ => (pg_name (i := 7) nd rfl (by first | exact Or.inl rfl | exact Or.inr rfl))) (fun _ _ _ _ _ => (pts_one (pt_cmpR (kIn (K := K) rfl) (pv 7) (pv 2) (by rfl)))) (fun _ _ _ _ _ => (pe_tup (pa_cons (pe_ix (kIxT (K := K) rfl) (pe_ix (kIxT (K := K) rfl) (pv 0) (pv 7) (fun _ _ => rfl)) pe_int (fun _ _ => rfl)) (pa_cons (pv 7) pa_nil))))) pa_nil)))
  (pss_cons
  (ps_set (i := 4) nd rfl (by first | exact Or.inl rfl | exact Or.inr rfl) (pe_callB (kSortPr (K := K) rfl) (by rfl) B.sorted (by decide +kernel) (pa_cons (pe_lc (own := [("_law_number", 7)]) (g := (gName 7)) (by rfl) nd (kpTup (K := K) rfl (pe_ix (kIxT (K := K) rfl) (pv 1) pe_int (fun _ _ => rfl))) (blkOk_by (own := [("_law_number", 7)]) (N := N_law_traded) (sc := defScope s_law_traded) (by decide +kernel)) (fun _ _ _ _ _ => (pg_name (i := 7) nd rfl (by first | exact Or.inl rfl | exact Or.inr rfl))) (fun _ _ _ _ _ => (pts_one (pt_cmpR (kIn (K := K) rfl) (pv 7) (pv 2) (by rfl)))) (fun _ _ _ _ _ => (pe_tup (pa_cons (pe_un un_neg (pe_ix (kIxT (K := K) rfl) (pe_ix (kIxT (K := K) rfl) (pv 0) (pv 7) (fun _ _ => rfl)) pe_int (fun _ _ => rfl))) (pa_cons (pv 7) pa_nil))))) pa_nil)))
  (pss_cons
  (ps_set (i := 5) nd rfl (by first | exact Or.inl rfl | exact Or.inr rfl) (pe_lst pa_nil))
  (pss_cons
  (ps_for PassesOwn.never rfl (pi_range1 (by rfl) B.range (pa_cons (pe_callB (call_min3Nu rfl) (by rfl) B.min (by decide +kernel) (pa_cons (pe_callB (kLen (K := K) rfl) (by rfl) B.len PySem.boot_len (pa_cons (pv 3) pa_nil)) (pa_cons (pe_callB (kLen (K := K) rfl) (by rfl) B.len PySem.boot_len (pa_cons (pv 4) pa_nil)) (pa_cons (pe_ix (kIxT (K := K) rfl) (pv 1) pe_int (fun _ _ => rfl)) pa_nil)))) pa_nil)) (pg_name (i := 6) nd rfl (by first | exact Or.inl rfl | exact Or.inr rfl)) (pss_cons
  (ps_if (pt_cmpR op_le (pe_un un_neg (pe_ix (kIxT (K := K) rfl) (pe_ix (kIxL (K := K) rfl) (pv 4) (pv 6) (fun _ _ => rfl)) pe_int (fun _ _ => rfl))) (pe_op op_add (pe_ix (kIxT (K := K) rfl) (pe_ix (kIxL (K := K) rfl) (pv 3) (pv 6) (fun _ _ => rfl)) pe_int (fun _ _ => rfl)) (pe_ix (kIxT (K := K) rfl) (pv 1) pe_int (fun _ _ => rfl))) (by rfl)) (pss_one
  ps_break) pss_nil)
  (pss_one
  (ps_set (i := 5) nd rfl (by first | exact Or.inl rfl | exact Or.inr rfl) (pe_op op_cat (pv 5) (pe_lst (pa_cons (pe_ix (kIxT (K := K) rfl) (pe_ix (kIxL (K := K) rfl) (pv 3) (pv 6) (fun _ _ => rfl)) pe_int (fun _ _ => rfl)) (pa_cons (pe_ix (kIxT (K := K) rfl) (pe_ix (kIxL (K := K) rfl) (pv 4) (pv 6) (fun _ _ => rfl)) pe_int (fun _ _ => rfl)) pa_nil))))))))
  (pss_one
  (ps_ret (pv 5))))))), ?_⟩
  obtain ⟨cs, room, cost, bs, ss, ns, tc, tch, sn, hb, hs, hro, ib, is, q⟩ := h
  walk_at "st"
  refine q_ixT tch (d := tI bs) rfl fun ub tb => ?_
  walk_at "st"
  refine lc_T (T := T) bs .int tb (line_of (by omega)) (fun c => decide (c ∈ ns)) (fun n => eI2 (price cs n, n)) (fun _ => rfl) ?_ ?_
  · intro n u H2 hn f2 tu R1 R2 r1 r2
    obtain rfl := tu.int_inv
    walk_at "st"
    refine q_in (sn.mono f2) ⟨_, rfl, ite2 (fun e => ?_) (fun e => ?_)⟩
    · obtain ⟨c, _, e1, e2⟩ := inC_at (ib n hn)
      walk_at "st"
      refine q_ixT (tc.mono f2) e1 fun u1 h1 => ?_
      walk_at "st"
      refine q_ixT h1 (d := .int c.2.2) rfl fun u2 h2 => ?_
      obtain rfl := h2.int_inv
      walk_at "st"
      refine ⟨Nat.le_of_lt (line_of (show (2 : Nat) ≤ 100000 by decide)), fun t ht => r1 e _ _ (Fr.new ht) (td_new upd_same ?_)⟩
      rw [e2]
      exact .cons (.int _) (.cons (.int _) .nil)
    · exact r2 (Bool.eq_false_iff.mpr e) _ (Fr.refl _)
  intro D1 H1 xs hD1 f1 hx1 tx1
  walk_at "st"
  have ex1 : ((bs.filter fun c => decide (c ∈ ns)).map fun n => eI2 (price cs n, n)) = ((bs.filter fun c => decide (c ∈ ns)).map fun n => (price cs n, n)).map eI2 := by rw [List.map_map]; rfl
  rw [ex1] at tx1
  refine ⟨D1, xs, _, rfl, SqL.of hx1, tx1, fun ys out p2 ty2 pm so hp2 => ?_⟩
  rw [sorted_keys pm so] at ty2
  generalize hB : sortK (price cs) (bs.filter fun c => decide (c ∈ ns)) = B at ty2 q
  have f2 : Fr T [] H (upd H1 p2 (.lst ys)) := f1.andNew hp2
  have hx2 : (upd H1 p2 (.lst ys)) p2 = some (.lst ys) := upd_same
  have ty2' : TdAll K (upd H1 p2 (.lst ys)) ys ((B.map fun n => (price cs n, n)).map eI2) := ty2.mono (Fr.new (T := T) hp2)
  generalize upd H1 p2 (.lst ys) = H2 at f2 hx2 ty2'
  walk_at "st"
  refine q_ixT (tch.mono f2) (d := tI ss) rfl fun us ts => ?_
  walk_at "st"
  refine lc_T (T := T) ss .int ts (line_of (by omega)) (fun c => decide (c ∈ ns)) (fun n => eI2 (-price cs n, n)) (fun _ => rfl) ?_ ?_
  · intro n u H3 hn f3 tu R1 R2 r1 r2
    obtain rfl := tu.int_inv
    walk_at "st"
    refine q_in (sn.mono (f2.trans f3)) ⟨_, rfl, ite2 (fun e => ?_) (fun e => ?_)⟩
    · obtain ⟨c, _, e1, e2⟩ := inC_at (is n hn)
      walk_at "st"
      refine q_ixT (tc.mono (f2.trans f3)) e1 fun u1 h1 => ?_
      walk_at "st"
      refine q_ixT h1 (d := .int c.2.2) rfl fun u2 h2 => ?_
      obtain rfl := h2.int_inv
      refine q_U ?_
      walk_at "st"
      refine ⟨Nat.le_of_lt (line_of (show (2 : Nat) ≤ 100000 by decide)), fun t ht => r1 e _ _ (Fr.new ht) (td_new upd_same ?_)⟩
      rw [e2]
      exact .cons (.int _) (.cons (.int _) .nil)
    · exact r2 (Bool.eq_false_iff.mpr e) _ (Fr.refl _)
  intro D3 H3 xs3 hD3 f3 hx3 tx3
  walk_at "st"
  have ex3 : ((ss.filter fun c => decide (c ∈ ns)).map fun n => eI2 (-price cs n, n)) = ((ss.filter fun c => decide (c ∈ ns)).map fun n => (-price cs n, n)).map eI2 := by rw [List.map_map]; rfl
  rw [ex3] at tx3
  refine ⟨D3, xs3, _, rfl, SqL.of hx3, tx3, fun zs out2 p4 tz4 pm2 so2 hp4 => ?_⟩
  rw [sorted_keys (k := fun n => -price cs n) pm2 so2] at tz4
  generalize hS : sortK (fun c => -price cs c) (ss.filter fun c => decide (c ∈ ns)) = S at tz4 q
  have f24 : Fr T [] H2 (upd H3 p4 (.lst zs)) := f3.andNew hp4
  have hz4 : (upd H3 p4 (.lst zs)) p4 = some (.lst zs) := upd_same
  have tz4' : TdAll K (upd H3 p4 (.lst zs)) zs ((S.map fun n => (-price cs n, n)).map eI2) := tz4.mono (Fr.new (T := T) hp4)
  generalize upd H3 p4 (.lst zs) = H4 at f24 hz4 tz4'
  have hy4 := f24.lst0 hx2
  have ty4 := ty2'.mono f24
  have f4 := f2.trans f24
  have lB : ys.length = B.length := by rw [ty4.length, List.length_map, List.length_map]
  have lS : zs.length = S.length := by rw [tz4'.length, List.length_map, List.length_map]
  have lB2 : B.length ≤ 1000 := by
    rw [← hB, (sortK_perm _ _).length_eq]
    exact filt_le _ hb
  walk_at "st"
  refine ⟨Nat.zero_le _, fun fa hfa => ?_⟩
  have f5 : Fr T [] H4 (upd H4 fa (.lst [])) := Fr.new hfa
  have ha5 : (upd H4 fa (.lst [])) fa = some (.lst []) := upd_same
  generalize upd H4 fa (.lst []) = H5 at f5 ha5
  walk_at "st"
  refine q_lenL (f5.lst0 hy4) ?_
  walk_at "st"
  refine q_lenL (f5.lst0 hz4) ?_
  walk_at "st"
  refine q_ixT (tch.mono (f4.trans f5)) (d := .int room) rfl fun u1 h1 => ?_
  obtain rfl := h1.int_inv
  walk_at "st"
  refine q_min3 ?_
  generalize hm : (min (min (ys.length : Int) (zs.length : Int)) room) = m
  walk_at "st"
  refine ⟨_, rfl, by omega, by omega, ?_⟩
  generalize hL : (B.zip S).take room.toNat = L
  have hLl : L.length = m.toNat := by
    rw [← hL, List.length_take, List.length_zip, ← hm, lB, lS]
    omega
  have q' : ∀ p H', Fresh H p → Fr T [] H H' → H' p = some (.lst (((L.takeWhile fun p => !decide (price cs p.2 ≤ price cs p.1 + cost)).flatMap fun p => [p.1, p.2]).map V.int)) → Q (.ref p) H' := by
    intro p H' g1 g2 g3
    refine q p H' g1 g2 ?_
    rw [tradedL_while, hL]
    exact g3
  refine for_R (fun i σ H' => ∃ p x y, σ = [some a0, some a1, some a2, some (.ref p2), some (.ref p4), some (.ref p), x, y] ∧ Fr T [] H H' ∧ Fr T [] H4 H' ∧ Fresh H p ∧ H' p = some (.lst (((L.take i).flatMap fun p => [p.1, p.2]).map V.int)) ∧ ∀ z ∈ L.take i, (!decide (price cs z.2 ≤ price cs z.1 + cost)) = true)
    ⟨fa, _, _, rfl, f4.trans f5, f5, f4.there hfa, ha5, by simp⟩ ?_ ?_
  · rintro i σ' H6 hi ⟨p, x, y, rfl, f6, g6, np, hp6, hall⟩
    obtain ⟨⟨b1, s1⟩, hbs⟩ : ∃ z, L[i]? = some z := ⟨_, List.getElem?_eq_getElem (by omega)⟩
    have hz : (B.zip S)[i]? = some (b1, s1) := by
      rw [← hL, List.getElem?_take] at hbs
      split at hbs
      · exact hbs
      · cases hbs
    rw [List.getElem?_zip_eq_some] at hz
    obtain ⟨hbi, hsi⟩ := hz
    obtain ⟨v1, hv1, tv1⟩ := (tz4'.mono g6).atI (k := (i : Int)) (at_nat (by rw [List.getElem?_map, List.getElem?_map, hsi]; rfl))
    obtain ⟨v2, hv2, tv2⟩ := (ty4.mono g6).atI (k := (i : Int)) (at_nat (by rw [List.getElem?_map, List.getElem?_map, hbi]; rfl))
    walk_at "st"
    refine q_ixL (g6.lst0 hz4) hv1 ?_
    walk_at "st"
    refine q_ixT tv1 (d := .int (-price cs s1)) rfl fun u1 h1 => ?_
    obtain rfl := h1.int_inv
    refine q_U ?_
    walk_at "st"
    refine q_ixL (g6.lst0 hy4) hv2 ?_
    walk_at "st"
    refine q_ixT tv2 (d := .int (price cs b1)) rfl fun u2 h2 => ?_
    obtain rfl := h2.int_inv
    walk_at "st"
    refine q_ixT (tch.mono f6) (d := .int cost) rfl fun u3 h3 => ?_
    obtain rfl := h3.int_inv
    refine q_I (q_I ⟨_, rfl, ?_⟩)
    rw [Int.neg_neg]
    refine ite2 (fun e => ?_) (fun e => ?_)
    · walk_at "st"
      refine q' p H6 np f6 ?_
      rw [while_stop hall hbs (by rw [e]; rfl)]
      exact hp6
    · walk_at "st"
      refine q_ixL (g6.lst0 hy4) hv2 ?_
      walk_at "st"
      refine q_ixT tv2 (d := .int b1) rfl fun u2 h2 => ?_
      obtain rfl := h2.int_inv
      walk_at "st"
      refine q_ixL (g6.lst0 hz4) hv1 ?_
      walk_at "st"
      refine q_ixT tv1 (d := .int s1) rfl fun u1 h1 => ?_
      obtain rfl := h1.int_inv
      walk_at "st"
      refine ⟨Nat.le_of_lt (line_of (show (2 : Nat) ≤ 100000 by decide)), fun p7 hp7 => ?_⟩
      have f7 : Fr T [] H6 (upd H6 p7 (.lst [.int b1, .int s1])) := Fr.new hp7
      have hl2 := flat2_len (L.take i)
      refine q_cat (f7.lst0 hp6) upd_same ?_ fun p8 hp8 => ?_
      · rw [List.length_map, hl2, List.length_take]
        refine Nat.le_of_lt (line_of ?_)
        show 2 * min i L.length + 2 ≤ 100000
        omega
      · have f8 := f7.andNew (o := .lst (((L.take i).flatMap fun p => [p.1, p.2]).map V.int ++ [.int b1, .int s1])) hp8
        refine ⟨p8, _, _, rfl, f6.trans f8, g6.trans f8, (f6.trans f7).there hp8, ?_, ?_⟩
        · rw [upd_same, take_snoc hbs, List.flatMap_append, List.map_append]
          rfl
        · intro z hz
          rw [take_snoc hbs] at hz
          rcases List.mem_append.mp hz with hz | hz
          · exact hall z hz
          · simp at hz
            subst hz
            simpa using e
  · rintro σ' H6 ⟨p, x, y, rfl, f6, g6, np, hp6, hall⟩
    rw [List.take_of_length_le (by omega)] at hp6 hall
    dsimp only
    walk_at "st"
    refine q' p H6 np f6 ?_
    rw [while_all hall]
    exact hp6
end
end Nc
set_option maxHeartbeats 4000000
/-! LC: the law's choice. -/
namespace Nc
open PySem PySem.Spec L2
theorem lawP_len {pr : Int → Int} {cs : List Ctr} {off : Int → Bool} {p : Plain} (h : OkPl cs p) : (lawP pr p off).length ≤ 200 := by
  cases p with
  | maker r b s =>
    obtain ⟨_, h1, h2⟩ := h
    have e1 := filt_le off h1
    have e2 := filt_le off h2
    simp only [lawP, sortI_len, List.length_append, List.length_take]
    omega
  | sides br b sr s =>
    obtain ⟨_, _, h1, h2⟩ := h
    have e1 := filt_le off h1
    have e2 := filt_le off h2
    simp only [lawP, sortI_len, List.length_append, List.length_take]
    omega
  | table rows =>
    have := firstRow_len (off := off) h.2
    simp only [lawP]
    omega
  | trader r c b s =>
    simp only [lawP, sortI_len]
    rw [tradedL_mt, flat2_len]
    have : ∀ (n : Nat) (x y : List Int), (mt (worth pr c) n x y).length ≤ x.length := by
      intro n
      induction n with
      | zero => intro x y; simp [mt]
      | succ n ih =>
        intro x y
        match x, y with
        | [], _ => simp [mt]
        | _ :: _, [] => simp [mt]
        | a :: x, d :: y =>
          unfold mt
          split
          · simp only [List.length_cons]
            exact Nat.succ_le_succ (ih x y)
          · simp
    have h2 := this r.toNat (sortK pr (b.filter off)) (sortK (fun c => -pr c) (s.filter off))
    rw [(sortK_perm _ _).length_eq] at h2
    have h3 := filt_le off h.2.1
    omega
  | caps b bg s sg =>
    obtain ⟨h1, h2, _⟩ := h
    have e3 := greedyL_len bg off b []
    have e4 := greedyL_len sg off s []
    simp only [lawP, sortI_len, List.length_append, List.length_nil] at e3 e4 ⊢
    omega
theorem inV_false (bs : List Bool) : inV (.bl false) (bs.map V.bl) = bs.any (!·) := by
  unfold inV
  induction bs with
  | nil => simp
  | cons b bs ih =>
    rw [List.map_cons, List.any_cons, List.any_cons, ih]
    cases b <;> rfl
theorem flat_bls (bs : List Bool) : (bs.map V.bl).all flatV = true := by
  induction bs with
  | nil => rfl
  | cons b bs ih => rw [List.map_cons, List.all_cons, ih]; rfl
theorem q_notInB {K : PySem.W.Frag} {H : Hp} {D : Addr} {bs : List Bool} {xs : List V} {Q : VK} (h : H D = some (.lst xs)) (hd : TdAll K H xs (bs.map PyData.bool)) (q : Q (.bl (bs.all id)) H) : rIn K true (.bl false) (.ref D) H Q := by
  refine ⟨D, bs.map V.bl, rfl, Or.inl (by rw [← tdAll_bls hd]; exact SqL.of h), rfl, flat_bls bs, ?_⟩
  rw [inV_false]
  have e : (if true = true then !(bs.any (!·)) else bs.any (!·)) = bs.all id := by
    rw [if_pos rfl, List.not_any_eq_all_not]
    simp
    rfl
  rw [e]
  exact q
local macro_rules | `(tactic| walk_at "st") => `(tactic| (repeat (first
  | ((with_reducible refine' r_var ?e ?_); (case e => exact rfl))
  | (with_reducible refine' r_op ?_)
  | (with_reducible refine' r_c ?_)
  | (with_reducible refine' r_cons ?_)
  | (with_reducible refine' r_nil ?_)
  | (with_reducible refine' r_cb ?_)
  | (with_reducible refine' r_call ?_)
  | (with_reducible refine' r_test ?_)
  | (with_reducible refine' r_lc ?_)
  | (with_reducible refine' r_lc2 ?_)
  | (with_reducible refine' r_sk ?_)
  | (with_reducible refine' r_iZ ?_)
  | (with_reducible refine' r_dg ?_)
  | (with_reducible refine' r_dpS ?_)
  | (with_reducible refine' r_dp1 ?_)
  | (with_reducible refine' r_dn ?_)
  | (with_reducible refine' r_iT ?_)
  | (with_reducible refine' r_iL ?_)
  | (with_reducible refine' r_iE ?_)
  | (with_reducible refine' r_iR ?_)
  | (with_reducible refine' r_ret ?_)
  | (with_reducible refine' r_asgS ?_)
  | (with_reducible refine' r_asg1 ?_)
  | (with_reducible refine' r_asgTS ?_)
  | (with_reducible refine' r_ifS ?_)
  | (with_reducible refine' r_if1 ?_)
  | (with_reducible refine' r_forS ?_)
  | (with_reducible refine' r_for1 ?_)
  | (with_reducible refine' r_dropS ?_)
  | (with_reducible refine' r_drop1 ?_)
  | (with_reducible refine' r_tup ?_)
  | (with_reducible refine' r_lst ?_)
  | (with_reducible refine' r_sl ?_)
  | (with_reducible refine' r_noP ?_)
  | (with_reducible refine' r_part ?_)
  | (with_reducible refine' r_bm ?_)
  | (with_reducible refine' r_bm0 ?_)
  | (with_reducible refine' r_un ?_)
  | (with_reducible refine' r_notV ?_)
  | (with_reducible refine' r_B ?_)
  | (with_reducible refine' r_and ?_)
  | (with_reducible refine' r_or ?_)
  | (with_reducible refine' r_not ?_)
  | (with_reducible refine' r_yes ?_)
  | (with_reducible refine' r_next ?_)
  | (with_reducible refine' r_break ?_)
  | (with_reducible refine' r_gn ?_)
  | (with_reducible refine' r_tupRg ?_)
  | (with_reducible refine' r_rg1 ?_)
  )))
local macro_rules | `(tactic| walk_at "no") => `(tactic| (refine q_eqS ⟨_, rfl, ite2 (fun e => absurd (of_decide_eq_true e) (by decide +kernel)) (fun _ => ?_)⟩; walk_at "st"; try dsimp only))
local macro_rules | `(tactic| walk_at "yes") => `(tactic| (refine q_eqS ⟨_, rfl, ite2 (fun _ => ?_) (fun e => absurd (decide_eq_true rfl) e)⟩; walk_at "st"))
section
variable {P : Program} {w : World} {K : PySem.W.Frag} {mg : Str → Option Value} {base : Heap}
variable {T : List (Addr × Str)}
def sp_law_choose (K : PySem.W.Frag) (T : List (Addr × Str)) (n : Nat) : Sp := Sp3 fun a b c H Q => ∃ (cs : List Ctr) (ch : Choice) (ns : List Int), Dep n ch ∧ Td K H a (.tuple (cs.map eC)) ∧ Td K H b (eCh ch) ∧ Td K H c (tI ns) ∧ OkCh cs ch ∧
  ∀ v H', Fr T [] H H' → Td K H' v (tI (lawC (price cs) ch (fun c => decide (c ∈ ns)))) → Q v H'
theorem law_choose0 (A0 : At K mg "_law_choose" (topS 33)) (hb : ∀ f fd, FnP K "_law_choose" (topS 33) f fd → Binds K fd ["_law_contracts", "_law_choice_here", "_law_offered"] []) {L : Nat} : Dn P w K mg base "_law_choose" ["_law_contracts", "_law_choice_here", "_law_offered"] L (sp_law_choose K T 0) := by
  obtain ⟨f, fd, F, gf⟩ := A0
  refine ⟨f, fd, ⟨fun vs H Q E h => ?_, fun A outer s H args us vs Q E _ _ _ _ h => ?_⟩, gf, F.kp, hb f fd F⟩
  · obtain ⟨_, _, _, _, _, _, _, h, _⟩ := h
    exact h.elim
  · obtain ⟨_, _, _, _, _, _, _, h, _⟩ := h
    exact h.elim
/-! ### _law_choose -/
abbrev s_law_choose : Stmt := topS 33
abbrev N_law_choose : List Str := ["_law_contracts", "_law_choice_here", "_law_offered", "_law_kind", "_law_buys", "_law_sells", "_law_many", "_law_found", "_law_part", "_law_row", "_law_contract"]
theorem sc_law_choose : FnScope N_law_choose ["_law_contracts", "_law_choice_here", "_law_offered"] (defScope s_law_choose) := ⟨rfl, rfl, rfl, by decide +kernel, rfl, by decide +kernel, by decide +kernel⟩
theorem d_law_choose {n L : Nat} (hL : 2 ≤ L) (B : B0 mg) (A0 : At K mg "_law_choose" s_law_choose) (D_law_choose : Dn P w K mg base "_law_choose" ["_law_contracts", "_law_choice_here", "_law_offered"] L (sp_law_choose K T n)) (D_law_greedy : Dn P w K mg base "_law_greedy" ["_law_wishes", "_law_groups_here", "_law_offered"] 1 (sp_law_greedy K T)) (D_law_traded : Dn P w K mg base "_law_traded" ["_law_contracts", "_law_choice_here", "_law_offered"] 1 (sp_law_traded K T)) : Dn P w K mg base "_law_choose" ["_law_contracts", "_law_choice_here", "_law_offered"] (L + 1) (sp_law_choose K T (n + 1)) := by
  obtain ⟨f_law_choose, fd_law_choose, G_law_choose, g_law_choose, k_law_choose, b_law_choose⟩ := D_law_choose
  obtain ⟨f_law_greedy, fd_law_greedy, G_law_greedy, g_law_greedy, k_law_greedy, b_law_greedy⟩ := D_law_greedy
  obtain ⟨f_law_traded, fd_law_traded, G_law_traded, g_law_traded, k_law_traded, b_law_traded⟩ := D_law_traded
  refine dn3 A0 sc_law_choose (fun _ _ F => F.bindsN fun _ _ _ _ _ _ us hl => match us, hl with | [_, _, _], _ => rfl) fun f cdv A outer s H a0 a1 a2 Q E hr h => ?_
  have nd := sc_law_choose.nd
  refine ⟨_, (pss_cons
  (ps_set (i := 3) nd rfl (by first | exact Or.inl rfl | exact Or.inr rfl) (pe_ix (kIxT (K := K) rfl) (pv 1) pe_int (fun _ _ => rfl)))
  (pss_cons
  (ps_if (pt_cmpR op_eq (pv 3) pe_str (by rfl)) (pss_cons
  (ps_set (i := 7) nd rfl (by first | exact Or.inl rfl | exact Or.inr rfl) (pe_lst pa_nil))
  (pss_cons
  (ps_for PassesOwn.never rfl (kpTup (K := K) rfl (pe_ix (kIxT (K := K) rfl) (pv 1) pe_int (fun _ _ => rfl))) (pg_name (i := 8) nd rfl (by first | exact Or.inl rfl | exact Or.inr rfl)) (pss_one
  (ps_set (i := 7) nd rfl (by first | exact Or.inl rfl | exact Or.inr rfl) (pe_op op_cat (pv 7) (pe_callTy (kList (K := K) rfl) (by rfl) B.list (by decide +kernel) (pa_cons (pe_call G_law_choose (hr.mono (by omega)) (by rfl) g_law_choose k_law_choose b_law_choose .nil pass0 (pa_cons (pv 0) (pa_cons (pv 8) (pa_cons (pv 2) pa_nil)))) pa_nil))))))
  (pss_one
  (ps_ret (pe_callTy (kTuple (K := K) rfl) (by rfl) B.tuple (by decide +kernel) (pa_cons (pe_callB (kSorted (K := K) rfl) (by rfl) B.sorted (by decide +kernel) (pa_cons (pv 7) pa_nil)) pa_nil)))))) pss_nil)
  (pss_cons
  (ps_if (pt_cmpR op_eq (pv 3) pe_str (by rfl)) (pss_cons
  (ps_for PassesOwn.never rfl (kpTup (K := K) rfl (pe_ix (kIxT (K := K) rfl) (pv 1) pe_int (fun _ _ => rfl))) (pg_name (i := 9) nd rfl (by first | exact Or.inl rfl | exact Or.inr rfl)) (pss_one
  (ps_if (pt_cmpR (kNotIn (K := K) rfl) pe_bl (pe_lc (own := [("_law_contract", 10)]) (g := (gName 10)) (by rfl) nd (kpTup (K := K) rfl (pv 9)) (blkOk_by (own := [("_law_contract", 10)]) (N := N_law_choose) (sc := defScope s_law_choose) (by decide +kernel)) (fun _ _ _ _ _ => (pg_name (i := 10) nd rfl (by first | exact Or.inl rfl | exact Or.inr rfl))) (fun _ _ _ _ _ => pts_nil) (fun _ _ _ _ _ => (pe_cmpR (kIn (K := K) rfl) (pv 10) (pv 2) (by rfl)))) (by rfl)) (pss_one
  (ps_ret (pv 9))) pss_nil)))
  (pss_one
  (ps_ret (pe_tup pa_nil)))) pss_nil)
  (pss_cons
  (ps_if (pt_cmpR op_eq (pv 3) pe_str (by rfl)) (pss_one
  (ps_ret (pe_callTy (kTuple (K := K) rfl) (by rfl) B.tuple (by decide +kernel) (pa_cons (pe_callB (kSorted (K := K) rfl) (by rfl) B.sorted (by decide +kernel) (pa_cons (pe_op op_cat (pe_call G_law_greedy (hr.mono (by omega)) (by rfl) g_law_greedy k_law_greedy b_law_greedy .nil pass0 (pa_cons (pe_ix (kIxT (K := K) rfl) (pv 1) pe_int (fun _ _ => rfl)) (pa_cons (pe_ix (kIxT (K := K) rfl) (pv 1) pe_int (fun _ _ => rfl)) (pa_cons (pv 2) pa_nil)))) (pe_call G_law_greedy (hr.mono (by omega)) (by rfl) g_law_greedy k_law_greedy b_law_greedy .nil pass0 (pa_cons (pe_ix (kIxT (K := K) rfl) (pv 1) pe_int (fun _ _ => rfl)) (pa_cons (pe_ix (kIxT (K := K) rfl) (pv 1) pe_int (fun _ _ => rfl)) (pa_cons (pv 2) pa_nil))))) pa_nil)) pa_nil)))) pss_nil)
  (pss_cons
  (ps_if (pt_cmpR op_eq (pv 3) pe_str (by rfl)) (pss_one
  (ps_ret (pe_callTy (kTuple (K := K) rfl) (by rfl) B.tuple (by decide +kernel) (pa_cons (pe_callB (kSorted (K := K) rfl) (by rfl) B.sorted (by decide +kernel) (pa_cons (pe_call G_law_traded (hr.mono (by omega)) (by rfl) g_law_traded k_law_traded b_law_traded .nil pass0 (pa_cons (pv 0) (pa_cons (pv 1) (pa_cons (pv 2) pa_nil)))) pa_nil)) pa_nil)))) pss_nil)
  (pss_cons
  (ps_if (pt_cmpR op_eq (pv 3) pe_str (by rfl)) (pss_cons
  (ps_set (i := 4) nd rfl (by first | exact Or.inl rfl | exact Or.inr rfl) (pe_slice (kSlL (K := K) rfl) (pe_lc (own := [("_law_contract", 10)]) (g := (gName 10)) (by rfl) nd (kpTup (K := K) rfl (pe_ix (kIxT (K := K) rfl) (pv 1) pe_int (fun _ _ => rfl))) (blkOk_by (own := [("_law_contract", 10)]) (N := N_law_choose) (sc := defScope s_law_choose) (by decide +kernel)) (fun _ _ _ _ _ => (pg_name (i := 10) nd rfl (by first | exact Or.inl rfl | exact Or.inr rfl))) (fun _ _ _ _ _ => (pts_one (pt_cmpR (kIn (K := K) rfl) (pv 10) (pv 2) (by rfl)))) (fun _ _ _ _ _ => (pv 10))) po_none (po_some (pe_ix (kIxT (K := K) rfl) (pv 1) pe_int (fun _ _ => rfl)))))
  (pss_one
  (ps_ret (pe_callTy (kTuple (K := K) rfl) (by rfl) B.tuple (by decide +kernel) (pa_cons (pe_callB (kSorted (K := K) rfl) (by rfl) B.sorted (by decide +kernel) (pa_cons (pe_op op_cat (pv 4) (pe_slice (kSlL (K := K) rfl) (pe_lc (own := [("_law_contract", 10)]) (g := (gName 10)) (by rfl) nd (kpTup (K := K) rfl (pe_ix (kIxT (K := K) rfl) (pv 1) pe_int (fun _ _ => rfl))) (blkOk_by (own := [("_law_contract", 10)]) (N := N_law_choose) (sc := defScope s_law_choose) (by decide +kernel)) (fun _ _ _ _ _ => (pg_name (i := 10) nd rfl (by first | exact Or.inl rfl | exact Or.inr rfl))) (fun _ _ _ _ _ => (pts_one (pt_cmpR (kIn (K := K) rfl) (pv 10) (pv 2) (by rfl)))) (fun _ _ _ _ _ => (pv 10))) po_none (po_some (pe_ix (kIxT (K := K) rfl) (pv 1) pe_int (fun _ _ => rfl))))) pa_nil)) pa_nil))))) pss_nil)
  (pss_cons
  (ps_setLc (i := 4) (own := [("_law_contract", 10)]) (g := (gName 10)) (by rfl) nd rfl rfl (sw_true rfl rfl rfl (by decide +kernel)) (kpTup (K := K) rfl (pe_ix (kIxT (K := K) rfl) (pv 1) pe_int (fun _ _ => rfl))) (blkOk_by (own := [("_law_contract", 10)]) (N := N_law_choose) (sc := defScope s_law_choose) (by decide +kernel)) (fun _ _ _ _ _ => (pg_name (i := 10) nd rfl (by first | exact Or.inl rfl | exact Or.inr rfl))) (fun _ _ _ _ _ => (pts_one (pt_cmpR (kIn (K := K) rfl) (pv 10) (pv 2) (by rfl)))) (fun _ _ _ _ _ => (pv 10)))
  (pss_cons
  (ps_setLc (i := 5) (own := [("_law_contract", 10)]) (g := (gName 10)) (by rfl) nd rfl rfl (sw_true rfl rfl rfl (by decide +kernel)) (kpTup (K := K) rfl (pe_ix (kIxT (K := K) rfl) (pv 1) pe_int (fun _ _ => rfl))) (blkOk_by (own := [("_law_contract", 10)]) (N := N_law_choose) (sc := defScope s_law_choose) (by decide +kernel)) (fun _ _ _ _ _ => (pg_name (i := 10) nd rfl (by first | exact Or.inl rfl | exact Or.inr rfl))) (fun _ _ _ _ _ => (pts_one (pt_cmpR (kIn (K := K) rfl) (pv 10) (pv 2) (by rfl)))) (fun _ _ _ _ _ => (pv 10)))
  (pss_cons
  (ps_set (i := 6) nd rfl (by first | exact Or.inl rfl | exact Or.inr rfl) (pe_callB (call_min3Nu rfl) (by rfl) B.min (by decide +kernel) (pa_cons (pe_callB (kLen (K := K) rfl) (by rfl) B.len PySem.boot_len (pa_cons (pv 4) pa_nil)) (pa_cons (pe_callB (kLen (K := K) rfl) (by rfl) B.len PySem.boot_len (pa_cons (pv 5) pa_nil)) (pa_cons (pe_ix (kIxT (K := K) rfl) (pv 1) pe_int (fun _ _ => rfl)) pa_nil)))))
  (pss_one
  (ps_ret (pe_callTy (kTuple (K := K) rfl) (by rfl) B.tuple (by decide +kernel) (pa_cons (pe_callB (kSorted (K := K) rfl) (by rfl) B.sorted (by decide +kernel) (pa_cons (pe_op op_cat (pe_slice (kSlL (K := K) rfl) (pv 4) po_none (po_some (pv 6))) (pe_slice (kSlL (K := K) rfl) (pv 5) po_none (po_some (pv 6)))) pa_nil)) pa_nil))))))))))))), ?_⟩
  obtain ⟨cs, ch, ns, hd, tc, tch, tn, ok, q⟩ := h
  have sn := SqI.of_t tn
  generalize hoff : (fun c => decide (c ∈ ns)) = off at q
  walk_at "st"
  match ch, hd, tch, ok, q with
  | .split ps, hd, tch, ok, q =>
    refine q_ixT tch (d := .str "split") rfl fun u0 t0 => ?_
    obtain rfl := t0.str_inv
    walk_at "st"
    walk_at "yes"
    refine ⟨Nat.zero_le _, fun fa hfa => ?_⟩
    have f0 : Fr T [] H (upd H fa (.lst [])) := Fr.new hfa
    have ha0 : (upd H fa (.lst [])) fa = some (.lst []) := upd_same
    generalize upd H fa (.lst []) = H1 at f0 ha0
    walk_at "st"
    refine q_ixT (tch.mono f0) (d := .tuple (ps.map eP)) rfl fun u1 t1 => ?_
    have lens : ∀ i, ((ps.take i).flatMap fun p => lawP (price cs) p off).length ≤ 20000 := fun i => by
      have h1 := flat_len (l := ps.take i) (f := fun p => lawP (price cs) p off) (n := 200) fun p hp => lawP_len (ok.2 p (List.mem_of_mem_take hp))
      have h2 := ok.1
      rw [List.length_take] at h1
      have h3 : min i ps.length * 200 ≤ 100 * 200 := Nat.mul_le_mul_right _ (by omega)
      omega
    refine for_T (T := T) (M := []) ps eP t1 (fun i σ H' => ∃ p x, σ = [some a0, some a1, some a2, some (.str "split"), none, none, none, some (.ref p), x, none, none] ∧ Fr T [] H H' ∧ Fr T [] H1 H' ∧ Fresh H p ∧ H' p = some (.lst (((ps.take i).flatMap fun p => lawP (price cs) p off).map V.int)))
      ⟨fa, _, rfl, f0, Fr.refl _, Fresh.of hfa, ha0⟩ (fun i σ H' p => by obtain ⟨_, _, _, _, f, _⟩ := p; exact f) ?_ ?_
    · rintro i p v σ' H2 hi ⟨pa, x, rfl, f2, g2, np, hp2⟩ tv
      walk_at "st"
      refine ⟨_, _, _, rfl, cs, .plain p, ns, dep_plain hd p, tc.mono f2, tv, tn.mono f2, ok.2 p (List.mem_of_getElem? hi), fun v3 H3 f3 t3 => ?_⟩
      rw [hoff] at t3
      walk_at "st"
      refine q_listT (T := T) t3 fun p4 xs H4 hp4 f4 hx4 tx4 => ?_
      rw [tx4.ints] at hx4
      refine q_cat ((f3.trans f4).lst0 hp2) hx4 ?_ fun p5 hp5 => ?_
      · rw [List.length_map, List.length_map]
        have h1 := lens (i + 1)
        rw [take_snoc hi, List.flatMap_append, List.length_append] at h1
        simp only [List.flatMap_cons, List.flatMap_nil, List.append_nil] at h1
        refine Nat.le_of_lt (line_of ?_)
        show ((ps.take i).flatMap fun p => lawP (price cs) p off).length + (lawP (price cs) p off).length ≤ 100000
        omega
      · have f5 := (f3.trans f4).andNew (o := .lst (((ps.take i).flatMap fun p => lawP (price cs) p off).map V.int ++ (lawC (price cs) (.plain p) off).map V.int)) hp5
        refine ⟨p5, _, rfl, f2.trans f5, g2.trans f5, ((f2.trans f3).trans f4).there hp5, ?_⟩
        rw [upd_same, take_snoc hi, List.flatMap_append, List.map_append]
        simp only [List.flatMap_cons, List.flatMap_nil, List.append_nil]
        rfl
    · rintro σ' H2 ⟨pa, x, rfl, f2, g2, np, hp2⟩
      rw [List.take_of_length_le (Nat.le_refl _)] at hp2
      dsimp only
      walk_at "st"
      refine q_sortedL hp2 fun p3 hp3 => ?_
      walk_at "st"
      exact q_tupK (T := T) upd_same (tdAll_ints _) fun l H4 f4 t4 => q _ _ ((f2.andNew hp3).trans f4) t4
  | .plain (.table rows), hd, tch, ok, q =>
    refine q_ixT tch (d := .str "table") rfl fun u0 t0 => ?_
    obtain rfl := t0.str_inv
    walk_at "st"
    walk_at "no"
    walk_at "st"
    walk_at "yes"
    refine q_ixT tch (d := .tuple (rows.map tI)) rfl fun u1 t1 => ?_
    refine for_T (T := T) (M := []) rows tI t1 (fun i σ H' => ∃ x y, σ = [some a0, some a1, some a2, some (.str "table"), none, none, none, none, none, x, y] ∧ Fr T [] H H' ∧ ∀ r ∈ rows.take i, rowIn off r = false) ⟨_, _, rfl, Fr.refl _, by simp⟩ (fun i σ H' p => by obtain ⟨_, _, _, f, _⟩ := p; exact f) ?_ ?_
    · rintro i r v σ' H2 hi ⟨x, y, rfl, f2, hall⟩ tv
      have hr : r.length ≤ 100 := ok.2 r (List.mem_of_getElem? hi)
      walk_at "st"
      refine lc_T (T := T) r .int tv (line_of (by omega)) (fun _ => true) (fun c => .bool (decide (c ∈ ns))) (fun _ => rfl) ?_ ?_
      · intro c u H3 hc f3 tu R1 R2 r1 r2
        obtain rfl := tu.int_inv
        walk_at "st"
        refine iteT ?_
        walk_at "st"
        exact q_in (sn.mono (f2.trans f3)) (r1 rfl _ _ (Fr.refl _) (.bl _))
      · intro D H3 xs hD f3 hx tx
        have e1 : ((r.filter fun _ => true).map fun c => PyData.bool (decide (c ∈ ns))) = (r.map fun c => decide (c ∈ ns)).map PyData.bool := by
          rw [filt_true, List.map_map]
          rfl
        rw [e1] at tx
        walk_at "st"
        refine q_notInB hx tx ⟨_, rfl, ?_⟩
        have e2 : (r.map fun c => decide (c ∈ ns)).all id = rowIn off r := by
          rw [List.all_map, ← hoff]
          rfl
        rw [e2]
        refine ite2 (fun e => ?_) (fun e => ?_)
        · walk_at "st"
          refine q _ _ (f2.trans f3) ?_
          have e3 : lawC (price cs) (.plain (.table rows)) off = r := by
            show (rows.find? (rowIn off)).getD [] = r
            rw [List.find?_eq_some_iff_append.mpr ⟨e, rows.take i, rows.drop (i + 1), ?_, ?_⟩]
            · rfl
            · have h1 := (List.getElem?_eq_some_iff.mp hi)
              obtain ⟨h1, h2⟩ := h1
              rw [← h2, List.getElem_cons_drop, List.take_append_drop]
            · intro a ha
              rw [hall a ha]
              rfl
          rw [e3]
          exact tv.mono f3
        · walk_at "st"
          refine ⟨some v, y, rfl, f2.trans f3, fun z hz => ?_⟩
          rw [take_snoc hi] at hz
          rcases List.mem_append.mp hz with hz | hz
          · exact hall z hz
          · simp at hz
            subst hz
            exact Bool.eq_false_iff.mpr e
    · rintro σ' H2 ⟨x, y, rfl, f2, hall⟩
      rw [List.take_of_length_le (Nat.le_refl _)] at hall
      dsimp only
      walk_at "st"
      refine ⟨Nat.zero_le _, fun l hl => ?_⟩
      have f3 : Fr T [] H2 (upd H2 l (.tup [])) := Fr.new hl
      refine q _ _ (f2.trans f3) ?_
      have e3 : lawC (price cs) (.plain (.table rows)) off = [] := by
        show (rows.find? (rowIn off)).getD [] = []
        rw [List.find?_eq_none.mpr fun z hz => by rw [hall z hz]; decide]
        rfl
      rw [e3]
      exact td_new upd_same .nil
  | .plain (.caps b bg s sg), hd, tch, ok, q =>
    refine q_ixT tch (d := .str "caps") rfl fun u0 t0 => ?_
    obtain rfl := t0.str_inv
    walk_at "st"
    walk_at "no"
    walk_at "st"
    walk_at "no"
    walk_at "st"
    walk_at "yes"
    have hl : (lawP (price cs) (.caps b bg s sg) off).length ≤ 200 := lawP_len (cs := cs) ok
    simp only [lawP, sortI_len, List.length_append] at hl
    obtain ⟨o1, o2, o3, o4, o5, o6⟩ := ok
    refine q_ixT tch (d := tI b) rfl fun u1 t1 => ?_
    walk_at "st"
    refine q_ixT tch (d := .tuple (bg.map eG)) rfl fun u2 t2 => ?_
    walk_at "st"
    refine ⟨_, _, _, rfl, b, bg, ns, t1, t2, sn, Nat.le_trans o1 (by decide), fun p1 H1 hp1 f1 hx1 => ?_⟩
    rw [hoff] at hx1
    walk_at "st"
    refine q_ixT (tch.mono f1) (d := tI s) rfl fun u3 t3 => ?_
    walk_at "st"
    refine q_ixT (tch.mono f1) (d := .tuple (sg.map eG)) rfl fun u4 t4 => ?_
    walk_at "st"
    refine ⟨_, _, _, rfl, s, sg, ns, t3, t4, sn.mono f1, Nat.le_trans o2 (by decide), fun p2 H2 hp2 f2 hx2 => ?_⟩
    rw [hoff] at hx2
    refine q_cat (f2.lst0 hx1) hx2 ?_ fun p3 hp3 => ?_
    · rw [List.length_map, List.length_map]
      exact Nat.le_of_lt (line_of (by omega))
    · rw [← List.map_append]
      walk_at "st"
      refine q_sortedL upd_same fun p4 hp4 => ?_
      walk_at "st"
      exact q_tupK (T := T) upd_same (tdAll_ints _) fun l H4 f4 t4 => q _ _ ((((f1.trans f2).andNew hp3).andNew hp4).trans f4) t4
  | .plain (.trader r c b s), hd, tch, ok, q =>
    refine q_ixT tch (d := .str "trader") rfl fun u0 t0 => ?_
    obtain rfl := t0.str_inv
    walk_at "st"
    walk_at "no"
    walk_at "st"
    walk_at "no"
    walk_at "st"
    walk_at "no"
    walk_at "st"
    walk_at "yes"
    obtain ⟨o1, o2, o3, o4, o5⟩ := ok
    refine ⟨_, _, _, rfl, cs, r, c, b, s, ns, tc, tch, sn, Nat.le_trans o2 (by decide), Nat.le_trans o3 (by decide), o1, o4, o5, fun p H1 hp f1 hx => ?_⟩
    rw [hoff] at hx
    walk_at "st"
    refine q_sortedL hx fun p4 hp4 => ?_
    walk_at "st"
    exact q_tupK (T := T) upd_same (tdAll_ints _) fun l H4 f4 t4 => q _ _ ((f1.andNew hp4).trans f4) t4
  | .plain (.sides br b sr s), hd, tch, ok, q =>
    refine q_ixT tch (d := .str "sides") rfl fun u0 t0 => ?_
    obtain rfl := t0.str_inv
    walk_at "st"
    walk_at "no"
    walk_at "st"
    walk_at "no"
    walk_at "st"
    walk_at "no"
    walk_at "st"
    walk_at "no"
    walk_at "st"
    walk_at "yes"
    obtain ⟨o0, o1, o2, o3⟩ := ok
    have e1 := filt_le off o2
    have e2 := filt_le off o3
    have f00 : Fr T [] H H := Fr.refl _
    refine q_ixT (tch.mono f00) (d := tI b) rfl fun u1 t1 => ?_
    walk_at "st"
    refine lc_T (T := T) b .int t1 (line_of (by omega)) (fun c => decide (c ∈ ns)) .int (fun _ => rfl) ?_ ?_
    · intro c u H9 hc fr tu R1 R2 r1 r2
      obtain rfl := tu.int_inv
      walk_at "st"
      refine q_in (sn.mono (f00.trans fr)) ⟨_, rfl, ite2 (fun e => ?_) (fun e => ?_)⟩
      · walk_at "st"
        exact r1 e _ _ (Fr.refl _) (.int _)
      · exact r2 (Bool.eq_false_iff.mpr e) _ (Fr.refl _)
    intro D1 H1 xs1 hD1 f1 hx1 tx1
    rw [tx1.ints, hoff] at hx1
    walk_at "st"
    refine q_ixT (tch.mono f1) (d := .int br) rfl fun u3 t3 => ?_
    obtain rfl := t3.int_inv
    refine ⟨_, rfl, q_slL hx1 fun p4 hp4 => ?_⟩
    rw [cut_toI _ o0]
    have f2 := f1.andNew (o := .lst (((b.filter off).map V.int).take br.toNat)) hp4
    have hx2 : (upd H1 p4 (.lst (((b.filter off).map V.int).take br.toNat))) p4 = some (.lst (((b.filter off).map V.int).take br.toNat)) := upd_same
    generalize upd H1 p4 (.lst (((b.filter off).map V.int).take br.toNat)) = H2 at f2 hx2
    walk_at "st"
    refine q_ixT (tch.mono f2) (d := tI s) rfl fun u5 t5 => ?_
    walk_at "st"
    refine lc_T (T := T) s .int t5 (line_of (by omega)) (fun c => decide (c ∈ ns)) .int (fun _ => rfl) ?_ ?_
    · intro c u H9 hc fr tu R1 R2 r1 r2
      obtain rfl := tu.int_inv
      walk_at "st"
      refine q_in (sn.mono (f2.trans fr)) ⟨_, rfl, ite2 (fun e => ?_) (fun e => ?_)⟩
      · walk_at "st"
        exact r1 e _ _ (Fr.refl _) (.int _)
      · exact r2 (Bool.eq_false_iff.mpr e) _ (Fr.refl _)
    intro D3 H3 xs3 hD3 f3 hx3 tx3
    rw [tx3.ints, hoff] at hx3
    walk_at "st"
    refine q_ixT (tch.mono (f2.trans f3)) (d := .int sr) rfl fun u6 t6 => ?_
    obtain rfl := t6.int_inv
    refine ⟨_, rfl, q_slL hx3 fun p5 hp5 => ?_⟩
    rw [cut_toI _ o1]
    have f5 := (f2.trans f3).andNew (o := .lst (((s.filter off).map V.int).take sr.toNat)) hp5
    refine q_cat ((Fr.new (T := T) hp5).lst0 (f3.lst0 hx2)) upd_same ?_ fun p6 hp6 => ?_
    · simp only [List.length_take, List.length_map]
      exact Nat.le_of_lt (line_of (by omega))
    · have f6 := f5.andNew (o := .lst (((b.filter off).map V.int).take br.toNat ++ ((s.filter off).map V.int).take sr.toNat)) hp6
      have hx6 : (upd (upd H3 p5 (.lst (((s.filter off).map V.int).take sr.toNat))) p6 (.lst (((b.filter off).map V.int).take br.toNat ++ ((s.filter off).map V.int).take sr.toNat))) p6 = some (.lst (((b.filter off).take br.toNat ++ (s.filter off).take sr.toNat).map V.int)) := by
        rw [upd_same, ← List.map_take, ← List.map_take, ← List.map_append]
      generalize (upd (upd H3 p5 (.lst (((s.filter off).map V.int).take sr.toNat))) p6 (.lst (((b.filter off).map V.int).take br.toNat ++ ((s.filter off).map V.int).take sr.toNat))) = H6 at f6 hx6
      walk_at "st"
      refine q_sortedL hx6 fun p7 hp7 => ?_
      walk_at "st"
      exact q_tupK (T := T) upd_same (tdAll_ints _) fun l H8 f8 t8 => q _ _ ((f6.andNew hp7).trans f8) t8
  | .plain (.maker r b s), hd, tch, ok, q =>
    refine q_ixT tch (d := .str "maker") rfl fun u0 t0 => ?_
    obtain rfl := t0.str_inv
    walk_at "st"
    walk_at "no"
    walk_at "st"
    walk_at "no"
    walk_at "st"
    walk_at "no"
    walk_at "st"
    walk_at "no"
    walk_at "st"
    walk_at "no"
    walk_at "st"
    obtain ⟨o1, o2, o3⟩ := ok
    have e1 := filt_le off o2
    have e2 := filt_le off o3
    have f00 : Fr T [] H H := Fr.refl _
    refine q_ixT (tch.mono f00) (d := tI b) rfl fun u1 t1 => ?_
    walk_at "st"
    refine lc_T (T := T) b .int t1 (line_of (by omega)) (fun c => decide (c ∈ ns)) .int (fun _ => rfl) ?_ ?_
    · intro c u H9 hc fr tu R1 R2 r1 r2
      obtain rfl := tu.int_inv
      walk_at "st"
      refine q_in (sn.mono (f00.trans fr)) ⟨_, rfl, ite2 (fun e => ?_) (fun e => ?_)⟩
      · walk_at "st"
        exact r1 e _ _ (Fr.refl _) (.int _)
      · exact r2 (Bool.eq_false_iff.mpr e) _ (Fr.refl _)
    intro D1 H1 xs1 hD1 f1 hx1 tx1
    rw [tx1.ints, hoff] at hx1
    walk_at "st"
    refine q_ixT (tch.mono f1) (d := tI s) rfl fun u5 t5 => ?_
    walk_at "st"
    refine lc_T (T := T) s .int t5 (line_of (by omega)) (fun c => decide (c ∈ ns)) .int (fun _ => rfl) ?_ ?_
    · intro c u H9 hc fr tu R1 R2 r1 r2
      obtain rfl := tu.int_inv
      walk_at "st"
      refine q_in (sn.mono (f1.trans fr)) ⟨_, rfl, ite2 (fun e => ?_) (fun e => ?_)⟩
      · walk_at "st"
        exact r1 e _ _ (Fr.refl _) (.int _)
      · exact r2 (Bool.eq_false_iff.mpr e) _ (Fr.refl _)
    intro D3 H3 xs3 hD3 f3 hx3 tx3
    rw [tx3.ints, hoff] at hx3
    have f03 := f1.trans f3
    have hx1' := f3.lst0 hx1
    walk_at "st"
    refine q_lenL hx1' ?_
    walk_at "st"
    refine q_lenL hx3 ?_
    walk_at "st"
    refine q_ixT (tch.mono f03) (d := .int r) rfl fun u6 t6 => ?_
    obtain rfl := t6.int_inv
    rw [List.length_map, List.length_map]
    walk_at "st"
    refine q_min3 ?_
    generalize hm : min (min ((b.filter off).length : Int) ((s.filter off).length : Int)) r = m
    have hm0 : 0 ≤ m := by omega
    walk_at "st"
    refine ⟨_, rfl, q_slL hx1' fun p4 hp4 => ?_⟩
    rw [cut_toI _ hm0]
    walk_at "st"
    have f4 : Fr T [] H3 (upd H3 p4 (.lst (((b.filter off).map V.int).take m.toNat))) := Fr.new hp4
    refine ⟨_, rfl, q_slL (f4.lst0 hx3) fun p5 hp5 => ?_⟩
    rw [cut_toI _ hm0]
    have f5 := f03.trans (f4.andNew (o := .lst (((s.filter off).map V.int).take m.toNat)) hp5)
    refine q_cat ((Fr.new (T := T) hp5).lst0 upd_same) upd_same ?_ fun p6 hp6 => ?_
    · simp only [List.length_take, List.length_map]
      exact Nat.le_of_lt (line_of (by omega))
    · have f6 := f5.andNew (o := .lst (((b.filter off).map V.int).take m.toNat ++ ((s.filter off).map V.int).take m.toNat)) hp6
      have hx6 : (upd (upd (upd H3 p4 (.lst (((b.filter off).map V.int).take m.toNat))) p5 (.lst (((s.filter off).map V.int).take m.toNat))) p6 (.lst (((b.filter off).map V.int).take m.toNat ++ ((s.filter off).map V.int).take m.toNat))) p6 = some (.lst (((b.filter off).take m.toNat ++ (s.filter off).take m.toNat).map V.int)) := by
        rw [upd_same, ← List.map_take, ← List.map_take, ← List.map_append]
      generalize (upd (upd (upd H3 p4 (.lst (((b.filter off).map V.int).take m.toNat))) p5 (.lst (((s.filter off).map V.int).take m.toNat))) p6 (.lst (((b.filter off).map V.int).take m.toNat ++ ((s.filter off).map V.int).take m.toNat))) = H6 at f6 hx6
      walk_at "st"
      refine q_sortedL hx6 fun p7 hp7 => ?_
      walk_at "st"
      refine q_tupK (T := T) upd_same (tdAll_ints _) fun l H8 f8 t8 => q _ _ ((f6.andNew hp7).trans f8) ?_
      rw [← hm] at t8
      exact t8
end
end Nc
set_option maxHeartbeats 4000000
/-! LD: what the law says of houses; subsets. -/
namespace Nc
open PySem PySem.Spec L2
def takesL (wb : Web Str) (h : Int) (off : Int → Bool) : List Int := match wb.hs[h.toNat]? with
  | some x => lawC (price wb.cs) x.2 off
  | none => []
theorem takesL_at {wb : Web Str} {h : Int} {x : Str × Choice} (e : wb.hs[h.toNat]? = some x) (off : Int → Bool) : takesL wb h off = lawC (price wb.cs) x.2 off := by
  unfold takesL
  rw [e]
theorem idxs_mem {cs : List Ctr} {p : Ctr → Bool} {n : Int} : n ∈ idxs cs p ↔ 0 ≤ n ∧ ∃ c, cs[n.toNat]? = some c ∧ p c = true := by
  unfold idxs
  rw [List.mem_map]
  constructor
  · rintro ⟨⟨c, i⟩, hm, rfl⟩
    obtain ⟨hm, hp⟩ := List.mem_filter.mp hm
    have := List.mem_zipIdx_iff_getElem?.mp hm
    exact ⟨by simp, c, by simpa using this, hp⟩
  · rintro ⟨h0, c, hc, hp⟩
    refine ⟨(c, n.toNat), List.mem_filter.mpr ⟨List.mem_zipIdx_iff_getElem?.mpr (by simpa using hc), hp⟩, ?_⟩
    simp only
    omega
theorem ownOf_mem {cs : List Ctr} {n h : Int} {c : Ctr} (h0 : 0 ≤ n) (hc : cs[n.toNat]? = some c) : n ∈ ownOf cs h ↔ h ∈ [c.1, c.2.1] := by
  unfold ownOf
  rw [idxs_mem]
  constructor
  · rintro ⟨_, d, hd, hp⟩
    rw [hc] at hd
    cases hd
    exact of_decide_eq_true hp
  · intro hp
    exact ⟨h0, c, hc, decide_eq_true hp⟩
/-- all sublists, in the order in which they are made -/
def subsL (ns : List Int) : List (List Int) := ns.foldl (fun found c => found ++ found.map fun r => r ++ [c]) [[]]
theorem subsL_snoc (ns : List Int) (c : Int) : subsL (ns ++ [c]) = subsL ns ++ (subsL ns).map fun r => r ++ [c] := by
  unfold subsL
  rw [List.foldl_append]
  rfl
theorem subsL_take {ns : List Int} {i : Nat} {c : Int} (h : ns[i]? = some c) : subsL (ns.take (i + 1)) = subsL (ns.take i) ++ (subsL (ns.take i)).map fun r => r ++ [c] := by rw [take_snoc h, subsL_snoc]
theorem subsL_len : ∀ (k : Nat) (ns : List Int), ns.length = k → (subsL ns).length = 2 ^ k
  | 0, ns, h => by
    rw [List.length_eq_zero_iff.mp h]
    rfl
  | k + 1, ns, h => by
    obtain ⟨c, hc⟩ : ∃ c, ns[k]? = some c := ⟨_, List.getElem?_eq_getElem (by omega)⟩
    have e : ns = ns.take k ++ [c] := by
      rw [← take_snoc hc, List.take_of_length_le (by omega)]
    rw [e, subsL_snoc, List.length_append, List.length_map, subsL_len k (ns.take k) (by rw [List.length_take]; omega), Nat.pow_succ]
    omega
theorem subsL_row {r : List Int} : ∀ (k : Nat) (ns : List Int), ns.length = k → r ∈ subsL ns → r.length ≤ k
  | 0, ns, h, hr => by
    rw [List.length_eq_zero_iff.mp h] at hr
    have : r = [] := by simpa [subsL] using hr
    rw [this]
    exact Nat.le_refl _
  | k + 1, ns, h, hr => by
    obtain ⟨c, hc⟩ : ∃ c, ns[k]? = some c := ⟨_, List.getElem?_eq_getElem (by omega)⟩
    have e : ns = ns.take k ++ [c] := by
      rw [← take_snoc hc, List.take_of_length_le (by omega)]
    rw [e, subsL_snoc] at hr
    have hl : (ns.take k).length = k := by rw [List.length_take]; omega
    rcases List.mem_append.mp hr with hr | hr
    · exact Nat.le_succ_of_le (subsL_row k _ hl hr)
    · obtain ⟨q, hq, rfl⟩ := List.mem_map.mp hr
      rw [List.length_append]
      exact Nat.succ_le_succ (subsL_row k _ hl hq)
theorem subsL_len_le {ns : List Int} {n : Nat} (h : ns.length ≤ n) (i : Nat) : (subsL (ns.take i)).length ≤ 2 ^ n := by
  rw [subsL_len _ _ rfl]
  exact Nat.pow_le_pow_right (by decide) (by rw [List.length_take]; omega)
/-- over a list or a tuple of ints -/
theorem for_S {T : List (Addr × Str)} {K : PySem.W.Frag} {σ : St} {H1 : Hp} {D : Ends} {tb : TS} {v : V} {ns : List Int} {te : TE} {j : Nat} (hv : SqI K H1 v ns) (ht : ∀ Q : VK, Q v H1 → te σ H1 Q) (Pv : Nat → St → Hp → Prop) (h0 : Pv 0 σ H1) (hF : ∀ i σ H', Pv i σ H' → Fr T [] H1 H')
    (hs : ∀ (i : Nat) (c : Int) (σ' : St) (H' : Hp), ns[i]? = some c → Pv i σ' H' → tb { D with nx := Pv (i + 1), ct := Pv (i + 1), bk := D.nx } (σ'.set j (some (.int c))) H')
    (hd : ∀ σ' H', Pv ns.length σ' H' → D.nx σ' H') : iSeq K te σ H1 fun J H1 => ForQ J (gName j) tb D σ H1 := by
  obtain ⟨a, rfl, ⟨h, _⟩ | h⟩ := hv
  · refine Or.inl (ht _ (for_L (T := T) (M := []) ns .int h (tdAll_ints ns) (by simp) Pv h0 hF (fun i c u σ' H' hi p tu => ?_) hd))
    obtain rfl := tu.int_inv
    exact hs i c σ' H' hi p
  · refine Or.inr (ht _ (for_T (T := T) (M := []) ns .int (td_of h) Pv h0 hF (fun i c u σ' H' hi p tu => ?_) hd))
    obtain rfl := tu.int_inv
    exact hs i c σ' H' hi p
local macro_rules | `(tactic| walk_at "st") => `(tactic| (repeat (first
  | ((with_reducible refine' r_var ?e ?_); (case e => exact rfl))
  | (with_reducible refine' r_op ?_)
  | (with_reducible refine' r_c ?_)
  | (with_reducible refine' r_cons ?_)
  | (with_reducible refine' r_nil ?_)
  | (with_reducible refine' r_cb ?_)
  | (with_reducible refine' r_call ?_)
  | (with_reducible refine' r_test ?_)
  | (with_reducible refine' r_lc ?_)
  | (with_reducible refine' r_lc2 ?_)
  | (with_reducible refine' r_sk ?_)
  | (with_reducible refine' r_iZ ?_)
  | (with_reducible refine' r_dg ?_)
  | (with_reducible refine' r_dpS ?_)
  | (with_reducible refine' r_dp1 ?_)
  | (with_reducible refine' r_dn ?_)
  | (with_reducible refine' r_iT ?_)
  | (with_reducible refine' r_iL ?_)
  | (with_reducible refine' r_iE ?_)
  | (with_reducible refine' r_iR ?_)
  | (with_reducible refine' r_ret ?_)
  | (with_reducible refine' r_asgS ?_)
  | (with_reducible refine' r_asg1 ?_)
  | (with_reducible refine' r_asgTS ?_)
  | (with_reducible refine' r_ifS ?_)
  | (with_reducible refine' r_if1 ?_)
  | (with_reducible refine' r_forS ?_)
  | (with_reducible refine' r_for1 ?_)
  | (with_reducible refine' r_dropS ?_)
  | (with_reducible refine' r_drop1 ?_)
  | (with_reducible refine' r_tup ?_)
  | (with_reducible refine' r_lst ?_)
  | (with_reducible refine' r_sl ?_)
  | (with_reducible refine' r_noP ?_)
  | (with_reducible refine' r_part ?_)
  | (with_reducible refine' r_bm ?_)
  | (with_reducible refine' r_bm0 ?_)
  | (with_reducible refine' r_un ?_)
  | (with_reducible refine' r_notV ?_)
  | (with_reducible refine' r_B ?_)
  | (with_reducible refine' r_and ?_)
  | (with_reducible refine' r_or ?_)
  | (with_reducible refine' r_not ?_)
  | (with_reducible refine' r_yes ?_)
  | (with_reducible refine' r_next ?_)
  | (with_reducible refine' r_break ?_)
  | (with_reducible refine' r_gn ?_)
  | (with_reducible refine' r_tupRg ?_)
  | (with_reducible refine' r_rg1 ?_)
  )))
local macro_rules | `(tactic| walk_at "no") => `(tactic| (refine q_eqS ⟨_, rfl, ite2 (fun e => absurd (of_decide_eq_true e) (by decide +kernel)) (fun _ => ?_)⟩; walk_at "st"; try dsimp only))
local macro_rules | `(tactic| walk_at "yes") => `(tactic| (refine q_eqS ⟨_, rfl, ite2 (fun _ => ?_) (fun e => absurd (decide_eq_true rfl) e)⟩; walk_at "st"))
section
variable {P : Program} {w : World} {K : PySem.W.Frag} {mg : Str → Option Value} {base : Heap}
variable {T : List (Addr × Str)}
def sp_law_takes (K : PySem.W.Frag) (T : List (Addr × Str)) : Sp := Sp3 fun a b c H Q => ∃ (wb : Web Str) (h : Int) (ns : List Int), OkW wb ∧ Td K H a (eW wb) ∧ b = .int h ∧ InH wb h ∧ Td K H c (tI ns) ∧ ∀ v H', Fr T [] H H' → Td K H' v (tI (takesL wb h fun c => decide (c ∈ ns))) → Q v H'
/-! ### _law_takes -/
abbrev s_law_takes : Stmt := topS 46
abbrev N_law_takes : List Str := ["_law_web_here", "_law_house", "_law_offered"]
theorem sc_law_takes : FnScope N_law_takes ["_law_web_here", "_law_house", "_law_offered"] (defScope s_law_takes) := ⟨rfl, rfl, rfl, by decide +kernel, rfl, by decide +kernel, by decide +kernel⟩
theorem d_law_takes (B : B0 mg) (A0 : At K mg "_law_takes" s_law_takes) (D_law_choose : Dn P w K mg base "_law_choose" ["_law_contracts", "_law_choice_here", "_law_offered"] 4 (sp_law_choose K T 2)) : Dn P w K mg base "_law_takes" ["_law_web_here", "_law_house", "_law_offered"] 5 (sp_law_takes K T) := by
  obtain ⟨f_law_choose, fd_law_choose, G_law_choose, g_law_choose, k_law_choose, b_law_choose⟩ := D_law_choose
  refine dn3 A0 sc_law_takes (fun _ _ F => F.bindsN fun _ _ _ _ _ _ us hl => match us, hl with | [_, _, _], _ => rfl) fun f cdv A outer s H a0 a1 a2 Q E hr h => ?_
  have nd := sc_law_takes.nd
  refine ⟨_, (pss_one
  (ps_ret (pe_call G_law_choose (hr.mono (by decide)) (by rfl) g_law_choose k_law_choose b_law_choose .nil pass0 (pa_cons (pe_ix (kIxT (K := K) rfl) (pv 0) pe_int (fun _ _ => rfl)) (pa_cons (pe_ix (kIxT (K := K) rfl) (pe_ix (kIxT (K := K) rfl) (pe_ix (kIxT (K := K) rfl) (pv 0) pe_int (fun _ _ => rfl)) (pv 1) (fun _ _ => rfl)) pe_int (fun _ _ => rfl)) (pa_cons (pv 2) pa_nil)))))), ?_⟩
  obtain ⟨wb, hh, ns, ok, tw, rfl, ih, tn, q⟩ := h
  obtain ⟨x, e0, hx, e1, _⟩ := inH_at ih
  walk_at "st"
  refine q_ixT tw (d := .tuple (wb.cs.map eC)) rfl fun u0 t0 => ?_
  walk_at "st"
  refine q_ixT tw (d := .tuple (wb.hs.map eH)) rfl fun u1 t1 => ?_
  walk_at "st"
  refine q_ixT t1 e1 fun u2 t2 => ?_
  walk_at "st"
  refine q_ixT t2 (d := eCh x.2) rfl fun u3 t3 => ?_
  walk_at "st"
  refine ⟨_, _, _, rfl, wb.cs, x.2, ns, trivial, t0, t3, tn, ok.ch x hx, fun v H1 f1 t4 => q v H1 f1 ?_⟩
  rw [takesL_at e0]
  exact t4
def sp_law_own (K : PySem.W.Frag) (T : List (Addr × Str)) : Sp := Sp3 fun a b c H Q => ∃ (wb : Web Str) (h : Int) (ns : List Int), Td K H a (eW wb) ∧ b = .int h ∧ Td K H c (tI ns) ∧ (∀ n ∈ ns, InC wb.cs n) ∧ ns.length ≤ 1000 ∧ ∀ v H', Fr T [] H H' → Td K H' v (tI (ns.filter fun c => decide (c ∈ ownOf wb.cs h))) → Q v H'
/-! ### _law_own -/
abbrev s_law_own : Stmt := topS 45
abbrev N_law_own : List Str := ["_law_web_here", "_law_house", "_law_contracts", "_law_contract"]
theorem sc_law_own : FnScope N_law_own ["_law_web_here", "_law_house", "_law_contracts"] (defScope s_law_own) := ⟨rfl, rfl, rfl, by decide +kernel, rfl, by decide +kernel, by decide +kernel⟩
theorem d_law_own (B : B0 mg) (A0 : At K mg "_law_own" s_law_own) : Dn P w K mg base "_law_own" ["_law_web_here", "_law_house", "_law_contracts"] 1 (sp_law_own K T) := by
  refine dn3 A0 sc_law_own (fun _ _ F => F.bindsN fun _ _ _ _ _ _ us hl => match us, hl with | [_, _, _], _ => rfl) fun f cdv A outer s H a0 a1 a2 Q E hr h => ?_
  have nd := sc_law_own.nd
  refine ⟨_, (pss_one
  (ps_ret (pe_callTy (kTuple (K := K) rfl) (by rfl) B.tuple (by decide +kernel) (pa_cons (pe_lc (own := [("_law_contract", 3)]) (g := (gName 3)) (by rfl) nd (kpTup (K := K) rfl (pv 2)) (blkOk_by (own := [("_law_contract", 3)]) (N := N_law_own) (sc := defScope s_law_own) (by decide +kernel)) (fun _ _ _ _ _ => (pg_name (i := 3) nd rfl (by first | exact Or.inl rfl | exact Or.inr rfl))) (fun _ _ _ _ _ => (pts_one (pt_cmpR (kIn (K := K) rfl) (pv 1) (pe_slice (kSlT (K := K) rfl) (pe_ix (kIxT (K := K) rfl) (pe_ix (kIxT (K := K) rfl) (pv 0) pe_int (fun _ _ => rfl)) (pv 3) (fun _ _ => rfl)) po_none (po_some pe_int)) (by rfl)))) (fun _ _ _ _ _ => (pv 3))) pa_nil)))), ?_⟩
  obtain ⟨wb, hh, ns, tw, rfl, tn, hin, hl, q⟩ := h
  walk_at "st"
  refine lc_T (T := T) ns .int tn (line_of (by omega)) (fun c => decide (c ∈ ownOf wb.cs hh)) .int (fun _ => rfl) ?_ ?_
  · intro n u H2 hn f2 tu R1 R2 r1 r2
    obtain rfl := tu.int_inv
    obtain ⟨c, hc, e1, _⟩ := inC_at (hin n hn)
    walk_at "st"
    refine q_ixT (tw.mono f2) (d := .tuple (wb.cs.map eC)) rfl fun u0 t0 => ?_
    walk_at "st"
    refine q_ixT t0 e1 fun u1 t1 => ?_
    walk_at "st"
    refine ⟨_, rfl, ?_⟩
    refine q_cutT (T := T) (lo := none) (hi := some 2) (es := [.int c.1, .int c.2.1]) t1 (show ¬ (HT.sIx 3 0 none = 0 ∧ HT.sIx 3 3 (some 2) = 3) by decide) rfl fun p H3 f3 tp => ?_
    refine q_in (ns := [c.1, c.2.1]) (SqI.of_t tp) ⟨_, rfl, ?_⟩
    have e2 : decide (n ∈ ownOf wb.cs hh) = decide (hh ∈ [c.1, c.2.1]) := decide_eq_decide.mpr (ownOf_mem (hin n hn).1 hc)
    rw [e2] at r1 r2
    refine ite2 (fun e => ?_) (fun e => ?_)
    · walk_at "st"
      exact r1 e _ _ f3 (.int _)
    · exact r2 (Bool.eq_false_iff.mpr e) _ f3
  · intro D H' xs hD fr hx tx
    walk_at "st"
    exact q_tupK (T := T) hx tx fun l H2 f2 t2 => q _ _ (fr.trans f2) t2
def lawLikes (wb : Web Str) (h : Int) (xs ys : List Int) : Bool := decide (takesL wb h (fun c => decide (c ∈ xs ++ ys)) = xs.filter fun c => decide (c ∈ ownOf wb.cs h))
def proLikes (wb : Web Str) (h : Int) (xs ys : List Int) : Bool := decide (chooseW wb h (fun c => decide (c ∈ xs ∨ c ∈ ys)) = xs.filter fun c => decide (c ∈ ownOf wb.cs h))
def sp_law_likes (K : PySem.W.Frag) (T : List (Addr × Str)) : Sp := Sp4 fun a b c d H Q => ∃ (wb : Web Str) (h : Int) (xs ys : List Int), OkW wb ∧ Td K H a (eW wb) ∧ b = .int h ∧ InH wb h ∧ Td K H c (tI xs) ∧ Td K H d (tI ys) ∧ (∀ n ∈ xs, InC wb.cs n) ∧ xs.length ≤ 30 ∧ ys.length ≤ 30 ∧
  ∀ H', Fr T [] H H' → Q (.bl (lawLikes wb h xs ys)) H'
/-! ### _law_likes -/
abbrev s_law_likes : Stmt := topS 56
abbrev N_law_likes : List Str := ["_law_web_here", "_law_house", "_law_one", "_law_other"]
theorem sc_law_likes : FnScope N_law_likes ["_law_web_here", "_law_house", "_law_one", "_law_other"] (defScope s_law_likes) := ⟨rfl, rfl, rfl, by decide +kernel, rfl, by decide +kernel, by decide +kernel⟩
theorem d_law_likes (B : B0 mg) (A0 : At K mg "_law_likes" s_law_likes) (D_law_takes : Dn P w K mg base "_law_takes" ["_law_web_here", "_law_house", "_law_offered"] 5 (sp_law_takes K T)) (D_law_own : Dn P w K mg base "_law_own" ["_law_web_here", "_law_house", "_law_contracts"] 1 (sp_law_own K T)) : Dn P w K mg base "_law_likes" ["_law_web_here", "_law_house", "_law_one", "_law_other"] 6 (sp_law_likes K T) := by
  obtain ⟨f_law_takes, fd_law_takes, G_law_takes, g_law_takes, k_law_takes, b_law_takes⟩ := D_law_takes
  obtain ⟨f_law_own, fd_law_own, G_law_own, g_law_own, k_law_own, b_law_own⟩ := D_law_own
  refine dn4 A0 sc_law_likes (fun _ _ F => F.bindsN fun _ _ _ _ _ _ us hl => match us, hl with | [_, _, _, _], _ => rfl) fun f cdv A outer s H a0 a1 a2 a3 Q E hr h => ?_
  have hu := hr.units
  have hu5 := units5 hr
  have hu1 := units1 hr
  have nd := sc_law_likes.nd
  refine ⟨_, (pss_one
  (ps_ret (pe_cmpR (kEqD (K := K) hu rfl) (pe_call G_law_takes (hr.mono (by decide)) (by rfl) g_law_takes k_law_takes b_law_takes .nil pass0 (pa_cons (pv 0) (pa_cons (pv 1) (pa_cons (pe_op (kCatA (K := K) rfl) (pv 2) (pv 3)) pa_nil)))) (pe_call G_law_own (hr.mono (by decide)) (by rfl) g_law_own k_law_own b_law_own .nil pass0 (pa_cons (pv 0) (pa_cons (pv 1) (pa_cons (pv 2) pa_nil)))) (by rfl)))), ?_⟩
  obtain ⟨wb, hh, xs, ys, ok, tw, rfl, ih, tx, ty, hin, lx, ly, q⟩ := h
  walk_at "st"
  refine q_catT (T := T) tx ty (by omega) fun u H1 f1 tu => ?_
  walk_at "st"
  refine ⟨_, _, _, rfl, wb, hh, xs ++ ys, ok, tw.mono f1, rfl, ih, tu, fun v2 H2 f2 t2 => ?_⟩
  walk_at "st"
  refine ⟨_, _, _, rfl, wb, hh, xs, (tw.mono f1).mono f2, rfl, (tx.mono f1).mono f2, hin, by omega, fun v3 H3 f3 t3 => ?_⟩
  exact q_eqT (t2.mono f3) t3 (q H3 ((f1.trans f2).trans f3))
def sp_law_are_liked (K : PySem.W.Frag) (T : List (Addr × Str)) : Sp := Sp3 fun a b c H Q => ∃ (wb : Web Str) (h : Int) (p : Addr) (vs : List V) (rows : List (List Int)), OkW wb ∧ LamX.Tabs T H ∧ Td K H a (eW wb) ∧ b = .int h ∧ InH wb h ∧ c = .ref p ∧ H p = some (.lst vs) ∧ TdAll K H vs (rows.map tI) ∧
  rows.length ≤ 10 ∧ 1 ≤ rows.length ∧ (∀ r ∈ rows, r.length ≤ 30 ∧ ∀ n ∈ r, InC wb.cs n) ∧ (∀ (k : Nat) x y, rows[k]? = some x → rows[k + 1]? = some y → lawLikes wb h x y = true ∧ proLikes wb h x y = true) ∧
  ∀ H', Fr T [] H H' → Q (.bl true) H'
/-! ### _law_are_liked -/
abbrev s_law_are_liked : Stmt := topS 57
abbrev N_law_are_liked : List Str := ["_law_web_here", "_law_house", "_law_row", "_law_k"]
theorem sc_law_are_liked : FnScope N_law_are_liked ["_law_web_here", "_law_house", "_law_row"] (defScope s_law_are_liked) := ⟨rfl, rfl, rfl, by decide +kernel, rfl, by decide +kernel, by decide +kernel⟩
theorem d_law_are_liked (B : B0 mg) (A0 : At K mg "_law_are_liked" s_law_are_liked) (D_likes : Dn P w K mg base "likes" ["web", "house", "one", "other"] 8 (sp_likes K T)) (D_law_likes : Dn P w K mg base "_law_likes" ["_law_web_here", "_law_house", "_law_one", "_law_other"] 6 (sp_law_likes K T)) : Dn P w K mg base "_law_are_liked" ["_law_web_here", "_law_house", "_law_row"] 9 (sp_law_are_liked K T) := by
  obtain ⟨f_likes, fd_likes, G_likes, g_likes, k_likes, b_likes⟩ := D_likes
  obtain ⟨f_law_likes, fd_law_likes, G_law_likes, g_law_likes, k_law_likes, b_law_likes⟩ := D_law_likes
  refine dn3 A0 sc_law_are_liked (fun _ _ F => F.bindsN fun _ _ _ _ _ _ us hl => match us, hl with | [_, _, _], _ => rfl) fun f cdv A outer s H a0 a1 a2 Q E hr h => ?_
  have nd := sc_law_are_liked.nd
  refine ⟨_, (pss_cons
  (ps_for PassesOwn.never rfl (pi_range1 (by rfl) B.range (pa_cons (pe_op op_sub (pe_callB (kLen (K := K) rfl) (by rfl) B.len PySem.boot_len (pa_cons (pv 2) pa_nil)) pe_int) pa_nil)) (pg_name (i := 3) nd rfl (by first | exact Or.inl rfl | exact Or.inr rfl)) (pss_one
  (ps_if (PW.pt (pw_or (pt_not (pt_val (pe_call G_law_likes (hr.mono (by decide)) (by rfl) g_law_likes k_law_likes b_law_likes .nil pass0 (pa_cons (pv 0) (pa_cons (pv 1) (pa_cons (pe_ix (kIxL (K := K) rfl) (pv 2) (pv 3) (fun _ _ => rfl)) (pa_cons (pe_ix (kIxL (K := K) rfl) (pv 2) (pe_op op_add (pv 3) pe_int) (fun _ _ => rfl)) pa_nil))))))) (pw_or1 (pt_cmpR op_notBl (pe_call G_likes (hr.mono (by decide)) (by rfl) g_likes k_likes b_likes .nil pass0 (pa_cons (pv 0) (pa_cons (pv 1) (pa_cons (pe_ix (kIxL (K := K) rfl) (pv 2) (pv 3) (fun _ _ => rfl)) (pa_cons (pe_ix (kIxL (K := K) rfl) (pv 2) (pe_op op_add (pv 3) pe_int) (fun _ _ => rfl)) pa_nil))))) pe_bl (by rfl))))) (pss_one
  (ps_ret pe_bl)) pss_nil)))
  (pss_one
  (ps_ret pe_bl))), ?_⟩
  obtain ⟨wb, hh, p, vs, rows, ok, hT, tw, rfl, ih, rfl, hp, tv, hl, hl1, hr2, hk, q⟩ := h
  have hvl : vs.length = rows.length := by rw [tv.length, List.length_map]
  walk_at "st"
  refine q_lenL hp ?_
  walk_at "st"
  refine q_I ?_
  refine ⟨_, rfl, by omega, by omega, ?_⟩
  refine for_R (fun i σ H' => ∃ x, σ = [some a0, some (.int hh), some (.ref p), x] ∧ Fr T [] H H') ⟨_, rfl, Fr.refl _⟩ ?_ ?_
  · rintro i σ' H1 hi ⟨x, rfl, f1⟩
    obtain ⟨rx, hrx⟩ : ∃ r, rows[i]? = some r := ⟨_, List.getElem?_eq_getElem (by omega)⟩
    obtain ⟨ry, hry⟩ : ∃ r, rows[i + 1]? = some r := ⟨_, List.getElem?_eq_getElem (by omega)⟩
    obtain ⟨v1, hv1, tv1⟩ := (tv.mono f1).atI (k := (i : Int)) (at_nat (by rw [List.getElem?_map, hrx]; rfl))
    obtain ⟨v2, hv2, tv2⟩ := (tv.mono f1).atI (k := ((i + 1 : Nat) : Int)) (at_nat (by rw [List.getElem?_map, hry]; rfl))
    have hv2' : atI vs ((i : Int) + 1) = some v2 := hv2
    obtain ⟨l1, i1⟩ := hr2 rx (List.mem_of_getElem? hrx)
    obtain ⟨l2, i2⟩ := hr2 ry (List.mem_of_getElem? hry)
    obtain ⟨k1, k2⟩ := hk i rx ry hrx hry
    walk_at "st"
    refine q_ixL (f1.lst0 hp) hv1 ?_
    walk_at "st"
    refine q_I ?_
    refine q_ixL (f1.lst0 hp) hv2' ?_
    walk_at "st"
    refine ⟨_, _, _, _, rfl, wb, hh, rx, ry, ok, tw.mono f1, rfl, ih, tv1, tv2, i1, l1, l2, fun H2 f2 => ?_⟩
    rw [k1]
    refine ⟨_, rfl, ?_⟩
    show if (!true) = true then _ else _
    rw [if_neg (by decide)]
    walk_at "st"
    refine q_ixL ((f1.trans f2).lst0 hp) hv1 ?_
    walk_at "st"
    refine q_I ?_
    refine q_ixL ((f1.trans f2).lst0 hp) hv2' ?_
    walk_at "st"
    refine ⟨_, _, _, _, rfl, wb, hh, rx, ry, ok, (f1.trans f2).tabs hT, tw.mono (f1.trans f2), rfl, ih, tv1.mono f2, tv2.mono f2, l1, l2, fun H3 f3 => ?_⟩
    have k2' : decide (chooseW wb hh (fun c => decide (c ∈ rx ∨ c ∈ ry)) = rx.filter fun c => decide (c ∈ ownOf wb.cs hh)) = true := k2
    rw [k2']
    refine ⟨_, _, rfl, rfl, _, rfl, ?_⟩
    refine iteF ?_
    walk_at "st"
    exact ⟨_, rfl, (f1.trans f2).trans f3⟩
  · rintro σ' H1 ⟨x, rfl, f1⟩
    dsimp only
    walk_at "st"
    exact q _ f1
def sp_law_subsets (K : PySem.W.Frag) (T : List (Addr × Str)) : Sp := Sp1 fun a H Q => ∃ ns : List Int, SqI K H a ns ∧ ns.length ≤ 8 ∧ ∀ (p : Addr) (H' : Hp) (xs : List V) (rows : List (List Int)), Fresh H p → Fr T [] H H' → H' p = some (.lst xs) → TdAll K H' xs (rows.map tI) → rows.Perm (subsL ns) → Q (.ref p) H'
/-! ### _law_subsets -/
abbrev s_law_subsets : Stmt := topS 34
abbrev N_law_subsets : List Str := ["_law_contracts", "_law_found", "_law_contract", "_law_row"]
theorem sc_law_subsets : FnScope N_law_subsets ["_law_contracts"] (defScope s_law_subsets) := ⟨rfl, rfl, rfl, by decide +kernel, rfl, by decide +kernel, by decide +kernel⟩
theorem d_law_subsets (B : B0 mg) (A0 : At K mg "_law_subsets" s_law_subsets) : Dn P w K mg base "_law_subsets" ["_law_contracts"] 1 (sp_law_subsets K T) := by
  refine dn1 A0 sc_law_subsets (fun _ _ F => F.bindsN fun _ _ _ _ _ _ us hl => match us, hl with | [_], _ => rfl) fun f cdv A outer s H a0 Q E hr h => ?_
  have hu := hr.units
  have hu5 := units5 hr
  have hu1 := units1 hr
  have nd := sc_law_subsets.nd
  refine ⟨_, (pss_cons
  (ps_set (i := 1) nd rfl (by first | exact Or.inl rfl | exact Or.inr rfl) (pe_lst (pa_cons (pe_tup pa_nil) pa_nil)))
  (pss_cons
  (ps_for PassesOwn.never rfl (kpSeq (K := K) rfl (pv 0)) (pg_name (i := 2) nd rfl (by first | exact Or.inl rfl | exact Or.inr rfl)) (pss_one
  (ps_set (i := 1) nd rfl (by first | exact Or.inl rfl | exact Or.inr rfl) (pe_op op_cat (pv 1) (pe_lc (own := [("_law_row", 3)]) (g := (gName 3)) (by rfl) nd (kpList (K := K) rfl (pv 1)) (blkOk_by (own := [("_law_row", 3)]) (N := N_law_subsets) (sc := defScope s_law_subsets) (by decide +kernel)) (fun _ _ _ _ _ => (pg_name (i := 3) nd rfl (by first | exact Or.inl rfl | exact Or.inr rfl))) (fun _ _ _ _ _ => pts_nil) (fun _ _ _ _ _ => (pe_op (kCatA (K := K) rfl) (pv 3) (pe_tup (pa_cons (pv 2) pa_nil)))))))))
  (pss_one
  (ps_ret (pe_lc (own := [("_law_row", 3)]) (g := (gName 3)) (by rfl) nd (kpList (K := K) rfl (pe_callB (kSortRow (K := K) hu rfl) (by rfl) B.sorted (by decide +kernel) (pa_cons (pe_lc (own := [("_law_row", 3)]) (g := (gName 3)) (by rfl) nd (kpList (K := K) rfl (pv 1)) (blkOk_by (own := [("_law_row", 3)]) (N := N_law_subsets) (sc := defScope s_law_subsets) (by decide +kernel)) (fun _ _ _ _ _ => (pg_name (i := 3) nd rfl (by first | exact Or.inl rfl | exact Or.inr rfl))) (fun _ _ _ _ _ => pts_nil) (fun _ _ _ _ _ => (pe_tup (pa_cons (pe_callB (kLen (K := K) rfl) (by rfl) B.len PySem.boot_len (pa_cons (pv 3) pa_nil)) (pa_cons (pv 3) pa_nil))))) pa_nil))) (blkOk_by (own := [("_law_row", 3)]) (N := N_law_subsets) (sc := defScope s_law_subsets) (by decide +kernel)) (fun _ _ _ _ _ => (pg_name (i := 3) nd rfl (by first | exact Or.inl rfl | exact Or.inr rfl))) (fun _ _ _ _ _ => pts_nil) (fun _ _ _ _ _ => (pe_ix (kIxT (K := K) rfl) (pv 3) pe_int (fun _ _ => rfl)))))))), ?_⟩
  obtain ⟨ns, sn, hl, q⟩ := h
  have p8 : 2 ^ 8 = 256 := rfl
  walk_at "st"
  refine ⟨Nat.zero_le _, fun l0 hl0 => ?_⟩
  walk_at "st"
  refine ⟨Nat.le_of_lt (line_of (show (1 : Nat) ≤ 100000 by decide)), fun p0 hp0 => ?_⟩
  have f1 : Fr T [] H (upd H l0 (.tup [])) := Fr.new hl0
  have f2 := f1.andNew (o := .lst [.ref l0]) hp0
  have hx2 : (upd (upd H l0 (.tup [])) p0 (.lst [.ref l0])) p0 = some (.lst [.ref l0]) := upd_same
  have t2 : TdAll K (upd (upd H l0 (.tup [])) p0 (.lst [.ref l0])) [.ref l0] ((subsL (ns.take 0)).map tI) := .cons ((td_new (ds := []) upd_same .nil).mono (Fr.new (T := T) hp0)) .nil
  generalize upd (upd H l0 (.tup [])) p0 (.lst [.ref l0]) = H2 at f2 hx2 t2
  have np0 : Fresh H p0 := f1.there hp0
  walk_at "st"
  refine for_S (T := T) (sn.mono f2) (fun Q q => ⟨_, rfl, q⟩) (fun i σ H' => ∃ (p : Addr) (xs : List V) (x y : Option V), σ = [some a0, some (.ref p), x, y] ∧ Fr T [] H H' ∧ Fr T [] H2 H' ∧ Fresh H p ∧ H' p = some (.lst xs) ∧ TdAll K H' xs ((subsL (ns.take i)).map tI))
    ⟨p0, _, none, none, rfl, f2, Fr.refl _, np0, hx2, t2⟩ (fun i σ H' p => by obtain ⟨_, _, _, _, _, _, f, _⟩ := p; exact f) ?_ ?_
  · rintro i c σ' H3 hi ⟨p, xs, x, y, rfl, f3, g3, np, hx, tx⟩
    have hll := subsL_len_le hl i
    rw [p8] at hll
    walk_at "st"
    refine lc_L (T := T) (subsL (ns.take i)) tI hx tx (line_of (by omega)) (fun _ => true) (fun r => tI (r ++ [c])) (fun _ => rfl) ?_ ?_
    · intro r u H4 hr f4 tu R1 R2 r1 r2
      have hrl := subsL_row _ _ rfl hr
      rw [List.length_take] at hrl
      walk_at "st"
      refine iteT ?_
      walk_at "st"
      refine ⟨Nat.le_of_lt (line_of (show (1 : Nat) ≤ 100000 by decide)), fun t ht => ?_⟩
      have f5 : Fr T [] H4 (upd H4 t (.tup [.int c])) := Fr.new ht
      have t5 : Td K (upd H4 t (.tup [.int c])) (.ref t) (tI [c]) := td_new upd_same (.cons (.int _) .nil)
      exact q_catT (T := T) (tu.mono f5) t5 (by show r.length + 1 ≤ 100000; omega) fun l H6 f6 t6 => r1 rfl _ _ (f5.trans f6) t6
    · intro D4 H4 ys hD4 f4 hy ty
      rw [filt_true] at ty
      refine q_cat (f4.lst0 hx) hy ?_ fun p5 hp5 => ?_
      · rw [tx.length, ty.length, List.length_map, List.length_map]
        exact Nat.le_of_lt (line_of (by omega))
      · have f5 : Fr T [] H4 (upd H4 p5 (.lst (xs ++ ys))) := Fr.new hp5
        refine ⟨p5, xs ++ ys, _, _, rfl, (f3.trans f4).trans f5, (g3.trans f4).trans f5, (f3.trans f4).there hp5, upd_same, ?_⟩
        rw [subsL_take hi, List.map_append, List.map_map]
        exact ((tx.mono f4).append ty).mono f5
  · rintro σ' H3 ⟨p, xs, x, y, rfl, f3, g3, np, hx, tx⟩
    have hll := subsL_len_le hl ns.length
    rw [p8] at hll
    rw [List.take_of_length_le (Nat.le_refl _)] at tx hll
    dsimp only
    walk_at "st"
    refine lc_L (T := T) (subsL ns) tI hx tx (line_of (by omega)) (fun _ => true) (fun r => eRow ([(r.length : Int)], r)) (fun _ => rfl) ?_ ?_
    · intro r u H4 hr f4 tu R1 R2 r1 r2
      walk_at "st"
      refine iteT ?_
      walk_at "st"
      refine q_lenT tu ?_
      rw [List.length_map]
      walk_at "st"
      exact ⟨Nat.le_of_lt (line_of (show (2 : Nat) ≤ 100000 by decide)), fun t ht => r1 rfl _ _ (Fr.new ht) (td_new upd_same (.cons (.int _) (.cons (tu.mono (Fr.new (T := T) ht)) .nil)))⟩
    · intro D4 H4 ys hD4 f4 hy ty
      rw [filt_true] at ty
      have ey : ((subsL ns).map fun r => eRow ([(r.length : Int)], r)) = ((subsL ns).map fun r => (([(r.length : Int)], r) : Row)).map eRow := by rw [List.map_map]; rfl
      rw [ey] at ty
      walk_at "st"
      refine ⟨D4, ys, _, 1, rfl, SqL.of hy, ty, Nat.le_refl _, fun r hr => ?_, fun zs out p5 tz pm _ hp5 => ?_⟩
      · obtain ⟨q, _, rfl⟩ := List.mem_map.mp hr
        rfl
      · have f5 : Fr T [] H4 (upd H4 p5 (.lst zs)) := Fr.new hp5
        have hz5 : (upd H4 p5 (.lst zs)) p5 = some (.lst zs) := upd_same
        have tz5 := tz.mono f5
        generalize upd H4 p5 (.lst zs) = H5 at f5 hz5 tz5
        have hol : out.length ≤ 256 := by rw [pm.length_eq, List.length_map]; exact hll
        refine lc_L (T := T) out eRow hz5 tz5 (line_of (by omega)) (fun _ => true) (fun r => tI r.2) (fun _ => rfl) ?_ ?_
        · intro r u H6 hr f6 tu R1 R2 r1 r2
          have h1 : ∃ n, r.1 = [n] := by
            obtain ⟨q, _, rfl⟩ := List.mem_map.mp (pm.mem_iff.mp hr)
            exact ⟨_, rfl⟩
          obtain ⟨n, h1⟩ := h1
          have tu' : Td K H6 u (.tuple [.int n, tI r.2]) := by
            have := tu
            unfold eRow at this
            rw [h1] at this
            exact this
          walk_at "st"
          refine iteT ?_
          walk_at "st"
          exact q_ixT tu' (d := tI r.2) rfl fun u1 t1 => r1 rfl _ _ (Fr.refl _) t1
        · intro D7 H7 ws hD7 f7 hw tw
          rw [filt_true] at tw
          have ew : (out.map fun r => tI r.2) = (out.map (·.2)).map tI := by rw [List.map_map]; rfl
          rw [ew] at tw
          have f07 := ((f3.trans f4).trans f5)
          refine q D7 H7 ws _ (f07.there hD7) (f07.trans f7) hw tw ?_
          have := pm.map (·.2)
          rw [List.map_map] at this
          have e3 : (subsL ns).map ((fun x : Row => x.2) ∘ fun r => (([(r.length : Int)], r) : Row)) = subsL ns := by simp [Function.comp_def]
          rw [e3] at this
          exact this
end
end Nc
set_option maxHeartbeats 4000000
/-! LE: masks. -/
namespace Nc
open PySem PySem.Spec L2
theorem band_nat (a b : Nat) : Builtin.bitAnd (a : Int) (b : Int) = ((a &&& b : Nat) : Int) := by
  rw [PyProof.Rows.bitAnd_pp (Int.natCast_nonneg a) (Int.natCast_nonneg b), Int.toNat_natCast, Int.toNat_natCast]
theorem pow_at : ∀ n : Nat, n ≤ 12 → ([1, 2, 4, 8, 16, 32, 64, 128, 256, 512, 1024, 2048, 4096] : List Int)[n]? = some ((2 ^ n : Nat) : Int) := by decide
/-- over a list or a tuple of ints, to one name -/
theorem lc_S {T : List (Addr × Str)} {K : PySem.W.Frag} {ns : List Int} {v : V} {H1 : Hp} {te0 : TE} (hv : SqI K H1 v ns) {σ : St} (h0 : ∀ Q : VK, Q v H1 → te0 σ H1 Q) (hz : ns.length < sizeLine) {j : Nat} {tt : TT} {te : TE} {vs : List Nat} {Q : VK} (f : Int → Bool) (d : Int → PyData)
    (hw : ∀ x, wipe ((wipe σ vs).set j (some x)) vs = wipe σ vs)
    (ht : ∀ (c : Int) (H2 : Hp), c ∈ ns → Fr T [] H1 H2 → ∀ (R1 : V → Hp → Prop) (R2 : Hp → Prop), (f c = true → ∀ v H3, Fr T [] H2 H3 → Td K H3 v (d c) → R1 v H3) → (f c = false → ∀ H3, Fr T [] H2 H3 → R2 H3) →
      tt ((wipe σ vs).set j (some (.int c))) H2 fun b H3 => if b = true then te ((wipe σ vs).set j (some (.int c))) H3 R1 else R2 H3)
    (hd : ∀ (D : Addr) (H' : Hp) (xs : List V), H1 D = none → Fr T [] H1 H' → H' D = some (.lst xs) → TdAll K H' xs ((ns.filter f).map d) → Q (.ref D) H') : iSeq K te0 σ H1 fun J H1 => LcQ J (gName j) tt te vs σ H1 Q := by
  obtain ⟨a, rfl, ⟨h, _⟩ | h⟩ := hv
  · refine Or.inl (h0 _ (lc_L (T := T) ns .int h (tdAll_ints ns) hz f d hw (fun c u H2 hc f2 tu R1 R2 r1 r2 => ?_) hd))
    obtain rfl := tu.int_inv
    exact ht c H2 hc f2 R1 R2 r1 r2
  · refine Or.inr (h0 _ (lc_T (T := T) ns .int (td_of h) hz f d hw (fun c u H2 hc f2 tu R1 R2 r1 r2 => ?_) hd))
    obtain rfl := tu.int_inv
    exact ht c H2 hc f2 R1 R2 r1 r2
theorem bits_sum (ns : List Int) : (ns.map fun n => ((2 ^ n.toNat : Nat) : Int)).sum = (bitsN ns : Int) := by
  unfold bitsN
  induction ns with
  | nil => rfl
  | cons n ns ih =>
    rw [List.map_cons, List.map_cons, List.sum_cons, List.sum_cons, ih, Int.natCast_add]
local macro_rules | `(tactic| walk_at "st") => `(tactic| (repeat (first
  | ((with_reducible refine' r_var ?e ?_); (case e => exact rfl))
  | (with_reducible refine' r_op ?_)
  | (with_reducible refine' r_c ?_)
  | (with_reducible refine' r_cons ?_)
  | (with_reducible refine' r_nil ?_)
  | (with_reducible refine' r_cb ?_)
  | (with_reducible refine' r_call ?_)
  | (with_reducible refine' r_test ?_)
  | (with_reducible refine' r_lc ?_)
  | (with_reducible refine' r_lc2 ?_)
  | (with_reducible refine' r_sk ?_)
  | (with_reducible refine' r_iZ ?_)
  | (with_reducible refine' r_dg ?_)
  | (with_reducible refine' r_dpS ?_)
  | (with_reducible refine' r_dp1 ?_)
  | (with_reducible refine' r_dn ?_)
  | (with_reducible refine' r_iT ?_)
  | (with_reducible refine' r_iL ?_)
  | (with_reducible refine' r_iE ?_)
  | (with_reducible refine' r_iR ?_)
  | (with_reducible refine' r_ret ?_)
  | (with_reducible refine' r_asgS ?_)
  | (with_reducible refine' r_asg1 ?_)
  | (with_reducible refine' r_asgTS ?_)
  | (with_reducible refine' r_ifS ?_)
  | (with_reducible refine' r_if1 ?_)
  | (with_reducible refine' r_forS ?_)
  | (with_reducible refine' r_for1 ?_)
  | (with_reducible refine' r_dropS ?_)
  | (with_reducible refine' r_drop1 ?_)
  | (with_reducible refine' r_tup ?_)
  | (with_reducible refine' r_lst ?_)
  | (with_reducible refine' r_sl ?_)
  | (with_reducible refine' r_noP ?_)
  | (with_reducible refine' r_part ?_)
  | (with_reducible refine' r_bm ?_)
  | (with_reducible refine' r_bm0 ?_)
  | (with_reducible refine' r_un ?_)
  | (with_reducible refine' r_notV ?_)
  | (with_reducible refine' r_B ?_)
  | (with_reducible refine' r_and ?_)
  | (with_reducible refine' r_or ?_)
  | (with_reducible refine' r_not ?_)
  | (with_reducible refine' r_yes ?_)
  | (with_reducible refine' r_next ?_)
  | (with_reducible refine' r_break ?_)
  | (with_reducible refine' r_gn ?_)
  | (with_reducible refine' r_tupRg ?_)
  | (with_reducible refine' r_rg1 ?_)
  )))
local macro_rules | `(tactic| walk_at "no") => `(tactic| (refine q_eqS ⟨_, rfl, ite2 (fun e => absurd (of_decide_eq_true e) (by decide +kernel)) (fun _ => ?_)⟩; walk_at "st"; try dsimp only))
local macro_rules | `(tactic| walk_at "yes") => `(tactic| (refine q_eqS ⟨_, rfl, ite2 (fun _ => ?_) (fun e => absurd (decide_eq_true rfl) e)⟩; walk_at "st"))
section
variable {P : Program} {w : World} {K : PySem.W.Frag} {mg : Str → Option Value} {base : Heap}
variable {T : List (Addr × Str)}
def sp_law_power (K : PySem.W.Frag) (T : List (Addr × Str)) : Sp := Sp1 fun a H Q => ∃ n : Nat, a = .int n ∧ n ≤ 12 ∧ ∀ H', Fr T [] H H' → Q (.int ((2 ^ n : Nat) : Int)) H'
/-! ### _law_power -/
abbrev s_law_power : Stmt := topS 47
abbrev N_law_power : List Str := ["_law_number"]
theorem sc_law_power : FnScope N_law_power ["_law_number"] (defScope s_law_power) := ⟨rfl, rfl, rfl, by decide +kernel, rfl, by decide +kernel, by decide +kernel⟩
theorem d_law_power (B : B0 mg) (A0 : At K mg "_law_power" s_law_power) : Dn P w K mg base "_law_power" ["_law_number"] 1 (sp_law_power K T) := by
  refine dn1 A0 sc_law_power (fun _ _ F => F.bindsN fun _ _ _ _ _ _ us hl => match us, hl with | [_], _ => rfl) fun f cdv A outer s H a0 Q E hr h => ?_
  have nd := sc_law_power.nd
  refine ⟨_, (pss_one
  (ps_ret (pe_ix (kIxL (K := K) rfl) (pe_lst (pa_cons pe_int (pa_cons pe_int (pa_cons pe_int (pa_cons pe_int (pa_cons pe_int (pa_cons pe_int (pa_cons pe_int (pa_cons pe_int (pa_cons pe_int (pa_cons pe_int (pa_cons pe_int (pa_cons pe_int (pa_cons pe_int pa_nil)))))))))))))) (pv 0) (fun _ _ => rfl)))), ?_⟩
  obtain ⟨n, rfl, hn, q⟩ := h
  walk_at "st"
  refine ⟨Nat.le_of_lt (line_of (show (13 : Nat) ≤ 100000 by decide)), fun p hp => ?_⟩
  refine r_var rfl ?_
  exact q_ixL upd_same (at_map (α := Int) (e := V.int) (l := [1, 2, 4, 8, 16, 32, 64, 128, 256, 512, 1024, 2048, 4096]) (Int.natCast_nonneg n) (by rw [Int.toNat_natCast]; exact pow_at n hn)) (q _ (Fr.new hp))
def sp_law_bits (K : PySem.W.Frag) (T : List (Addr × Str)) : Sp := Sp1 fun a H Q => ∃ ns : List Int, SqI K H a ns ∧ ns.length ≤ 100000 ∧ (∀ c ∈ ns, 0 ≤ c ∧ c ≤ 12) ∧ ∀ H', Fr T [] H H' → Q (.int (bitsN ns : Int)) H'
/-! ### _law_bits -/
abbrev s_law_bits : Stmt := topS 48
abbrev N_law_bits : List Str := ["_law_contracts", "_law_contract"]
theorem sc_law_bits : FnScope N_law_bits ["_law_contracts"] (defScope s_law_bits) := ⟨rfl, rfl, rfl, by decide +kernel, rfl, by decide +kernel, by decide +kernel⟩
theorem d_law_bits (B : B0 mg) (A0 : At K mg "_law_bits" s_law_bits) (D_law_power : Dn P w K mg base "_law_power" ["_law_number"] 1 (sp_law_power K T)) : Dn P w K mg base "_law_bits" ["_law_contracts"] 2 (sp_law_bits K T) := by
  obtain ⟨f_law_power, fd_law_power, G_law_power, g_law_power, k_law_power, b_law_power⟩ := D_law_power
  refine dn1 A0 sc_law_bits (fun _ _ F => F.bindsN fun _ _ _ _ _ _ us hl => match us, hl with | [_], _ => rfl) fun f cdv A outer s H a0 Q E hr h => ?_
  have nd := sc_law_bits.nd
  refine ⟨_, (pss_one
  (ps_ret (pe_callB (kSum (K := K) rfl rfl) (by rfl) B.sum (by decide +kernel) (pa_cons (pe_lc (own := [("_law_contract", 1)]) (g := (gName 1)) (by rfl) nd (kpSeq (K := K) rfl (pv 0)) (blkOk_by (own := [("_law_contract", 1)]) (N := N_law_bits) (sc := defScope s_law_bits) (by decide +kernel)) (fun _ _ _ _ _ => (pg_name (i := 1) nd rfl (by first | exact Or.inl rfl | exact Or.inr rfl))) (fun _ _ _ _ _ => pts_nil) (fun _ _ _ _ _ => (pe_call G_law_power (hr.mono (by decide)) (by rfl) g_law_power k_law_power b_law_power .nil pass0 (pa_cons (pv 1) pa_nil)))) pa_nil)))), ?_⟩
  obtain ⟨ns, sn, hl, hb, q⟩ := h
  walk_at "st"
  refine lc_S (T := T) sn (fun Q q => ⟨_, rfl, q⟩) (line_of (by omega)) (fun _ => true) (fun c => .int ((2 ^ c.toNat : Nat) : Int)) (fun _ => rfl) ?_ ?_
  · intro c H2 hc f2 R1 R2 r1 r2
    obtain ⟨h0, h1⟩ := hb c hc
    walk_at "st"
    refine iteT ?_
    walk_at "st"
    exact ⟨_, rfl, c.toNat, by rw [Int.toNat_of_nonneg h0], by omega, fun H3 f3 => r1 rfl _ _ f3 (.int _)⟩
  · intro D H' xs hD fr hx tx
    rw [filt_true] at tx
    have e : (ns.map fun c => PyData.int ((2 ^ c.toNat : Nat) : Int)) = (ns.map fun c => ((2 ^ c.toNat : Nat) : Int)).map PyData.int := by rw [List.map_map]; rfl
    rw [e] at tx
    rw [tx.ints] at hx
    walk_at "st"
    refine ⟨D, _, rfl, SqL.of hx, ?_⟩
    rw [bits_sum]
    exact q _ fr
def sp_law_set (K : PySem.W.Frag) (T : List (Addr × Str)) : Sp := Sp1 fun a H Q => ∃ m : Nat, a = .int m ∧ ∀ v H', Fr T [] H H' → Td K H' v (tI (setL m)) → Q v H'
/-! ### _law_set -/
abbrev s_law_set : Stmt := topS 49
abbrev N_law_set : List Str := ["_law_mask", "_law_number"]
theorem sc_law_set : FnScope N_law_set ["_law_mask"] (defScope s_law_set) := ⟨rfl, rfl, rfl, by decide +kernel, rfl, by decide +kernel, by decide +kernel⟩
theorem d_law_set (B : B0 mg) (A0 : At K mg "_law_set" s_law_set) (D_law_power : Dn P w K mg base "_law_power" ["_law_number"] 1 (sp_law_power K T)) : Dn P w K mg base "_law_set" ["_law_mask"] 2 (sp_law_set K T) := by
  obtain ⟨f_law_power, fd_law_power, G_law_power, g_law_power, k_law_power, b_law_power⟩ := D_law_power
  refine dn1 A0 sc_law_set (fun _ _ F => F.bindsN fun _ _ _ _ _ _ us hl => match us, hl with | [_], _ => rfl) fun f cdv A outer s H a0 Q E hr h => ?_
  have nd := sc_law_set.nd
  refine ⟨_, (pss_one
  (ps_ret (pe_callTy (kTuple (K := K) rfl) (by rfl) B.tuple (by decide +kernel) (pa_cons (pe_lc (own := [("_law_number", 1)]) (g := (gName 1)) (by rfl) nd (pi_range1 (by rfl) B.range (pa_cons pe_int pa_nil)) (blkOk_by (own := [("_law_number", 1)]) (N := N_law_set) (sc := defScope s_law_set) (by decide +kernel)) (fun _ _ _ _ _ => (pg_name (i := 1) nd rfl (by first | exact Or.inl rfl | exact Or.inr rfl))) (fun _ _ _ _ _ => (pts_one (pt_cmpR op_eq (pe_op op_and (pe_op op_fdiv (pv 0) (pe_call G_law_power (hr.mono (by decide)) (by rfl) g_law_power k_law_power b_law_power .nil pass0 (pa_cons (pv 1) pa_nil))) pe_int) pe_int (by rfl)))) (fun _ _ _ _ _ => (pv 1))) pa_nil)))), ?_⟩
  obtain ⟨m, rfl, q⟩ := h
  walk_at "st"
  refine ⟨_, rfl, by decide, by decide, ?_⟩
  refine lc_R (T := T) (K := K) (n := 12) (line_of (by decide)) (fun n => m.testBit n) (fun n => .int (n : Int)) (fun _ => rfl) ?_ ?_
  · intro n H2 hn f2 R1 R2 r1 r2
    walk_at "st"
    refine ⟨_, rfl, n, rfl, by omega, fun H3 f3 => ?_⟩
    have hp : (2 : Nat) ^ n ≤ 2 ^ 12 := Nat.pow_le_pow_right (by decide) (by omega)
    have hp0 := Nat.two_pow_pos n
    refine q_IC ⟨by omega, by omega⟩ ?_
    walk_at "st"
    refine q_I ?_
    walk_at "st"
    have e1 : Builtin.bitAnd ((m : Int) / ((2 ^ n : Nat) : Int)) 1 = ((m / 2 ^ n % 2 : Nat) : Int) := by
      have h1 : ((m : Int) / ((2 ^ n : Nat) : Int)) = ((m / 2 ^ n : Nat) : Int) := (Int.natCast_ediv _ _).symm
      rw [h1, show (1 : Int) = ((1 : Nat) : Int) from rfl, band_nat, Nat.and_one_is_mod]
    refine q_eqI ⟨_, rfl, ?_⟩
    rw [e1]
    have e2 : decide (((m / 2 ^ n % 2 : Nat) : Int) = 1) = m.testBit n := by
      rw [Nat.testBit_eq_decide_div_mod_eq]
      exact decide_eq_decide.mpr ⟨fun h => by omega, fun h => by omega⟩
    rw [e2]
    refine ite2 (fun e => ?_) (fun e => ?_)
    · walk_at "st"
      exact r1 e _ _ f3 (.int _)
    · exact r2 (Bool.eq_false_iff.mpr e) _ f3
  · intro D H' xs hD fr hx tx
    walk_at "st"
    refine q_tupK (T := T) hx tx fun l H2 f2 t2 => q _ _ (fr.trans f2) ?_
    unfold setL tI
    rw [List.map_map]
    exact t2
def sp_law_within (K : PySem.W.Frag) (T : List (Addr × Str)) : Sp := Sp1 fun a H Q => ∃ m : Nat, a = .int m ∧ m ≤ 10000 ∧ ∀ p H', Fresh H p → Fr T [] H H' → H' p = some (.lst (((withinN m).map fun (n : Nat) => (n : Int)).map V.int)) → Q (.ref p) H'
/-! ### _law_within -/
abbrev s_law_within : Stmt := topS 51
abbrev N_law_within : List Str := ["_law_every", "_law_mask"]
theorem sc_law_within : FnScope N_law_within ["_law_every"] (defScope s_law_within) := ⟨rfl, rfl, rfl, by decide +kernel, rfl, by decide +kernel, by decide +kernel⟩
theorem d_law_within (B : B0 mg) (A0 : At K mg "_law_within" s_law_within) : Dn P w K mg base "_law_within" ["_law_every"] 1 (sp_law_within K T) := by
  refine dn1 A0 sc_law_within (fun _ _ F => F.bindsN fun _ _ _ _ _ _ us hl => match us, hl with | [_], _ => rfl) fun f cdv A outer s H a0 Q E hr h => ?_
  have nd := sc_law_within.nd
  refine ⟨_, (pss_one
  (ps_ret (pe_lc (own := [("_law_mask", 1)]) (g := (gName 1)) (by rfl) nd (pi_range1 (by rfl) B.range (pa_cons (pe_op op_add (pv 0) pe_int) pa_nil)) (blkOk_by (own := [("_law_mask", 1)]) (N := N_law_within) (sc := defScope s_law_within) (by decide +kernel)) (fun _ _ _ _ _ => (pg_name (i := 1) nd rfl (by first | exact Or.inl rfl | exact Or.inr rfl))) (fun _ _ _ _ _ => (pts_one (pt_cmpR op_eq (pe_op op_and (pv 1) (pv 0)) (pv 1) (by rfl)))) (fun _ _ _ _ _ => (pv 1))))), ?_⟩
  obtain ⟨m, rfl, hm, q⟩ := h
  walk_at "st"
  refine q_I ?_
  refine ⟨_, rfl, by omega, by omega, ?_⟩
  have en : ((m : Int) + 1).toNat = m + 1 := by omega
  rw [en]
  refine lc_R (T := T) (K := K) (n := m + 1) (line_of (by omega)) (fun n => decide (n &&& m = n)) (fun n => .int (n : Int)) (fun _ => rfl) ?_ ?_
  · intro n H2 hn f2 R1 R2 r1 r2
    walk_at "st"
    refine q_I ?_
    walk_at "st"
    refine q_eqI ⟨_, rfl, ?_⟩
    rw [band_nat]
    have e2 : decide (((n &&& m : Nat) : Int) = (n : Int)) = decide (n &&& m = n) := decide_eq_decide.mpr ⟨fun h => by omega, fun h => by omega⟩
    rw [e2]
    refine ite2 (fun e => ?_) (fun e => ?_)
    · walk_at "st"
      exact r1 e _ _ (Fr.refl _) (.int _)
    · exact r2 (Bool.eq_false_iff.mpr e) _ (Fr.refl _)
  · intro D H' xs hD fr hx tx
    have e : ((List.range (m + 1)).filter fun n => decide (n &&& m = n)).map (fun (n : Nat) => PyData.int (n : Int)) = ((withinN m).map fun (n : Nat) => (n : Int)).map PyData.int := by
      rw [List.map_map]
      rfl
    rw [e] at tx
    rw [tx.ints] at hx
    exact q D H' (Fresh.of hD) fr hx
end
end Nc
set_option maxHeartbeats 4000000
/-! LF: networks at rest, by masks. -/
namespace Nc
open PySem PySem.Spec L2
def EntOk (K : PySem.W.Frag) (H : Hp) (v : V) (e : Ent) : Prop := ∃ t d kvs, v = .ref t ∧ SqT K H t [.int e.b, .int e.s, .ref d] ∧ H d = some (.dK kvs) ∧ ∀ m : Nat, m &&& e.o = m → valV kvs (.inl (m : Int)) = some (.int (e.f m : Int))
def PlanAt (K : PySem.W.Frag) (H : Hp) (p : Addr) (es : List Ent) : Prop := ∃ vs, H p = some (.lst vs) ∧ vs.length = es.length ∧ ∀ (i : Nat) v e, vs[i]? = some v → es[i]? = some e → EntOk K H v e
section
variable {T : List (Addr × Str)} {K : PySem.W.Frag} {H H1 : Hp} {σ : St} {D : Ends} {tb : TS} {g : TG} {es : List Ent} {p : Addr}
theorem EntOk.mono {v : V} {e : Ent} (f : Fr T [] H H1) (h : EntOk K H v e) : EntOk K H1 v e := by
  obtain ⟨t, d, kvs, rfl, h1, h2, h3⟩ := h
  exact ⟨t, d, kvs, rfl, f.sqT h1, f.dk h2, h3⟩
theorem PlanAt.mono (f : Fr T [] H H1) (h : PlanAt K H p es) : PlanAt K H1 p es := by
  obtain ⟨vs, h1, h2, h3⟩ := h
  exact ⟨vs, f.lst0 h1, h2, fun i v e a b => (h3 i v e a b).mono f⟩
theorem for_P (hp : PlanAt K H1 p es) (Pv : Nat → St → Hp → Prop) (h0 : Pv 0 σ H1) (hF : ∀ i σ H', Pv i σ H' → Fr T [] H1 H')
    (hs : ∀ (i : Nat) (e : Ent) (v : V) (σ' : St) (H' : Hp), es[i]? = some e → Pv i σ' H' → EntOk K H' v e → g v σ' H' fun σ2 H2 => tb { D with nx := Pv (i + 1), ct := Pv (i + 1), bk := D.nx } σ2 H2)
    (hd : ∀ σ' H', Pv es.length σ' H' → D.nx σ' H') : ∃ a', V.ref p = .ref a' ∧ (∃ xs, SqL K H1 a' xs) ∧ ForQ (Itl K a') g tb D σ H1 := by
  obtain ⟨vs, h1, h2, h3⟩ := hp
  refine ⟨p, rfl, ⟨vs, SqL.of h1⟩, for_it (walk_list (K := K) (a := p) (xs := vs)) Pv h0 (fun i σ' H' _ q => SqL.of ((hF i σ' H' q).lst0 h1)) ?_ (fun σ' H' q => hd σ' H' (h2 ▸ q))⟩
  rintro i x σ' Ha Hb hi q ⟨rfl, hx⟩
  have he : es[i]? = some es[i] := List.getElem?_eq_getElem (h2 ▸ hi)
  exact hs i _ x σ' Hb he q ((h3 i x _ hx he).mono (hF i σ' Hb q))
end
theorem bor_nat (a b : Nat) : Builtin.bitOr (a : Int) (b : Int) = ((a ||| b : Nat) : Int) := by
  rw [Bits.bitOr_pp (Int.natCast_nonneg a) (Int.natCast_nonneg b), Int.toNat_natCast, Int.toNat_natCast]
local macro_rules | `(tactic| walk_at "st") => `(tactic| (repeat (first
  | ((with_reducible refine' r_var ?e ?_); (case e => exact rfl))
  | (with_reducible refine' r_op ?_)
  | (with_reducible refine' r_c ?_)
  | (with_reducible refine' r_cons ?_)
  | (with_reducible refine' r_nil ?_)
  | (with_reducible refine' r_cb ?_)
  | (with_reducible refine' r_call ?_)
  | (with_reducible refine' r_test ?_)
  | (with_reducible refine' r_lc ?_)
  | (with_reducible refine' r_lc2 ?_)
  | (with_reducible refine' r_sk ?_)
  | (with_reducible refine' r_iZ ?_)
  | (with_reducible refine' r_dg ?_)
  | (with_reducible refine' r_dpS ?_)
  | (with_reducible refine' r_dp1 ?_)
  | (with_reducible refine' r_dn ?_)
  | (with_reducible refine' r_iT ?_)
  | (with_reducible refine' r_iL ?_)
  | (with_reducible refine' r_iE ?_)
  | (with_reducible refine' r_iR ?_)
  | (with_reducible refine' r_ret ?_)
  | (with_reducible refine' r_asgS ?_)
  | (with_reducible refine' r_asg1 ?_)
  | (with_reducible refine' r_asgTS ?_)
  | (with_reducible refine' r_ifS ?_)
  | (with_reducible refine' r_if1 ?_)
  | (with_reducible refine' r_forS ?_)
  | (with_reducible refine' r_for1 ?_)
  | (with_reducible refine' r_dropS ?_)
  | (with_reducible refine' r_drop1 ?_)
  | (with_reducible refine' r_tup ?_)
  | (with_reducible refine' r_lst ?_)
  | (with_reducible refine' r_sl ?_)
  | (with_reducible refine' r_noP ?_)
  | (with_reducible refine' r_part ?_)
  | (with_reducible refine' r_bm ?_)
  | (with_reducible refine' r_bm0 ?_)
  | (with_reducible refine' r_un ?_)
  | (with_reducible refine' r_notV ?_)
  | (with_reducible refine' r_B ?_)
  | (with_reducible refine' r_and ?_)
  | (with_reducible refine' r_or ?_)
  | (with_reducible refine' r_not ?_)
  | (with_reducible refine' r_yes ?_)
  | (with_reducible refine' r_next ?_)
  | (with_reducible refine' r_break ?_)
  | (with_reducible refine' r_gn ?_)
  | (with_reducible refine' r_tupRg ?_)
  | (with_reducible refine' r_rg1 ?_)
  )))
local macro_rules | `(tactic| walk_at "no") => `(tactic| (refine q_eqS ⟨_, rfl, ite2 (fun e => absurd (of_decide_eq_true e) (by decide +kernel)) (fun _ => ?_)⟩; walk_at "st"; try dsimp only))
local macro_rules | `(tactic| walk_at "yes") => `(tactic| (refine q_eqS ⟨_, rfl, ite2 (fun _ => ?_) (fun e => absurd (decide_eq_true rfl) e)⟩; walk_at "st"))
section
variable {P : Program} {w : World} {K : PySem.W.Frag} {mg : Str → Option Value} {base : Heap}
variable {T : List (Addr × Str)}
def sp_law_is_kept (K : PySem.W.Frag) (T : List (Addr × Str)) : Sp := Sp2 fun a b H Q => ∃ (p : Addr) (es : List Ent) (N : Nat), a = .ref p ∧ PlanAt K H p es ∧ b = .int N ∧ ∀ H', Fr T [] H H' → Q (.bl (keptN es N)) H'
/-! ### _law_is_kept -/
abbrev s_law_is_kept : Stmt := topS 52
abbrev N_law_is_kept : List Str := ["_law_plan_here", "_law_network", "_law_buys", "_law_sells", "_law_chosen"]
theorem sc_law_is_kept : FnScope N_law_is_kept ["_law_plan_here", "_law_network"] (defScope s_law_is_kept) := ⟨rfl, rfl, rfl, by decide +kernel, rfl, by decide +kernel, by decide +kernel⟩
theorem d_law_is_kept (B : B0 mg) (A0 : At K mg "_law_is_kept" s_law_is_kept) : Dn P w K mg base "_law_is_kept" ["_law_plan_here", "_law_network"] 1 (sp_law_is_kept K T) := by
  refine dn2 A0 sc_law_is_kept (fun _ _ F => F.bindsN fun _ _ _ _ _ _ us hl => match us, hl with | [_, _], _ => rfl) fun f cdv A outer s H a0 a1 Q E hr h => ?_
  have hu := hr.units
  have hu5 := units5 hr
  have hu1 := units1 hr
  have nd := sc_law_is_kept.nd
  refine ⟨_, (pss_cons
  (ps_for PassesOwn.never rfl (kpList (K := K) rfl (pv 0)) (pg_tup rfl (pgs_cons (pg_name (i := 2) nd rfl (by first | exact Or.inl rfl | exact Or.inr rfl)) (pgs_cons (pg_name (i := 3) nd rfl (by first | exact Or.inl rfl | exact Or.inr rfl)) (pgs_cons (pg_name (i := 4) nd rfl (by first | exact Or.inl rfl | exact Or.inr rfl)) pgs_nil)))) (pss_one
  (ps_if (pt_cmpR op_ne (pe_dget hu1 (pv 4) (pe_op op_and (pv 1) (pe_op op_or (pv 2) (pv 3))) (fun _ _ => rfl)) (pe_op op_and (pv 1) (pe_op op_or (pv 2) (pv 3))) (by rfl)) (pss_one
  (ps_ret pe_bl)) pss_nil)))
  (pss_one
  (ps_ret pe_bl))), ?_⟩
  obtain ⟨p, es, N, rfl, hp, rfl, q⟩ := h
  walk_at "st"
  refine for_P (T := T) hp (fun i σ H' => ∃ x y z, σ = [some (.ref p), some (.int N), x, y, z] ∧ Fr T [] H H' ∧ ∀ e ∈ es.take i, keptE N e = true) ⟨_, _, _, rfl, Fr.refl _, by simp⟩ (fun i σ H' p => by obtain ⟨_, _, _, _, f, _⟩ := p; exact f) ?_ ?_
  · rintro i e v σ' H1 hi ⟨x, y, z, rfl, f1, hall⟩ ⟨t, d, kvs, rfl, h1, h2, h3⟩
    refine ⟨t, _, rfl, h1, rfl, _, _, rfl, _, _, rfl, _, _, rfl, rfl, ?_⟩
    walk_at "st"
    refine q_I ?_
    refine q_I ?_
    rw [bor_nat, band_nat]
    refine ⟨d, _, rfl, Or.inl ⟨kvs, .inl ((N &&& e.o : Nat) : Int), .inl h2, rfl, (h3 (N &&& e.o) (and_and_self _ _)).symm⟩, ?_⟩
    walk_at "st"
    refine q_I ?_
    refine q_I ?_
    rw [bor_nat, band_nat]
    refine q_neI ⟨_, rfl, ?_⟩
    have e1 : decide (((e.f (N &&& e.o) : Nat) : Int) = ((N &&& (e.b ||| e.s) : Nat) : Int)) = keptE N e := by
      unfold keptE
      exact decide_eq_decide.mpr ⟨fun h => Int.natCast_inj.mp h, fun h => congrArg _ h⟩
    rw [e1]
    refine ite2 (fun e2 => ?_) (fun e2 => ?_)
    · walk_at "st"
      have e3 : keptN es N = false := by
        unfold keptN
        rw [List.all_eq_false]
        exact ⟨e, List.mem_of_getElem? hi, by simpa using e2⟩
      rw [e3] at q
      exact q _ f1
    · walk_at "st"
      refine ⟨_, _, _, rfl, f1, fun e' he' => ?_⟩
      rw [take_snoc hi] at he'
      rcases List.mem_append.mp he' with h | h
      · exact hall e' h
      · simp at h
        subst h
        simpa using e2
  · rintro σ' H1 ⟨x, y, z, rfl, f1, hall⟩
    rw [List.take_of_length_le (Nat.le_refl _)] at hall
    dsimp only
    walk_at "st"
    have e3 : keptN es N = true := List.all_eq_true.mpr hall
    rw [e3] at q
    exact q _ f1
def sp_law_gains (K : PySem.W.Frag) (T : List (Addr × Str)) : Sp := Sp3 fun a b c H Q => ∃ (p : Addr) (es : List Ent) (N L : Nat), a = .ref p ∧ PlanAt K H p es ∧ b = .int N ∧ c = .int L ∧ ∀ H', Fr T [] H H' → Q (.bl (gainsN es N L)) H'
/-! ### _law_gains -/
abbrev s_law_gains : Stmt := topS 53
abbrev N_law_gains : List Str := ["_law_plan_here", "_law_network", "_law_lot", "_law_buys", "_law_sells", "_law_chosen", "_law_own_here"]
theorem sc_law_gains : FnScope N_law_gains ["_law_plan_here", "_law_network", "_law_lot"] (defScope s_law_gains) := ⟨rfl, rfl, rfl, by decide +kernel, rfl, by decide +kernel, by decide +kernel⟩
theorem d_law_gains (B : B0 mg) (A0 : At K mg "_law_gains" s_law_gains) : Dn P w K mg base "_law_gains" ["_law_plan_here", "_law_network", "_law_lot"] 1 (sp_law_gains K T) := by
  refine dn3 A0 sc_law_gains (fun _ _ F => F.bindsN fun _ _ _ _ _ _ us hl => match us, hl with | [_, _, _], _ => rfl) fun f cdv A outer s H a0 a1 a2 Q E hr h => ?_
  have hu := hr.units
  have hu5 := units5 hr
  have hu1 := units1 hr
  have nd := sc_law_gains.nd
  refine ⟨_, (pss_cons
  (ps_for PassesOwn.never rfl (kpList (K := K) rfl (pv 0)) (pg_tup rfl (pgs_cons (pg_name (i := 3) nd rfl (by first | exact Or.inl rfl | exact Or.inr rfl)) (pgs_cons (pg_name (i := 4) nd rfl (by first | exact Or.inl rfl | exact Or.inr rfl)) (pgs_cons (pg_name (i := 5) nd rfl (by first | exact Or.inl rfl | exact Or.inr rfl)) pgs_nil)))) (pss_cons
  (ps_set (i := 6) nd rfl (by first | exact Or.inl rfl | exact Or.inr rfl) (pe_op op_and (pv 2) (pe_op op_or (pv 3) (pv 4))))
  (pss_one
  (ps_if (PW.pt (pw_and (pt_cmpR op_gt (pv 6) pe_int (by rfl)) (pw_and1 (pt_cmpR op_ne (pe_op op_and (pe_dget hu1 (pv 5) (pe_op op_and (pe_op op_or (pv 1) (pv 2)) (pe_op op_or (pv 3) (pv 4))) (fun _ _ => rfl)) (pv 6)) (pv 6) (by rfl))))) (pss_one
  (ps_ret pe_bl)) pss_nil))))
  (pss_one
  (ps_ret pe_bl))), ?_⟩
  obtain ⟨p, es, N, L, rfl, hp, rfl, rfl, q⟩ := h
  walk_at "st"
  refine for_P (T := T) hp (fun i σ H' => ∃ x y z u, σ = [some (.ref p), some (.int N), some (.int L), x, y, z, u] ∧ Fr T [] H H' ∧ ∀ e ∈ es.take i, gainE N L e = true) ⟨_, _, _, _, rfl, Fr.refl _, by simp⟩ (fun i σ H' p => by obtain ⟨_, _, _, _, _, f, _⟩ := p; exact f) ?_ ?_
  · rintro i e v σ' H1 hi ⟨x, y, z, u, rfl, f1, hall⟩ ⟨t, d, kvs, rfl, h1, h2, h3⟩
    refine ⟨t, _, rfl, h1, rfl, _, _, rfl, _, _, rfl, _, _, rfl, rfl, ?_⟩
    walk_at "st"
    refine q_I ?_
    refine q_I ?_
    rw [bor_nat, band_nat]
    walk_at "st"
    refine q_I ⟨_, rfl, ?_⟩
    have e0 : decide ((0 : Int) < ((L &&& (e.b ||| e.s) : Nat) : Int)) = decide (0 < L &&& e.o) := decide_eq_decide.mpr ⟨fun h => by have := Int.natCast_pos.mp h; exact this, fun h => Int.natCast_pos.mpr h⟩
    rw [e0]
    have cont : ∀ (H2 : Hp) (σ2 : St), (∃ x y z u, σ2 = [some (.ref p), some (.int N), some (.int L), x, y, z, u]) → Fr T [] H H2 → gainE N L e = true → ∃ x y z u, σ2 = [some (.ref p), some (.int N), some (.int L), x, y, z, u] ∧ Fr T [] H H2 ∧ ∀ e ∈ es.take (i + 1), gainE N L e = true := by
      rintro H2 σ2 ⟨x, y, z, u, rfl⟩ f2 hg
      refine ⟨_, _, _, _, rfl, f2, fun e' he' => ?_⟩
      rw [take_snoc hi] at he'
      rcases List.mem_append.mp he' with h | h
      · exact hall e' h
      · simp at h
        subst h
        exact hg
    refine ite2 (fun e2 => ?_) (fun e2 => ?_)
    · walk_at "st"
      refine q_I ?_
      walk_at "st"
      refine q_I ?_
      refine q_I ?_
      rw [bor_nat, bor_nat, band_nat]
      refine ⟨d, _, rfl, Or.inl ⟨kvs, .inl (((N ||| L) &&& e.o : Nat) : Int), .inl h2, rfl, (h3 ((N ||| L) &&& e.o) (and_and_self _ _)).symm⟩, ?_⟩
      walk_at "st"
      refine q_I ?_
      rw [band_nat]
      walk_at "st"
      refine q_neI ⟨_, rfl, ?_⟩
      have e1 : decide (((e.f ((N ||| L) &&& e.o) &&& (L &&& (e.b ||| e.s)) : Nat) : Int) = ((L &&& (e.b ||| e.s) : Nat) : Int)) = decide (e.f ((N ||| L) &&& e.o) &&& (L &&& e.o) = L &&& e.o) :=
        decide_eq_decide.mpr ⟨fun h => Int.natCast_inj.mp h, fun h => congrArg _ h⟩
      rw [e1]
      refine ite2 (fun e3 => ?_) (fun e3 => ?_)
      · walk_at "st"
        have e4 : gainsN es N L = false := by
          unfold gainsN
          rw [List.all_eq_false]
          refine ⟨e, List.mem_of_getElem? hi, ?_⟩
          unfold gainE
          rw [e2, e3]
          decide
        rw [e4] at q
        exact q _ f1
      · walk_at "st"
        refine cont _ _ ⟨_, _, _, _, rfl⟩ f1 ?_
        unfold gainE
        rw [Bool.eq_false_iff.mpr e3, Bool.and_false]
        rfl
    · refine iteF ?_
      walk_at "st"
      refine cont _ _ ⟨_, _, _, _, rfl⟩ f1 ?_
      unfold gainE
      rw [Bool.eq_false_iff.mpr e2, Bool.false_and]
      rfl
  · rintro σ' H1 ⟨x, y, z, u, rfl, f1, hall⟩
    rw [List.take_of_length_le (Nat.le_refl _)] at hall
    dsimp only
    walk_at "st"
    have e3 : gainsN es N L = true := List.all_eq_true.mpr hall
    rw [e3] at q
    exact q _ f1
def sp_law_has_gain (K : PySem.W.Frag) (T : List (Addr × Str)) : Sp := Sp3 fun a b c H Q => ∃ (p : Addr) (es : List Ent) (N ev : Nat), a = .ref p ∧ PlanAt K H p es ∧ b = .int N ∧ c = .int ev ∧ N ≤ ev ∧ ev ≤ 10000 ∧ ∀ H', Fr T [] H H' → Q (.bl (hasN es N ev)) H'
/-! ### _law_has_gain -/
abbrev s_law_has_gain : Stmt := topS 54
abbrev N_law_has_gain : List Str := ["_law_plan_here", "_law_network", "_law_every", "_law_lot"]
theorem sc_law_has_gain : FnScope N_law_has_gain ["_law_plan_here", "_law_network", "_law_every"] (defScope s_law_has_gain) := ⟨rfl, rfl, rfl, by decide +kernel, rfl, by decide +kernel, by decide +kernel⟩
theorem d_law_has_gain (B : B0 mg) (A0 : At K mg "_law_has_gain" s_law_has_gain) (D_law_within : Dn P w K mg base "_law_within" ["_law_every"] 1 (sp_law_within K T)) (D_law_gains : Dn P w K mg base "_law_gains" ["_law_plan_here", "_law_network", "_law_lot"] 1 (sp_law_gains K T)) : Dn P w K mg base "_law_has_gain" ["_law_plan_here", "_law_network", "_law_every"] 2 (sp_law_has_gain K T) := by
  obtain ⟨f_law_within, fd_law_within, G_law_within, g_law_within, k_law_within, b_law_within⟩ := D_law_within
  obtain ⟨f_law_gains, fd_law_gains, G_law_gains, g_law_gains, k_law_gains, b_law_gains⟩ := D_law_gains
  refine dn3 A0 sc_law_has_gain (fun _ _ F => F.bindsN fun _ _ _ _ _ _ us hl => match us, hl with | [_, _, _], _ => rfl) fun f cdv A outer s H a0 a1 a2 Q E hr h => ?_
  have nd := sc_law_has_gain.nd
  refine ⟨_, (pss_cons
  (ps_for PassesOwn.never rfl (kpList (K := K) rfl (pe_call G_law_within (hr.mono (by decide)) (by rfl) g_law_within k_law_within b_law_within .nil pass0 (pa_cons (pe_op op_sub (pv 2) (pv 1)) pa_nil))) (pg_name (i := 3) nd rfl (by first | exact Or.inl rfl | exact Or.inr rfl)) (pss_one
  (ps_if (PW.pt (pw_and (pt_cmpR op_gt (pv 3) pe_int (by rfl)) (pw_and1 (pt_val (pe_call G_law_gains (hr.mono (by decide)) (by rfl) g_law_gains k_law_gains b_law_gains .nil pass0 (pa_cons (pv 0) (pa_cons (pv 1) (pa_cons (pv 3) pa_nil)))))))) (pss_one
  (ps_ret pe_bl)) pss_nil)))
  (pss_one
  (ps_ret pe_bl))), ?_⟩
  obtain ⟨p, es, N, ev, rfl, hp, rfl, rfl, hle, hev, q⟩ := h
  walk_at "st"
  refine q_I ?_
  have e0 : ((ev : Int) - (N : Int)) = ((ev - N : Nat) : Int) := by omega
  rw [e0]
  walk_at "st"
  refine ⟨_, rfl, ev - N, rfl, by omega, fun p1 H1 hp1 f1 hx1 => ?_⟩
  refine for_L (T := T) (M := []) ((withinN (ev - N)).map fun (n : Nat) => (n : Int)) .int hx1 (tdAll_ints _) (by simp) (fun i σ H' => ∃ x, σ = [some (.ref p), some (.int N), some (.int ev), x] ∧ Fr T [] H1 H' ∧ ∀ L ∈ (withinN (ev - N)).take i, (decide (0 < L) && gainsN es N L) = false) ⟨_, rfl, Fr.refl _, by simp⟩ (fun i σ H' p => by obtain ⟨_, _, f, _⟩ := p; exact f) ?_ ?_
  · rintro i c v σ' H2 hi ⟨x, rfl, f2, hall⟩ tv
    obtain rfl := tv.int_inv
    rw [List.getElem?_map] at hi
    obtain ⟨L, hL, rfl⟩ : ∃ L, (withinN (ev - N))[i]? = some L ∧ (L : Int) = c := by
      cases e : (withinN (ev - N))[i]? with
      | none => rw [e] at hi; cases hi
      | some L => rw [e] at hi; exact ⟨L, rfl, Option.some.inj hi⟩
    walk_at "st"
    refine q_I ⟨_, rfl, ?_⟩
    have e1 : decide ((0 : Int) < (L : Int)) = decide (0 < L) := decide_eq_decide.mpr ⟨fun h => by omega, fun h => by omega⟩
    rw [e1]
    have cont : ∀ (H3 : Hp) (σ2 : St), (∃ x, σ2 = [some (.ref p), some (.int N), some (.int ev), x]) → Fr T [] H1 H3 → (decide (0 < L) && gainsN es N L) = false → ∃ x, σ2 = [some (.ref p), some (.int N), some (.int ev), x] ∧ Fr T [] H1 H3 ∧ ∀ L ∈ (withinN (ev - N)).take (i + 1), (decide (0 < L) && gainsN es N L) = false := by
      rintro H3 σ2 ⟨x, rfl⟩ f3 hg
      refine ⟨_, rfl, f3, fun L' hL' => ?_⟩
      rw [take_snoc hL] at hL'
      rcases List.mem_append.mp hL' with h | h
      · exact hall L' h
      · simp at h
        subst h
        exact hg
    refine ite2 (fun e2 => ?_) (fun e2 => ?_)
    · walk_at "st"
      refine ⟨_, _, _, rfl, p, es, N, L, rfl, hp.mono (f1.trans f2), rfl, rfl, fun H3 f3 => ⟨_, rfl, ?_⟩⟩
      refine ite2 (fun e3 => ?_) (fun e3 => ?_)
      · walk_at "st"
        have e4 : hasN es N ev = true := by
          unfold hasN
          rw [List.any_eq_true]
          exact ⟨L, List.mem_of_getElem? hL, by rw [e2, e3]; rfl⟩
        rw [e4] at q
        exact q _ ((f1.trans f2).trans f3)
      · walk_at "st"
        exact cont _ _ ⟨_, rfl⟩ (f2.trans f3) (by rw [Bool.eq_false_iff.mpr e3, Bool.and_false])
    · refine iteF ?_
      walk_at "st"
      exact cont _ _ ⟨_, rfl⟩ f2 (by rw [Bool.eq_false_iff.mpr e2, Bool.false_and])
  · rintro σ' H2 ⟨x, rfl, f2, hall⟩
    rw [List.length_map, List.take_of_length_le (Nat.le_refl _)] at hall
    dsimp only
    walk_at "st"
    have e3 : hasN es N ev = false := by
      unfold hasN
      rw [List.any_eq_false]
      intro L hL
      rw [hall L hL]
      decide
    rw [e3] at q
    exact q _ (f1.trans f2)
def sp_law_at_rest (K : PySem.W.Frag) (T : List (Addr × Str)) : Sp := Sp2 fun a b H Q => ∃ (p : Addr) (es : List Ent) (ev : Nat), a = .ref p ∧ PlanAt K H p es ∧ b = .int ev ∧ ev ≤ 10000 ∧ ∀ p' H', Fresh H p' → Fr T [] H H' → H' p' = some (.lst (((restN es ev).map fun (n : Nat) => (n : Int)).map V.int)) → Q (.ref p') H'
/-! ### _law_at_rest -/
abbrev s_law_at_rest : Stmt := topS 55
abbrev N_law_at_rest : List Str := ["_law_plan_here", "_law_every", "_law_found", "_law_network"]
theorem sc_law_at_rest : FnScope N_law_at_rest ["_law_plan_here", "_law_every"] (defScope s_law_at_rest) := ⟨rfl, rfl, rfl, by decide +kernel, rfl, by decide +kernel, by decide +kernel⟩
theorem d_law_at_rest (B : B0 mg) (A0 : At K mg "_law_at_rest" s_law_at_rest) (D_law_has_gain : Dn P w K mg base "_law_has_gain" ["_law_plan_here", "_law_network", "_law_every"] 2 (sp_law_has_gain K T)) (D_law_is_kept : Dn P w K mg base "_law_is_kept" ["_law_plan_here", "_law_network"] 1 (sp_law_is_kept K T)) : Dn P w K mg base "_law_at_rest" ["_law_plan_here", "_law_every"] 3 (sp_law_at_rest K T) := by
  obtain ⟨f_law_has_gain, fd_law_has_gain, G_law_has_gain, g_law_has_gain, k_law_has_gain, b_law_has_gain⟩ := D_law_has_gain
  obtain ⟨f_law_is_kept, fd_law_is_kept, G_law_is_kept, g_law_is_kept, k_law_is_kept, b_law_is_kept⟩ := D_law_is_kept
  refine dn2 A0 sc_law_at_rest (fun _ _ F => F.bindsN fun _ _ _ _ _ _ us hl => match us, hl with | [_, _], _ => rfl) fun f cdv A outer s H a0 a1 Q E hr h => ?_
  have nd := sc_law_at_rest.nd
  refine ⟨_, (pss_cons
  (ps_set (i := 2) nd rfl (by first | exact Or.inl rfl | exact Or.inr rfl) (pe_lst pa_nil))
  (pss_cons
  (ps_for PassesOwn.never rfl (pi_range1 (by rfl) B.range (pa_cons (pe_op op_add (pv 1) pe_int) pa_nil)) (pg_name (i := 3) nd rfl (by first | exact Or.inl rfl | exact Or.inr rfl)) (pss_one
  (ps_if (PW.pt (pw_and (pt_val (pe_call G_law_is_kept (hr.mono (by decide)) (by rfl) g_law_is_kept k_law_is_kept b_law_is_kept .nil pass0 (pa_cons (pv 0) (pa_cons (pv 3) pa_nil)))) (pw_and1 (pt_not (pt_val (pe_call G_law_has_gain (hr.mono (by decide)) (by rfl) g_law_has_gain k_law_has_gain b_law_has_gain .nil pass0 (pa_cons (pv 0) (pa_cons (pv 3) (pa_cons (pv 1) pa_nil))))))))) (pss_one
  (ps_expr (pe_bm PySem.F.plainAttrs_list PySem.F.slot_list_append PySem.F.type_list_append mt_append (pv 2) (pa_cons (pv 3) pa_nil)))) pss_nil)))
  (pss_one
  (ps_ret (pv 2))))), ?_⟩
  obtain ⟨p, es, ev, rfl, hp, rfl, hev, q⟩ := h
  walk_at "st"
  refine ⟨Nat.zero_le _, fun fa hfa => ?_⟩
  have f0 : Fr T [] H (upd H fa (.lst [])) := Fr.new hfa
  have ha0 : (upd H fa (.lst [])) fa = some (.lst []) := upd_same
  generalize upd H fa (.lst []) = H1 at f0 ha0
  walk_at "st"
  refine q_I ?_
  refine ⟨_, rfl, by omega, by omega, ?_⟩
  have en : ((ev : Int) + 1).toNat = ev + 1 := by omega
  rw [en]
  refine for_R (fun i σ H' => ∃ x, σ = [some (.ref p), some (.int ev), some (.ref fa), x] ∧ Fr T [] H H' ∧ H' fa = some (.lst (((((List.range (ev + 1)).take i).filter fun N => keptN es N && !hasN es N ev).map fun (n : Nat) => (n : Int)).map V.int))) ⟨_, rfl, f0, ha0⟩ ?_ ?_
  · rintro i σ' H2 hi ⟨x, rfl, f2, h2⟩
    have hri : (List.range (ev + 1))[i]? = some i := by
      rw [List.getElem?_range]
      exact hi
    have hlen : ∀ n, ((((((List.range (ev + 1)).take n).filter fun N => keptN es N && !hasN es N ev).map fun (n : Nat) => (n : Int)).map V.int)).length ≤ 10001 := fun n => filt_len (by rw [List.length_range]; omega)
    have no : ∀ (H3 : Hp) (σ2 : St), (∃ x, σ2 = [some (.ref p), some (.int ev), some (.ref fa), x]) → Fr T [] H H3 → H3 fa = some (.lst (((((List.range (ev + 1)).take i).filter fun N => keptN es N && !hasN es N ev).map fun (n : Nat) => (n : Int)).map V.int)) → (keptN es i && !hasN es i ev) = false →
        ∃ x, σ2 = [some (.ref p), some (.int ev), some (.ref fa), x] ∧ Fr T [] H H3 ∧ H3 fa = some (.lst (((((List.range (ev + 1)).take (i + 1)).filter fun N => keptN es N && !hasN es N ev).map fun (n : Nat) => (n : Int)).map V.int)) := by
      rintro H3 σ2 ⟨x, rfl⟩ f3 h3 hf
      refine ⟨_, rfl, f3, ?_⟩
      rw [filt_neg hri hf]
      exact h3
    walk_at "st"
    refine ⟨_, _, rfl, p, es, i, rfl, hp.mono f2, rfl, fun H3 f3 => ⟨_, rfl, ?_⟩⟩
    refine ite2 (fun e1 => ?_) (fun e1 => ?_)
    · walk_at "st"
      refine ⟨_, _, _, rfl, p, es, i, ev, rfl, hp.mono (f2.trans f3), rfl, rfl, by omega, hev, fun H4 f4 => ⟨_, rfl, ?_⟩⟩
      have h4 := (f3.trans f4).lst0 h2
      have f04 := f2.trans (f3.trans f4)
      refine ite2 (fun e2 => ?_) (fun e2 => ?_)
      · walk_at "st"
        refine ⟨ty_lst h4, ?_⟩
        walk_at "st"
        refine q_app h4 (line_of (Nat.le_trans (hlen i) (by decide))) ?_
        refine ⟨_, rfl, f04.mut (Fresh.of hfa) h4, ?_⟩
        rw [upd_same, filt_pos hri (by rw [e1, e2]; rfl)]
      · walk_at "st"
        exact no _ _ ⟨_, rfl⟩ f04 h4 (by rw [Bool.eq_false_iff.mpr e2, Bool.and_false])
    · refine iteF ?_
      walk_at "st"
      exact no _ _ ⟨_, rfl⟩ (f2.trans f3) (f3.lst0 h2) (by rw [Bool.eq_false_iff.mpr e1, Bool.false_and])
  · rintro σ' H2 ⟨x, rfl, f2, h2⟩
    rw [List.take_of_length_le (Nat.le_of_eq List.length_range)] at h2
    dsimp only
    walk_at "st"
    exact q fa H2 (Fresh.of hfa) f2 h2
end
end Nc
set_option maxHeartbeats 4000000
/-! LG: the plan. -/
namespace Nc
open PySem PySem.Spec L2
def numsOf (cs : List Ctr) (p : Ctr → Bool) : List Int := ((List.range cs.length).filter fun i => (cs[i]?.map p).getD false).map fun (i : Nat) => (i : Int)
theorem nums_mem {cs : List Ctr} {p : Ctr → Bool} {n : Int} : n ∈ numsOf cs p ↔ 0 ≤ n ∧ ∃ c, cs[n.toNat]? = some c ∧ p c = true := by
  unfold numsOf
  rw [List.mem_map]
  constructor
  · rintro ⟨i, hi, rfl⟩
    obtain ⟨h1, h2⟩ := List.mem_filter.mp hi
    have hl := List.mem_range.mp h1
    rw [List.getElem?_eq_getElem hl] at h2
    exact ⟨by omega, cs[i], by simp [List.getElem?_eq_getElem hl], h2⟩
  · rintro ⟨h0, c, hc, hp⟩
    have hl := (List.getElem?_eq_some_iff.mp hc).1
    refine ⟨n.toNat, List.mem_filter.mpr ⟨List.mem_range.mpr hl, ?_⟩, by omega⟩
    rw [hc]
    exact hp
theorem nums_nodup {cs : List Ctr} {p : Ctr → Bool} : (numsOf cs p).Nodup := by
  unfold numsOf
  rw [List.nodup_iff_pairwise_ne, List.pairwise_map]
  exact (List.pairwise_lt_range.sublist List.filter_sublist).imp fun h => by omega
theorem nums_len {cs : List Ctr} {p : Ctr → Bool} (h : cs.length ≤ 12 := by assumption) : (numsOf cs p).length ≤ 100000 := by
  unfold numsOf
  rw [List.length_map]
  have := List.length_filter_le (fun i => (cs[i]?.map p).getD false) (List.range cs.length)
  rw [List.length_range] at this
  omega
theorem nums_12 {cs : List Ctr} {p : Ctr → Bool} (h : cs.length ≤ 12) {c : Int} (hc : c ∈ numsOf cs p) : 0 ≤ c ∧ c ≤ 12 := by
  obtain ⟨h0, d, hd, _⟩ := nums_mem.mp hc
  have := (List.getElem?_eq_some_iff.mp hd).1
  exact ⟨h0, by omega⟩
structure GoodW (wb : Web Str) : Prop where
  ok : OkW wb
  n6 : wb.cs.length ≤ 6
  rank : ∃ rk : Int → Nat, ∀ c ∈ wb.cs, rk c.1 < rk c.2.1
  good : ∀ (h : Nat) x, wb.hs[h]? = some x → Good (buysOf wb.cs h) (sellsOf wb.cs h) (progC (price wb.cs) x.2)
  agr : ∀ x ∈ wb.hs, ∀ off, lawC (price wb.cs) x.2 off = sortI (progC (price wb.cs) x.2 off)
theorem takes_eq {wb : Web Str} (g : GoodW wb) {h : Nat} {x : Str × Choice} (hx : wb.hs[h]? = some x) (off : Int → Bool) : takesL wb h off = sortI (progC (price wb.cs) x.2 off) := by
  rw [takesL_at (x := x) (by rw [Int.toNat_natCast]; exact hx), g.agr x (List.mem_of_getElem? hx)]
theorem takes_in {wb : Web Str} (g : GoodW wb) {h : Nat} {off : Int → Bool} {c : Int} (hc : c ∈ takesL wb h off) : off c = true ∧ (c ∈ buysOf wb.cs h ∨ c ∈ sellsOf wb.cs h) := by
  cases e : wb.hs[h]? with
  | none =>
    unfold takesL at hc
    rw [Int.toNat_natCast, e] at hc
    cases hc
  | some x =>
    rw [takes_eq g e, sortI_mem] at hc
    exact (g.good h x e).mem off c hc
theorem takes_nodup {wb : Web Str} (g : GoodW wb) {h : Nat} {off : Int → Bool} : (takesL wb h off).Nodup := by
  cases e : wb.hs[h]? with
  | none =>
    unfold takesL
    rw [Int.toNat_natCast, e]
    exact List.nodup_nil
  | some x =>
    rw [takes_eq g e, sortI_nodup]
    exact (g.good h x e).nd off
theorem idxs_lt {cs : List Ctr} {p : Ctr → Bool} {n : Int} (h : n ∈ idxs cs p) : 0 ≤ n ∧ n < cs.length := by
  obtain ⟨h0, c, hc, _⟩ := idxs_mem.mp h
  have := (List.getElem?_eq_some_iff.mp hc).1
  exact ⟨h0, by omega⟩
theorem takes_6 {wb : Web Str} (g : GoodW wb) {h : Nat} {off : Int → Bool} {c : Int} (hc : c ∈ takesL wb h off) : 0 ≤ c ∧ c < 6 := by
  have hn := g.n6
  rcases (takes_in g hc).2 with z | z
  · have := idxs_lt z
    omega
  · have := idxs_lt z
    omega
theorem rise_len : ∀ (l : List Int) (a b : Int), l.Pairwise (· < ·) → (∀ c ∈ l, a ≤ c ∧ c < b) → (l.length : Int) ≤ max 0 (b - a)
  | [], a, b, _, _ => by simp; omega
  | c :: l, a, b, hp, h => by
    obtain ⟨h1, h2⟩ := List.pairwise_cons.mp hp
    have hc := h c List.mem_cons_self
    have := rise_len l (c + 1) b h2 fun d hd => ⟨by have := h1 d hd; omega, (h d (List.mem_cons_of_mem _ hd)).2⟩
    rw [List.length_cons]
    omega
theorem takes_len {wb : Web Str} (g : GoodW wb) {h : Nat} {off : Int → Bool} : (takesL wb h off).length ≤ 6 := by
  have h1 := rise_len (sortI (takesL wb h off)) 0 6 ?_ ?_
  · rw [sortI_len] at h1
    omega
  · have a := sortI_sorted (takesL wb h off)
    have b := sortI_nodup.mpr (takes_nodup g (h := h) (off := off))
    refine List.pairwise_iff_getElem.mpr fun i j hi hj hij => ?_
    have := List.pairwise_iff_getElem.mp a i j hi hj hij
    have := List.pairwise_iff_getElem.mp b i j hi hj hij
    omega
  · intro c hc
    exact takes_6 g (sortI_mem.mp hc)
/-! ### the plan -/
def chM (wb : Web Str) (h : Nat) (m : Nat) : Nat := bitsN (takesL wb h fun c => decide (c ∈ setL m))
def entOf (wb : Web Str) (h : Nat) : Ent := ⟨bitsN (numsOf wb.cs fun c => decide (c.2.1 = (h : Int))), bitsN (numsOf wb.cs fun c => decide (c.1 = (h : Int))), chM wb h⟩
def planUp (wb : Web Str) (i : Nat) : List Ent := ((List.range i).map (entOf wb)).filter fun e => decide (0 < e.o)
theorem planUp_succ (wb : Web Str) (i : Nat) : planUp wb (i + 1) = planUp wb i ++ if 0 < (entOf wb i).o then [entOf wb i] else [] := by
  unfold planUp
  rw [List.range_succ, List.map_append, List.filter_append, List.map_cons, List.map_nil, List.filter_cons]
  by_cases h : 0 < (entOf wb i).o
  · rw [if_pos h, if_pos (decide_eq_true h)]
    rfl
  · rw [if_neg h, if_neg (by simpa using h)]
    rfl
theorem nums_bits_lt {cs : List Ctr} {p : Ctr → Bool} (h : cs.length ≤ 6) : bitsN (numsOf cs p) < 2 ^ 6 :=
  bits_lt nums_nodup (fun c hc => (nums_mem.mp hc).1) fun c hc => by
    obtain ⟨h0, d, hd, _⟩ := nums_mem.mp hc
    have := (List.getElem?_eq_some_iff.mp hd).1
    omega
theorem own_lt {wb : Web Str} (h6 : wb.cs.length ≤ 6) (h : Nat) : (entOf wb h).o < 2 ^ 6 := Nat.or_lt_two_pow (nums_bits_lt h6) (nums_bits_lt h6)
theorem subsL_sub {r : List Int} : ∀ (k : Nat) (ns : List Int), ns.length = k → r ∈ subsL ns → r.Sublist ns
  | 0, ns, h, hr => by
    rw [List.length_eq_zero_iff.mp h] at hr ⊢
    have : r = [] := by simpa [subsL] using hr
    rw [this]
    exact List.Sublist.refl _
  | k + 1, ns, h, hr => by
    obtain ⟨c, hc⟩ : ∃ c, ns[k]? = some c := ⟨_, List.getElem?_eq_getElem (by omega)⟩
    have e : ns = ns.take k ++ [c] := by
      rw [← take_snoc hc, List.take_of_length_le (by omega)]
    have hl : (ns.take k).length = k := by rw [List.length_take]; omega
    rw [e, subsL_snoc] at hr
    rw [e]
    rcases List.mem_append.mp hr with hr | hr
    · exact (subsL_sub k _ hl hr).trans (List.sublist_append_left _ _)
    · obtain ⟨q, hq, rfl⟩ := List.mem_map.mp hr
      exact (subsL_sub k _ hl hq).append (List.Sublist.refl _)
theorem subsL_filter (p : Int → Bool) : ∀ (k : Nat) (ns : List Int), ns.length = k → ns.filter p ∈ subsL ns
  | 0, ns, h => by
    rw [List.length_eq_zero_iff.mp h]
    simp [subsL]
  | k + 1, ns, h => by
    obtain ⟨c, hc⟩ : ∃ c, ns[k]? = some c := ⟨_, List.getElem?_eq_getElem (by omega)⟩
    have e : ns = ns.take k ++ [c] := by
      rw [← take_snoc hc, List.take_of_length_le (by omega)]
    have hl : (ns.take k).length = k := by rw [List.length_take]; omega
    have ih := subsL_filter p k _ hl
    rw [e, subsL_snoc, List.filter_append]
    by_cases hp : p c = true
    · have e2 : [c].filter p = [c] := by simp [hp]
      rw [e2]
      exact List.mem_append_right _ (List.mem_map.mpr ⟨_, ih, rfl⟩)
    · have e2 : [c].filter p = [] := by simp [hp]
      rw [e2, List.append_nil]
      exact List.mem_append_left _ ih
theorem setL_len {m : Nat} (hm : m < 2 ^ 6) : (setL m).length ≤ 6 := by
  have h1 := rise_len (setL m) 0 6 (setL_sorted m) fun c hc => by
    obtain ⟨h0, _, h2⟩ := setL_mem.mp hc
    refine ⟨h0, ?_⟩
    rcases Int.lt_or_le c 6 with z | z
    · exact z
    · have := Nat.testBit_lt_two_pow (Nat.lt_of_lt_of_le hm (Nat.pow_le_pow_right (by decide) (show 6 ≤ c.toNat by omega)))
      rw [this] at h2
      cases h2
  omega
/-- a mask within another is made of one of its rows -/
theorem mask_row {m o : Nat} (ho : o < 2 ^ 6) (hm : m &&& o = m) : ∃ r ∈ subsL (setL o), bitsN r = m := by
  refine ⟨(setL o).filter fun c => m.testBit c.toNat, subsL_filter _ _ _ rfl, ?_⟩
  have hle : m ≤ o := by rw [← hm]; exact Nat.and_le_right
  have hmb : ∀ k, m.testBit k = true → o.testBit k = true := fun k hk => by
    rw [← hm, Nat.testBit_and, Bool.and_eq_true] at hk
    exact hk.2
  have e : ((setL o).filter fun c => m.testBit c.toNat) = setL m := by
    refine eq_setL ((setL_sorted o).sublist List.filter_sublist) fun c => ?_
    rw [List.mem_filter, setL_mem, setL_mem]
    constructor
    · rintro ⟨⟨h0, h1, _⟩, h3⟩
      exact ⟨h0, h1, h3⟩
    · rintro ⟨h0, h1, h3⟩
      exact ⟨⟨h0, h1, hmb _ h3⟩, h3⟩
  rw [e]
  exact bits_setL (Nat.lt_of_le_of_lt hle (Nat.lt_of_lt_of_le ho (by decide)))
section
variable {T : List (Addr × Str)} {M : List Addr} {K : PySem.W.Frag} {H H1 : Hp} {σ : St} {D : Ends} {tb : TS} {g : TG} {es : List Ent} {p : Addr}
theorem Fr.dkM {l : List (Key × V)} (f : Fr T M H H1) (h : H p = some (.dK l)) : H1 p = some (.dK l) := f.keep p _ (fun hm => by
  obtain ⟨l', e⟩ := f.m0 p hm
  rw [h] at e
  cases e) h (fun ps z => by cases z)
theorem EntOk.monoM {v : V} {e : Ent} (f : Fr T M H H1) (h : EntOk K H v e) : EntOk K H1 v e := by
  obtain ⟨t, d, kvs, rfl, h1, h2, h3⟩ := h
  exact ⟨t, d, kvs, rfl, f.sqT h1, f.dkM h2, h3⟩
mutual
theorem Td.monoS (hs : ∀ a xs, SqT K H a xs → SqT K H1 a xs) : ∀ {d : PyData} {v : V}, Td K H v d → Td K H1 v d
  | .none, _, h => by cases h; exact .non
  | .bool _, _, h => by cases h; exact .bl _
  | .int _, _, h => by cases h; exact .int _
  | .str _, _, h => by cases h; exact .str _
  | .list _, _, h => by cases h
  | .tuple ds, _, h => by
    cases h with
    | tup h1 h2 => exact .tup (hs _ _ h1) (TdAll.monoS hs h2)
  | .dict _, _, h => by cases h
theorem TdAll.monoS (hs : ∀ a xs, SqT K H a xs → SqT K H1 a xs) : ∀ {ds : List PyData} {vs : List V}, TdAll K H vs ds → TdAll K H1 vs ds
  | [], _, h => by cases h; exact .nil
  | d :: ds, _, h => by
    cases h with
    | cons h1 h2 => exact .cons (Td.monoS hs h1) (TdAll.monoS hs h2)
end
theorem sqT_updD {d : Addr} {l l' : List (Key × V)} (hd : H d = some (.dK l)) (a : Addr) (xs : List V) (h : SqT K H a xs) : SqT K (upd H d (.dK l')) a xs := by
  rcases h with (h | ⟨ob, h⟩) | h
  · exact Or.inl (Or.inl (by rw [upd_ne (fun z => by rw [z, hd] at h; cases h)]; exact h))
  · exact Or.inl (Or.inr ⟨ob, by rw [upd_ne (fun z => by rw [z, hd] at h; cases h)]; exact h⟩)
  · exact Or.inr h
/-- over a list of data that is told to stand at each turn -/
theorem for_LK {α : Type} (as : List α) (e : α → PyData) {a : Addr} {xs : List V} (hx : xs.length = as.length) (Pv : Nat → St → Hp → Prop) (h0 : Pv 0 σ H1) (h1 : ∃ xs, SqL K H1 a xs) (hF : ∀ i σ H', Pv i σ H' → H' a = some (.lst xs) ∧ TdAll K H' xs (as.map e))
    (hs : ∀ (i : Nat) (a : α) (u : V) (σ' : St) (H' : Hp), as[i]? = some a → Pv i σ' H' → Td K H' u (e a) → g u σ' H' fun σ2 H2 => tb { D with nx := Pv (i + 1), ct := Pv (i + 1), bk := D.nx } σ2 H2)
    (hd : ∀ σ' H', Pv as.length σ' H' → D.nx σ' H') : ∃ a', V.ref a = .ref a' ∧ (∃ xs, SqL K H1 a' xs) ∧ ForQ (Itl K a') g tb D σ H1 := by
  refine ⟨a, rfl, h1, for_it (walk_list (K := K) (a := a) (xs := xs)) Pv h0 (fun i σ' H' _ p => SqL.of (hF i σ' H' p).1) ?_ (fun σ' H' p => hd σ' H' (hx ▸ p))⟩
  rintro i x σ' Ha Hb hi p ⟨rfl, hx'⟩
  have hb : as[i]? = some as[i] := List.getElem?_eq_getElem (hx ▸ hi)
  obtain ⟨u, hu, tu⟩ := (hF i σ' Hb p).2.get (i := i) (d := e as[i]) (by rw [List.getElem?_map, hb]; rfl)
  rw [hx'] at hu
  cases hu
  exact hs i _ x σ' Hb hb p tu
end
local macro_rules | `(tactic| walk_at "st") => `(tactic| (repeat (first
  | ((with_reducible refine' r_var ?e ?_); (case e => exact rfl))
  | (with_reducible refine' r_op ?_)
  | (with_reducible refine' r_c ?_)
  | (with_reducible refine' r_cons ?_)
  | (with_reducible refine' r_nil ?_)
  | (with_reducible refine' r_cb ?_)
  | (with_reducible refine' r_call ?_)
  | (with_reducible refine' r_test ?_)
  | (with_reducible refine' r_lc ?_)
  | (with_reducible refine' r_lc2 ?_)
  | (with_reducible refine' r_sk ?_)
  | (with_reducible refine' r_iZ ?_)
  | (with_reducible refine' r_dg ?_)
  | (with_reducible refine' r_dpS ?_)
  | (with_reducible refine' r_dp1 ?_)
  | (with_reducible refine' r_dn ?_)
  | (with_reducible refine' r_iT ?_)
  | (with_reducible refine' r_iL ?_)
  | (with_reducible refine' r_iE ?_)
  | (with_reducible refine' r_iR ?_)
  | (with_reducible refine' r_ret ?_)
  | (with_reducible refine' r_asgS ?_)
  | (with_reducible refine' r_asg1 ?_)
  | (with_reducible refine' r_asgTS ?_)
  | (with_reducible refine' r_ifS ?_)
  | (with_reducible refine' r_if1 ?_)
  | (with_reducible refine' r_forS ?_)
  | (with_reducible refine' r_for1 ?_)
  | (with_reducible refine' r_dropS ?_)
  | (with_reducible refine' r_drop1 ?_)
  | (with_reducible refine' r_tup ?_)
  | (with_reducible refine' r_lst ?_)
  | (with_reducible refine' r_sl ?_)
  | (with_reducible refine' r_noP ?_)
  | (with_reducible refine' r_part ?_)
  | (with_reducible refine' r_bm ?_)
  | (with_reducible refine' r_bm0 ?_)
  | (with_reducible refine' r_un ?_)
  | (with_reducible refine' r_notV ?_)
  | (with_reducible refine' r_B ?_)
  | (with_reducible refine' r_and ?_)
  | (with_reducible refine' r_or ?_)
  | (with_reducible refine' r_not ?_)
  | (with_reducible refine' r_yes ?_)
  | (with_reducible refine' r_next ?_)
  | (with_reducible refine' r_break ?_)
  | (with_reducible refine' r_gn ?_)
  | (with_reducible refine' r_tupRg ?_)
  | (with_reducible refine' r_rg1 ?_)
  )))
local macro_rules | `(tactic| walk_at "no") => `(tactic| (refine q_eqS ⟨_, rfl, ite2 (fun e => absurd (of_decide_eq_true e) (by decide +kernel)) (fun _ => ?_)⟩; walk_at "st"; try dsimp only))
local macro_rules | `(tactic| walk_at "yes") => `(tactic| (refine q_eqS ⟨_, rfl, ite2 (fun _ => ?_) (fun e => absurd (decide_eq_true rfl) e)⟩; walk_at "st"))
section
variable {P : Program} {w : World} {K : PySem.W.Frag} {mg : Str → Option Value} {base : Heap}
variable {T : List (Addr × Str)}
def sp_law_plan (K : PySem.W.Frag) (T : List (Addr × Str)) : Sp := Sp1 fun a H Q => ∃ wb : Web Str, GoodW wb ∧ Td K H a (eW wb) ∧ ∀ p H', Fresh H p → Fr T [] H H' → PlanAt K H' p (planUp wb wb.hs.length) → Q (.ref p) H'
/-! ### _law_plan -/
abbrev s_law_plan : Stmt := topS 50
abbrev N_law_plan : List Str := ["_law_web_here", "_law_plan_here", "_law_house", "_law_buys", "_law_sells", "_law_chosen", "_law_offered", "_law_number"]
theorem sc_law_plan : FnScope N_law_plan ["_law_web_here"] (defScope s_law_plan) := ⟨rfl, rfl, rfl, by decide +kernel, rfl, by decide +kernel, by decide +kernel⟩
theorem d_law_plan (B : B0 mg) (A0 : At K mg "_law_plan" s_law_plan) (D_law_bits : Dn P w K mg base "_law_bits" ["_law_contracts"] 2 (sp_law_bits K T)) (D_law_subsets : Dn P w K mg base "_law_subsets" ["_law_contracts"] 1 (sp_law_subsets K T)) (D_law_set : Dn P w K mg base "_law_set" ["_law_mask"] 2 (sp_law_set K T)) (D_law_takes : Dn P w K mg base "_law_takes" ["_law_web_here", "_law_house", "_law_offered"] 5 (sp_law_takes K T)) : Dn P w K mg base "_law_plan" ["_law_web_here"] 6 (sp_law_plan K T) := by
  obtain ⟨f_law_bits, fd_law_bits, G_law_bits, g_law_bits, k_law_bits, b_law_bits⟩ := D_law_bits
  obtain ⟨f_law_subsets, fd_law_subsets, G_law_subsets, g_law_subsets, k_law_subsets, b_law_subsets⟩ := D_law_subsets
  obtain ⟨f_law_set, fd_law_set, G_law_set, g_law_set, k_law_set, b_law_set⟩ := D_law_set
  obtain ⟨f_law_takes, fd_law_takes, G_law_takes, g_law_takes, k_law_takes, b_law_takes⟩ := D_law_takes
  refine dn1 A0 sc_law_plan (fun _ _ F => F.bindsN fun _ _ _ _ _ _ us hl => match us, hl with | [_], _ => rfl) fun f cdv A outer s H a0 Q E hr h => ?_
  have hu := hr.units
  have hu5 := units5 hr
  have hu1 := units1 hr
  have nd := sc_law_plan.nd
  refine ⟨_, (pss_cons
  (ps_set (i := 1) nd rfl (by first | exact Or.inl rfl | exact Or.inr rfl) (pe_lst pa_nil))
  (pss_cons
  (ps_for PassesOwn.never rfl (pi_range1 (by rfl) B.range (pa_cons (pe_callB (kLen (K := K) rfl) (by rfl) B.len PySem.boot_len (pa_cons (pe_ix (kIxT (K := K) rfl) (pv 0) pe_int (fun _ _ => rfl)) pa_nil)) pa_nil)) (pg_name (i := 2) nd rfl (by first | exact Or.inl rfl | exact Or.inr rfl)) (pss_cons
  (ps_set (i := 3) nd rfl (by first | exact Or.inl rfl | exact Or.inr rfl) (pe_call G_law_bits (hr.mono (by decide)) (by rfl) g_law_bits k_law_bits b_law_bits .nil pass0 (pa_cons (pe_lc (own := [("_law_number", 7)]) (g := (gName 7)) (by rfl) nd (pi_range1 (by rfl) B.range (pa_cons (pe_callB (kLen (K := K) rfl) (by rfl) B.len PySem.boot_len (pa_cons (pe_ix (kIxT (K := K) rfl) (pv 0) pe_int (fun _ _ => rfl)) pa_nil)) pa_nil)) (blkOk_by (own := [("_law_number", 7)]) (N := N_law_plan) (sc := defScope s_law_plan) (by decide +kernel)) (fun _ _ _ _ _ => (pg_name (i := 7) nd rfl (by first | exact Or.inl rfl | exact Or.inr rfl))) (fun _ _ _ _ _ => (pts_one (pt_cmpR op_eq (pe_ix (kIxT (K := K) rfl) (pe_ix (kIxT (K := K) rfl) (pe_ix (kIxT (K := K) rfl) (pv 0) pe_int (fun _ _ => rfl)) (pv 7) (fun _ _ => rfl)) pe_int (fun _ _ => rfl)) (pv 2) (by rfl)))) (fun _ _ _ _ _ => (pv 7))) pa_nil)))
  (pss_cons
  (ps_set (i := 4) nd rfl (by first | exact Or.inl rfl | exact Or.inr rfl) (pe_call G_law_bits (hr.mono (by decide)) (by rfl) g_law_bits k_law_bits b_law_bits .nil pass0 (pa_cons (pe_lc (own := [("_law_number", 7)]) (g := (gName 7)) (by rfl) nd (pi_range1 (by rfl) B.range (pa_cons (pe_callB (kLen (K := K) rfl) (by rfl) B.len PySem.boot_len (pa_cons (pe_ix (kIxT (K := K) rfl) (pv 0) pe_int (fun _ _ => rfl)) pa_nil)) pa_nil)) (blkOk_by (own := [("_law_number", 7)]) (N := N_law_plan) (sc := defScope s_law_plan) (by decide +kernel)) (fun _ _ _ _ _ => (pg_name (i := 7) nd rfl (by first | exact Or.inl rfl | exact Or.inr rfl))) (fun _ _ _ _ _ => (pts_one (pt_cmpR op_eq (pe_ix (kIxT (K := K) rfl) (pe_ix (kIxT (K := K) rfl) (pe_ix (kIxT (K := K) rfl) (pv 0) pe_int (fun _ _ => rfl)) (pv 7) (fun _ _ => rfl)) pe_int (fun _ _ => rfl)) (pv 2) (by rfl)))) (fun _ _ _ _ _ => (pv 7))) pa_nil)))
  (pss_cons
  (ps_set (i := 5) nd rfl (by first | exact Or.inl rfl | exact Or.inr rfl) pe_dnewK)
  (pss_cons
  (ps_for PassesOwn.never rfl (kpList (K := K) rfl (pe_call G_law_subsets (hr.mono (by decide)) (by rfl) g_law_subsets k_law_subsets b_law_subsets .nil pass0 (pa_cons (pe_call G_law_set (hr.mono (by decide)) (by rfl) g_law_set k_law_set b_law_set .nil pass0 (pa_cons (pe_op op_or (pv 3) (pv 4)) pa_nil)) pa_nil))) (pg_name (i := 6) nd rfl (by first | exact Or.inl rfl | exact Or.inr rfl)) (pss_one
  (ps_dput hu1 (pv 5) (pe_call G_law_bits (hr.mono (by decide)) (by rfl) g_law_bits k_law_bits b_law_bits .nil pass0 (pa_cons (pv 6) pa_nil)) (pe_call G_law_bits (hr.mono (by decide)) (by rfl) g_law_bits k_law_bits b_law_bits .nil pass0 (pa_cons (pe_call G_law_takes (hr.mono (by decide)) (by rfl) g_law_takes k_law_takes b_law_takes .nil pass0 (pa_cons (pv 0) (pa_cons (pv 2) (pa_cons (pv 6) pa_nil)))) pa_nil)) (by rfl))))
  (pss_one
  (ps_if (pt_cmpR op_gt (pe_op op_or (pv 3) (pv 4)) pe_int (by rfl)) (pss_one
  (ps_expr (pe_bm PySem.F.plainAttrs_list PySem.F.slot_list_append PySem.F.type_list_append mt_append (pv 1) (pa_cons (pe_tup (pa_cons (pv 3) (pa_cons (pv 4) (pa_cons (pv 5) pa_nil)))) pa_nil)))) pss_nil)))))))
  (pss_one
  (ps_ret (pv 1))))), ?_⟩
  obtain ⟨wb, gw, tw, q⟩ := h
  have ok := gw.ok
  have hnc := ok.nc
  have hnh := ok.nh
  walk_at "st"
  refine ⟨Nat.zero_le _, fun fa hfa => ?_⟩
  have f0 : Fr T [] H (upd H fa (.lst [])) := Fr.new hfa
  have p0 : PlanAt K (upd H fa (.lst [])) fa (planUp wb 0) := ⟨[], upd_same, rfl, fun i v e h => by simp at h⟩
  generalize upd H fa (.lst []) = H1 at f0 p0
  walk_at "st"
  refine q_ixT (tw.mono f0) (d := .tuple (wb.hs.map eH)) rfl fun u0 th => ?_
  walk_at "st"
  refine q_lenT th ?_
  rw [List.length_map]
  walk_at "st"
  refine ⟨_, rfl, by omega, by omega, ?_⟩
  rw [Int.toNat_natCast]
  refine for_R (fun i σ H' => ∃ x2 x3 x4 x5 x6 x7, σ = [some a0, some (.ref fa), x2, x3, x4, x5, x6, x7] ∧ Fr T [] H H' ∧ PlanAt K H' fa (planUp wb i)) ⟨_, _, _, _, _, _, rfl, f0, p0⟩ ?_ ?_
  rotate_left
  · rintro σ' H2 ⟨x2, x3, x4, x5, x6, x7, rfl, f2, p2⟩
    dsimp only
    walk_at "st"
    exact q fa H2 (Fresh.of hfa) f2 p2
  rintro h σ' H2 hh ⟨x2, x3, x4, x5, x6, x7, rfl, f2, p2⟩
  walk_at "st"
  refine q_ixT (tw.mono f2) (d := .tuple (wb.cs.map eC)) rfl fun u0 t0 => ?_
  walk_at "st"
  refine q_lenT t0 ?_
  rw [List.length_map]
  walk_at "st"
  refine ⟨_, rfl, by omega, by omega, ?_⟩
  rw [Int.toNat_natCast]
  refine lc_R (T := T) (K := K) (n := wb.cs.length) (line_of (by omega)) (fun i => (wb.cs[i]?.map fun c => decide (c.2.1 = (h : Int))).getD false) (fun i => .int (i : Int)) (fun _ => rfl) ?_ ?_
  · intro n H9 hn f9 R1 R2 r1 r2
    have hcn := List.getElem?_eq_getElem hn
    rw [hcn] at r1 r2
    walk_at "st"
    refine q_ixT ((tw.mono f2).mono f9) (d := .tuple (wb.cs.map eC)) rfl fun u1 t1 => ?_
    walk_at "st"
    refine q_ixT t1 (at_nat (by rw [List.getElem?_map, hcn]; rfl)) fun u2 t2 => ?_
    walk_at "st"
    refine q_ixT t2 (d := .int (wb.cs[n]).2.1) rfl fun u3 t3 => ?_
    obtain rfl := t3.int_inv
    walk_at "st"
    refine q_eqI ⟨_, rfl, ite2 (fun e => ?_) (fun e => ?_)⟩
    · walk_at "st"
      exact r1 e _ _ (Fr.refl _) (.int _)
    · exact r2 (Bool.eq_false_iff.mpr e) _ (Fr.refl _)
  intro D3 H3 xs3 hD3 f3 hx3 tx3
  have etx3 : (((List.range wb.cs.length).filter fun i => (wb.cs[i]?.map fun c => decide (c.2.1 = (h : Int))).getD false).map fun (i : Nat) => PyData.int (i : Int)) = (numsOf wb.cs fun c => decide (c.2.1 = (h : Int))).map PyData.int := by
    unfold numsOf
    rw [List.map_map]
    rfl
  rw [etx3] at tx3
  rw [tx3.ints] at hx3
  walk_at "st"
  refine ⟨_, rfl, _, SqI.of_l hx3, nums_len, fun c hc => nums_12 ok.nc hc, fun H4 f4 => ?_⟩
  have f24 := (f2.trans f3).trans f4
  walk_at "st"
  refine q_ixT (tw.mono f24) (d := .tuple (wb.cs.map eC)) rfl fun u0 t0 => ?_
  walk_at "st"
  refine q_lenT t0 ?_
  rw [List.length_map]
  walk_at "st"
  refine ⟨_, rfl, by omega, by omega, ?_⟩
  rw [Int.toNat_natCast]
  refine lc_R (T := T) (K := K) (n := wb.cs.length) (line_of (by omega)) (fun i => (wb.cs[i]?.map fun c => decide (c.1 = (h : Int))).getD false) (fun i => .int (i : Int)) (fun _ => rfl) ?_ ?_
  · intro n H9 hn f9 R1 R2 r1 r2
    have hcn := List.getElem?_eq_getElem hn
    rw [hcn] at r1 r2
    walk_at "st"
    refine q_ixT ((tw.mono f24).mono f9) (d := .tuple (wb.cs.map eC)) rfl fun u1 t1 => ?_
    walk_at "st"
    refine q_ixT t1 (at_nat (by rw [List.getElem?_map, hcn]; rfl)) fun u2 t2 => ?_
    walk_at "st"
    refine q_ixT t2 (d := .int (wb.cs[n]).1) rfl fun u3 t3 => ?_
    obtain rfl := t3.int_inv
    walk_at "st"
    refine q_eqI ⟨_, rfl, ite2 (fun e => ?_) (fun e => ?_)⟩
    · walk_at "st"
      exact r1 e _ _ (Fr.refl _) (.int _)
    · exact r2 (Bool.eq_false_iff.mpr e) _ (Fr.refl _)
  intro D5 H5 xs5 hD5 f5 hx5 tx5
  have etx5 : (((List.range wb.cs.length).filter fun i => (wb.cs[i]?.map fun c => decide (c.1 = (h : Int))).getD false).map fun (i : Nat) => PyData.int (i : Int)) = (numsOf wb.cs fun c => decide (c.1 = (h : Int))).map PyData.int := by
    unfold numsOf
    rw [List.map_map]
    rfl
  rw [etx5] at tx5
  rw [tx5.ints] at hx5
  walk_at "st"
  refine ⟨_, rfl, _, SqI.of_l hx5, nums_len, fun c hc => nums_12 ok.nc hc, fun H6 f6 => ?_⟩
  have f26 := (f24.trans f5).trans f6
  have p6 := (((p2.mono (f3.trans f4)).mono f5).mono f6)
  have eo : (bitsN (numsOf wb.cs fun c => decide (c.2.1 = (h : Int))) ||| bitsN (numsOf wb.cs fun c => decide (c.1 = (h : Int)))) = (entOf wb h).o := rfl
  generalize hb : bitsN (numsOf wb.cs fun c => decide (c.2.1 = (h : Int))) = bm at eo
  generalize hs : bitsN (numsOf wb.cs fun c => decide (c.1 = (h : Int))) = sm at eo
  have ho6 := own_lt gw.n6 h
  walk_at "st"
  intro d hd
  have f7 : Fr T [] H6 (upd H6 d (.dK [])) := Fr.new hd
  have hd7 : (upd H6 d (.dK [])) d = some (.dK []) := upd_same
  generalize upd H6 d (.dK []) = H7 at f7 hd7
  walk_at "st"
  refine q_I ?_
  rw [bor_nat, eo]
  generalize ho : (entOf wb h).o = o at ho6 eo
  walk_at "st"
  refine ⟨_, rfl, o, rfl, fun v8 H8 f8 t8 => ?_⟩
  walk_at "st"
  refine ⟨_, rfl, setL o, SqI.of_t t8, Nat.le_trans (setL_len ho6) (by decide), fun p9 H9 xs9 rows hp9 f9 hx9 tx9 pm => ?_⟩
  have f79 := f8.trans f9
  have rl : rows.length ≤ 64 := by
    rw [pm.length_eq, subsL_len _ _ rfl]
    exact Nat.pow_le_pow_right (by decide) (setL_len ho6)
  have rsub : ∀ r ∈ rows, r.Sublist (setL o) := fun r hr => subsL_sub _ _ rfl (pm.mem_iff.mp hr)
  have xl : xs9.length = rows.length := by rw [tx9.length, List.length_map]
  have n9d : p9 ≠ d := fun z => by
    subst z
    obtain ⟨ps, e⟩ := hp9 _ (f8.dk hd7)
    cases e
  refine for_LK (K := K) rows tI xl (fun i σ H' => ∃ x6 kvs, σ = [some a0, some (.ref fa), some (.int (h : Int)), some (.int bm), some (.int sm), some (.ref d), x6, x7] ∧ Fr T [] H6 H' ∧ H' p9 = some (.lst xs9) ∧ TdAll K H' xs9 (rows.map tI) ∧ H' d = some (.dK kvs) ∧ kvs.length ≤ i ∧
      (∀ k v, valV kvs k = some v → ∃ m : Nat, k = .inl (m : Int) ∧ v = .int (chM wb h m : Int)) ∧ ∀ r ∈ rows.take i, (valV kvs (.inl (bitsN r : Int))).isSome = true)
    ⟨_, [], rfl, f7.trans f79, hx9, tx9, f79.dk hd7, Nat.le_refl _, (fun k v e => by rw [valV_nil] at e; cases e), (fun r hr => by simp at hr)⟩ ⟨_, SqL.of hx9⟩ (fun i σ H' p => by obtain ⟨_, _, _, _, a, b, _⟩ := p; exact ⟨a, b⟩) ?_ ?_
  · rintro i r u σ' Ha hi ⟨x6, kvs, rfl, fa', ha9, ta9, had, hkl, hkv, hks⟩ tu
    have hr := List.mem_of_getElem? hi
    have hrs := rsub r hr
    have r12 : ∀ c ∈ r, 0 ≤ c ∧ c < 12 := fun c hc => by
      obtain ⟨a, b, _⟩ := setL_mem.mp (hrs.mem hc)
      exact ⟨a, b⟩
    have rnd : r.Nodup := (setL_nodup o).sublist hrs
    have rlen : r.length ≤ 6 := Nat.le_trans hrs.length_le (setL_len ho6)
    have hil : i < rows.length := (List.getElem?_eq_some_iff.mp hi).1
    walk_at "st"
    refine ⟨_, _, _, rfl, wb, (h : Int), r, ok, (tw.mono f26).mono fa', rfl, ⟨by omega, by omega⟩, tu, fun vb Hb fb tb => ?_⟩
    walk_at "st"
    refine ⟨_, rfl, _, SqI.of_t tb, Nat.le_trans (takes_len gw) (by decide), fun c hc => by have := takes_6 gw hc; omega, fun Hc fc => ?_⟩
    walk_at "st"
    refine ⟨_, rfl, r, SqI.of_t (tu.mono (fb.trans fc)), by omega, fun c hc => by have := r12 c hc; omega, fun Hd fd => ?_⟩
    have fbd := (fb.trans fc).trans fd
    have had' := fbd.dk had
    have e1 : bitsN (takesL wb h fun c => decide (c ∈ r)) = chM wb h (bitsN r) := by
      unfold chM
      congr 2
      funext c
      exact decide_eq_decide.mpr (setL_bits rnd r12 c).symm
    rw [e1]
    refine ⟨d, _, rfl, DPut.k (k := .inl (bitsN r : Int)) had' (Nat.lt_of_le_of_lt hkl (line_of (by omega))), ?_⟩
    refine ⟨_, _, rfl, (fa'.trans fbd).mutD (Fresh.of hd) had', ?_, ?_, upd_same, ?_, ?_, ?_⟩
    · rw [upd_ne n9d]
      exact fbd.lst0 ha9
    · exact (ta9.mono fbd).monoS (sqT_updD had')
    · unfold putK
      split
      · rw [List.length_map]
        omega
      · rw [List.length_append]
        simp only [List.length_cons, List.length_nil]
        omega
    · intro k v hv
      rw [valV_put] at hv
      split at hv
      · rename_i ek
        cases hv
        exact ⟨_, ek, rfl⟩
      · exact hkv k v hv
    · intro r' hr'
      rw [valV_put]
      split
      · rfl
      · rename_i ne
        rw [take_snoc hi] at hr'
        rcases List.mem_append.mp hr' with z | z
        · exact hks r' z
        · simp at z
          subst z
          exact absurd rfl ne
  rintro σ' Ha ⟨x6, kvs, rfl, fa', ha9, ta9, had, hkl, hkv, hks⟩
  rw [List.take_of_length_le (Nat.le_refl _)] at hks
  dsimp only
  walk_at "st"
  refine q_I ?_
  rw [bor_nat, eo]
  walk_at "st"
  refine q_I ⟨_, rfl, ?_⟩
  have e0 : decide ((0 : Int) < (o : Int)) = decide (0 < o) := decide_eq_decide.mpr ⟨fun z => by omega, fun z => by omega⟩
  rw [e0]
  have f2a := f26.trans fa'
  have pa := p6.mono fa'
  have hent : ∀ m : Nat, m &&& (entOf wb h).o = m → valV kvs (.inl (m : Int)) = some (.int ((entOf wb h).f m : Int)) := by
    intro m hm
    rw [ho] at hm
    obtain ⟨r, hr, er⟩ := mask_row ho6 hm
    have hs1 := hks r (pm.mem_iff.mpr hr)
    rw [er] at hs1
    obtain ⟨v, hv⟩ := Option.isSome_iff_exists.mp hs1
    obtain ⟨m', e1, e2⟩ := hkv _ _ hv
    have e3 : (m : Int) = (m' : Int) := Sum.inl.inj e1
    have e4 : m = m' := by omega
    rw [hv, e2, ← e4]
    rfl
  refine ite2 (fun e => ?_) (fun e => ?_)
  · walk_at "st"
    obtain ⟨vs, hvs, hvl, hve⟩ := pa
    have hpl : (planUp wb h).length ≤ 100 := by
      unfold planUp
      refine Nat.le_trans (List.length_filter_le _ _) ?_
      rw [List.length_map, List.length_range]
      omega
    refine ⟨ty_lst hvs, ?_⟩
    walk_at "st"
    refine ⟨Nat.le_of_lt (line_of (show (3 : Nat) ≤ 100000 by decide)), fun t ht => ?_⟩
    have ft : Fr T [] Ha (upd Ha t (.tup [.int bm, .int sm, .ref d])) := Fr.new ht
    have st : SqT K (upd Ha t (.tup [.int bm, .int sm, .ref d])) t [.int bm, .int sm, .ref d] := SqT.of upd_same
    generalize upd Ha t (.tup [.int bm, .int sm, .ref d]) = Ht at ft st
    have hvt := ft.lst0 hvs
    walk_at "st"
    refine q_app hvt (line_of (by omega)) ?_
    have fs : Fr T [fa] Ht (upd Ht fa (.lst (vs ++ [.ref t]))) := Fr.set (fun p hp => by simp at hp; subst hp; exact ⟨_, hvt⟩) (by simp)
    refine ⟨_, _, _, _, _, _, rfl, (f2a.trans ft).mut (Fresh.of hfa) hvt, vs ++ [.ref t], upd_same, ?_, ?_⟩
    · rw [planUp_succ, ho, if_pos (of_decide_eq_true e), List.length_append, List.length_append, hvl]
      rfl
    · intro i v en hv hen
      rw [planUp_succ, ho, if_pos (of_decide_eq_true e)] at hen
      by_cases hi : i < vs.length
      · rw [List.getElem?_append_left hi] at hv
        rw [List.getElem?_append_left (by omega)] at hen
        exact ((hve i v en hv hen).mono ft).monoM fs
      · rw [List.getElem?_append_right (by omega)] at hv
        rw [List.getElem?_append_right (by omega)] at hen
        have hi2 : i - vs.length = 0 := by
          have := (List.getElem?_eq_some_iff.mp hv).1
          simp at this
          omega
        have hi3 : i - (planUp wb h).length = 0 := by omega
        rw [hi2] at hv
        rw [hi3] at hen
        simp at hv hen
        subst hv
        subst hen
        refine ⟨t, d, kvs, rfl, fs.sqT ?_, fs.dkM (ft.dk had), hent⟩
        have eb : (entOf wb h).b = bm := hb
        have es : (entOf wb h).s = sm := hs
        rw [eb, es]
        exact st
  · walk_at "st"
    refine ⟨_, _, _, _, _, _, rfl, f2a, ?_⟩
    rw [planUp_succ, ho, if_neg (by simpa using e), List.append_nil]
    exact pa
end
end Nc
set_option maxHeartbeats 4000000
/-! X11: l[lo:hi:step] of a list. -/
namespace Nc
open PySem PySem.Spec PyProof.Rows L2
def ixs (n : Nat) (lo hi st : Option Int) : List Nat := sliceRange (sliceBounds lo hi st n).1 (sliceBounds lo hi st n).2.1 (sliceBounds lo hi st n).2.2
def cut3 {α : Type} (xs : List α) (lo hi st : Option Int) : List α := (ixs xs.length lo hi st).filterMap (xs[·]?)
theorem cut3_map {α β : Type} (f : α → β) (xs : List α) (lo hi st : Option Int) : cut3 (xs.map f) lo hi st = (cut3 xs lo hi st).map f := by
  unfold cut3
  rw [List.length_map, List.map_filterMap]
  congr 1
  funext i
  rw [List.getElem?_map]
theorem pick_vals {xs : List V} {its : List Value} (r : Vals xs its) (l : List Nat) : Vals (l.filterMap (xs[·]?)) (l.filterMap (its[·]?)) := by
  induction l with
  | nil => exact .nil
  | cons i l ih =>
    rw [List.filterMap_cons, List.filterMap_cons]
    cases e : xs[i]? with
    | none =>
      have hl := r.length
      have : its[i]? = none := by
        rw [List.getElem?_eq_none_iff] at e ⊢
        omega
      rw [this]
      exact ih
    | some x =>
      obtain ⟨u, hu, ru⟩ := r.get e
      rw [hu]
      exact .cons ru ih
def tSl3 (K : PySem.W.Frag) (te : TE) (tl th ts : TO) : TE := fun σ H Q => te σ H fun x H1 => tl σ H1 fun lo H2 => th σ H2 fun hi H3 => ts σ H3 fun st H4 => ∃ a xs, x = .ref a ∧ SqL K H4 a xs ∧ st ≠ some 0 ∧ (cut3 xs lo hi st).length ≤ sizeLine ∧ ∀ p, H4 p = none → Q (.ref p) (upd H4 p (.lst (cut3 xs lo hi st)))
section
variable {X : Cx} {K : PySem.W.Frag} {e : Expr} {te : TE} {lo hi : Option Expr} {st : Expr} {tl th ts : TO} {pos p2 : Pos}
theorem pe_slice3 (eK : X.K = K) (he : PE X e te) (hl : PO X lo tl) (hu : PO X hi th) (hst : PO X (some st) ts) : PE X (.Subscript e (.Slice lo hi (some st) p2) pos) (tSl3 K te tl th ts) := by
  subst eK
  refine ⟨fun pins s σ H Q I h => ?_⟩
  refine Subscript_ (thn (he.run pins s σ H _ I h) fun v s1 ⟨x, H1, I1, r1, q1⟩ => ?_)
  refine wpAny_Slice (thn (hl.run pins s1 σ H1 _ I1 q1) fun vl s2 ⟨l, H2, I2, pl, q2⟩ => thn (hu.run pins s2 σ H2 _ I2 q2) fun vu s3 ⟨u, H3, I3, pu, q3⟩ => thn (hst.run pins s3 σ H3 _ I3 q3) fun vs s4 ⟨sp, H4, I4, ps, q4⟩ => ?_)
  obtain ⟨a, xs, rfl, hx, h0, hz, q⟩ := q4
  obtain rfl : v = Value.ref a := r1
  have I5 : Inv X pins σ H4 { s4 with heap := s4.heap.push { cls := .type "slice", data := .fields #[vl, vu, vs] } } := I4.kept (t' := s4.toks) fun b ob q => Heap.get?_push_of_some _ q
  generalize hs5 : ({ s4 with heap := s4.heap.push { cls := .type "slice", data := .fields #[vl, vu, vs] } } : Shared) = s5 at I5
  have hsl : s5.heap.IsSliceOf s4.heap.objs.size vl vu vs := by rw [← hs5]; exact Heap.IsSliceOf.new ..
  obtain ⟨its, r, ht, hz2⟩ := I5.list hx
  have hlen := r.length
  have ht5 : s5.TypeIs (.ref a) "list" := ht.isList.typeIs
  have hg : wpAny (model X.prog X.w) X.A (getItem (.ref a) (.ref s4.heap.objs.size)) (EP X pins σ Q) X.xe s5 := by
    refine wpAny_getItem_list_slice ht.isList hsl pl pu ps h0 ?_ (by rw [List.size_toArray]; omega)
    have e1 : (slicePick its.toArray l u sp).toList = (ixs xs.length l u sp).filterMap (its[·]?) := by
      unfold slicePick ixs
      rw [List.size_toArray, ← hlen]
      simp
    have e2 : slicePick its.toArray l u sp = ((ixs xs.length l u sp).filterMap (its[·]?)).toArray := by
      rw [← e1]
    rw [e2]
    refine ⟨.ref s5.heap.objs.size, _, I5.laid (t' := s5.toks) (o := .lst (cut3 xs l u sp)) (fun b ob q => Heap.get?_push_of_some _ q) (Nat.le_refl _) ?_, rfl, q _ (I5.hok.fresh (Nat.le_refl _))⟩
    exact ⟨hz, _, 0, pick_vals r _, Heap.get?_push_size _ rfl⟩
  exact tail_any (ops := [.ref a, .ref s4.heap.objs.size]) ht5 slot_list_getitem.lookup hg (by with_unfolding_all rfl)
end
theorem r_sl3 {K : PySem.W.Frag} {te : TE} {tl th ts : TO} {σ : L2.St} {H : Hp} {Q : VK} (h : te σ H fun x H1 => tl σ H1 fun lo H2 => th σ H2 fun hi H3 => ts σ H3 fun st H4 => ∃ a xs, x = .ref a ∧ SqL K H4 a xs ∧ st ≠ some 0 ∧ (cut3 xs lo hi st).length ≤ sizeLine ∧ ∀ p, H4 p = none → Q (.ref p) (upd H4 p (.lst (cut3 xs lo hi st)))) : tSl3 K te tl th ts σ H Q := h
/-! ### each second one of the first k -/
theorem ixs_two {n k : Nat} (hk : k ≤ n) : ixs n none (some (k : Int)) (some 2) = (List.range ((k + 1) / 2)).map fun j => 2 * j := by
  unfold ixs sliceBounds sliceRange
  simp only [Option.getD_some]
  have h2 : (2 : Int) > 0 := by decide
  simp only [h2, if_true]
  have hk0 : ¬ ((k : Int) < 0) := by omega
  simp only [hk0, if_false]
  have e1 : max 0 (min (k : Int) n) = k := by omega
  rw [e1]
  by_cases h : (0 : Int) < k
  · simp only [h, if_true]
    have e2 : (((k : Int) - 0 + 2 - 1) / 2).toNat = (k + 1) / 2 := by omega
    rw [e2]
    apply List.map_congr_left
    intro j _
    omega
  · simp only [h, if_false]
    have : k = 0 := by omega
    subst this
    rfl
theorem cut_two {ns : List Int} {k : Nat} (hk : k ≤ ns.length) (nd : ns.Nodup) : (cut3 ns none (some (k : Int)) (some 2)).Nodup ∧ ∀ c ∈ cut3 ns none (some (k : Int)) (some 2), c ∈ ns.take k := by
  unfold cut3
  rw [ixs_two hk]
  constructor
  · rw [List.nodup_iff_pairwise_ne, List.pairwise_filterMap, List.pairwise_map]
    refine List.pairwise_lt_range.imp ?_
    intro a b hab c hc d hd e
    subst e
    obtain ⟨h1, h2⟩ := List.getElem?_eq_some_iff.mp hc
    obtain ⟨h3, h4⟩ := List.getElem?_eq_some_iff.mp hd
    have := (List.getElem_inj nd (h₀ := h1) (h₁ := h3)).mp (h2.trans h4.symm)
    omega
  · intro c hc
    obtain ⟨i, hi, hci⟩ := List.mem_filterMap.mp hc
    obtain ⟨j, hj, rfl⟩ := List.mem_map.mp hi
    have := List.mem_range.mp hj
    refine List.mem_of_getElem? (i := 2 * j) ?_
    rw [List.getElem?_take_of_lt (by omega)]
    exact hci
/-! ### a pair, or it turned round -/
theorem cut_same {α : Type} (a b : α) : cut3 [a, b] none none (some 1) = [a, b] := by
  have e : ixs 2 none none (some 1) = [0, 1] := by decide
  show (ixs 2 none none (some 1)).filterMap ([a, b][·]?) = [a, b]
  rw [e]
  rfl
theorem cut_turn {α : Type} (a b : α) : cut3 [a, b] none none (some (-1)) = [b, a] := by
  have e : ixs 2 none none (some (-1)) = [1, 0] := by decide
  show (ixs 2 none none (some (-1))).filterMap ([a, b][·]?) = [b, a]
  rw [e]
  rfl
end Nc
set_option maxHeartbeats 4000000
/-! X12: a text times 0 or 1; draws. -/
namespace Nc
open PySem PySem.Spec PyProof.Rows L2
def rMulS : V → V → Hp → VK → Prop := fun x y H Q => ∃ z i, x = .str z ∧ y = .int i ∧ z.length ≤ 16 ∧ 0 ≤ i ∧ i ≤ 1 ∧ ∀ u : Str, u.length ≤ 16 → Q (.str u) H
theorem op_mulS {X : Cx} : OpR X (binaryOp .Mult) rMulS := by
  intro pins s σ H x y v u Q I rx ry h
  obtain ⟨z, i, rfl, rfl, hz, h0, h1, q⟩ := h
  obtain ⟨t, rfl⟩ := rx
  obtain ⟨t', rfl⟩ := ry
  refine PySem.W.KXi.mul (n := z.length) rfl hz (by omega) (by omega) fun t2 k a b => ?_
  exact ⟨.str _, H, I.tok _, ⟨t2, rfl⟩, q _ (by
    have := b h0
    have h2 : (z.length : Int) * i ≤ 16 := by
      rcases Int.lt_or_le i 1 with c | c
      · have : i = 0 := by omega
        subst this
        omega
      · have : i = 1 := by omega
        subst this
        omega
    omega)⟩
/-- a list of ints stands at p -/
def Dr (H : Hp) (p : Addr) : Prop := ∃ ds : List Int, H p = some (.lst (ds.map V.int))
theorem Dr.keep {T : List (Addr × Str)} {H H1 : Hp} {p : Addr} (f : Fr T [] H H1) (h : Dr H p) : Dr H1 p := by
  obtain ⟨ds, e⟩ := h
  exact ⟨ds, f.lst0 e⟩
theorem Dr.upd {H : Hp} {p q : Addr} {o : HO} (h : Dr H p) (n : p ≠ q) : Dr (upd H q o) p := by
  obtain ⟨ds, e⟩ := h
  exact ⟨ds, by rw [upd_ne n]; exact e⟩
theorem Dr.m {H : Hp} {p : Addr} (h : Dr H p) : ∀ q ∈ [p], ∃ l, H q = some (.lst l) := fun q hq => by
  simp at hq
  subst hq
  obtain ⟨ds, e⟩ := h
  exact ⟨_, e⟩
/-- over a list of ints, each turn drawing an int -/
theorem lc_Dr {T : List (Addr × Str)} {K : PySem.W.Frag} {as : List Int} {a p : Addr} {H1 : Hp} (ha : H1 a = some (.lst (as.map V.int))) (hp : Dr H1 p) (hap : a ≠ p) (hz : as.length < sizeLine) {j : Nat} {te : TE} {vs : List Nat} {σ : L2.St} {Q : VK} (Pe : Int → Prop)
    (hw : ∀ x, wipe ((wipe σ vs).set j (some x)) vs = wipe σ vs)
    (ht : ∀ (u : V) (H2 : Hp), Fr T [p] H1 H2 → Dr H2 p → ∀ R : V → Hp → Prop, (∀ r H3, Pe r → Fr T [p] H2 H3 → Dr H3 p → R (.int r) H3) → te ((wipe σ vs).set j (some u)) H2 R)
    (hd : ∀ (D : Addr) (H' : Hp) (rs : List Int), H1 D = none → Fr T [p] H1 H' → Dr H' p → H' D = some (.lst (rs.map V.int)) → rs.length = as.length → (∀ r ∈ rs, Pe r) → Q (.ref D) H') :
    ∃ a', V.ref a = .ref a' ∧ (∃ xs, SqL K H1 a' xs) ∧ LcQ (Itl K a') (gName j) tYes te vs σ H1 Q := by
  refine ⟨a, rfl, ⟨_, SqL.of ha⟩, ?_⟩
  intro D hD
  have npD : p ≠ D := by
    obtain ⟨ds, e⟩ := hp
    exact ne_of_none e hD
  have hlen : (as.map V.int).length = as.length := List.length_map ..
  refine lc_it (walk_list (K := K) (a := a) (xs := as.map V.int)) (fun i H' => Fr T [p] H1 H' ∧ Dr H' p ∧ ∃ rs : List Int, H' D = some (.lst (rs.map V.int)) ∧ rs.length = i ∧ ∀ r ∈ rs, Pe r) ⟨(Fr.new hD).wide hp.m, hp.upd npD, [], upd_same, rfl, by simp⟩ (fun i H' _ q => SqL.of (q.1.lst ha (by simpa using hap))) ?_ (fun H' q => ?_)
  · rintro i x Ha Hb hi ⟨fa, da, rs, hx, hl, hr⟩ ⟨rfl, hx'⟩
    refine ⟨hw x, ?_⟩
    refine r_yes ?_
    refine iteT ?_
    refine ht x Hb fa da _ fun r H3 pr f3 d3 => ?_
    have hx3 := f3.lst hx (by simpa using npD.symm)
    refine ⟨_, hx3, by rw [List.length_map, hl]; rw [hlen] at hi; omega, (fa.trans f3).mut (Fresh.of hD) hx3, d3.upd npD, rs ++ [r], by rw [upd_same, List.map_append]; rfl, by simp [hl], fun r' hr' => ?_⟩
    rcases List.mem_append.mp hr' with z | z
    · exact hr r' z
    · simp at z
      subst z
      exact pr
  · obtain ⟨fa, da, rs, hx, hl, hr⟩ := q
    exact hd D H' rs hD fa da hx (by rw [hl, hlen]) hr
end Nc
set_option maxHeartbeats 4000000
/-! X13: a tuple whose object is known to have no dict: t.index(n). -/
namespace Nc
open PySem PySem.Spec PyProof.Rows L2
def TupZ (H : Hp) (v : V) : Prop := ∃ p ob xs, v = .ref p ∧ H p = some (.frz ob (.tup xs)) ∧ ob.cls = .type "tuple" ∧ ob.dict = none
theorem TupZ.keep {T : List (Addr × Str)} {M : List Addr} {H H1 : Hp} {v : V} (f : Fr T M H H1) (h : TupZ H v) : TupZ H1 v := by
  obtain ⟨p, ob, xs, rfl, h1, h2, h3⟩ := h
  exact ⟨p, ob, xs, rfl, f.frz h1, h2, h3⟩
section
variable {X : Cx} {K : PySem.W.Frag}
def rTupleZ (K : PySem.W.Frag) : List V → Hp → VK → Prop := fun xs H Q => ∃ p ys, xs = [V.ref p] ∧ SqL K H p ys ∧ ∀ (l : Addr) (ob : Obj), ob.cls = .type "tuple" → ob.dict = none → H l = none → Q (.ref l) (upd H l (.frz ob (.tup ys)))
theorem kTupleZ (e : X.K = K) : CallR X (.type "tuple") (rTupleZ K) := by
  subst e
  intro pins s σ H xs us Q I r h
  obtain ⟨p, ys, rfl, hq, q⟩ := h
  obtain ⟨u, rfl, rx⟩ := vals1 r
  obtain rfl : u = Value.ref p := rx
  obtain ⟨its, r', pl, hz⟩ := I.list hq
  have hlen := r'.length
  refine call_tuple_list pl.isList (fun h' kp => ?_) (by simp only [List.size_toArray] <;> omega)
  have I1 : Inv X pins σ H { s with heap := h' } := I.kept (t' := s.toks) kp
  have hat : (h'.push { cls := .type "tuple", data := .seq its.toArray }).get? h'.objs.size = some { cls := .type "tuple", data := .seq its.toArray } := Heap.get?_push_size _ rfl
  have I2 : Inv X pins σ (upd H h'.objs.size (.frz { cls := .type "tuple", data := .seq its.toArray } (.tup ys))) { s with heap := h'.push { cls := .type "tuple", data := .seq its.toArray } } :=
    I1.laid (t' := s.toks) (fun b o e => Heap.get?_push_of_some _ e) (Nat.le_refl _) (show ObjOk X.prog X.w _ _ _ (.frz _ (.tup ys)) from ⟨hat, hz, its, r', IsTup.new _ _⟩)
  exact ⟨.ref h'.objs.size, _, I2, rfl, q _ _ rfl rfl (I1.hok.fresh (Nat.le_refl _))⟩
def tBMZ (r : V → List V → Hp → VK → Prop) (to : TE) (t : TA) : TE := fun σ H Q => to σ H fun x H1 => TupZ H1 x ∧ t σ H1 fun xs H2 => r x xs H2 Q
variable {o e : Expr} {es : List Expr} {to : TE} {t : TA} {name : Str} {apos cpos : Pos} {id : String} {r : V → List V → Hp → VK → Prop}
theorem r_bmZ {σ : L2.St} {H : Hp} {Q : VK} (h : to σ H fun x H1 => TupZ H1 x ∧ t σ H1 fun xs H2 => r x xs H2 Q) : tBMZ r to t σ H Q := h
theorem pe_bmZ (pa : PlainAttrs "tuple") (slot : Slot "tuple" name id) (hty : typeOf (.builtin id) = pure (.type "method_descriptor")) (hm : MtR X id r) (ho : PE X o to) (ha : PA X (e :: es) t)
    (hbase : attributeBase o name X.env (eval o X.env) = eval o X.env := by rfl)
    (hfew : ((backTo cpos (starEach (e :: es) X.env)).all (fun x => !x.1) && (backToKw cpos (keywordEach [] X.env)).all (fun x => x.1.isSome)
      && decide ((e :: es).length + ([] : List Keyword).length + (if ([] : List Keyword).isEmpty then 0 else 1) < 30)) = true := by rfl)
    (hline : (apos.endLine == cpos.line) = true := by rfl) (hs : starEach (e :: es) X.env = (false, eval e X.env) :: starEach es X.env := by rfl) (hplain : (backTo cpos (starEach es X.env)).any (·.1) = false := by rfl) :
    PE X (.Call (.Attribute o name apos) (e :: es) [] cpos) (tBMZ r to t) := by
  refine ⟨fun pins s σ H Q I h => ?_⟩
  refine wpAny_Call_method_late hbase hfew hline rfl (thn (ho.run pins s σ H _ I h) fun v s1 ⟨x, H1, I1, r1, z, q1⟩ => ?_)
  obtain ⟨p, ob, ys, rfl, hz, hc, hd⟩ := z
  obtain rfl : v = Value.ref p := r1
  have hob : s1.heap.get? p = some ob := (I1.hok p _ hz).1
  refine ⟨"tuple", id, pa, slot, hty, ⟨ob, hob, hc⟩, (fun a ea => by cases ea; exact ⟨ob, hob, hd⟩), ?_⟩
  have hA := ha.run cpos pins s1 σ H1 _ I1 q1
  rw [hs] at hA ⊢
  refine Calls.callWith_builtin (by show (false || (backTo cpos (starEach es X.env)).any (·.1)) = false; rw [hplain] <;> rfl) (Calls.evalArgs_plain ?_)
  exact thn hA fun us s2 ⟨vs, H2, I2, r2, q2⟩ => hm pins s2 σ H2 (.ref p) vs (.ref p) us Q I2 (show RelV (.ref p) (.ref p) from rfl) r2 q2
end
end Nc
set_option maxHeartbeats 4000000
/-! GA: draws. -/
namespace Nc
open PySem PySem.Spec L2
theorem Fr.sqL {T : List (Addr × Str)} {M : List Addr} {K : PySem.W.Frag} {H H1 : Hp} {p : Addr} {xs : List V} (f : Fr T M H H1) (hm : p ∉ M) (h : SqL K H p xs) : SqL K H1 p xs := by
  rcases h with (h | ⟨ob, h⟩) | h
  · exact Or.inl (Or.inl (f.lst h hm))
  · exact Or.inl (Or.inr ⟨ob, f.frz h⟩)
  · exact Or.inr h
/-- over a list of ints of any kind, to one name -/
theorem lc_I {T : List (Addr × Str)} {K : PySem.W.Frag} {as : List Int} {a : Addr} {H1 : Hp} (ha : SqL K H1 a (as.map V.int)) (hz : as.length < sizeLine) {j : Nat} {tt : TT} {te : TE} {vs : List Nat} {σ : St} {Q : VK} (f : Int → Bool) (d : Int → PyData)
    (hw : ∀ x, wipe ((wipe σ vs).set j (some x)) vs = wipe σ vs)
    (ht : ∀ (c : Int) (H2 : Hp), c ∈ as → Fr T [] H1 H2 → ∀ (R1 : V → Hp → Prop) (R2 : Hp → Prop), (f c = true → ∀ v H3, Fr T [] H2 H3 → Td K H3 v (d c) → R1 v H3) → (f c = false → ∀ H3, Fr T [] H2 H3 → R2 H3) →
      tt ((wipe σ vs).set j (some (.int c))) H2 fun b H3 => if b = true then te ((wipe σ vs).set j (some (.int c))) H3 R1 else R2 H3)
    (hd : ∀ (D : Addr) (H' : Hp) (xs : List V), H1 D = none → Fr T [] H1 H' → H' D = some (.lst xs) → TdAll K H' xs ((as.filter f).map d) → Q (.ref D) H') :
    ∃ a', V.ref a = .ref a' ∧ (∃ xs, SqL K H1 a' xs) ∧ LcQ (Itl K a') (gName j) tt te vs σ H1 Q := by
  refine ⟨a, rfl, ⟨_, ha⟩, ?_⟩
  refine lc_td (T := T) (K := K) (walk_list (K := K) (a := a) (xs := as.map V.int)) as (by rw [List.length_map]) hz f d (fun c σ2 H2 => σ2 = (wipe σ vs).set j (some (.int c))) (fun H' fr => fr.sqL (by simp) ha) ?_ ?_ hd
  · rintro i c x Ha Hb hc fa ⟨rfl, hx⟩ R hR
    rw [List.getElem?_map, hc] at hx
    cases hx
    exact hR _ _ (Fr.refl _) (hw _) rfl
  · rintro i c σ2 H2 hc f2 rfl R1 R2 h1 h2
    exact ht c H2 (List.mem_of_getElem? hc) f2 R1 R2 h1 h2
theorem q_listL {T : List (Addr × Str)} {K : PySem.W.Frag} {H : Hp} {Q : VK} {D : Addr} {xs : List V} (h : H D = some (.lst xs)) (q : ∀ l, H l = none → Q (.ref l) (upd H l (.lst xs))) : rListK K [.ref D] H Q := ⟨D, xs, rfl, Or.inl (SqL.of h), q⟩
theorem r_asgSub1 {te to ti : TE} {t : TSet} {D : Ends} {σ : St} {H : Hp} (h : te σ H fun v H1 => to σ H1 fun o H2 => ti σ H2 fun i H3 => t o i v H3 fun H4 => D.nx σ H4) : tAsg te (gSub to ti t) D σ H := h
theorem ixN_nat {n j : Nat} (h : j < n) : ixN n (j : Int) = some j := by
  unfold ixN
  simp
  omega
local macro_rules | `(tactic| walk_at "st") => `(tactic| (repeat (first
  | ((with_reducible refine' r_var ?e ?_); (case e => exact rfl))
  | (with_reducible refine' r_op ?_)
  | (with_reducible refine' r_c ?_)
  | (with_reducible refine' r_cons ?_)
  | (with_reducible refine' r_nil ?_)
  | (with_reducible refine' r_cb ?_)
  | (with_reducible refine' r_call ?_)
  | (with_reducible refine' r_test ?_)
  | (with_reducible refine' r_lc ?_)
  | (with_reducible refine' r_lc2 ?_)
  | (with_reducible refine' r_sk ?_)
  | (with_reducible refine' r_iZ ?_)
  | (with_reducible refine' r_sl3 ?_)
  | (with_reducible refine' r_dg ?_)
  | (with_reducible refine' r_dpS ?_)
  | (with_reducible refine' r_dp1 ?_)
  | (with_reducible refine' r_dn ?_)
  | (with_reducible refine' r_iT ?_)
  | (with_reducible refine' r_iL ?_)
  | (with_reducible refine' r_iE ?_)
  | (with_reducible refine' r_iR ?_)
  | (with_reducible refine' r_ret ?_)
  | (with_reducible refine' r_asgS ?_)
  | (with_reducible refine' r_asg1 ?_)
  | (with_reducible refine' r_asgTS ?_)
  | (with_reducible refine' r_ifS ?_)
  | (with_reducible refine' r_if1 ?_)
  | (with_reducible refine' r_forS ?_)
  | (with_reducible refine' r_for1 ?_)
  | (with_reducible refine' r_dropS ?_)
  | (with_reducible refine' r_drop1 ?_)
  | (with_reducible refine' r_tup ?_)
  | (with_reducible refine' r_lst ?_)
  | (with_reducible refine' r_sl ?_)
  | (with_reducible refine' r_noP ?_)
  | (with_reducible refine' r_part ?_)
  | (with_reducible refine' r_bm ?_)
  | (with_reducible refine' r_bm0 ?_)
  | (with_reducible refine' r_un ?_)
  | (with_reducible refine' r_notV ?_)
  | (with_reducible refine' r_B ?_)
  | (with_reducible refine' r_and ?_)
  | (with_reducible refine' r_or ?_)
  | (with_reducible refine' r_not ?_)
  | (with_reducible refine' r_yes ?_)
  | (with_reducible refine' r_next ?_)
  | (with_reducible refine' r_break ?_)
  | (with_reducible refine' r_gn ?_)
  | (with_reducible refine' r_tupRg ?_)
  | (with_reducible refine' r_rg1 ?_)
  )))
local macro_rules | `(tactic| walk_at "no") => `(tactic| (refine q_eqS ⟨_, rfl, ite2 (fun e => absurd (of_decide_eq_true e) (by decide +kernel)) (fun _ => ?_)⟩; walk_at "st"; try dsimp only))
local macro_rules | `(tactic| walk_at "yes") => `(tactic| (refine q_eqS ⟨_, rfl, ite2 (fun _ => ?_) (fun e => absurd (decide_eq_true rfl) e)⟩; walk_at "st"))
section
variable {P : Program} {w : World} {K : PySem.W.Frag} {mg : Str → Option Value} {base : Heap}
variable {T : List (Addr × Str)}
def sp_law_draws (K : PySem.W.Frag) (T : List (Addr × Str)) : Sp := Sp2 fun a b H Q => ∃ (s : Addr) (ns : List Int) (n : Nat), a = .ref s ∧ SqL K H s (ns.map V.int) ∧ ns.length ≤ 1000 ∧ b = .int n ∧ n ≤ 1000 ∧ ∀ p H', Fresh H p → Fr T [] H H' → Dr H' p → Q (.ref p) H'
/-! ### _law_draws -/
abbrev s_law_draws : Stmt := topS 27
abbrev N_law_draws : List Str := ["_law_script", "_law_many", "_law_cells", "_law_rest", "_law_draws_here", "_law_k", "_law_at", "_law_cell_here", "_law_once"]
theorem sc_law_draws : FnScope N_law_draws ["_law_script", "_law_many"] (defScope s_law_draws) := ⟨rfl, rfl, rfl, by decide +kernel, rfl, by decide +kernel, by decide +kernel⟩
theorem d_law_draws (B : B0 mg) (A0 : At K mg "_law_draws" s_law_draws) : Dn P w K mg base "_law_draws" ["_law_script", "_law_many"] 1 (sp_law_draws K T) := by
  refine dn2 A0 sc_law_draws (fun _ _ F => F.bindsN fun _ _ _ _ _ _ us hl => match us, hl with | [_, _], _ => rfl) fun f cdv A outer s H a0 a1 Q E hr h => ?_
  have nd := sc_law_draws.nd
  refine ⟨_, (pss_cons
  (ps_setLc (i := 2) (own := [("_law_cell_here", 7)]) (g := (gName 7)) (by rfl) nd rfl rfl (sw_true rfl rfl rfl (by decide +kernel)) (kpList (K := K) rfl (pv 0)) (blkOk_by (own := [("_law_cell_here", 7)]) (N := N_law_draws) (sc := defScope s_law_draws) (by decide +kernel)) (fun _ _ _ _ _ => (pg_name (i := 7) nd rfl (by first | exact Or.inl rfl | exact Or.inr rfl))) (fun _ _ _ _ _ => pts_nil) (fun _ _ _ _ _ => (pe_callTy call_int1 (by rfl) B.int (by decide +kernel) (pa_cons (pv 7) pa_nil))))
  (pss_cons
  (ps_if (pt_cmpR op_eq (pe_callB (kLen (K := K) rfl) (by rfl) B.len PySem.boot_len (pa_cons (pv 2) pa_nil)) pe_int (by rfl)) (pss_one
  (ps_expr (pe_bm PySem.F.plainAttrs_list PySem.F.slot_list_append PySem.F.type_list_append mt_append (pv 2) (pa_cons pe_int pa_nil)))) pss_nil)
  (pss_cons
  (ps_set (i := 3) nd rfl (by first | exact Or.inl rfl | exact Or.inr rfl) (pe_callTy (kList (K := K) rfl) (by rfl) B.list (by decide +kernel) (pa_cons (pv 2) pa_nil)))
  (pss_cons
  (ps_set (i := 4) nd rfl (by first | exact Or.inl rfl | exact Or.inr rfl) (pe_lst pa_nil))
  (pss_cons
  (ps_for PassesOwn.never rfl (pi_range1 (by rfl) B.range (pa_cons (pv 1) pa_nil)) (pg_name (i := 5) nd rfl (by first | exact Or.inl rfl | exact Or.inr rfl)) (pss_cons
  (ps_set (i := 6) nd rfl (by first | exact Or.inl rfl | exact Or.inr rfl) (pe_op op_mod (pv 5) (pe_callB (kLen (K := K) rfl) (by rfl) B.len PySem.boot_len (pa_cons (pv 2) pa_nil))))
  (pss_one
  (ps_if (pt_cmpR op_ge (pe_ix (kIxL (K := K) rfl) (pv 2) (pv 6) (fun _ _ => rfl)) (pe_op op_pow pe_int pe_int) (by rfl)) (pss_cons
  (ps_expr (pe_bm PySem.F.plainAttrs_list PySem.F.slot_list_append PySem.F.type_list_append mt_append (pv 4) (pa_cons (pe_op op_mod (pe_callTy call_int1 (by rfl) B.int (by decide +kernel) (pa_cons (pe_ix (kIxL (K := K) rfl) (pv 3) (pv 6) (fun _ _ => rfl)) pa_nil)) pe_int) pa_nil)))
  (pss_one
  (ps_asg (pe_op op_fdiv (pe_ix (kIxL (K := K) rfl) (pv 3) (pv 6) (fun _ _ => rfl)) pe_int) (pg_sub (pv 3) (pv 6) set_list)))) (pss_cons
  (ps_set (i := 8) nd rfl (by first | exact Or.inl rfl | exact Or.inr rfl) (pe_op op_mod (pe_callTy call_int1 (by rfl) B.int (by decide +kernel) (pa_cons (pe_op op_add (pe_op op_add (pe_op op_mul (pe_ix (kIxL (K := K) rfl) (pv 2) (pv 6) (fun _ _ => rfl)) pe_int) (pe_op op_mul (pv 5) pe_int)) pe_int) pa_nil)) pe_int))
  (pss_one
  (ps_expr (pe_bm PySem.F.plainAttrs_list PySem.F.slot_list_append PySem.F.type_list_append mt_append (pv 4) (pa_cons (pe_op op_mod (pe_callTy call_int1 (by rfl) B.int (by decide +kernel) (pa_cons (pe_op op_add (pe_op op_add (pe_op op_mul (pv 8) (pv 8)) (pe_op op_mul pe_int (pv 8))) (pv 5)) pa_nil)) pe_int) pa_nil)))))))))
  (pss_cons
  (ps_expr (pe_bm0 PySem.F.plainAttrs_list PySem.F.slot_list_reverse PySem.F.type_list_reverse mt_reverse (pv 4)))
  (pss_one
  (ps_ret (pv 4))))))))), ?_⟩
  obtain ⟨s, ns, n, rfl, hs, hl, rfl, hn, q⟩ := h
  walk_at "st"
  refine lc_I (T := T) hs (line_of (by omega)) (fun _ => true) .int (fun _ => rfl) ?_ ?_
  · intro c H2 hc f2 R1 R2 r1 r2
    walk_at "st"
    refine iteT ?_
    walk_at "st"
    exact Or.inl ⟨_, rfl, r1 rfl _ _ (Fr.refl _) (.int _)⟩
  intro D H1 xs hD f1 hx tx
  rw [filt_true] at tx
  rw [tx.ints] at hx
  walk_at "st"
  refine q_lenL hx ?_
  walk_at "st"
  rw [List.length_map]
  refine q_eqI ⟨_, rfl, ite2 (fun e => ?_) (fun e => ?_)⟩
  · rw [decide_eq_true_eq] at e
    walk_at "st"
    refine ⟨ty_lst hx, ?_⟩
    walk_at "st"
    refine q_app hx (by rw [List.length_map]; exact line_of (by omega)) ?_
    have f2 : Fr T [] H (upd H1 D (.lst (ns.map V.int ++ [.int 0]))) := f1.mut (Fresh.of hD) hx
    have hcs : (upd H1 D (.lst (ns.map V.int ++ [.int 0]))) D = some (.lst ((ns ++ [0]).map V.int)) := by rw [upd_same, List.map_append]; rfl
    generalize upd H1 D (.lst (ns.map V.int ++ [.int 0])) = H2 at f2 hcs
    generalize hcc : ns ++ [0] = cs at hcs
    have hcz : cs.length ≤ 1001 := by rw [← hcc, List.length_append]; exact Nat.succ_le_succ hl
    have hc1 : 1 ≤ cs.length := by rw [← hcc, List.length_append]; exact Nat.le_add_left _ _
    walk_at "st"
    refine q_listL (T := T) hcs fun R hR => ?_
    have f3 : Fr T [] H2 (upd H2 R (.lst (cs.map V.int))) := Fr.new hR
    have hR3 : (upd H2 R (.lst (cs.map V.int))) R = some (.lst (cs.map V.int)) := upd_same
    generalize upd H2 R (.lst (cs.map V.int)) = H3 at f3 hR3
    walk_at "st"
    refine ⟨Nat.zero_le _, fun W hW => ?_⟩
    have f4 : Fr T [] H3 (upd H3 W (.lst [])) := Fr.new hW
    have hW4 : (upd H3 W (.lst [])) W = some (.lst (([] : List Int).map V.int)) := upd_same
    generalize upd H3 W (.lst []) = H4 at f4 hW4
    have nDR : D ≠ R := ne_of_none hcs hR
    have nDW : D ≠ W := ne_of_none (f3.lst0 hcs) hW
    have nRW : R ≠ W := ne_of_none hR3 hW
    have fR : Fresh H R := f2.there hR
    have fW : Fresh H W := (f2.trans f3).there hW
    walk_at "st"
    refine ⟨_, rfl, by omega, by omega, ?_⟩
    rw [Int.toNat_natCast]
    refine for_R (fun i σ H' => ∃ (rs ws : List Int) (x5 x6 x7 x8 : Option V), σ = [some (.ref s), some (.int n), some (.ref D), some (.ref R), some (.ref W), x5, x6, x7, x8] ∧ Fr T [] H H' ∧ H' D = some (.lst (cs.map V.int)) ∧ H' R = some (.lst (rs.map V.int)) ∧ rs.length = cs.length ∧ H' W = some (.lst (ws.map V.int)) ∧ ws.length ≤ i)
      ⟨cs, [], _, _, _, _, rfl, (f2.trans f3).trans f4, (f3.trans f4).lst0 hcs, f4.lst0 hR3, rfl, hW4, Nat.zero_le _⟩ ?_ ?_
    · rintro i σ' H5 hi ⟨rs, ws, x5, x6, x7, x8, rfl, f5, hD5, hR5, hrl, hW5, hwl⟩
      walk_at "st"
      refine q_lenL hD5 ?_
      rw [List.length_map]
      walk_at "st"
      refine q_IC (by omega) ?_
      obtain ⟨j, hj, hjl⟩ : ∃ j : Nat, (i : Int) % (cs.length : Int) = (j : Int) ∧ j < cs.length := ⟨((i : Int) % (cs.length : Int)).toNat, by rw [Int.toNat_of_nonneg (Int.emod_nonneg _ (by omega))], by
        have := Int.emod_lt_of_pos (i : Int) (b := (cs.length : Int)) (by omega)
        have := Int.emod_nonneg (i : Int) (b := (cs.length : Int)) (by omega)
        omega⟩
      rw [hj]
      obtain ⟨cj, hcj⟩ : ∃ c, cs[j]? = some c := ⟨_, List.getElem?_eq_getElem hjl⟩
      obtain ⟨rj, hrj⟩ : ∃ c, rs[j]? = some c := ⟨_, List.getElem?_eq_getElem (hrl ▸ hjl)⟩
      have acj : atI (cs.map V.int) (j : Int) = some (.int cj) := at_nat (by rw [List.getElem?_map, hcj]; rfl)
      have arj : atI (rs.map V.int) (j : Int) = some (.int rj) := at_nat (by rw [List.getElem?_map, hrj]; rfl)
      have app : ∀ z : Int, Fr T [] H (upd H5 W (.lst (ws.map V.int ++ [.int z]))) ∧ (upd H5 W (.lst (ws.map V.int ++ [.int z]))) D = some (.lst (cs.map V.int)) ∧ (upd H5 W (.lst (ws.map V.int ++ [.int z]))) R = some (.lst (rs.map V.int)) ∧ (upd H5 W (.lst (ws.map V.int ++ [.int z]))) W = some (.lst ((ws ++ [z]).map V.int)) := fun z =>
        ⟨f5.mut fW hW5, by rw [upd_ne nDW]; exact hD5, by rw [upd_ne nRW]; exact hR5, by rw [upd_same, List.map_append]; rfl⟩
      walk_at "st"
      refine q_ixL hD5 acj ?_
      walk_at "st"
      refine q_IC ⟨by decide, by decide, by decide⟩ ?_
      refine q_I ⟨_, rfl, ite2 (fun e => ?_) (fun e => ?_)⟩
      · walk_at "st"
        refine ⟨ty_lst hW5, ?_⟩
        walk_at "st"
        refine q_ixL hR5 arj ?_
        walk_at "st"
        refine Or.inl ⟨_, rfl, ?_⟩
        walk_at "st"
        refine q_IC (by decide) ?_
        walk_at "st"
        refine q_app hW5 (by rw [List.length_map]; exact line_of (by omega)) ?_
        obtain ⟨a1, a2, a3, a4⟩ := app (rj % 1000)
        generalize upd H5 W (.lst (ws.map V.int ++ [.int (rj % 1000)])) = H6 at a1 a2 a3 a4
        refine r_asgSub1 ?_
        walk_at "st"
        refine q_ixL a3 arj ?_
        walk_at "st"
        refine q_IC ⟨by decide, by decide⟩ ?_
        walk_at "st"
        refine ⟨R, _, (j : Int), j, rfl, rfl, a3, ixN_nat (by rw [List.length_map]; omega), ?_⟩
        refine ⟨rs.set j (rj / 1000), ws ++ [rj % 1000], _, _, _, _, rfl, a1.mut fR a3, ?_, ?_, ?_, ?_, ?_⟩
        · rw [upd_ne nDR]
          exact a2
        · rw [upd_same, List.map_set]
        · rw [List.length_set]
          exact hrl
        · rw [upd_ne nRW.symm]
          exact a4
        · rw [List.length_append]
          exact Nat.succ_le_succ hwl
      · walk_at "st"
        refine q_ixL hD5 acj ?_
        walk_at "st"
        refine q_IC (Or.inr ⟨by decide, by decide⟩) ?_
        walk_at "st"
        refine q_IC (Or.inr ⟨by decide, by decide⟩) ?_
        refine q_I ?_
        walk_at "st"
        refine q_I ?_
        walk_at "st"
        refine Or.inl ⟨_, rfl, ?_⟩
        walk_at "st"
        refine q_IC (by decide) ?_
        generalize ho : (cj * 48271 + (i : Int) * 69621 + 11) % 2147483647 = o
        have o0 : 0 ≤ o := by rw [← ho]; exact Int.emod_nonneg _ (by decide)
        have o1 : o < 2147483647 := by rw [← ho]; exact Int.emod_lt_of_pos _ (by decide)
        walk_at "st"
        refine ⟨ty_lst hW5, ?_⟩
        walk_at "st"
        refine q_IC (Or.inl ⟨by omega, by omega⟩) ?_
        walk_at "st"
        refine q_IC (Or.inl ⟨by decide, by decide⟩) ?_
        refine q_I ?_
        walk_at "st"
        refine q_I ?_
        walk_at "st"
        refine Or.inl ⟨_, rfl, ?_⟩
        walk_at "st"
        refine q_IC (by decide) ?_
        walk_at "st"
        refine q_app hW5 (by rw [List.length_map]; exact line_of (by omega)) ?_
        obtain ⟨a1, a2, a3, a4⟩ := app ((o * o + 3 * o + (i : Int)) % 1000003)
        refine ⟨rs, ws ++ [(o * o + 3 * o + (i : Int)) % 1000003], _, _, _, _, rfl, a1, a2, a3, hrl, a4, ?_⟩
        rw [List.length_append]
        exact Nat.succ_le_succ hwl
    · rintro σ' H5 ⟨rs, ws, x5, x6, x7, x8, rfl, f5, hD5, hR5, hrl, hW5, hwl⟩
      dsimp only
      walk_at "st"
      refine ⟨ty_lst hW5, ?_⟩
      refine ⟨W, _, rfl, rfl, hW5, ?_⟩
      walk_at "st"
      refine q W _ fW (f5.mut fW hW5) ⟨ws.reverse, ?_⟩
      rw [upd_same, List.map_reverse]
  · rw [decide_eq_true_eq] at e
    have f2 := f1
    have hcs := hx
    generalize hcc : ns = cs at hcs
    generalize H1 = H2 at f2 hcs
    walk_at "st"
    dsimp only
    have hcz : cs.length ≤ 1001 := by rw [← hcc]; omega
    have hc1 : 1 ≤ cs.length := by rw [← hcc]; omega
    walk_at "st"
    refine q_listL (T := T) hcs fun R hR => ?_
    have f3 : Fr T [] H2 (upd H2 R (.lst (cs.map V.int))) := Fr.new hR
    have hR3 : (upd H2 R (.lst (cs.map V.int))) R = some (.lst (cs.map V.int)) := upd_same
    generalize upd H2 R (.lst (cs.map V.int)) = H3 at f3 hR3
    walk_at "st"
    refine ⟨Nat.zero_le _, fun W hW => ?_⟩
    have f4 : Fr T [] H3 (upd H3 W (.lst [])) := Fr.new hW
    have hW4 : (upd H3 W (.lst [])) W = some (.lst (([] : List Int).map V.int)) := upd_same
    generalize upd H3 W (.lst []) = H4 at f4 hW4
    have nDR : D ≠ R := ne_of_none hcs hR
    have nDW : D ≠ W := ne_of_none (f3.lst0 hcs) hW
    have nRW : R ≠ W := ne_of_none hR3 hW
    have fR : Fresh H R := f2.there hR
    have fW : Fresh H W := (f2.trans f3).there hW
    walk_at "st"
    refine ⟨_, rfl, by omega, by omega, ?_⟩
    rw [Int.toNat_natCast]
    refine for_R (fun i σ H' => ∃ (rs ws : List Int) (x5 x6 x7 x8 : Option V), σ = [some (.ref s), some (.int n), some (.ref D), some (.ref R), some (.ref W), x5, x6, x7, x8] ∧ Fr T [] H H' ∧ H' D = some (.lst (cs.map V.int)) ∧ H' R = some (.lst (rs.map V.int)) ∧ rs.length = cs.length ∧ H' W = some (.lst (ws.map V.int)) ∧ ws.length ≤ i)
      ⟨cs, [], _, _, _, _, rfl, (f2.trans f3).trans f4, (f3.trans f4).lst0 hcs, f4.lst0 hR3, rfl, hW4, Nat.zero_le _⟩ ?_ ?_
    · rintro i σ' H5 hi ⟨rs, ws, x5, x6, x7, x8, rfl, f5, hD5, hR5, hrl, hW5, hwl⟩
      walk_at "st"
      refine q_lenL hD5 ?_
      rw [List.length_map]
      walk_at "st"
      refine q_IC (by omega) ?_
      obtain ⟨j, hj, hjl⟩ : ∃ j : Nat, (i : Int) % (cs.length : Int) = (j : Int) ∧ j < cs.length := ⟨((i : Int) % (cs.length : Int)).toNat, by rw [Int.toNat_of_nonneg (Int.emod_nonneg _ (by omega))], by
        have := Int.emod_lt_of_pos (i : Int) (b := (cs.length : Int)) (by omega)
        have := Int.emod_nonneg (i : Int) (b := (cs.length : Int)) (by omega)
        omega⟩
      rw [hj]
      obtain ⟨cj, hcj⟩ : ∃ c, cs[j]? = some c := ⟨_, List.getElem?_eq_getElem hjl⟩
      obtain ⟨rj, hrj⟩ : ∃ c, rs[j]? = some c := ⟨_, List.getElem?_eq_getElem (hrl ▸ hjl)⟩
      have acj : atI (cs.map V.int) (j : Int) = some (.int cj) := at_nat (by rw [List.getElem?_map, hcj]; rfl)
      have arj : atI (rs.map V.int) (j : Int) = some (.int rj) := at_nat (by rw [List.getElem?_map, hrj]; rfl)
      have app : ∀ z : Int, Fr T [] H (upd H5 W (.lst (ws.map V.int ++ [.int z]))) ∧ (upd H5 W (.lst (ws.map V.int ++ [.int z]))) D = some (.lst (cs.map V.int)) ∧ (upd H5 W (.lst (ws.map V.int ++ [.int z]))) R = some (.lst (rs.map V.int)) ∧ (upd H5 W (.lst (ws.map V.int ++ [.int z]))) W = some (.lst ((ws ++ [z]).map V.int)) := fun z =>
        ⟨f5.mut fW hW5, by rw [upd_ne nDW]; exact hD5, by rw [upd_ne nRW]; exact hR5, by rw [upd_same, List.map_append]; rfl⟩
      walk_at "st"
      refine q_ixL hD5 acj ?_
      walk_at "st"
      refine q_IC ⟨by decide, by decide, by decide⟩ ?_
      refine q_I ⟨_, rfl, ite2 (fun e => ?_) (fun e => ?_)⟩
      · walk_at "st"
        refine ⟨ty_lst hW5, ?_⟩
        walk_at "st"
        refine q_ixL hR5 arj ?_
        walk_at "st"
        refine Or.inl ⟨_, rfl, ?_⟩
        walk_at "st"
        refine q_IC (by decide) ?_
        walk_at "st"
        refine q_app hW5 (by rw [List.length_map]; exact line_of (by omega)) ?_
        obtain ⟨a1, a2, a3, a4⟩ := app (rj % 1000)
        generalize upd H5 W (.lst (ws.map V.int ++ [.int (rj % 1000)])) = H6 at a1 a2 a3 a4
        refine r_asgSub1 ?_
        walk_at "st"
        refine q_ixL a3 arj ?_
        walk_at "st"
        refine q_IC ⟨by decide, by decide⟩ ?_
        walk_at "st"
        refine ⟨R, _, (j : Int), j, rfl, rfl, a3, ixN_nat (by rw [List.length_map]; omega), ?_⟩
        refine ⟨rs.set j (rj / 1000), ws ++ [rj % 1000], _, _, _, _, rfl, a1.mut fR a3, ?_, ?_, ?_, ?_, ?_⟩
        · rw [upd_ne nDR]
          exact a2
        · rw [upd_same, List.map_set]
        · rw [List.length_set]
          exact hrl
        · rw [upd_ne nRW.symm]
          exact a4
        · rw [List.length_append]
          exact Nat.succ_le_succ hwl
      · walk_at "st"
        refine q_ixL hD5 acj ?_
        walk_at "st"
        refine q_IC (Or.inr ⟨by decide, by decide⟩) ?_
        walk_at "st"
        refine q_IC (Or.inr ⟨by decide, by decide⟩) ?_
        refine q_I ?_
        walk_at "st"
        refine q_I ?_
        walk_at "st"
        refine Or.inl ⟨_, rfl, ?_⟩
        walk_at "st"
        refine q_IC (by decide) ?_
        generalize ho : (cj * 48271 + (i : Int) * 69621 + 11) % 2147483647 = o
        have o0 : 0 ≤ o := by rw [← ho]; exact Int.emod_nonneg _ (by decide)
        have o1 : o < 2147483647 := by rw [← ho]; exact Int.emod_lt_of_pos _ (by decide)
        walk_at "st"
        refine ⟨ty_lst hW5, ?_⟩
        walk_at "st"
        refine q_IC (Or.inl ⟨by omega, by omega⟩) ?_
        walk_at "st"
        refine q_IC (Or.inl ⟨by decide, by decide⟩) ?_
        refine q_I ?_
        walk_at "st"
        refine q_I ?_
        walk_at "st"
        refine Or.inl ⟨_, rfl, ?_⟩
        walk_at "st"
        refine q_IC (by decide) ?_
        walk_at "st"
        refine q_app hW5 (by rw [List.length_map]; exact line_of (by omega)) ?_
        obtain ⟨a1, a2, a3, a4⟩ := app ((o * o + 3 * o + (i : Int)) % 1000003)
        refine ⟨rs, ws ++ [(o * o + 3 * o + (i : Int)) % 1000003], _, _, _, _, rfl, a1, a2, a3, hrl, a4, ?_⟩
        rw [List.length_append]
        exact Nat.succ_le_succ hwl
    · rintro σ' H5 ⟨rs, ws, x5, x6, x7, x8, rfl, f5, hD5, hR5, hrl, hW5, hwl⟩
      dsimp only
      walk_at "st"
      refine ⟨ty_lst hW5, ?_⟩
      refine ⟨W, _, rfl, rfl, hW5, ?_⟩
      walk_at "st"
      refine q W _ fW (f5.mut fW hW5) ⟨ws.reverse, ?_⟩
      rw [upd_same, List.map_reverse]
def sp_law_take (K : PySem.W.Frag) (T : List (Addr × Str)) : Sp := Sp2 fun a b H Q => ∃ (p : Addr) (n : Int), a = .ref p ∧ Dr H p ∧ b = .int n ∧ 1 ≤ n ∧ ∀ r H', 0 ≤ r → r < n → Fr T [p] H H' → Dr H' p → Q (.int r) H'
/-! ### _law_take -/
abbrev s_law_take : Stmt := topS 28
abbrev N_law_take : List Str := ["_law_draws_here", "_law_many"]
theorem sc_law_take : FnScope N_law_take ["_law_draws_here", "_law_many"] (defScope s_law_take) := ⟨rfl, rfl, rfl, by decide +kernel, rfl, by decide +kernel, by decide +kernel⟩
theorem d_law_take (B : B0 mg) (A0 : At K mg "_law_take" s_law_take) : Dn P w K mg base "_law_take" ["_law_draws_here", "_law_many"] 1 (sp_law_take K T) := by
  refine dn2 A0 sc_law_take (fun _ _ F => F.bindsN fun _ _ _ _ _ _ us hl => match us, hl with | [_, _], _ => rfl) fun f cdv A outer s H a0 a1 Q E hr h => ?_
  have nd := sc_law_take.nd
  refine ⟨_, (pss_cons
  (ps_if (pt_cmpR op_eq (pe_callB (kLen (K := K) rfl) (by rfl) B.len PySem.boot_len (pa_cons (pv 0) pa_nil)) pe_int (by rfl)) (pss_one
  (ps_ret pe_int)) pss_nil)
  (pss_one
  (ps_ret (pe_op op_mod (pe_callTy call_int1 (by rfl) B.int (by decide +kernel) (pa_cons (pe_bm0 PySem.F.plainAttrs_list PySem.F.slot_list_pop PySem.F.type_list_pop mt_pop (pv 0)) pa_nil)) (pv 1))))), ?_⟩
  obtain ⟨p, n, rfl, hp, rfl, hn, q⟩ := h
  obtain ⟨ds, hd⟩ := id hp
  walk_at "st"
  refine q_lenL hd ?_
  walk_at "st"
  refine q_eqI ⟨_, rfl, ite2 (fun e => ?_) (fun e => ?_)⟩
  · walk_at "st"
    exact q 0 _ (by omega) (by omega) (Fr.reflM hp.m) hp
  · walk_at "st"
    dsimp only
    walk_at "st"
    refine ⟨ty_lst hd, ?_⟩
    rw [List.length_map, decide_eq_true_eq] at e
    have h1 : 1 ≤ ds.length := by omega
    obtain ⟨y, hy⟩ : ∃ y, ds[ds.length - 1]? = some y := ⟨_, List.getElem?_eq_getElem (by omega)⟩
    refine ⟨p, _, .int y, rfl, rfl, hd, by rw [List.length_map, List.getElem?_map, hy]; rfl, ?_⟩
    walk_at "st"
    refine Or.inl ⟨_, rfl, ?_⟩
    walk_at "st"
    refine q_IC (by omega) ?_
    refine q _ _ (Int.emod_nonneg _ (by omega)) (Int.emod_lt_of_pos _ (by omega)) (Fr.set hp.m (by simp)) ⟨ds.dropLast, ?_⟩
    rw [upd_same, List.map_dropLast]
def sp_law_word (K : PySem.W.Frag) (T : List (Addr × Str)) : Sp := Sp1 fun a H Q => ∃ n : Int, a = .int n ∧ ∀ (x : Str), x.length ≤ 60 → Q (.str x) H
theorem abc_at (k : Int) : ∃ c, atI (Str.ofString "abcdefghijklmnopqrstuvwxyz").cps.toList (k % 26) = some c := by
  have h0 : 0 ≤ k % 26 := Int.emod_nonneg _ (by decide)
  have h1 : k % 26 < 26 := Int.emod_lt_of_pos _ (by decide)
  have hl : (Str.ofString "abcdefghijklmnopqrstuvwxyz").cps.toList.length = 26 := by decide +kernel
  refine ⟨(Str.ofString "abcdefghijklmnopqrstuvwxyz").cps.toList[(k % 26).toNat]'(by omega), ?_⟩
  have := at_nat (l := (Str.ofString "abcdefghijklmnopqrstuvwxyz").cps.toList) (i := (k % 26).toNat) (List.getElem?_eq_getElem (by omega))
  rwa [Int.toNat_of_nonneg h0] at this
/-! ### _law_word -/
abbrev s_law_word : Stmt := topS 29
abbrev N_law_word : List Str := ["_law_number", "_law_word_here", "_law_k"]
theorem sc_law_word : FnScope N_law_word ["_law_number"] (defScope s_law_word) := ⟨rfl, rfl, rfl, by decide +kernel, rfl, by decide +kernel, by decide +kernel⟩
theorem d_law_word (B : B0 mg) (A0 : At K mg "_law_word" s_law_word) : Dn P w K mg base "_law_word" ["_law_number"] 1 (sp_law_word K T) := by
  refine dn1 A0 sc_law_word (fun _ _ F => F.bindsN fun _ _ _ _ _ _ us hl => match us, hl with | [_], _ => rfl) fun f cdv A outer s H a0 Q E hr h => ?_
  have nd := sc_law_word.nd
  refine ⟨_, (pss_cons
  (ps_set (i := 1) nd rfl (by first | exact Or.inl rfl | exact Or.inr rfl) pe_str)
  (pss_cons
  (ps_for PassesOwn.never rfl (pi_range1 (by rfl) B.range (pa_cons pe_int pa_nil)) (pg_name (i := 2) nd rfl (by first | exact Or.inl rfl | exact Or.inr rfl)) (pss_cons
  (ps_if (pt_cmpR op_lt (pv 0) pe_int (by rfl)) (pss_one
  ps_break) pss_nil)
  (pss_cons
  (ps_set (i := 1) nd rfl (by first | exact Or.inl rfl | exact Or.inr rfl) (pe_op op_add_str (pe_ix ix_str pe_str (pe_op op_mod (pe_callTy call_int1 (by rfl) B.int (by decide +kernel) (pa_cons (pe_op op_sub (pv 0) pe_int) pa_nil)) pe_int) (fun _ _ => rfl)) (pv 1)))
  (pss_one
  (ps_set (i := 0) nd rfl (by first | exact Or.inl rfl | exact Or.inr rfl) (pe_op op_fdiv (pe_op op_sub (pv 0) pe_int) pe_int))))))
  (pss_one
  (ps_ret (pv 1))))), ?_⟩
  obtain ⟨n, rfl, q⟩ := h
  walk_at "st"
  refine ⟨_, rfl, by decide, by decide, ?_⟩
  refine for_R (n := 60) (fun i σ H' => ∃ (m : Int) (x : Str) (y : Option V), σ = [some (.int m), some (.str x), y] ∧ H' = H ∧ x.length ≤ i) ⟨n, _, _, rfl, rfl, by decide +kernel⟩ ?_ ?_
  · rintro i σ' H' hi ⟨m, x, y, rfl, rfl, hx⟩
    walk_at "st"
    refine q_I ⟨_, rfl, ite2 (fun e => ?_) (fun e => ?_)⟩
    · walk_at "st"
      exact q x (by omega)
    · walk_at "st"
      refine q_I ?_
      walk_at "st"
      refine Or.inl ⟨_, rfl, ?_⟩
      walk_at "st"
      refine q_IC (by decide) ?_
      obtain ⟨c, hc⟩ := abc_at (m - 1)
      refine ⟨_, _, c, rfl, rfl, by decide +kernel, hc, ?_⟩
      walk_at "st"
      have hl : ((⟨#[c]⟩ : Str) ++ x).length ≤ i + 1 := by
        rw [Str.length_append]
        show 1 + x.length ≤ i + 1
        omega
      refine ⟨_, _, rfl, rfl, ?_, ?_⟩
      · rw [sizeLine_eq]
        show 1 + x.length ≤ 16777216
        omega
      walk_at "st"
      refine q_I ?_
      walk_at "st"
      refine q_IC ⟨by decide, by decide⟩ ?_
      exact ⟨_, _, _, rfl, rfl, hl⟩
  · rintro σ' H' ⟨m, x, y, rfl, rfl, hx⟩
    dsimp only
    walk_at "st"
    exact q x hx
def sp_law_cell (K : PySem.W.Frag) (T : List (Addr × Str)) : Sp := Sp2 fun a b H Q => ∃ (s p : Addr) (ns : List Int), a = .ref s ∧ SqL K H s (ns.map V.int) ∧ s ≠ p ∧ b = .ref p ∧ Dr H p ∧ ∀ (r : Int) H', Fr T [p] H H' → Dr H' p → Q (.int r) H'
/-! ### _law_cell -/
abbrev s_law_cell : Stmt := topS 30
abbrev N_law_cell : List Str := ["_law_script", "_law_draws_here"]
theorem sc_law_cell : FnScope N_law_cell ["_law_script", "_law_draws_here"] (defScope s_law_cell) := ⟨rfl, rfl, rfl, by decide +kernel, rfl, by decide +kernel, by decide +kernel⟩
theorem d_law_cell (B : B0 mg) (A0 : At K mg "_law_cell" s_law_cell) (D_law_take : Dn P w K mg base "_law_take" ["_law_draws_here", "_law_many"] 1 (sp_law_take K T)) : Dn P w K mg base "_law_cell" ["_law_script", "_law_draws_here"] 2 (sp_law_cell K T) := by
  obtain ⟨f_law_take, fd_law_take, G_law_take, g_law_take, k_law_take, b_law_take⟩ := D_law_take
  refine dn2 A0 sc_law_cell (fun _ _ F => F.bindsN fun _ _ _ _ _ _ us hl => match us, hl with | [_, _], _ => rfl) fun f cdv A outer s H a0 a1 Q E hr h => ?_
  have nd := sc_law_cell.nd
  refine ⟨_, (pss_cons
  (ps_if (pt_cmpR op_eq (pe_callB (kLen (K := K) rfl) (by rfl) B.len PySem.boot_len (pa_cons (pv 0) pa_nil)) pe_int (by rfl)) (pss_one
  (ps_ret pe_int)) pss_nil)
  (pss_one
  (ps_ret (pe_callTy call_int1 (by rfl) B.int (by decide +kernel) (pa_cons (pe_ix (kIxL (K := K) rfl) (pv 0) (pe_call G_law_take (hr.mono (by decide)) (by rfl) g_law_take k_law_take b_law_take .nil pass0 (pa_cons (pv 1) (pa_cons (pe_callB (kLen (K := K) rfl) (by rfl) B.len PySem.boot_len (pa_cons (pv 0) pa_nil)) pa_nil))) (fun _ _ => rfl)) pa_nil))))), ?_⟩
  obtain ⟨s, p, ns, rfl, hs, hsp, rfl, hp, q⟩ := h
  walk_at "st"
  refine ⟨s, _, rfl, Or.inl hs, ?_⟩
  rw [List.length_map]
  walk_at "st"
  refine q_eqI ⟨_, rfl, ite2 (fun e => ?_) (fun e => ?_)⟩
  · walk_at "st"
    exact q 0 _ (Fr.reflM hp.m) hp
  · rw [decide_eq_true_eq] at e
    walk_at "st"
    dsimp only
    walk_at "st"
    refine ⟨s, _, rfl, Or.inl hs, ?_⟩
    rw [List.length_map]
    walk_at "st"
    refine ⟨_, _, rfl, p, ns.length, rfl, hp, rfl, by omega, fun r H1 r0 r1 f1 d1 => ?_⟩
    obtain ⟨y, hy⟩ : ∃ y, ns[r.toNat]? = some y := ⟨_, List.getElem?_eq_getElem (by omega)⟩
    refine ⟨s, _, r, .int y, rfl, rfl, f1.sqL (by simpa using hsp) hs, at_map r0 hy, ?_⟩
    walk_at "st"
    exact Or.inl ⟨_, rfl, q y _ f1 d1⟩
end
end Nc
set_option maxHeartbeats 4000000
/-! GB: mixed rows, groups, contracts. -/
namespace Nc
open PySem PySem.Spec L2
theorem ins_perm (ns : List Int) (k : Nat) (c : Int) : (ns.take k ++ [c] ++ ns.drop k).Perm (c :: ns) := by
  have h : (ns.take k ++ [c] ++ ns.drop k).Perm ([c] ++ ns.take k ++ ns.drop k) := (List.perm_append_comm).append_right _
  refine h.trans ?_
  rw [List.append_assoc, List.take_append_drop]
  exact List.Perm.refl _
structure Mix (cs ns : List Int) (share : Int) : Prop where
  nd : ns.Nodup
  sub : ∀ c ∈ ns, c ∈ cs
  all : 8 ≤ share → ns.Perm cs
theorem nodup_len : ∀ {xs ys : List Int}, xs.Nodup → (∀ c ∈ xs, c ∈ ys) → xs.length ≤ ys.length
  | [], ys, _, _ => Nat.zero_le _
  | x :: xs, ys, nd, h => by
    obtain ⟨h1, h2⟩ := List.nodup_cons.mp nd
    have hx := h x List.mem_cons_self
    have := nodup_len (ys := ys.erase x) h2 fun c hc => (List.mem_erase_of_ne (fun z : c = x => h1 (z ▸ hc))).mpr (h c (List.mem_cons_of_mem _ hc))
    rw [List.length_erase_of_mem hx] at this
    have h0 : 0 < ys.length := List.length_pos_of_mem hx
    rw [List.length_cons]
    omega
theorem Mix.len {cs ns : List Int} {share : Int} (m : Mix cs ns share) : ns.length ≤ cs.length := nodup_len m.nd m.sub
local macro_rules | `(tactic| walk_at "st") => `(tactic| (repeat (first
  | ((with_reducible refine' r_var ?e ?_); (case e => exact rfl))
  | (with_reducible refine' r_op ?_)
  | (with_reducible refine' r_c ?_)
  | (with_reducible refine' r_cons ?_)
  | (with_reducible refine' r_nil ?_)
  | (with_reducible refine' r_cb ?_)
  | (with_reducible refine' r_call ?_)
  | (with_reducible refine' r_test ?_)
  | (with_reducible refine' r_lc ?_)
  | (with_reducible refine' r_lc2 ?_)
  | (with_reducible refine' r_sk ?_)
  | (with_reducible refine' r_iZ ?_)
  | (with_reducible refine' r_sl3 ?_)
  | (with_reducible refine' r_bmZ ?_)
  | (with_reducible refine' r_dg ?_)
  | (with_reducible refine' r_dpS ?_)
  | (with_reducible refine' r_dp1 ?_)
  | (with_reducible refine' r_dn ?_)
  | (with_reducible refine' r_iT ?_)
  | (with_reducible refine' r_iL ?_)
  | (with_reducible refine' r_iE ?_)
  | (with_reducible refine' r_iR ?_)
  | (with_reducible refine' r_ret ?_)
  | (with_reducible refine' r_asgS ?_)
  | (with_reducible refine' r_asg1 ?_)
  | (with_reducible refine' r_asgTS ?_)
  | (with_reducible refine' r_ifS ?_)
  | (with_reducible refine' r_if1 ?_)
  | (with_reducible refine' r_forS ?_)
  | (with_reducible refine' r_for1 ?_)
  | (with_reducible refine' r_dropS ?_)
  | (with_reducible refine' r_drop1 ?_)
  | (with_reducible refine' r_tup ?_)
  | (with_reducible refine' r_lst ?_)
  | (with_reducible refine' r_sl ?_)
  | (with_reducible refine' r_noP ?_)
  | (with_reducible refine' r_part ?_)
  | (with_reducible refine' r_bm ?_)
  | (with_reducible refine' r_bm0 ?_)
  | (with_reducible refine' r_un ?_)
  | (with_reducible refine' r_notV ?_)
  | (with_reducible refine' r_B ?_)
  | (with_reducible refine' r_and ?_)
  | (with_reducible refine' r_or ?_)
  | (with_reducible refine' r_not ?_)
  | (with_reducible refine' r_yes ?_)
  | (with_reducible refine' r_next ?_)
  | (with_reducible refine' r_break ?_)
  | (with_reducible refine' r_gn ?_)
  | (with_reducible refine' r_tupRg ?_)
  | (with_reducible refine' r_rg1 ?_)
  )))
local macro_rules | `(tactic| walk_at "no") => `(tactic| (refine q_eqS ⟨_, rfl, ite2 (fun e => absurd (of_decide_eq_true e) (by decide +kernel)) (fun _ => ?_)⟩; walk_at "st"; try dsimp only))
local macro_rules | `(tactic| walk_at "yes") => `(tactic| (refine q_eqS ⟨_, rfl, ite2 (fun _ => ?_) (fun e => absurd (decide_eq_true rfl) e)⟩; walk_at "st"))
section
variable {P : Program} {w : World} {K : PySem.W.Frag} {mg : Str → Option Value} {base : Heap}
variable {T : List (Addr × Str)}
def sp_law_mixed (K : PySem.W.Frag) (T : List (Addr × Str)) : Sp := Sp3 fun a b c H Q => ∃ (p l : Addr) (cs : List Int) (share : Int), a = .ref p ∧ Dr H p ∧ b = .ref l ∧ H l = some (.lst (cs.map V.int)) ∧ l ≠ p ∧ cs.Nodup ∧ cs.length ≤ 100 ∧ c = .int share ∧
  ∀ v H' ns, Mix cs ns share → Fr T [p] H H' → Dr H' p → Td K H' v (tI ns) → TupZ H' v → Q v H'
/-! ### _law_mixed -/
abbrev s_law_mixed : Stmt := topS 36
abbrev N_law_mixed : List Str := ["_law_draws_here", "_law_contracts", "_law_share", "_law_row", "_law_contract"]
theorem sc_law_mixed : FnScope N_law_mixed ["_law_draws_here", "_law_contracts", "_law_share"] (defScope s_law_mixed) := ⟨rfl, rfl, rfl, by decide +kernel, rfl, by decide +kernel, by decide +kernel⟩
theorem d_law_mixed (B : B0 mg) (A0 : At K mg "_law_mixed" s_law_mixed) (D_law_take : Dn P w K mg base "_law_take" ["_law_draws_here", "_law_many"] 1 (sp_law_take K T)) : Dn P w K mg base "_law_mixed" ["_law_draws_here", "_law_contracts", "_law_share"] 2 (sp_law_mixed K T) := by
  obtain ⟨f_law_take, fd_law_take, G_law_take, g_law_take, k_law_take, b_law_take⟩ := D_law_take
  refine dn3 A0 sc_law_mixed (fun _ _ F => F.bindsN fun _ _ _ _ _ _ us hl => match us, hl with | [_, _, _], _ => rfl) fun f cdv A outer s H a0 a1 a2 Q E hr h => ?_
  have nd := sc_law_mixed.nd
  refine ⟨_, (pss_cons
  (ps_set (i := 3) nd rfl (by first | exact Or.inl rfl | exact Or.inr rfl) (pe_lst pa_nil))
  (pss_cons
  (ps_for PassesOwn.never rfl (kpList (K := K) rfl (pv 1)) (pg_name (i := 4) nd rfl (by first | exact Or.inl rfl | exact Or.inr rfl)) (pss_one
  (ps_if (pt_cmpR op_lt (pe_call G_law_take (hr.mono (by decide)) (by rfl) g_law_take k_law_take b_law_take .nil pass0 (pa_cons (pv 0) (pa_cons pe_int pa_nil))) (pv 2) (by rfl)) (pss_one
  (ps_expr (pe_bm PySem.F.plainAttrs_list PySem.F.slot_list_insert PySem.F.type_list_insert mt_insert (pv 3) (pa_cons (pe_call G_law_take (hr.mono (by decide)) (by rfl) g_law_take k_law_take b_law_take .nil pass0 (pa_cons (pv 0) (pa_cons (pe_op op_add (pe_callB (kLen (K := K) rfl) (by rfl) B.len PySem.boot_len (pa_cons (pv 3) pa_nil)) pe_int) pa_nil))) (pa_cons (pv 4) pa_nil))))) pss_nil)))
  (pss_one
  (ps_ret (pe_callTy (kTupleZ (K := K) rfl) (by rfl) B.tuple (by decide +kernel) (pa_cons (pv 3) pa_nil)))))), ?_⟩
  obtain ⟨p, l, cs, share, rfl, hp, rfl, hl, hlp, nd, hz, rfl, q⟩ := h
  walk_at "st"
  refine ⟨Nat.zero_le _, fun ra hra => ?_⟩
  have npr : p ≠ ra := by
    obtain ⟨ds, e⟩ := hp
    exact ne_of_none e hra
  have f0 : Fr T [p] H (upd H ra (.lst [])) := (Fr.new hra).wide hp.m
  have d0 : Dr (upd H ra (.lst [])) p := hp.upd npr
  have ha0 : (upd H ra (.lst [])) ra = some (.lst (([] : List Int).map V.int)) := upd_same
  generalize upd H ra (.lst []) = H1 at f0 d0 ha0
  walk_at "st"
  refine for_LK (K := K) cs .int (xs := cs.map V.int) (by rw [List.length_map]) (fun i σ H' => ∃ (ns : List Int) (x : Option V), σ = [some (.ref p), some (.ref l), some (.int share), some (.ref ra), x] ∧ Fr T [p] H H' ∧ Dr H' p ∧ H' ra = some (.lst (ns.map V.int)) ∧ Mix (cs.take i) ns share ∧ ns.length ≤ i)
    ⟨[], none, rfl, f0, d0, ha0, ⟨List.nodup_nil, by simp, fun _ => by simp⟩, Nat.zero_le _⟩ ⟨_, SqL.of (f0.lst hl (by simpa using hlp))⟩ (fun i σ H' q => by
      obtain ⟨_, _, _, f, _⟩ := q
      exact ⟨f.lst hl (by simpa using hlp), tdAll_ints cs⟩) ?_ ?_
  · rintro i c v σ' H2 hi ⟨ns, x, rfl, f2, d2, ha2, mx, hnl⟩ tv
    obtain rfl := tv.int_inv
    have hil : i < cs.length := (List.getElem?_eq_some_iff.mp hi).1
    have hcn : c ∉ cs.take i := fun hm => by
      obtain ⟨j, hj⟩ := List.mem_iff_getElem?.mp hm
      have hji : j < i := by
        have := (List.getElem?_eq_some_iff.mp hj).1
        rw [List.length_take] at this
        omega
      rw [List.getElem?_take_of_lt hji] at hj
      obtain ⟨h1, h2⟩ := List.getElem?_eq_some_iff.mp hj
      obtain ⟨h3, h4⟩ := List.getElem?_eq_some_iff.mp hi
      have := (List.getElem_inj nd (h₀ := h1) (h₁ := h3)).mp (h2.trans h4.symm)
      omega
    walk_at "st"
    refine ⟨_, _, rfl, p, 8, rfl, d2, rfl, by decide, fun r H3 r0 r8 f3 d3 => ?_⟩
    have ha3 := f3.lst ha2 (by simpa using npr.symm)
    walk_at "st"
    refine q_I ⟨_, rfl, ite2 (fun e => ?_) (fun e => ?_)⟩
    · walk_at "st"
      refine ⟨ty_lst ha3, ?_⟩
      walk_at "st"
      refine q_lenL ha3 ?_
      rw [List.length_map]
      walk_at "st"
      refine q_I ?_
      walk_at "st"
      refine ⟨_, _, rfl, p, (ns.length : Int) + 1, rfl, d3, rfl, by omega, fun k H4 k0 k1 f4 d4 => ?_⟩
      have ha4 := f4.lst ha3 (by simpa using npr.symm)
      walk_at "st"
      refine ⟨ra, _, k, _, rfl, rfl, ha4, by rw [List.length_map]; exact line_of (by omega), k0, by omega, ?_⟩
      have em : (ns.map V.int).take k.toNat ++ [V.int c] ++ (ns.map V.int).drop k.toNat = (ns.take k.toNat ++ [c] ++ ns.drop k.toNat).map V.int := by
        rw [List.map_append, List.map_append, List.map_take, List.map_drop]
        rfl
      rw [em]
      have pm := ins_perm ns k.toNat c
      dsimp only
      refine ⟨ns.take k.toNat ++ [c] ++ ns.drop k.toNat, _, rfl, ((f2.trans f3).trans f4).mut (Fresh.of hra) ha4, d4.upd npr, upd_same, ⟨?_, ?_, ?_⟩, ?_⟩
      · rw [pm.nodup_iff, List.nodup_cons]
        exact ⟨fun z => hcn (mx.sub c z), mx.nd⟩
      · intro z hz
        rw [take_snoc hi]
        rcases List.mem_cons.mp (pm.mem_iff.mp hz) with rfl | hz
        · exact List.mem_append_right _ (List.mem_singleton.mpr rfl)
        · exact List.mem_append_left _ (mx.sub z hz)
      · intro h8
        rw [take_snoc hi]
        exact (pm.trans ((mx.all h8).cons c)).trans (List.perm_append_singleton c _).symm
      · rw [pm.length_eq, List.length_cons]
        omega
    · walk_at "st"
      refine ⟨ns, _, rfl, f2.trans f3, d3, ha3, ⟨mx.nd, fun z hz => ?_, fun h8 => ?_⟩, by omega⟩
      · rw [take_snoc hi]
        exact List.mem_append_left _ (mx.sub z hz)
      · exfalso
        exact e (decide_eq_true (by omega))
  · rintro σ' H2 ⟨ns, x, rfl, f2, d2, ha2, mx, hnl⟩
    rw [List.take_of_length_le (Nat.le_refl _)] at mx
    dsimp only
    walk_at "st"
    refine ⟨ra, _, rfl, SqL.of ha2, fun v ob hc hd hv => ?_⟩
    have f3 : Fr T [] H2 (upd H2 v (.frz ob (.tup (ns.map V.int)))) := Fr.new hv
    exact q _ _ ns mx (f2.trans (f3.wide d2.m)) (d2.keep f3) (td_of (Or.inl (Or.inr ⟨ob, upd_same⟩))) ⟨v, ob, _, rfl, upd_same, hc, hd⟩
end
end Nc
set_option maxHeartbeats 4000000
/-! GC: groups. -/
namespace Nc
open PySem PySem.Spec L2
structure Gr (cs : List Int) (gs : List (List Int × Int)) : Prop where
  lam : Laminar gs
  nd : ∀ g ∈ gs, g.1.Nodup
  len : gs.length ≤ 3
  le : ∀ g ∈ gs, g.1.length ≤ cs.length
theorem gr_of {cs hs : List Int} {k : Nat} {gs : List (List Int × Int)} (nd : cs.Nodup) (hn : hs.Nodup) (hsub : ∀ c ∈ hs, c ∈ cs) (hk : (∀ c ∈ hs, c ∈ cs.take k) ∨ ∀ c ∈ hs, c ∉ cs.take k) (h : (gs.map (·.1)).Sublist [hs, cs.take k, cs]) : Gr cs gs := by
  have mem : ∀ g ∈ gs, g.1 = hs ∨ g.1 = cs.take k ∨ g.1 = cs := fun g hg => by
    have := h.mem (List.mem_map.mpr ⟨g, hg, rfl⟩)
    simpa using this
  have tsub : ∀ c ∈ cs.take k, c ∈ cs := fun c hc => List.mem_of_mem_take hc
  have lens : hs.length ≤ cs.length := nodup_len hn hsub
  refine ⟨fun g hg g' hg' => ?_, fun g hg => ?_, ?_, fun g hg => ?_⟩
  · rcases mem g hg with e | e | e <;> rcases mem g' hg' with e' | e' | e' <;> rw [e, e']
    · exact Or.inr (Or.inl fun _ z => z)
    · exact hk.elim (fun z => Or.inr (Or.inl z)) fun z => Or.inl z
    · exact Or.inr (Or.inl hsub)
    · exact hk.elim (fun z => Or.inr (Or.inr z)) fun z => Or.inl fun c h1 h2 => z c h2 h1
    · exact Or.inr (Or.inl fun _ z => z)
    · exact Or.inr (Or.inl tsub)
    · exact Or.inr (Or.inr hsub)
    · exact Or.inr (Or.inr tsub)
    · exact Or.inr (Or.inl fun _ z => z)
  · rcases mem g hg with e | e | e <;> rw [e]
    · exact hn
    · exact nd.sublist (List.take_sublist _ _)
    · exact nd
  · have := h.length_le
    rwa [List.length_map] at this
  · rcases mem g hg with e | e | e <;> rw [e]
    · exact lens
    · rw [List.length_take]
      exact Nat.min_le_right _ _
    · exact Nat.le_refl _
theorem at3 {α : Type} {x y z : α} {r : Int} (h0 : 0 ≤ r) (h3 : r < 3) : ∃ u, atI [x, y, z] r = some u ∧ (u = x ∨ u = y ∨ u = z) := by
  have : r = 0 ∨ r = 1 ∨ r = 2 := by omega
  rcases this with rfl | rfl | rfl
  · exact ⟨x, rfl, Or.inl rfl⟩
  · exact ⟨y, rfl, Or.inr (Or.inl rfl)⟩
  · exact ⟨z, rfl, Or.inr (Or.inr rfl)⟩
/-- the item at a draw of a row of ints -/
theorem at_draw {ns : List Int} {r : Int} (h0 : 0 ≤ r) (h : r < ns.length) : ∃ c ∈ ns, atI (ns.map V.int) r = some (.int c) := by
  have hl : r.toNat < ns.length := by omega
  exact ⟨ns[r.toNat], List.getElem_mem hl, at_map h0 (List.getElem?_eq_getElem hl)⟩
/-- over a list of lists of ints -/
theorem for_LL {K : PySem.W.Frag} {H1 : Hp} {σ : St} {D : Ends} {tb : TS} {g : TG} {a : Addr} (cd : List (Addr × List Int)) (Pv : Nat → St → Hp → Prop) (h0 : Pv 0 σ H1) (h1 : ∃ xs, SqL K H1 a xs) (hF : ∀ i σ H', Pv i σ H' → H' a = some (.lst (cd.map fun c => V.ref c.1)))
    (hs : ∀ (i : Nat) (c : Addr × List Int) (σ' : St) (H' : Hp), cd[i]? = some c → Pv i σ' H' → g (.ref c.1) σ' H' fun σ2 H2 => tb { D with nx := Pv (i + 1), ct := Pv (i + 1), bk := D.nx } σ2 H2)
    (hd : ∀ σ' H', Pv cd.length σ' H' → D.nx σ' H') : ∃ a', V.ref a = .ref a' ∧ (∃ xs, SqL K H1 a' xs) ∧ ForQ (Itl K a') g tb D σ H1 := by
  have hl : (cd.map fun c => V.ref c.1).length = cd.length := List.length_map ..
  refine ⟨a, rfl, h1, for_it (walk_list (K := K) (a := a) (xs := cd.map fun c => V.ref c.1)) Pv h0 (fun i σ' H' _ p => SqL.of (hF i σ' H' p)) ?_ (fun σ' H' p => hd σ' H' (hl ▸ p))⟩
  rintro i x σ' Ha Hb hi p ⟨rfl, hx'⟩
  rw [hl] at hi
  have hb : cd[i]? = some cd[i] := List.getElem?_eq_getElem hi
  rw [List.getElem?_map, hb] at hx'
  cases hx'
  exact hs i _ σ' Hb hb p
local macro_rules | `(tactic| walk_at "st") => `(tactic| (repeat (first
  | ((with_reducible refine' r_var ?e ?_); (case e => exact rfl))
  | (with_reducible refine' r_op ?_)
  | (with_reducible refine' r_c ?_)
  | (with_reducible refine' r_cons ?_)
  | (with_reducible refine' r_nil ?_)
  | (with_reducible refine' r_cb ?_)
  | (with_reducible refine' r_call ?_)
  | (with_reducible refine' r_test ?_)
  | (with_reducible refine' r_lc ?_)
  | (with_reducible refine' r_lc2 ?_)
  | (with_reducible refine' r_sk ?_)
  | (with_reducible refine' r_iZ ?_)
  | (with_reducible refine' r_sl3 ?_)
  | (with_reducible refine' r_bmZ ?_)
  | (with_reducible refine' r_dg ?_)
  | (with_reducible refine' r_dpS ?_)
  | (with_reducible refine' r_dp1 ?_)
  | (with_reducible refine' r_dn ?_)
  | (with_reducible refine' r_iT ?_)
  | (with_reducible refine' r_iL ?_)
  | (with_reducible refine' r_iE ?_)
  | (with_reducible refine' r_iR ?_)
  | (with_reducible refine' r_ret ?_)
  | (with_reducible refine' r_asgS ?_)
  | (with_reducible refine' r_asg1 ?_)
  | (with_reducible refine' r_asgTS ?_)
  | (with_reducible refine' r_ifS ?_)
  | (with_reducible refine' r_if1 ?_)
  | (with_reducible refine' r_forS ?_)
  | (with_reducible refine' r_for1 ?_)
  | (with_reducible refine' r_dropS ?_)
  | (with_reducible refine' r_drop1 ?_)
  | (with_reducible refine' r_tup ?_)
  | (with_reducible refine' r_lst ?_)
  | (with_reducible refine' r_sl ?_)
  | (with_reducible refine' r_noP ?_)
  | (with_reducible refine' r_part ?_)
  | (with_reducible refine' r_bm ?_)
  | (with_reducible refine' r_bm0 ?_)
  | (with_reducible refine' r_un ?_)
  | (with_reducible refine' r_notV ?_)
  | (with_reducible refine' r_B ?_)
  | (with_reducible refine' r_and ?_)
  | (with_reducible refine' r_or ?_)
  | (with_reducible refine' r_not ?_)
  | (with_reducible refine' r_yes ?_)
  | (with_reducible refine' r_next ?_)
  | (with_reducible refine' r_break ?_)
  | (with_reducible refine' r_gn ?_)
  | (with_reducible refine' r_tupRg ?_)
  | (with_reducible refine' r_rg1 ?_)
  )))
local macro_rules | `(tactic| walk_at "no") => `(tactic| (refine q_eqS ⟨_, rfl, ite2 (fun e => absurd (of_decide_eq_true e) (by decide +kernel)) (fun _ => ?_)⟩; walk_at "st"; try dsimp only))
local macro_rules | `(tactic| walk_at "yes") => `(tactic| (refine q_eqS ⟨_, rfl, ite2 (fun _ => ?_) (fun e => absurd (decide_eq_true rfl) e)⟩; walk_at "st"))
section
variable {P : Program} {w : World} {K : PySem.W.Frag} {mg : Str → Option Value} {base : Heap}
variable {T : List (Addr × Str)}
def sp_law_groups (K : PySem.W.Frag) (T : List (Addr × Str)) : Sp := Sp2 fun a b H Q => ∃ (p l : Addr) (cs : List Int), a = .ref p ∧ Dr H p ∧ b = .ref l ∧ H l = some (.lst (cs.map V.int)) ∧ l ≠ p ∧ cs.Nodup ∧ cs.length ≤ 100 ∧
  ∀ v H' gs, Gr cs gs → Fr T [p] H H' → Dr H' p → Td K H' v (.tuple (gs.map eG)) → Q v H'
/-! ### _law_groups -/
abbrev s_law_groups : Stmt := topS 37
abbrev N_law_groups : List Str := ["_law_draws_here", "_law_contracts", "_law_cut", "_law_groups_here", "_law_half", "_law_group"]
theorem sc_law_groups : FnScope N_law_groups ["_law_draws_here", "_law_contracts"] (defScope s_law_groups) := ⟨rfl, rfl, rfl, by decide +kernel, rfl, by decide +kernel, by decide +kernel⟩
theorem d_law_groups (B : B0 mg) (A0 : At K mg "_law_groups" s_law_groups) (D_law_take : Dn P w K mg base "_law_take" ["_law_draws_here", "_law_many"] 1 (sp_law_take K T)) : Dn P w K mg base "_law_groups" ["_law_draws_here", "_law_contracts"] 2 (sp_law_groups K T) := by
  obtain ⟨f_law_take, fd_law_take, G_law_take, g_law_take, k_law_take, b_law_take⟩ := D_law_take
  refine dn2 A0 sc_law_groups (fun _ _ F => F.bindsN fun _ _ _ _ _ _ us hl => match us, hl with | [_, _], _ => rfl) fun f cdv A outer s H a0 a1 Q E hr h => ?_
  have nd := sc_law_groups.nd
  refine ⟨_, (pss_cons
  (ps_set (i := 2) nd rfl (by first | exact Or.inl rfl | exact Or.inr rfl) (pe_call G_law_take (hr.mono (by decide)) (by rfl) g_law_take k_law_take b_law_take .nil pass0 (pa_cons (pv 0) (pa_cons (pe_op op_add (pe_callB (kLen (K := K) rfl) (by rfl) B.len PySem.boot_len (pa_cons (pv 1) pa_nil)) pe_int) pa_nil))))
  (pss_cons
  (ps_set (i := 3) nd rfl (by first | exact Or.inl rfl | exact Or.inr rfl) (pe_lst pa_nil))
  (pss_cons
  (ps_set (i := 4) nd rfl (by first | exact Or.inl rfl | exact Or.inr rfl) (pe_ix (kIxL (K := K) rfl) (pe_lst (pa_cons (pe_slice (kSlL (K := K) rfl) (pv 1) po_none (po_some (pe_op op_fdiv (pv 2) pe_int))) (pa_cons (pe_slice (kSlL (K := K) rfl) (pv 1) (po_some (pv 2)) po_none) (pa_cons (pe_slice3 (K := K) rfl (pv 1) po_none (po_some (pv 2)) (po_some pe_int)) pa_nil)))) (pe_call G_law_take (hr.mono (by decide)) (by rfl) g_law_take k_law_take b_law_take .nil pass0 (pa_cons (pv 0) (pa_cons pe_int pa_nil))) (fun _ _ => rfl)))
  (pss_cons
  (ps_for PassesOwn.never rfl (kpList (K := K) rfl (pe_lst (pa_cons (pv 4) (pa_cons (pe_slice (kSlL (K := K) rfl) (pv 1) po_none (po_some (pv 2))) (pa_cons (pv 1) pa_nil))))) (pg_name (i := 5) nd rfl (by first | exact Or.inl rfl | exact Or.inr rfl)) (pss_one
  (ps_if (PW.pt (pw_and (pt_cmpR op_gt (pe_callB (kLen (K := K) rfl) (by rfl) B.len PySem.boot_len (pa_cons (pv 5) pa_nil)) pe_int (by rfl)) (pw_and1 (pt_cmpR op_eq (pe_call G_law_take (hr.mono (by decide)) (by rfl) g_law_take k_law_take b_law_take .nil pass0 (pa_cons (pv 0) (pa_cons pe_int pa_nil))) pe_int (by rfl))))) (pss_one
  (ps_expr (pe_bm PySem.F.plainAttrs_list PySem.F.slot_list_append PySem.F.type_list_append mt_append (pv 3) (pa_cons (pe_tup (pa_cons (pe_callTy (kTuple (K := K) rfl) (by rfl) B.tuple (by decide +kernel) (pa_cons (pv 5) pa_nil)) (pa_cons (pe_ix (kIxL (K := K) rfl) (pe_lst (pa_cons pe_int (pa_cons pe_int (pa_cons pe_int (pa_cons pe_int (pa_cons pe_int pa_nil)))))) (pe_call G_law_take (hr.mono (by decide)) (by rfl) g_law_take k_law_take b_law_take .nil pass0 (pa_cons (pv 0) (pa_cons pe_int pa_nil))) (fun _ _ => rfl)) pa_nil))) pa_nil)))) pss_nil)))
  (pss_one
  (ps_ret (pe_callTy (kTuple (K := K) rfl) (by rfl) B.tuple (by decide +kernel) (pa_cons (pv 3) pa_nil)))))))), ?_⟩
  obtain ⟨p, l, cs, rfl, hp, rfl, hl, hlp, nd, hz, q⟩ := h
  have cl : (cs.map V.int).length = cs.length := List.length_map ..
  walk_at "st"
  refine q_lenL hl ?_
  rw [cl]
  walk_at "st"
  refine q_I ?_
  walk_at "st"
  refine ⟨_, _, rfl, p, (cs.length : Int) + 1, rfl, hp, rfl, by omega, fun cut H1 c0 c1 f1 d1 => ?_⟩
  obtain ⟨k, rfl⟩ : ∃ k : Nat, cut = k := ⟨cut.toNat, by omega⟩
  have hk : k ≤ cs.length := by omega
  have hl1 := f1.lst hl (by simpa using hlp)
  walk_at "st"
  refine ⟨Nat.zero_le _, fun ga hga => ?_⟩
  have npg : p ≠ ga := by
    obtain ⟨ds, e⟩ := d1
    exact ne_of_none e hga
  have nlg : l ≠ ga := ne_of_none hl1 hga
  have ng : Fresh H ga := f1.fresh (Fresh.of hga)
  have f2 : Fr T [p] H1 (upd H1 ga (.lst [])) := (Fr.new hga).wide d1.m
  have d2 : Dr (upd H1 ga (.lst [])) p := d1.upd npg
  have hg2 : (upd H1 ga (.lst [])) ga = some (.lst []) := upd_same
  generalize upd H1 ga (.lst []) = H2 at f2 d2 hg2
  have hl2 := f2.lst hl1 (by simpa using hlp)
  walk_at "st"
  refine q_IC ⟨by decide, by decide⟩ ?_
  refine ⟨_, rfl, q_slL hl2 fun h1 hh1 => ?_⟩
  have e2 : ((k : Int) / 2) = ((k / 2 : Nat) : Int) := by omega
  rw [e2, cut_to, ← List.map_take]
  have f3 : Fr T [] H2 (upd H2 h1 (.lst ((cs.take (k / 2)).map V.int))) := Fr.new hh1
  have hh3 : (upd H2 h1 (.lst ((cs.take (k / 2)).map V.int))) h1 = some (.lst ((cs.take (k / 2)).map V.int)) := upd_same
  generalize upd H2 h1 (.lst ((cs.take (k / 2)).map V.int)) = H3 at f3 hh3
  walk_at "st"
  refine ⟨_, rfl, ?_⟩
  walk_at "st"
  refine q_slL (f3.lst0 hl2) fun h2 hh2 => ?_
  rw [cut_from, ← List.map_drop]
  have f4 : Fr T [] H3 (upd H3 h2 (.lst ((cs.drop k).map V.int))) := Fr.new hh2
  have hh4 : (upd H3 h2 (.lst ((cs.drop k).map V.int))) h2 = some (.lst ((cs.drop k).map V.int)) := upd_same
  generalize upd H3 h2 (.lst ((cs.drop k).map V.int)) = H4 at f4 hh4
  walk_at "st"
  refine ⟨_, rfl, ?_⟩
  walk_at "st"
  refine ⟨_, rfl, ?_⟩
  obtain ⟨ev1, ev2⟩ := cut_two (ns := cs) hk nd
  have evl : (cut3 cs none (some (k : Int)) (some 2)).length ≤ 100 := Nat.le_trans (nodup_len ev1 fun c hc => List.mem_of_mem_take (ev2 c hc)) hz
  refine ⟨l, _, rfl, SqL.of ((f3.trans f4).lst0 hl2), by simp, by rw [cut3_map, List.length_map]; exact Nat.le_of_lt (line_of (by omega)), fun h3 hh3' => ?_⟩
  rw [cut3_map]
  have f5 : Fr T [] H4 (upd H4 h3 (.lst ((cut3 cs none (some (k : Int)) (some 2)).map V.int))) := Fr.new hh3'
  have hh5 : (upd H4 h3 (.lst ((cut3 cs none (some (k : Int)) (some 2)).map V.int))) h3 = some (.lst ((cut3 cs none (some (k : Int)) (some 2)).map V.int)) := upd_same
  generalize upd H4 h3 (.lst ((cut3 cs none (some (k : Int)) (some 2)).map V.int)) = H5 at f5 hh5
  walk_at "st"
  refine ⟨Nat.le_of_lt (line_of (show (3 : Nat) ≤ 100000 by decide)), fun h6 hh6 => ?_⟩
  have f6 : Fr T [] H5 (upd H5 h6 (.lst [.ref h1, .ref h2, .ref h3])) := Fr.new hh6
  have hx6 : (upd H5 h6 (.lst [.ref h1, .ref h2, .ref h3])) h6 = some (.lst [.ref h1, .ref h2, .ref h3]) := upd_same
  generalize upd H5 h6 (.lst [.ref h1, .ref h2, .ref h3]) = H6 at f6 hx6
  have f26 : Fr T [] H2 H6 := ((f3.trans f4).trans f5).trans f6
  have d6 := d2.keep f26
  have ne6 : ∀ {a : Addr} {xs : List V}, H6 a = some (.lst xs) → Fresh H2 a → a ≠ p := fun {a xs} e hf z => by
    subst z
    obtain ⟨ds, e'⟩ := d2
    exact hf.lst e' rfl
  have n6p : h6 ≠ p := ne6 hx6 (((f3.trans f4).trans f5).there hh6)
  walk_at "st"
  refine ⟨_, _, rfl, p, 3, rfl, d6, rfl, by decide, fun r H7 r0 r3 f7 d7 => ?_⟩
  obtain ⟨u, hu, hor⟩ := at3 (x := V.ref h1) (y := V.ref h2) (z := V.ref h3) r0 r3
  refine q_ixL (f7.lst hx6 (by simpa using n6p)) hu ?_
  have half : ∃ (hx : Addr) (hs : List Int), u = .ref hx ∧ H7 hx = some (.lst (hs.map V.int)) ∧ Fresh H2 hx ∧ hs.Nodup ∧ (∀ c ∈ hs, c ∈ cs) ∧ ((∀ c ∈ hs, c ∈ cs.take k) ∨ ∀ c ∈ hs, c ∉ cs.take k) := by
    rcases hor with rfl | rfl | rfl
    · have e := ((f4.trans f5).trans f6).lst0 hh3
      refine ⟨h1, _, rfl, f7.lst e (by simpa using ne6 e (Fresh.of hh1)), Fresh.of hh1, nd.sublist (List.take_sublist _ _), fun c hc => List.mem_of_mem_take hc, Or.inl fun c hc => ?_⟩
      have : cs.take (k / 2) = (cs.take k).take (k / 2) := by rw [List.take_take]; congr 1; omega
      rw [this] at hc
      exact List.mem_of_mem_take hc
    · have e := (f5.trans f6).lst0 hh4
      refine ⟨h2, _, rfl, f7.lst e (by simpa using ne6 e (f3.there hh2)), f3.there hh2, nd.sublist (List.drop_sublist _ _), fun c hc => List.mem_of_mem_drop hc, Or.inr fun c hc hc2 => ?_⟩
      have h := nd
      rw [← List.take_append_drop k cs, List.nodup_append] at h
      exact h.2.2 c hc2 c hc rfl
    · have e := f6.lst0 hh5
      exact ⟨h3, _, rfl, f7.lst e (by simpa using ne6 e ((f3.trans f4).there hh3')), (f3.trans f4).there hh3', ev1, fun c hc => List.mem_of_mem_take (ev2 c hc), Or.inl ev2⟩
  obtain ⟨hx, hs, rfl, hx7, fx, hsn, hsub, hkk⟩ := half
  have f27 : Fr T [p] H2 H7 := (f26.wide d2.m).trans f7
  have hl7 := f27.lst hl2 (by simpa using hlp)
  have hg7 := f27.lst hg2 (by simpa using npg.symm)
  have hslen : hs.length ≤ 100 := Nat.le_trans (nodup_len hsn hsub) hz
  have nxp : hx ≠ p := fun z => by
    subst z
    obtain ⟨ds, e'⟩ := d2
    exact fx.lst e' rfl
  have nxg : hx ≠ ga := fun z => by
    subst z
    exact fx.lst hg2 rfl
  walk_at "st"
  refine ⟨_, rfl, q_slL hl7 fun h8 hh8 => ?_⟩
  rw [cut_to, ← List.map_take]
  have f8 : Fr T [] H7 (upd H7 h8 (.lst ((cs.take k).map V.int))) := Fr.new hh8
  have hx8 : (upd H7 h8 (.lst ((cs.take k).map V.int))) h8 = some (.lst ((cs.take k).map V.int)) := upd_same
  have n8p : h8 ≠ p := by
    obtain ⟨ds, e⟩ := d7
    exact (ne_of_none e hh8).symm
  have n8g : h8 ≠ ga := (ne_of_none hg7 hh8).symm
  generalize upd H7 h8 (.lst ((cs.take k).map V.int)) = H8 at f8 hx8
  walk_at "st"
  refine ⟨Nat.le_of_lt (line_of (show (3 : Nat) ≤ 100000 by decide)), fun h9 hh9 => ?_⟩
  have f9 : Fr T [] H8 (upd H8 h9 (.lst [.ref hx, .ref h8, .ref l])) := Fr.new hh9
  have hx9 : (upd H8 h9 (.lst [.ref hx, .ref h8, .ref l])) h9 = some (.lst [.ref hx, .ref h8, .ref l]) := upd_same
  have n9p : h9 ≠ p := by
    obtain ⟨ds, e⟩ := d7.keep f8
    exact (ne_of_none e hh9).symm
  have n9g : h9 ≠ ga := (ne_of_none (f8.lst0 hg7) hh9).symm
  generalize upd H8 h9 (.lst [.ref hx, .ref h8, .ref l]) = H9 at f9 hx9
  have f79 := f8.trans f9
  have d9 := d7.keep f79
  have hg9 := f79.lst0 hg7
  have f09 : Fr T [p] H H9 := ((f1.trans f2).trans f27).trans (f79.wide d7.m)
  have ls9 : ∀ c ∈ [(hx, hs), (h8, cs.take k), (l, cs)], H9 c.1 = some (.lst (c.2.map V.int)) ∧ c.1 ∉ [p, ga] ∧ c.2.length ≤ 100 := by
    intro c hc
    simp only [List.mem_cons, List.not_mem_nil, or_false] at hc
    rcases hc with rfl | rfl | rfl
    · exact ⟨f79.lst0 hx7, by simp [nxp, nxg], hslen⟩
    · exact ⟨f9.lst0 hx8, by simp [n8p, n8g], by rw [List.length_take]; omega⟩
    · exact ⟨f79.lst0 hl7, by simp [hlp, nlg], hz⟩
  have m9 : ∀ z ∈ [p, ga], ∃ l, H9 z = some (.lst l) := fun z hz => by
    have : z = p ∨ z = ga := by simpa using hz
    rcases this with rfl | rfl
    · obtain ⟨ds, e⟩ := d9
      exact ⟨_, e⟩
    · exact ⟨_, hg9⟩
  refine for_LL (K := K) [(hx, hs), (h8, cs.take k), (l, cs)] (fun i σ H' => ∃ (gs : List (List Int × Int)) (vs : List V) (x : Option V), σ = [some (.ref p), some (.ref l), some (.int (k : Int)), some (.ref ga), some (.ref hx), x] ∧ Fr T [p] H H' ∧ Fr T [p, ga] H9 H' ∧ Dr H' p ∧ H' ga = some (.lst vs) ∧ TdAll K H' vs (gs.map eG) ∧ (gs.map (·.1)).Sublist (([(hx, hs), (h8, cs.take k), (l, cs)].map (·.2)).take i))
    ⟨[], [], none, rfl, f09, Fr.reflM m9, d9, hg9, .nil, List.nil_sublist _⟩ ⟨_, SqL.of hx9⟩ (fun i σ H' q => by
      obtain ⟨_, _, _, _, _, f, _⟩ := q
      exact f.lst hx9 (by simp [n9p, n9g])) ?_ ?_
  · rintro i c σ' Ha hi ⟨gs, vs, x, rfl, fa, ga', da, hva, tva, sub⟩
    have hcm := List.mem_of_getElem? hi
    obtain ⟨hc9, hcn, hclen⟩ := ls9 c hcm
    have hca := ga'.lst hc9 hcn
    have hti : ([(hx, hs), (h8, cs.take k), (l, cs)].map (·.2))[i]? = some c.2 := by rw [List.getElem?_map, hi]; rfl
    have hgl : vs.length ≤ 3 := by
      have h1 := sub.length_le
      rw [List.length_map, List.length_take] at h1
      rw [tva.length, List.length_map]
      simp only [List.length_map, List.length_cons, List.length_nil] at h1
      omega
    have skip : ∀ (H' : Hp) (σ2 : St), (∃ x, σ2 = [some (.ref p), some (.ref l), some (.int (k : Int)), some (.ref ga), some (.ref hx), x]) → Fr T [p] Ha H' → Dr H' p → ∃ (gs : List (List Int × Int)) (vs : List V) (x : Option V), σ2 = [some (.ref p), some (.ref l), some (.int (k : Int)), some (.ref ga), some (.ref hx), x] ∧ Fr T [p] H H' ∧ Fr T [p, ga] H9 H' ∧ Dr H' p ∧ H' ga = some (.lst vs) ∧ TdAll K H' vs (gs.map eG) ∧ (gs.map (·.1)).Sublist (([(hx, hs), (h8, cs.take k), (l, cs)].map (·.2)).take (i + 1)) := by
      rintro H' σ2 ⟨x, rfl⟩ f d
      have hv := f.lst hva (by simpa using npg.symm)
      refine ⟨gs, vs, x, rfl, fa.trans f, ga'.trans ⟨fun a o m e n => f.keep a o (fun z => m (by simp at z; simp [z])) e n, f.tabs, ga'.m1, fun z hz => ?_⟩, d, hv, tva.mono f, ?_⟩
      · have : z = p ∨ z = ga := by simpa using hz
        rcases this with rfl | rfl
        · obtain ⟨ds, e⟩ := d
          exact ⟨_, e⟩
        · exact ⟨_, hv⟩
      · rw [take_snoc hti]
        exact sub.trans (List.sublist_append_left _ _)
    walk_at "st"
    refine q_lenL hca ?_
    walk_at "st"
    refine q_I ⟨_, rfl, ite2 (fun e => ?_) (fun e => ?_)⟩
    · walk_at "st"
      refine ⟨_, _, rfl, p, 2, rfl, da, rfl, by decide, fun r Hb r0 r2 fb db => ?_⟩
      walk_at "st"
      refine q_eqI ⟨_, rfl, ite2 (fun e2 => ?_) (fun e2 => ?_)⟩
      · have hvb := fb.lst hva (by simpa using npg.symm)
        have hcb := fb.lst hca (fun z => hcn (by simp at z; simp [z]))
        walk_at "st"
        refine ⟨ty_lst hvb, ?_⟩
        walk_at "st"
        refine q_tupK (T := T) hcb (tdAll_ints _) fun t Hc fc tc => ?_
        have dc := db.keep fc
        walk_at "st"
        refine ⟨Nat.le_of_lt (line_of (show (5 : Nat) ≤ 100000 by decide)), fun h10 hh10 => ?_⟩
        have fd : Fr T [] Hc (upd Hc h10 (.lst [.int 1, .int 1, .int 2, .int 0, .int 3])) := Fr.new hh10
        have hxd : (upd Hc h10 (.lst [.int 1, .int 1, .int 2, .int 0, .int 3])) h10 = some (.lst (([1, 1, 2, 0, 3] : List Int).map V.int)) := upd_same
        have n10p : h10 ≠ p := by
          obtain ⟨ds, e⟩ := dc
          exact (ne_of_none e hh10).symm
        generalize upd Hc h10 (.lst [.int 1, .int 1, .int 2, .int 0, .int 3]) = Hd at fd hxd
        walk_at "st"
        refine ⟨_, _, rfl, p, 5, rfl, dc.keep fd, rfl, by decide, fun r5 He r50 r55 fe de => ?_⟩
        obtain ⟨cap, _, hcap⟩ := at_draw (ns := [1, 1, 2, 0, 3]) r50 r55
        refine q_ixL (fe.lst hxd (by simpa using n10p)) hcap ?_
        walk_at "st"
        refine ⟨Nat.le_of_lt (line_of (show (2 : Nat) ≤ 100000 by decide)), fun h11 hh11 => ?_⟩
        have fbe : Fr T [p] Hb He := ((fc.trans fd).wide db.m).trans fe
        have tce := (tc.mono fd).mono fe
        have ff : Fr T [] He (upd He h11 (.tup [.ref t, .int cap])) := Fr.new hh11
        have tf : Td K (upd He h11 (.tup [.ref t, .int cap])) (.ref h11) (eG (c.2, cap)) := td_new upd_same (.cons (tce.mono ff) (.cons (.int _) .nil))
        generalize upd He h11 (.tup [.ref t, .int cap]) = Hf at ff tf
        have fbf : Fr T [p] Hb Hf := fbe.trans (ff.wide de.m)
        have df := de.keep ff
        have hvf := fbf.lst hvb (by simpa using npg.symm)
        have tvf := (tva.mono fb).mono fbf
        walk_at "st"
        refine q_app hvf (line_of (by omega)) ?_
        obtain ⟨_, _, x2, es, h1, h2, h3, _⟩ := skip Hf [some (.ref p), some (.ref l), some (.int (k : Int)), some (.ref ga), some (.ref hx), none] ⟨none, rfl⟩ (fb.trans fbf) df
        refine ⟨gs ++ [(c.2, cap)], vs ++ [.ref h11], _, rfl, h1.mut ng hvf, h2.andSet (by simp), df.upd npg, upd_same, ?_, ?_⟩
        · rw [List.map_append]
          have keepA : ∀ {us : List V} {es : List PyData}, TdAll K Hf us es → TdAll K (upd Hf ga (.lst (vs ++ [.ref h11]))) us es := fun {us es} q => q.mono (T := T) (M := [ga]) (Fr.set (fun p hp => by simp at hp; subst hp; exact ⟨_, hvf⟩) (by simp))
          exact keepA (tvf.append (.cons tf .nil))
        · rw [take_snoc hti, List.map_append]
          exact sub.append (List.Sublist.refl _)
      · walk_at "st"
        exact skip _ _ ⟨_, rfl⟩ fb db
    · refine iteF ?_
      walk_at "st"
      exact skip _ _ ⟨_, rfl⟩ (Fr.reflM da.m) da
  · rintro σ' Ha ⟨gs, vs, x, rfl, fa, ga', da, hva, tva, sub⟩
    dsimp only
    walk_at "st"
    exact q_tupK (T := T) hva tva fun v Hb fb tb => q _ _ gs (gr_of nd hsn hsub hkk sub) (fa.trans (fb.wide da.m)) (da.keep fb) tb
end
end Nc
set_option maxHeartbeats 4000000
/-! GD: contracts between houses. -/
namespace Nc
open PySem PySem.Spec L2
/-- the seller stands ahead of the buyer in the order -/
def Ahead (ord : List Int) (c : Ctr) : Prop := ∃ i j : Nat, i < j ∧ ord[i]? = some c.1 ∧ ord[j]? = some c.2.1
local macro_rules | `(tactic| walk_at "st") => `(tactic| (repeat (first
  | ((with_reducible refine' r_var ?e ?_); (case e => exact rfl))
  | (with_reducible refine' r_op ?_)
  | (with_reducible refine' r_c ?_)
  | (with_reducible refine' r_cons ?_)
  | (with_reducible refine' r_nil ?_)
  | (with_reducible refine' r_cb ?_)
  | (with_reducible refine' r_call ?_)
  | (with_reducible refine' r_test ?_)
  | (with_reducible refine' r_lc ?_)
  | (with_reducible refine' r_lc2 ?_)
  | (with_reducible refine' r_sk ?_)
  | (with_reducible refine' r_iZ ?_)
  | (with_reducible refine' r_sl3 ?_)
  | (with_reducible refine' r_bmZ ?_)
  | (with_reducible refine' r_dg ?_)
  | (with_reducible refine' r_dpS ?_)
  | (with_reducible refine' r_dp1 ?_)
  | (with_reducible refine' r_dn ?_)
  | (with_reducible refine' r_iT ?_)
  | (with_reducible refine' r_iL ?_)
  | (with_reducible refine' r_iE ?_)
  | (with_reducible refine' r_iR ?_)
  | (with_reducible refine' r_ret ?_)
  | (with_reducible refine' r_asgS ?_)
  | (with_reducible refine' r_asg1 ?_)
  | (with_reducible refine' r_asgTS ?_)
  | (with_reducible refine' r_ifS ?_)
  | (with_reducible refine' r_if1 ?_)
  | (with_reducible refine' r_forS ?_)
  | (with_reducible refine' r_for1 ?_)
  | (with_reducible refine' r_dropS ?_)
  | (with_reducible refine' r_drop1 ?_)
  | (with_reducible refine' r_tup ?_)
  | (with_reducible refine' r_lst ?_)
  | (with_reducible refine' r_sl ?_)
  | (with_reducible refine' r_noP ?_)
  | (with_reducible refine' r_part ?_)
  | (with_reducible refine' r_bm ?_)
  | (with_reducible refine' r_bm0 ?_)
  | (with_reducible refine' r_un ?_)
  | (with_reducible refine' r_notV ?_)
  | (with_reducible refine' r_B ?_)
  | (with_reducible refine' r_and ?_)
  | (with_reducible refine' r_or ?_)
  | (with_reducible refine' r_not ?_)
  | (with_reducible refine' r_yes ?_)
  | (with_reducible refine' r_next ?_)
  | (with_reducible refine' r_break ?_)
  | (with_reducible refine' r_gn ?_)
  | (with_reducible refine' r_tupRg ?_)
  | (with_reducible refine' r_rg1 ?_)
  )))
local macro_rules | `(tactic| walk_at "no") => `(tactic| (refine q_eqS ⟨_, rfl, ite2 (fun e => absurd (of_decide_eq_true e) (by decide +kernel)) (fun _ => ?_)⟩; walk_at "st"; try dsimp only))
local macro_rules | `(tactic| walk_at "yes") => `(tactic| (refine q_eqS ⟨_, rfl, ite2 (fun _ => ?_) (fun e => absurd (decide_eq_true rfl) e)⟩; walk_at "st"))
section
variable {P : Program} {w : World} {K : PySem.W.Frag} {mg : Str → Option Value} {base : Heap}
variable {T : List (Addr × Str)}
def sp_law_pairs (K : PySem.W.Frag) (T : List (Addr × Str)) : Sp := Sp5 fun a b c d e H Q => ∃ (s p l : Addr) (ns ord : List Int) (m : Nat) (sh : Int), a = .ref s ∧ SqL K H s (ns.map V.int) ∧ s ≠ p ∧ b = .ref p ∧ Dr H p ∧ c = .ref l ∧ H l = some (.lst (ord.map V.int)) ∧ l ≠ p ∧ 2 ≤ ord.length ∧ ord.length ≤ 100 ∧ d = .int m ∧ m ≤ 100 ∧ e = .int sh ∧
  ∀ q H' vs (cs : List Ctr), Fresh H q → Fr T [p] H H' → Dr H' p → H' q = some (.lst vs) → TdAll K H' vs (cs.map eC) → cs.length ≤ m → (∀ c ∈ cs, Ahead ord c) → Q (.ref q) H'
/-! ### _law_pairs -/
abbrev s_law_pairs : Stmt := topS 38
abbrev N_law_pairs : List Str := ["_law_script", "_law_draws_here", "_law_order", "_law_most", "_law_shape", "_law_pairs_here", "_law_count", "_law_k", "_law_first", "_law_second", "_law_price"]
theorem sc_law_pairs : FnScope N_law_pairs ["_law_script", "_law_draws_here", "_law_order", "_law_most", "_law_shape"] (defScope s_law_pairs) := ⟨rfl, rfl, rfl, by decide +kernel, rfl, by decide +kernel, by decide +kernel⟩
theorem d_law_pairs (B : B0 mg) (A0 : At K mg "_law_pairs" s_law_pairs) (D_law_take : Dn P w K mg base "_law_take" ["_law_draws_here", "_law_many"] 1 (sp_law_take K T)) (D_law_cell : Dn P w K mg base "_law_cell" ["_law_script", "_law_draws_here"] 2 (sp_law_cell K T)) : Dn P w K mg base "_law_pairs" ["_law_script", "_law_draws_here", "_law_order", "_law_most", "_law_shape"] 3 (sp_law_pairs K T) := by
  obtain ⟨f_law_take, fd_law_take, G_law_take, g_law_take, k_law_take, b_law_take⟩ := D_law_take
  obtain ⟨f_law_cell, fd_law_cell, G_law_cell, g_law_cell, k_law_cell, b_law_cell⟩ := D_law_cell
  refine dn5 A0 sc_law_pairs (fun _ _ F => F.bindsN fun _ _ _ _ _ _ us hl => match us, hl with | [_, _, _, _, _], _ => rfl) fun f cdv A outer s H a0 a1 a2 a3 a4 Q E hr h => ?_
  have nd := sc_law_pairs.nd
  refine ⟨_, (pss_cons
  (ps_set (i := 5) nd rfl (by first | exact Or.inl rfl | exact Or.inr rfl) (pe_lst pa_nil))
  (pss_cons
  (ps_set (i := 6) nd rfl (by first | exact Or.inl rfl | exact Or.inr rfl) (pe_callB (kLen (K := K) rfl) (by rfl) B.len PySem.boot_len (pa_cons (pv 2) pa_nil)))
  (pss_cons
  (ps_for PassesOwn.never rfl (pi_range1 (by rfl) B.range (pa_cons (pe_call G_law_take (hr.mono (by decide)) (by rfl) g_law_take k_law_take b_law_take .nil pass0 (pa_cons (pv 1) (pa_cons (pe_op op_add (pv 3) pe_int) pa_nil))) pa_nil)) (pg_name (i := 7) nd rfl (by first | exact Or.inl rfl | exact Or.inr rfl)) (pss_cons
  (ps_set (i := 8) nd rfl (by first | exact Or.inl rfl | exact Or.inr rfl) (pe_call G_law_take (hr.mono (by decide)) (by rfl) g_law_take k_law_take b_law_take .nil pass0 (pa_cons (pv 1) (pa_cons (pv 6) pa_nil))))
  (pss_cons
  (ps_set (i := 9) nd rfl (by first | exact Or.inl rfl | exact Or.inr rfl) (pe_op op_mod (pe_callTy call_int1 (by rfl) B.int (by decide +kernel) (pa_cons (pe_op op_add (pe_op op_add (pv 8) pe_int) (pe_call G_law_take (hr.mono (by decide)) (by rfl) g_law_take k_law_take b_law_take .nil pass0 (pa_cons (pv 1) (pa_cons (pe_op op_sub (pv 6) pe_int) pa_nil)))) pa_nil)) (pv 6)))
  (pss_cons
  (ps_if (pt_cmpR op_eq (pv 4) pe_int (by rfl)) (pss_cons
  (ps_set (i := 8) nd rfl (by first | exact Or.inl rfl | exact Or.inr rfl) (pe_op op_mod (pe_callTy call_int1 (by rfl) B.int (by decide +kernel) (pa_cons (pv 7) pa_nil)) (pe_op op_sub (pv 6) pe_int)))
  (pss_one
  (ps_set (i := 9) nd rfl (by first | exact Or.inl rfl | exact Or.inr rfl) (pe_op op_add (pv 8) pe_int)))) pss_nil)
  (pss_cons
  (ps_if (pt_cmpR op_eq (pv 4) pe_int (by rfl)) (pss_cons
  (ps_set (i := 8) nd rfl (by first | exact Or.inl rfl | exact Or.inr rfl) (pe_callB (call_min2 rfl) (by rfl) B.min (by decide +kernel) (pa_cons (pe_op op_mod (pe_callTy call_int1 (by rfl) B.int (by decide +kernel) (pa_cons (pv 7) pa_nil)) pe_int) (pa_cons (pe_op op_sub (pv 6) pe_int) pa_nil))))
  (pss_one
  (ps_set (i := 9) nd rfl (by first | exact Or.inl rfl | exact Or.inr rfl) (pe_op op_add (pv 8) pe_int)))) pss_nil)
  (pss_cons
  (ps_set (i := 10) nd rfl (by first | exact Or.inl rfl | exact Or.inr rfl) (pe_op op_add (pe_op op_sub (pe_call G_law_take (hr.mono (by decide)) (by rfl) g_law_take k_law_take b_law_take .nil pass0 (pa_cons (pv 1) (pa_cons pe_int pa_nil))) pe_int) (pe_op op_mul pe_int (pe_callB (call_min2 rfl) (by rfl) B.min (by decide +kernel) (pa_cons (pv 8) (pa_cons (pv 9) pa_nil))))))
  (pss_cons
  (ps_if (pt_cmpR op_eq (pe_call G_law_take (hr.mono (by decide)) (by rfl) g_law_take k_law_take b_law_take .nil pass0 (pa_cons (pv 1) (pa_cons pe_int pa_nil))) pe_int (by rfl)) (pss_one
  (ps_set (i := 10) nd rfl (by first | exact Or.inl rfl | exact Or.inr rfl) (pe_call G_law_cell (hr.mono (by decide)) (by rfl) g_law_cell k_law_cell b_law_cell .nil pass0 (pa_cons (pv 0) (pa_cons (pv 1) pa_nil))))) pss_nil)
  (pss_one
  (ps_expr (pe_bm PySem.F.plainAttrs_list PySem.F.slot_list_append PySem.F.type_list_append mt_append (pv 5) (pa_cons (pe_tup (pa_cons (pe_ix (kIxL (K := K) rfl) (pv 2) (pe_callB (call_min2 rfl) (by rfl) B.min (by decide +kernel) (pa_cons (pv 8) (pa_cons (pv 9) pa_nil))) (fun _ _ => rfl)) (pa_cons (pe_ix (kIxL (K := K) rfl) (pv 2) (pe_callB (call_max2 rfl) (by rfl) B.max (by decide +kernel) (pa_cons (pv 8) (pa_cons (pv 9) pa_nil))) (fun _ _ => rfl)) (pa_cons (pv 10) pa_nil)))) pa_nil)))))))))))
  (pss_one
  (ps_ret (pv 5)))))), ?_⟩
  obtain ⟨s, p, l, ns, ord, m, sh, rfl, hs, hsp, rfl, hp, rfl, ho, hop, h2, h100, rfl, hm, rfl, q⟩ := h
  walk_at "st"
  refine ⟨Nat.zero_le _, fun pa hpa => ?_⟩
  have npa : p ≠ pa := by
    obtain ⟨ds, e⟩ := hp
    exact ne_of_none e hpa
  have np : Fresh H pa := Fresh.of hpa
  have f0 : Fr T [p] H (upd H pa (.lst [])) := (Fr.new hpa).wide hp.m
  have d0 : Dr (upd H pa (.lst [])) p := hp.upd npa
  have ha0 : (upd H pa (.lst [])) pa = some (.lst []) := upd_same
  generalize upd H pa (.lst []) = H1 at f0 d0 ha0
  have ho1 := f0.lst ho (by simpa using hop)
  walk_at "st"
  refine q_lenL ho1 ?_
  rw [List.length_map]
  walk_at "st"
  refine q_I ?_
  walk_at "st"
  refine ⟨_, _, rfl, p, (m : Int) + 1, rfl, d0, rfl, by omega, fun n H2 n0 n1 f2 d2 => ?_⟩
  walk_at "st"
  refine ⟨_, rfl, by omega, by omega, ?_⟩
  refine for_R (fun i σ H' => ∃ (cs : List Ctr) (vs : List V) (x7 x8 x9 x10 : Option V), σ = [some (.ref s), some (.ref p), some (.ref l), some (.int (m : Int)), some (.int sh), some (.ref pa), some (.int (ord.length : Int)), x7, x8, x9, x10] ∧ Fr T [p] H H' ∧ Dr H' p ∧ H' pa = some (.lst vs) ∧ TdAll K H' vs (cs.map eC) ∧ cs.length ≤ i ∧ ∀ c ∈ cs, Ahead ord c)
    ⟨[], [], none, none, none, none, rfl, f0.trans f2, d2, f2.lst ha0 (by simpa using npa.symm), .nil, Nat.zero_le _, by simp⟩ ?_ ?_
  rotate_left
  · rintro σ' H3 ⟨cs, vs, x7, x8, x9, x10, rfl, f3, d3, h3, t3, hcl, hrk⟩
    dsimp only
    walk_at "st"
    exact q pa H3 vs cs np f3 d3 h3 t3 (by omega) hrk
  rintro i σ' H3 hi ⟨cs, vs, x7, x8, x9, x10, rfl, f0, d3, hpa, htd, hcl, hrk⟩
  have hs := f0.sqL (by simpa using hsp) hs
  walk_at "st"
  refine ⟨_, _, rfl, p, (ord.length : Int), rfl, d3, rfl, by omega, fun a H4 a0 a1 f4 d4 => ?_⟩
  walk_at "st"
  refine q_I ?_
  walk_at "st"
  refine q_I ?_
  walk_at "st"
  refine ⟨_, _, rfl, p, (ord.length : Int) - 1, rfl, d4, rfl, by omega, fun b H5 b0 b1 f5' d5 => ?_⟩
  refine q_I ?_
  walk_at "st"
  refine Or.inl ⟨_, rfl, ?_⟩
  walk_at "st"
  refine q_IC (by omega) ?_
  have f5 : Fr T [p] H3 H5 := f4.trans f5'
  generalize hb2 : (a + 1 + b) % (ord.length : Int) = b2
  have hb20 : 0 ≤ b2 := by rw [← hb2]; exact Int.emod_nonneg _ (by omega)
  have hb21 : b2 < (ord.length : Int) := by rw [← hb2]; exact Int.emod_lt_of_pos _ (by omega)
  have hbne : b2 ≠ a := by
    rcases Int.lt_or_le (a + 1 + b) (ord.length : Int) with z | z
    · rw [Int.emod_eq_of_lt (by omega) z] at hb2
      omega
    · have : (a + 1 + b) % (ord.length : Int) = a + 1 + b - ord.length := by
        rw [← Int.sub_emod_right]
        exact Int.emod_eq_of_lt (by omega) (by omega)
      omega
  walk_at "st"
  refine q_eqI ⟨_, rfl, ite2 (fun e1 => ?_) (fun e1 => ?_)⟩
  · rw [decide_eq_true_eq] at e1
    walk_at "st"
    refine Or.inl ⟨_, rfl, ?_⟩
    walk_at "st"
    refine q_I ?_
    refine q_IC (by omega) ?_
    generalize hfe : (i : Int) % ((ord.length : Int) - 1) = f
    have hf0 : 0 ≤ f := by rw [← hfe]; exact Int.emod_nonneg _ (by omega)
    have hf1 : f < (ord.length : Int) - 1 := by rw [← hfe]; exact Int.emod_lt_of_pos _ (by omega)
    walk_at "st"
    refine q_I ?_
    walk_at "st"
    refine q_eqI ⟨_, rfl, ite2 (fun e2 => absurd (of_decide_eq_true e2) (by omega)) (fun _ => ?_)⟩
    walk_at "st"
    dsimp only
    generalize hmn : (if f + 1 < f then f + 1 else f) = mn
    generalize hmx : (if f + 1 > f then f + 1 else f) = mx
    have hmm : 0 ≤ mn ∧ mn < mx ∧ mx < (ord.length : Int) := by
      rw [← hmn, ← hmx]
      split <;> split <;> omega
    obtain ⟨im, him⟩ : ∃ c, ord[mn.toNat]? = some c := ⟨_, List.getElem?_eq_getElem (by omega)⟩
    obtain ⟨ix, hix⟩ : ∃ c, ord[mx.toNat]? = some c := ⟨_, List.getElem?_eq_getElem (by omega)⟩
    walk_at "st"
    refine ⟨_, _, rfl, p, 12, rfl, d5, rfl, by decide, fun r12 H6 _ _ f6 d6 => ?_⟩
    walk_at "st"
    refine q_I ?_
    walk_at "st"
    refine ⟨_, _, rfl, ?_⟩
    rw [hmn]
    refine q_IC (Or.inl ⟨by decide, by decide⟩) ?_
    refine q_I ?_
    walk_at "st"
    refine ⟨_, _, rfl, p, 20, rfl, d6, rfl, by decide, fun r20 H7 _ _ f7 d7 => ?_⟩
    walk_at "st"
    have f57 := f5.trans (f6.trans f7)
    refine q_eqI ⟨_, rfl, ite2 (fun e20 => ?_) (fun e20 => ?_)⟩
    · walk_at "st"
      refine ⟨_, _, rfl, s, p, ns, rfl, f57.sqL (by simpa using hsp) hs, hsp, rfl, d7, fun pr H8 f8 d8 => ?_⟩
      have f58 := f57.trans f8
      have hpa8 := f58.lst hpa (by simpa using npa.symm)
      have ho8 := f58.lst (f0.lst ho (by simpa using hop)) (by simpa using hop)
      walk_at "st"
      refine ⟨ty_lst hpa8, ?_⟩
      walk_at "st"
      refine ⟨_, _, rfl, ?_⟩
      rw [hmn]
      refine q_ixL ho8 (at_map hmm.1 him) ?_
      walk_at "st"
      refine ⟨_, _, rfl, ?_⟩
      rw [hmx]
      refine q_ixL ho8 (at_map (by omega) hix) ?_
      walk_at "st"
      refine ⟨Nat.le_of_lt (line_of (show (3 : Nat) ≤ 100000 by decide)), fun t ht => ?_⟩
      have f9 : Fr T [] H8 (upd H8 t (.tup [.int im, .int ix, .int pr])) := Fr.new ht
      have t9 : Td K (upd H8 t (.tup [.int im, .int ix, .int pr])) (.ref t) (eC (im, ix, pr)) := td_new upd_same (.cons (.int _) (.cons (.int _) (.cons (.int _) .nil)))
      generalize upd H8 t (.tup [.int im, .int ix, .int pr]) = H9 at f9 t9
      walk_at "st"
      have hpa9 := f9.lst0 hpa8
      refine q_app hpa9 (line_of (by rw [htd.length, List.length_map]; omega)) ?_
      have d9 := d8.keep f9
      have f59 := f58.trans (f9.wide d8.m)
      refine ⟨cs ++ [(im, ix, pr)], vs ++ [.ref t], _, _, _, _, rfl, (f0.trans f59).mut np hpa9, d9.upd npa, upd_same, ?_, ?_, ?_⟩
      · rw [List.map_append]
        have keepA : ∀ {us : List V} {es : List PyData}, TdAll K H9 us es → TdAll K (upd H9 pa (.lst (vs ++ [.ref t]))) us es := fun {us es} q => q.mono (T := T) (M := [pa]) (Fr.set (fun p hp => by simp at hp; subst hp; exact ⟨_, hpa9⟩) (by simp))
        exact keepA ((htd.mono f59).append (.cons t9 .nil))
      · rw [List.length_append]
        exact Nat.succ_le_succ hcl
      · intro c hc
        rcases List.mem_append.mp hc with hc | hc
        · exact hrk c hc
        · simp at hc
          subst hc
          exact ⟨mn.toNat, mx.toNat, by omega, him, hix⟩
    · walk_at "st"
      have f58 := f57
      have d8 := d7
      generalize hpr : r12 - 2 + 4 * mn = pr
      have hpa8 := f58.lst hpa (by simpa using npa.symm)
      have ho8 := f58.lst (f0.lst ho (by simpa using hop)) (by simpa using hop)
      walk_at "st"
      refine ⟨ty_lst hpa8, ?_⟩
      walk_at "st"
      refine ⟨_, _, rfl, ?_⟩
      rw [hmn]
      refine q_ixL ho8 (at_map hmm.1 him) ?_
      walk_at "st"
      refine ⟨_, _, rfl, ?_⟩
      rw [hmx]
      refine q_ixL ho8 (at_map (by omega) hix) ?_
      walk_at "st"
      refine ⟨Nat.le_of_lt (line_of (show (3 : Nat) ≤ 100000 by decide)), fun t ht => ?_⟩
      have f9 : Fr T [] H7 (upd H7 t (.tup [.int im, .int ix, .int pr])) := Fr.new ht
      have t9 : Td K (upd H7 t (.tup [.int im, .int ix, .int pr])) (.ref t) (eC (im, ix, pr)) := td_new upd_same (.cons (.int _) (.cons (.int _) (.cons (.int _) .nil)))
      generalize upd H7 t (.tup [.int im, .int ix, .int pr]) = H9 at f9 t9
      walk_at "st"
      have hpa9 := f9.lst0 hpa8
      refine q_app hpa9 (line_of (by rw [htd.length, List.length_map]; omega)) ?_
      have d9 := d8.keep f9
      have f59 := f58.trans (f9.wide d8.m)
      refine ⟨cs ++ [(im, ix, pr)], vs ++ [.ref t], _, _, _, _, rfl, (f0.trans f59).mut np hpa9, d9.upd npa, upd_same, ?_, ?_, ?_⟩
      · rw [List.map_append]
        have keepA : ∀ {us : List V} {es : List PyData}, TdAll K H9 us es → TdAll K (upd H9 pa (.lst (vs ++ [.ref t]))) us es := fun {us es} q => q.mono (T := T) (M := [pa]) (Fr.set (fun p hp => by simp at hp; subst hp; exact ⟨_, hpa9⟩) (by simp))
        exact keepA ((htd.mono f59).append (.cons t9 .nil))
      · rw [List.length_append]
        exact Nat.succ_le_succ hcl
      · intro c hc
        rcases List.mem_append.mp hc with hc | hc
        · exact hrk c hc
        · simp at hc
          subst hc
          exact ⟨mn.toNat, mx.toNat, by omega, him, hix⟩
  rw [decide_eq_true_eq] at e1
  walk_at "st"
  dsimp only
  walk_at "st"
  refine q_eqI ⟨_, rfl, ite2 (fun e2 => ?_) (fun e2 => ?_)⟩
  · walk_at "st"
    refine Or.inl ⟨_, rfl, ?_⟩
    walk_at "st"
    refine q_IC (by decide) ?_
    walk_at "st"
    refine q_I ?_
    walk_at "st"
    refine ⟨_, _, rfl, ?_⟩
    generalize hfe : (if (ord.length : Int) - 2 < (i : Int) % 2 then (ord.length : Int) - 2 else (i : Int) % 2) = f
    have hf0 : 0 ≤ f ∧ f < (ord.length : Int) - 1 := by
      rw [← hfe]
      have := Int.emod_nonneg (i : Int) (b := 2) (by decide)
      split <;> omega
    walk_at "st"
    refine q_I ?_
    walk_at "st"
    generalize hmn : (if f + 1 < f then f + 1 else f) = mn
    generalize hmx : (if f + 1 > f then f + 1 else f) = mx
    have hmm : 0 ≤ mn ∧ mn < mx ∧ mx < (ord.length : Int) := by
      rw [← hmn, ← hmx]
      split <;> split <;> omega
    obtain ⟨im, him⟩ : ∃ c, ord[mn.toNat]? = some c := ⟨_, List.getElem?_eq_getElem (by omega)⟩
    obtain ⟨ix, hix⟩ : ∃ c, ord[mx.toNat]? = some c := ⟨_, List.getElem?_eq_getElem (by omega)⟩
    walk_at "st"
    refine ⟨_, _, rfl, p, 12, rfl, d5, rfl, by decide, fun r12 H6 _ _ f6 d6 => ?_⟩
    walk_at "st"
    refine q_I ?_
    walk_at "st"
    refine ⟨_, _, rfl, ?_⟩
    rw [hmn]
    refine q_IC (Or.inl ⟨by decide, by decide⟩) ?_
    refine q_I ?_
    walk_at "st"
    refine ⟨_, _, rfl, p, 20, rfl, d6, rfl, by decide, fun r20 H7 _ _ f7 d7 => ?_⟩
    walk_at "st"
    have f57 := f5.trans (f6.trans f7)
    refine q_eqI ⟨_, rfl, ite2 (fun e20 => ?_) (fun e20 => ?_)⟩
    · walk_at "st"
      refine ⟨_, _, rfl, s, p, ns, rfl, f57.sqL (by simpa using hsp) hs, hsp, rfl, d7, fun pr H8 f8 d8 => ?_⟩
      have f58 := f57.trans f8
      have hpa8 := f58.lst hpa (by simpa using npa.symm)
      have ho8 := f58.lst (f0.lst ho (by simpa using hop)) (by simpa using hop)
      walk_at "st"
      refine ⟨ty_lst hpa8, ?_⟩
      walk_at "st"
      refine ⟨_, _, rfl, ?_⟩
      rw [hmn]
      refine q_ixL ho8 (at_map hmm.1 him) ?_
      walk_at "st"
      refine ⟨_, _, rfl, ?_⟩
      rw [hmx]
      refine q_ixL ho8 (at_map (by omega) hix) ?_
      walk_at "st"
      refine ⟨Nat.le_of_lt (line_of (show (3 : Nat) ≤ 100000 by decide)), fun t ht => ?_⟩
      have f9 : Fr T [] H8 (upd H8 t (.tup [.int im, .int ix, .int pr])) := Fr.new ht
      have t9 : Td K (upd H8 t (.tup [.int im, .int ix, .int pr])) (.ref t) (eC (im, ix, pr)) := td_new upd_same (.cons (.int _) (.cons (.int _) (.cons (.int _) .nil)))
      generalize upd H8 t (.tup [.int im, .int ix, .int pr]) = H9 at f9 t9
      walk_at "st"
      have hpa9 := f9.lst0 hpa8
      refine q_app hpa9 (line_of (by rw [htd.length, List.length_map]; omega)) ?_
      have d9 := d8.keep f9
      have f59 := f58.trans (f9.wide d8.m)
      refine ⟨cs ++ [(im, ix, pr)], vs ++ [.ref t], _, _, _, _, rfl, (f0.trans f59).mut np hpa9, d9.upd npa, upd_same, ?_, ?_, ?_⟩
      · rw [List.map_append]
        have keepA : ∀ {us : List V} {es : List PyData}, TdAll K H9 us es → TdAll K (upd H9 pa (.lst (vs ++ [.ref t]))) us es := fun {us es} q => q.mono (T := T) (M := [pa]) (Fr.set (fun p hp => by simp at hp; subst hp; exact ⟨_, hpa9⟩) (by simp))
        exact keepA ((htd.mono f59).append (.cons t9 .nil))
      · rw [List.length_append]
        exact Nat.succ_le_succ hcl
      · intro c hc
        rcases List.mem_append.mp hc with hc | hc
        · exact hrk c hc
        · simp at hc
          subst hc
          exact ⟨mn.toNat, mx.toNat, by omega, him, hix⟩
    · walk_at "st"
      have f58 := f57
      have d8 := d7
      generalize hpr : r12 - 2 + 4 * mn = pr
      have hpa8 := f58.lst hpa (by simpa using npa.symm)
      have ho8 := f58.lst (f0.lst ho (by simpa using hop)) (by simpa using hop)
      walk_at "st"
      refine ⟨ty_lst hpa8, ?_⟩
      walk_at "st"
      refine ⟨_, _, rfl, ?_⟩
      rw [hmn]
      refine q_ixL ho8 (at_map hmm.1 him) ?_
      walk_at "st"
      refine ⟨_, _, rfl, ?_⟩
      rw [hmx]
      refine q_ixL ho8 (at_map (by omega) hix) ?_
      walk_at "st"
      refine ⟨Nat.le_of_lt (line_of (show (3 : Nat) ≤ 100000 by decide)), fun t ht => ?_⟩
      have f9 : Fr T [] H7 (upd H7 t (.tup [.int im, .int ix, .int pr])) := Fr.new ht
      have t9 : Td K (upd H7 t (.tup [.int im, .int ix, .int pr])) (.ref t) (eC (im, ix, pr)) := td_new upd_same (.cons (.int _) (.cons (.int _) (.cons (.int _) .nil)))
      generalize upd H7 t (.tup [.int im, .int ix, .int pr]) = H9 at f9 t9
      walk_at "st"
      have hpa9 := f9.lst0 hpa8
      refine q_app hpa9 (line_of (by rw [htd.length, List.length_map]; omega)) ?_
      have d9 := d8.keep f9
      have f59 := f58.trans (f9.wide d8.m)
      refine ⟨cs ++ [(im, ix, pr)], vs ++ [.ref t], _, _, _, _, rfl, (f0.trans f59).mut np hpa9, d9.upd npa, upd_same, ?_, ?_, ?_⟩
      · rw [List.map_append]
        have keepA : ∀ {us : List V} {es : List PyData}, TdAll K H9 us es → TdAll K (upd H9 pa (.lst (vs ++ [.ref t]))) us es := fun {us es} q => q.mono (T := T) (M := [pa]) (Fr.set (fun p hp => by simp at hp; subst hp; exact ⟨_, hpa9⟩) (by simp))
        exact keepA ((htd.mono f59).append (.cons t9 .nil))
      · rw [List.length_append]
        exact Nat.succ_le_succ hcl
      · intro c hc
        rcases List.mem_append.mp hc with hc | hc
        · exact hrk c hc
        · simp at hc
          subst hc
          exact ⟨mn.toNat, mx.toNat, by omega, him, hix⟩
  walk_at "st"
  try dsimp only
  walk_at "st"
  generalize hmn : (if b2 < a then b2 else a) = mn
  generalize hmx : (if b2 > a then b2 else a) = mx
  have hmm : 0 ≤ mn ∧ mn < mx ∧ mx < (ord.length : Int) := by
    rw [← hmn, ← hmx]
    split <;> split <;> omega
  obtain ⟨im, him⟩ : ∃ c, ord[mn.toNat]? = some c := ⟨_, List.getElem?_eq_getElem (by omega)⟩
  obtain ⟨ix, hix⟩ : ∃ c, ord[mx.toNat]? = some c := ⟨_, List.getElem?_eq_getElem (by omega)⟩
  walk_at "st"
  refine ⟨_, _, rfl, p, 12, rfl, d5, rfl, by decide, fun r12 H6 _ _ f6 d6 => ?_⟩
  walk_at "st"
  refine q_I ?_
  walk_at "st"
  refine ⟨_, _, rfl, ?_⟩
  rw [hmn]
  refine q_IC (Or.inl ⟨by decide, by decide⟩) ?_
  refine q_I ?_
  walk_at "st"
  refine ⟨_, _, rfl, p, 20, rfl, d6, rfl, by decide, fun r20 H7 _ _ f7 d7 => ?_⟩
  walk_at "st"
  have f57 := f5.trans (f6.trans f7)
  refine q_eqI ⟨_, rfl, ite2 (fun e20 => ?_) (fun e20 => ?_)⟩
  · walk_at "st"
    refine ⟨_, _, rfl, s, p, ns, rfl, f57.sqL (by simpa using hsp) hs, hsp, rfl, d7, fun pr H8 f8 d8 => ?_⟩
    have f58 := f57.trans f8
    have hpa8 := f58.lst hpa (by simpa using npa.symm)
    have ho8 := f58.lst (f0.lst ho (by simpa using hop)) (by simpa using hop)
    walk_at "st"
    refine ⟨ty_lst hpa8, ?_⟩
    walk_at "st"
    refine ⟨_, _, rfl, ?_⟩
    rw [hmn]
    refine q_ixL ho8 (at_map hmm.1 him) ?_
    walk_at "st"
    refine ⟨_, _, rfl, ?_⟩
    rw [hmx]
    refine q_ixL ho8 (at_map (by omega) hix) ?_
    walk_at "st"
    refine ⟨Nat.le_of_lt (line_of (show (3 : Nat) ≤ 100000 by decide)), fun t ht => ?_⟩
    have f9 : Fr T [] H8 (upd H8 t (.tup [.int im, .int ix, .int pr])) := Fr.new ht
    have t9 : Td K (upd H8 t (.tup [.int im, .int ix, .int pr])) (.ref t) (eC (im, ix, pr)) := td_new upd_same (.cons (.int _) (.cons (.int _) (.cons (.int _) .nil)))
    generalize upd H8 t (.tup [.int im, .int ix, .int pr]) = H9 at f9 t9
    walk_at "st"
    have hpa9 := f9.lst0 hpa8
    refine q_app hpa9 (line_of (by rw [htd.length, List.length_map]; omega)) ?_
    have d9 := d8.keep f9
    have f59 := f58.trans (f9.wide d8.m)
    refine ⟨cs ++ [(im, ix, pr)], vs ++ [.ref t], _, _, _, _, rfl, (f0.trans f59).mut np hpa9, d9.upd npa, upd_same, ?_, ?_, ?_⟩
    · rw [List.map_append]
      have keepA : ∀ {us : List V} {es : List PyData}, TdAll K H9 us es → TdAll K (upd H9 pa (.lst (vs ++ [.ref t]))) us es := fun {us es} q => q.mono (T := T) (M := [pa]) (Fr.set (fun p hp => by simp at hp; subst hp; exact ⟨_, hpa9⟩) (by simp))
      exact keepA ((htd.mono f59).append (.cons t9 .nil))
    · rw [List.length_append]
      exact Nat.succ_le_succ hcl
    · intro c hc
      rcases List.mem_append.mp hc with hc | hc
      · exact hrk c hc
      · simp at hc
        subst hc
        exact ⟨mn.toNat, mx.toNat, by omega, him, hix⟩
  · walk_at "st"
    have f58 := f57
    have d8 := d7
    generalize hpr : r12 - 2 + 4 * mn = pr
    have hpa8 := f58.lst hpa (by simpa using npa.symm)
    have ho8 := f58.lst (f0.lst ho (by simpa using hop)) (by simpa using hop)
    walk_at "st"
    refine ⟨ty_lst hpa8, ?_⟩
    walk_at "st"
    refine ⟨_, _, rfl, ?_⟩
    rw [hmn]
    refine q_ixL ho8 (at_map hmm.1 him) ?_
    walk_at "st"
    refine ⟨_, _, rfl, ?_⟩
    rw [hmx]
    refine q_ixL ho8 (at_map (by omega) hix) ?_
    walk_at "st"
    refine ⟨Nat.le_of_lt (line_of (show (3 : Nat) ≤ 100000 by decide)), fun t ht => ?_⟩
    have f9 : Fr T [] H7 (upd H7 t (.tup [.int im, .int ix, .int pr])) := Fr.new ht
    have t9 : Td K (upd H7 t (.tup [.int im, .int ix, .int pr])) (.ref t) (eC (im, ix, pr)) := td_new upd_same (.cons (.int _) (.cons (.int _) (.cons (.int _) .nil)))
    generalize upd H7 t (.tup [.int im, .int ix, .int pr]) = H9 at f9 t9
    walk_at "st"
    have hpa9 := f9.lst0 hpa8
    refine q_app hpa9 (line_of (by rw [htd.length, List.length_map]; omega)) ?_
    have d9 := d8.keep f9
    have f59 := f58.trans (f9.wide d8.m)
    refine ⟨cs ++ [(im, ix, pr)], vs ++ [.ref t], _, _, _, _, rfl, (f0.trans f59).mut np hpa9, d9.upd npa, upd_same, ?_, ?_, ?_⟩
    · rw [List.map_append]
      have keepA : ∀ {us : List V} {es : List PyData}, TdAll K H9 us es → TdAll K (upd H9 pa (.lst (vs ++ [.ref t]))) us es := fun {us es} q => q.mono (T := T) (M := [pa]) (Fr.set (fun p hp => by simp at hp; subst hp; exact ⟨_, hpa9⟩) (by simp))
      exact keepA ((htd.mono f59).append (.cons t9 .nil))
    · rw [List.length_append]
      exact Nat.succ_le_succ hcl
    · intro c hc
      rcases List.mem_append.mp hc with hc | hc
      · exact hrk c hc
      · simp at hc
        subst hc
        exact ⟨mn.toNat, mx.toNat, by omega, him, hix⟩
end
end Nc
set_option maxHeartbeats 1000000
/-! M6: a table made of a choice of sides or of a maker takes what that choice takes. -/
namespace Nc
def IsMS (q : Plain) (wb ws : List Int) : Prop := (∃ r, q = .maker r wb ws ∧ 0 ≤ r) ∨ ∃ br sr, q = .sides br wb sr ws ∧ 0 ≤ br ∧ 0 ≤ sr
def placeOf (wb ws : List Int) (c : Int) : Int := if c ∈ ws then ((ws.idxOf c : Nat) : Int) else ((wb.idxOf c : Nat) : Int)
def places (wb ws l : List Int) : Int := (l.map (placeOf wb ws)).sum
def entR (wb ws l : List Int) : Row := ([-(l.length : Int), places wb ws l], l)
theorem sum_perm {a b : List Int} (p : a.Perm b) : a.sum = b.sum := by
  induction p with
  | nil => rfl
  | cons x _ ih => rw [List.sum_cons, List.sum_cons, ih]
  | swap x y l => rw [List.sum_cons, List.sum_cons, List.sum_cons, List.sum_cons]; omega
  | trans _ _ h1 h2 => exact h1.trans h2
theorem places_perm {wb ws a b : List Int} (p : a.Perm b) : places wb ws a = places wb ws b := sum_perm (p.map _)
theorem places_app (wb ws a b : List Int) : places wb ws (a ++ b) = places wb ws a + places wb ws b := by
  unfold places
  rw [List.map_append, List.sum_append]
/-- of the rows of one length within a row the first items have the least sum -/
theorem min_sum {f : Int → Int} : ∀ {M X : List Int}, M.Pairwise (fun a b => f a < f b) → X.Sublist M → ((M.take X.length).map f).sum ≤ (X.map f).sum ∧ (((M.take X.length).map f).sum = (X.map f).sum → X = M.take X.length)
  | _, [], _, _ => by simp
  | [], x :: X, _, h => by cases h
  | m :: M, x :: X, hp, h => by
    obtain ⟨h1, h2⟩ := List.pairwise_cons.mp hp
    rw [List.length_cons, List.take_succ_cons, List.map_cons, List.map_cons, List.sum_cons, List.sum_cons]
    cases h with
    | cons _ h =>
      have hx : x ∈ M := h.mem List.mem_cons_self
      have ih := (min_sum h2 ((List.sublist_cons_self x X).trans h)).1
      have := h1 x hx
      exact ⟨by omega, fun z => by omega⟩
    | cons_cons _ h =>
      obtain ⟨i1, i2⟩ := min_sum h2 h
      refine ⟨by omega, fun z => ?_⟩
      rw [← i2 (by omega)]
theorem idx_rise {l : List Int} (nd : l.Nodup) : l.Pairwise fun a b => l.idxOf a < l.idxOf b := by
  refine List.pairwise_iff_getElem.mpr fun i j hi hj hij => ?_
  rw [List.Nodup.idxOf_getElem nd i hi, List.Nodup.idxOf_getElem nd j hj]
  exact hij
section
variable {q : Plain} {wb ws : List Int} {pr : Int → Int}
/-- the two parts -/
theorem ms_parts (h : IsMS q wb ws) (off : Int → Bool) : ∃ k j : Nat, progP pr q off = (wb.filter off).take k ++ (ws.filter off).take j ∧ lawP pr q off = sortI (progP pr q off) ∧
    ∀ (off' : Int → Bool) (k' j' : Nat), progP pr q off' = (wb.filter off').take k' ++ (ws.filter off').take j' → True := by
  rcases h with ⟨r, rfl, _⟩ | ⟨br, sr, rfl, _⟩
  · exact ⟨_, _, rfl, (agrees_maker pr r wb ws).eq off, fun _ _ _ _ => trivial⟩
  · exact ⟨_, _, rfl, (agrees_sides pr br wb sr ws).eq off, fun _ _ _ _ => trivial⟩
def buyPart (q : Plain) (off : Int → Bool) : List Int := match q with
  | .maker r b s => (b.filter off).take (min (min r (b.filter off).length) (s.filter off).length : Int).toNat
  | .sides br b _ _ => (b.filter off).take br.toNat
  | _ => []
def sellPart (q : Plain) (off : Int → Bool) : List Int := match q with
  | .maker r b s => (s.filter off).take (min (min r (b.filter off).length) (s.filter off).length : Int).toNat
  | .sides _ _ sr s => (s.filter off).take sr.toNat
  | _ => []
theorem ms_eq (h : IsMS q wb ws) (off : Int → Bool) : progP pr q off = buyPart q off ++ sellPart q off := by
  rcases h with ⟨r, rfl, _⟩ | ⟨br, sr, rfl, _⟩ <;> rfl
theorem ms_law (h : IsMS q wb ws) (off : Int → Bool) : lawP pr q off = sortI (buyPart q off ++ sellPart q off) := by
  rw [← ms_eq h (pr := pr)]
  rcases h with ⟨r, rfl, _⟩ | ⟨br, sr, rfl, _⟩
  · exact (agrees_maker pr r wb ws).eq off
  · exact (agrees_sides pr br wb sr ws).eq off
theorem ms_buy (h : IsMS q wb ws) (off : Int → Bool) : ∃ k, buyPart q off = (wb.filter off).take k := by
  rcases h with ⟨r, rfl, _⟩ | ⟨br, sr, rfl, _⟩ <;> exact ⟨_, rfl⟩
theorem ms_sell (h : IsMS q wb ws) (off : Int → Bool) : ∃ k, sellPart q off = (ws.filter off).take k := by
  rcases h with ⟨r, rfl, _⟩ | ⟨br, sr, rfl, _⟩ <;> exact ⟨_, rfl⟩
theorem sub_filter {X L : List Int} {off : Int → Bool} (h : X.Sublist L) (ho : ∀ c ∈ X, off c = true) : X.Sublist (L.filter off) := by
  have e : X.filter off = X := List.filter_eq_self.mpr ho
  rw [← e]
  exact h.filter off
/-- what one choice takes, offered among more: not longer, on each side -/
theorem ms_le (h : IsMS q wb ws) {S off : Int → Bool} (hb : ∀ c ∈ buyPart q S, off c = true) (hs : ∀ c ∈ sellPart q S, off c = true) : (buyPart q S).length ≤ (buyPart q off).length ∧ (sellPart q S).length ≤ (sellPart q off).length := by
  obtain ⟨k1, e1⟩ := ms_buy h S
  obtain ⟨k2, e2⟩ := ms_sell h S
  have s1 : (buyPart q S).Sublist wb := by
    rw [e1]
    exact (List.take_sublist _ _).trans List.filter_sublist
  have s2 : (sellPart q S).Sublist ws := by
    rw [e2]
    exact (List.take_sublist _ _).trans List.filter_sublist
  have l1 := (sub_filter s1 hb).length_le
  have l2 := (sub_filter s2 hs).length_le
  rcases h with ⟨r, rfl, _⟩ | ⟨br, sr, rfl, _⟩
  · simp only [buyPart, sellPart, List.length_take] at l1 l2 ⊢
    omega
  · simp only [buyPart, sellPart, List.length_take] at l1 l2 ⊢
    omega
theorem part_min {X L : List Int} {wb ws : List Int} {off : Int → Bool} {k : Nat} (hL : L.Pairwise fun a b => placeOf wb ws a < placeOf wb ws b) (hX : X.Sublist L) (ho : ∀ c ∈ X, off c = true) (hk : ((L.filter off).take k).length = X.length) :
    places wb ws ((L.filter off).take k) ≤ places wb ws X ∧ (places wb ws ((L.filter off).take k) = places wb ws X → X = (L.filter off).take k) := by
  have e : (L.filter off).take k = (L.filter off).take X.length := by
    rw [List.length_take] at hk
    rw [← hk, List.take_eq_take_iff]
    omega
  rw [e]
  exact min_sum (hL.sublist List.filter_sublist) (sub_filter hX ho)
theorem place_buys (nb : wb.Nodup) (hd : ∀ c ∈ wb, c ∉ ws) : wb.Pairwise fun a b => placeOf wb ws a < placeOf wb ws b := by
  refine List.Pairwise.imp_of_mem ?_ (idx_rise nb)
  intro a b ha hb h
  unfold placeOf
  rw [if_neg (hd a ha), if_neg (hd b hb)]
  omega
theorem place_sells (ns : ws.Nodup) : ws.Pairwise fun a b => placeOf wb ws a < placeOf wb ws b := by
  refine List.Pairwise.imp_of_mem ?_ (idx_rise ns)
  intro a b ha hb h
  unfold placeOf
  rw [if_pos ha, if_pos hb]
  omega
/-- another row within the offer stands behind -/
theorem ms_less (h : IsMS q wb ws) (nb : wb.Nodup) (ns : ws.Nodup) (hd : ∀ c ∈ wb, c ∉ ws) {S off : Int → Bool} (hin : rowIn off (lawP pr q S) = true) (hne : lawP pr q S ≠ lawP pr q off) : rowLt (entR wb ws (lawP pr q off)) (entR wb ws (lawP pr q S)) = true := by
  rw [ms_law h, ms_law h] at hne ⊢
  rw [ms_law h] at hin
  have hall : ∀ c ∈ buyPart q S ++ sellPart q S, off c = true := fun c hc => by
    have := List.all_eq_true.mp hin c (sortI_mem.mpr hc)
    simpa using this
  have hb : ∀ c ∈ buyPart q S, off c = true := fun c hc => hall c (List.mem_append_left _ hc)
  have hs : ∀ c ∈ sellPart q S, off c = true := fun c hc => hall c (List.mem_append_right _ hc)
  obtain ⟨l1, l2⟩ := ms_le h hb hs
  obtain ⟨k1, e1⟩ := ms_buy h S
  obtain ⟨k2, e2⟩ := ms_sell h S
  obtain ⟨k3, e3⟩ := ms_buy h off
  obtain ⟨k4, e4⟩ := ms_sell h off
  have s1 : (buyPart q S).Sublist wb := by
    rw [e1]
    exact (List.take_sublist _ _).trans List.filter_sublist
  have s2 : (sellPart q S).Sublist ws := by
    rw [e2]
    exact (List.take_sublist _ _).trans List.filter_sublist
  have hp1 : places wb ws (sortI (buyPart q S ++ sellPart q S)) = places wb ws (buyPart q S) + places wb ws (sellPart q S) := by rw [places_perm (sortI_perm _), places_app]
  have hp2 : places wb ws (sortI (buyPart q off ++ sellPart q off)) = places wb ws (buyPart q off) + places wb ws (sellPart q off) := by rw [places_perm (sortI_perm _), places_app]
  have hn1 : (sortI (buyPart q S ++ sellPart q S)).length = (buyPart q S).length + (sellPart q S).length := by rw [sortI_len, List.length_append]
  have hn2 : (sortI (buyPart q off ++ sellPart q off)).length = (buyPart q off).length + (sellPart q off).length := by rw [sortI_len, List.length_append]
  unfold entR rowLt
  simp only
  rw [hp1, hp2, hn1, hn2]
  by_cases hl : (buyPart q S).length = (buyPart q off).length ∧ (sellPart q S).length = (sellPart q off).length
  · obtain ⟨a1, a2⟩ := part_min (place_buys nb hd) s1 hb (k := k3) (by rw [← e3]; exact hl.1.symm)
    obtain ⟨b1, b2⟩ := part_min (wb := wb) (place_sells ns) s2 hs (k := k4) (by rw [← e4]; exact hl.2.symm)
    rw [← e3] at a1 a2
    rw [← e4] at b1 b2
    have hlt : places wb ws (buyPart q off) + places wb ws (sellPart q off) < places wb ws (buyPart q S) + places wb ws (sellPart q S) := by
      rcases Int.lt_or_le (places wb ws (buyPart q off) + places wb ws (sellPart q off)) (places wb ws (buyPart q S) + places wb ws (sellPart q S)) with z | z
      · exact z
      · exact absurd (by rw [a2 (by omega), b2 (by omega)]) hne
    rw [hl.1, hl.2]
    have e : ¬ ([-(((buyPart q off).length + (sellPart q off).length : Nat) : Int), places wb ws (buyPart q off) + places wb ws (sellPart q off)] = [-(((buyPart q off).length + (sellPart q off).length : Nat) : Int), places wb ws (buyPart q S) + places wb ws (sellPart q S)]) := by
      intro z
      injection z with _ z
      injection z with z _
      omega
    rw [if_neg e, HT.lexLt_cons, if_pos rfl, HT.lexLt_cons, if_neg (by omega)]
    exact decide_eq_true hlt
  · have hlt : (buyPart q S).length + (sellPart q S).length < (buyPart q off).length + (sellPart q off).length := by omega
    have e : ¬ (-(((buyPart q off).length + (sellPart q off).length : Nat) : Int) = -(((buyPart q S).length + (sellPart q S).length : Nat) : Int)) := by omega
    rw [if_neg (fun z => by injection z with z _; exact e z), HT.lexLt_cons, if_neg e]
    exact decide_eq_true (by omega)
theorem rowLt_irr (r : Row) : rowLt r r = false := by
  cases h : rowLt r r with
  | false => rfl
  | true => exact absurd h (by rw [rowLt_asym r r h]; decide)
theorem find_min {off : Int → Bool} {R : List Int} {KR : Row} (hKR : KR.2 = R) (hin : rowIn off R = true) : ∀ {out : List Row}, out.Pairwise (fun r q => rowLt q r = false) → (∀ e ∈ out, rowIn off e.2 = true → e.2 = R ∨ rowLt KR e = true) → KR ∈ out → (out.map (·.2)).find? (rowIn off) = some R
  | [], _, _, h => by cases h
  | e :: out, hp, h, hm => by
    obtain ⟨h1, h2⟩ := List.pairwise_cons.mp hp
    rw [List.map_cons, List.find?_cons]
    cases he : rowIn off e.2 with
    | true =>
      rcases h e List.mem_cons_self he with z | z
      · simp [z]
      · exfalso
        rcases List.mem_cons.mp hm with y | y
        · rw [y, rowLt_irr] at z
          cases z
        · rw [h1 KR y] at z
          cases z
    | false =>
      have hne : KR ≠ e := fun z => by
        rw [← z, hKR, hin] at he
        cases he
      exact find_min hKR hin h2 (fun d hd => h d (List.mem_cons_of_mem _ hd)) ((List.mem_cons.mp hm).resolve_left hne)
/-- what the law's table is made of -/
structure TableOf (q : Plain) (wb ws : List Int) (out : List Row) : Prop where
  len : out.length ≤ 64
  so : out.Pairwise fun r q => rowLt q r = false
  mem : ∀ e, e ∈ out ↔ ∃ r ∈ subsL (sortI (wb ++ ws)), lawP (fun _ => 0) q (fun c => decide (c ∈ r)) ≠ [] ∧ e = entR wb ws (lawP (fun _ => 0) q fun c => decide (c ∈ r))
theorem ms_pr (h : IsMS q wb ws) (pr pr' : Int → Int) (off : Int → Bool) : lawP pr q off = lawP pr' q off := by rw [ms_law h, ms_law h]
theorem ms_congr (h : IsMS q wb ws) {off off' : Int → Bool} (e : ∀ c, c ∈ wb ∨ c ∈ ws → off c = off' c) : lawP pr q off = lawP pr q off' := by
  have e1 : wb.filter off = wb.filter off' := List.filter_congr fun c hc => e c (Or.inl hc)
  have e2 : ws.filter off = ws.filter off' := List.filter_congr fun c hc => e c (Or.inr hc)
  rcases h with ⟨r, rfl, _⟩ | ⟨br, sr, rfl, _⟩
  · simp only [lawP, e1, e2]
  · simp only [lawP, e1, e2]
theorem table_first (h : IsMS q wb ws) (nb : wb.Nodup) (ns : ws.Nodup) (hd : ∀ c ∈ wb, c ∉ ws) {out : List Row} (t : TableOf q wb ws out) (off : Int → Bool) : firstRow (out.map (·.2)) off = lawP pr q off := by
  rw [ms_pr h pr fun _ => 0]
  have hR : lawP (fun _ => 0) q off = lawP (fun _ => 0) q fun c => decide (c ∈ (sortI (wb ++ ws)).filter off) := by
    refine ms_congr h fun c hc => ?_
    have hm : c ∈ sortI (wb ++ ws) := sortI_mem.mpr (List.mem_append.mpr hc)
    cases ho : off c with
    | true => exact (decide_eq_true (List.mem_filter.mpr ⟨hm, ho⟩)).symm
    | false => exact (decide_eq_false fun z => by rw [(List.mem_filter.mp z).2] at ho; cases ho).symm
  have hsubs := subsL_filter off _ (sortI (wb ++ ws)) rfl
  have hrow : ∀ e ∈ out, rowIn off e.2 = true → e.2 = lawP (fun _ => 0) q off ∨ rowLt (entR wb ws (lawP (fun _ => 0) q off)) e = true := by
    intro e he hin
    obtain ⟨r, _, _, rfl⟩ := (t.mem e).mp he
    by_cases z : lawP (fun _ => 0) q (fun c => decide (c ∈ r)) = lawP (fun _ => 0) q off
    · exact Or.inl z
    · exact Or.inr (ms_less h nb ns hd hin z)
  have hself : rowIn off (lawP (fun _ => 0) q off) = true := by
    refine List.all_eq_true.mpr fun c hc => ?_
    rw [ms_law h, sortI_mem] at hc
    obtain ⟨k1, e1⟩ := ms_buy h off
    obtain ⟨k2, e2⟩ := ms_sell h off
    rw [e1, e2] at hc
    rcases List.mem_append.mp hc with z | z
    · exact (List.mem_filter.mp (List.mem_of_mem_take z)).2
    · exact (List.mem_filter.mp (List.mem_of_mem_take z)).2
  unfold firstRow
  by_cases hz : lawP (fun _ => 0) q off = []
  · rw [hz]
    have : (out.map (·.2)).find? (rowIn off) = none := by
      refine List.find?_eq_none.mpr fun y hy hin => ?_
      obtain ⟨e, he, rfl⟩ := List.mem_map.mp hy
      obtain ⟨r, _, hne, rfl⟩ := (t.mem e).mp he
      have hlt := ms_less (pr := fun _ => 0) (S := fun c => decide (c ∈ r)) h nb ns hd hin (by rw [hz]; exact hne)
      rw [hz] at hlt
      unfold entR rowLt at hlt
      simp only at hlt
      have hpos : 0 < (lawP (fun _ => 0) q fun c => decide (c ∈ r)).length := List.length_pos_iff.mpr hne
      rw [if_neg (fun z => by injection z with z _; simp only [List.length_nil] at z; omega), HT.lexLt_cons, if_neg (by simp only [List.length_nil]; omega)] at hlt
      have := of_decide_eq_true hlt
      simp only [List.length_nil] at this
      omega
    rw [this]
    rfl
  · have hm : entR wb ws (lawP (fun _ => 0) q off) ∈ out := (t.mem _).mpr ⟨_, hsubs, by rw [← hR]; exact hz, by rw [← hR]⟩
    rw [find_min (KR := entR wb ws (lawP (fun _ => 0) q off)) rfl hself t.so hrow hm]
    rfl
end
/-- what a choice among the buys bs and the sells ss must be -/
structure OkPlain (bs ss : List Int) (p : Plain) : Prop where
  good : ∀ pr, Good bs ss (progP pr p)
  agr : ∀ pr, Agrees pr p
  ok : ∀ cs, (∀ c ∈ bs, InC cs c) → (∀ c ∈ ss, InC cs c) → OkPl cs p
theorem ms_good {q : Plain} {wb ws : List Int} (h : IsMS q wb ws) (nb : wb.Nodup) (ns : ws.Nodup) (hd : ∀ c ∈ wb, c ∉ ws) (pr : Int → Int) : Good wb ws (progP pr q) := by
  rcases h with ⟨r, rfl, h0⟩ | ⟨br, sr, rfl, _⟩
  · exact good_maker pr h0 nb ns hd
  · exact good_sides pr br sr nb ns hd
theorem table_ok {q : Plain} {wb ws bs ss : List Int} (h : IsMS q wb ws) (nb : wb.Nodup) (ns : ws.Nodup) (hb : ∀ c ∈ wb, c ∈ bs) (hs : ∀ c ∈ ws, c ∈ ss) (hd : ∀ c ∈ bs, c ∉ ss) (hlen : wb.length + ws.length ≤ 100) {out : List Row} (t : TableOf q wb ws out) : OkPlain bs ss (.table (out.map (·.2))) := by
  have hd' : ∀ c ∈ wb, c ∉ ws := fun c h1 h2 => hd c (hb c h1) (hs c h2)
  have rows : ∀ r ∈ out.map (·.2), ∃ off, r = lawP (fun _ => 0) q off := by
    intro r hr
    obtain ⟨e, he, rfl⟩ := List.mem_map.mp hr
    obtain ⟨r, _, _, rfl⟩ := (t.mem e).mp he
    exact ⟨_, rfl⟩
  refine ⟨fun pr => ?_, fun pr => agrees_table pr fun r hr => ?_, fun cs _ _ => ⟨?_, fun r hr => ?_⟩⟩
  · have g := (ms_good h nb ns hd' pr).more hb hs hd
    have e : ∀ off, progP pr (.table (out.map (·.2))) off = sortI (progP pr q off) := fun off => by
      show firstRow (out.map (·.2)) off = _
      rw [table_first (pr := pr) h nb ns hd' t off, ms_law h, ms_eq h]
    refine g.congr (fun off => ?_) fun off c => ?_
    · rw [e, sortI_nodup]
      exact g.nd off
    · rw [e, sortI_mem]
  · obtain ⟨off, rfl⟩ := rows r hr
    rw [ms_law h]
    exact sortI_sorted _
  · rw [List.length_map]
    have := t.len
    omega
  · obtain ⟨off, rfl⟩ := rows r hr
    rw [ms_law h, sortI_len, List.length_append]
    obtain ⟨k1, e1⟩ := ms_buy h off
    obtain ⟨k2, e2⟩ := ms_sell h off
    have l1 : (buyPart q off).length ≤ wb.length := by
      rw [e1]
      exact ((List.take_sublist _ _).trans List.filter_sublist).length_le
    have l2 : (sellPart q off).length ≤ ws.length := by
      rw [e2]
      exact ((List.take_sublist _ _).trans List.filter_sublist).length_le
    omega
end Nc
set_option maxHeartbeats 4000000
/-! GE: tables. -/
namespace Nc
open PySem PySem.Spec L2
theorem eqv_row (r q : Row) (h : r.1.length = q.1.length) : PyData.eqv (eRow r) (eRow q) = decide (r = q) := by
  have key : ∀ (a b : List Int) (x y : List Int), a.length = b.length → PyData.eqvAll (a.map PyData.int ++ [tI x]) (b.map PyData.int ++ [tI y]) = decide (a = b ∧ x = y) := by
    intro a
    induction a with
    | nil =>
      intro b x y hl
      have : b = [] := List.length_eq_zero_iff.mp hl.symm
      subst this
      simp only [List.map_nil, List.nil_append, PyData.eqvAll, eqv_tI]
      simp
    | cons i a ih =>
      intro b x y hl
      match b, hl with
      | j :: b, hl =>
        rw [List.map_cons, List.map_cons, List.cons_append, List.cons_append, PyData.eqvAll, ih b x y (by simpa using hl)]
        have e : PyData.eqv (.int i) (.int j) = decide (i = j) := by
          rw [PyData.eqv]
          by_cases h : i = j
          · subst h; simp
          · simp [h]
        rw [e]
        by_cases h1 : i = j <;> by_cases h2 : a = b <;> by_cases h3 : x = y <;> simp [h1, h2, h3]
  obtain ⟨a, x⟩ := r
  obtain ⟨b, y⟩ := q
  show PyData.eqv (.tuple _) (.tuple _) = _
  rw [PyData.eqv, key a b x y h]
  exact decide_eq_decide.mpr ⟨fun z => by rw [z.1, z.2], fun z => by cases z; exact ⟨rfl, rfl⟩⟩
theorem row_shaped (r : Row) : SeqAt.shaped (eRow r) = true := by
  have lay : ∀ (a x : List Int), PyData.canLayAll0 (a.map PyData.int ++ [tI x]) = true := by
    intro a x
    induction a with
    | nil => simp [PyData.canLayAll0, PyData.canLay0, lay_ints x]
    | cons i a ih => simp [PyData.canLayAll0, PyData.canLay0, ih]
  have dep : ∀ (a x : List Int), PyData.depthAll (a.map PyData.int ++ [tI x]) ≤ 2 := by
    intro a x
    induction a with
    | nil =>
      have := depth_ints x
      simp only [List.map_nil, List.nil_append, PyData.depthAll, PyData.depth]
      omega
    | cons i a ih =>
      simp only [List.map_cons, List.cons_append, PyData.depthAll, PyData.depth]
      omega
  obtain ⟨a, x⟩ := r
  show (PyData.canLay0 (eRow (a, x)) && decide (PyData.depth (eRow (a, x)) ≤ 64)) = true
  rw [Bool.and_eq_true]
  refine ⟨by simp only [PyData.canLay0]; exact lay a x, decide_eq_true ?_⟩
  have := dep a x
  simp only [PyData.depth]
  omega
/-- a tuple of data whose items that are tuples have no dict -/
def TdZ (K : PySem.W.Frag) (H : Hp) (v : V) (ds : List PyData) : Prop := ∃ a xs, v = .ref a ∧ SqT K H a xs ∧ TdAll K H xs ds ∧ ∀ t, V.ref t ∈ xs → TupZ H (.ref t)
theorem TdZ.td {K : PySem.W.Frag} {H : Hp} {v : V} {ds : List PyData} (h : TdZ K H v ds) : Td K H v (.tuple ds) := by
  obtain ⟨a, xs, rfl, h1, h2, _⟩ := h
  exact .tup h1 h2
theorem TdZ.keep {T : List (Addr × Str)} {M : List Addr} {K : PySem.W.Frag} {H H1 : Hp} {v : V} {ds : List PyData} (f : Fr T M H H1) (h : TdZ K H v ds) : TdZ K H1 v ds := by
  obtain ⟨a, xs, rfl, h1, h2, h3⟩ := h
  exact ⟨a, xs, rfl, f.sqT h1, h2.mono f, fun t ht => (h3 t ht).keep f⟩
theorem q_ixZ {K : PySem.W.Frag} {H : Hp} {v : V} {ds : List PyData} {d : PyData} {Q : VK} {k : Int} (h : TdZ K H v ds) (hk : atI ds k = some d) (q : ∀ u, Td K H u d → (∀ t, u = .ref t → TupZ H u) → Q u H) : rIxT K v (.int k) H Q := by
  obtain ⟨a, xs, rfl, h1, h2, h3⟩ := h
  obtain ⟨u, hu, hd⟩ := h2.atI hk
  refine ⟨a, xs, k, u, rfl, rfl, h1, hu, q u hd fun t ht => ?_⟩
  subst ht
  refine h3 t ?_
  unfold atI at hu
  cases e : ixN xs.length k with
  | none => rw [e] at hu; cases hu
  | some j => rw [e] at hu; exact List.mem_of_getElem? hu
theorem td_tZ {K : PySem.W.Frag} {H : Hp} {u : V} {ns : List Int} (h : Td K H u (tI ns)) (z : ∀ t, u = .ref t → TupZ H u) : TupZ H u := by
  obtain ⟨a, rfl, _⟩ := td_tI h
  exact z a rfl
def dsOf : Plain → List PyData
  | .maker r b s => [.str "maker", .int r, tI b, tI s]
  | .sides br b sr s => [.str "sides", .int br, tI b, .int sr, tI s]
  | _ => []
theorem rows_shaped (es : List Row) : SeqAt.shaped (.list (es.map eRow)) = true := by
  have sh : ∀ r : Row, PyData.canLay0 (eRow r) = true ∧ PyData.depth (eRow r) ≤ 64 := fun r => by
    have := row_shaped r
    have h : (PyData.canLay0 (eRow r) && decide (PyData.depth (eRow r) ≤ 64)) = true := this
    rw [Bool.and_eq_true] at h
    exact ⟨h.1, of_decide_eq_true h.2⟩
  have dep3 : ∀ r : Row, PyData.depth (eRow r) ≤ 3 := by
    intro r
    have dep : ∀ (a x : List Int), PyData.depthAll (a.map PyData.int ++ [tI x]) ≤ 2 := by
      intro a x
      induction a with
      | nil =>
        have := depth_ints x
        simp only [List.map_nil, List.nil_append, PyData.depthAll, PyData.depth]
        omega
      | cons i a ih =>
        simp only [List.map_cons, List.cons_append, PyData.depthAll, PyData.depth]
        omega
    have := dep r.1 r.2
    simp only [PyData.depth]
    omega
  have lay : PyData.canLayAll0 (es.map eRow) = true := by
    induction es with
    | nil => simp [PyData.canLayAll0]
    | cons r es ih =>
      rw [List.map_cons, PyData.canLayAll0, (sh r).1, ih]
      rfl
  have dep : PyData.depthAll (es.map eRow) ≤ 4 := by
    induction es with
    | nil => simp [PyData.depthAll]
    | cons r es ih =>
      have := dep3 r
      have ih := ih (by
        rw [List.map_cons, PyData.canLayAll0, Bool.and_eq_true] at lay
        exact lay.2)
      rw [List.map_cons, PyData.depthAll]
      omega
  show (PyData.canLay0 (.list (es.map eRow)) && decide (PyData.depth (.list (es.map eRow)) ≤ 64)) = true
  rw [Bool.and_eq_true]
  refine ⟨by simp only [PyData.canLay0]; exact lay, decide_eq_true ?_⟩
  simp only [PyData.depth]
  omega
theorem any_row {e : Row} : ∀ {es : List Row}, (∀ r ∈ es, r.1.length = e.1.length) → ((es.map eRow).any fun z => PyData.eqv z (eRow e)) = decide (e ∈ es)
  | [], _ => by simp
  | r :: es, h => by
    rw [List.map_cons, List.any_cons, any_row fun r hr => h r (List.mem_cons_of_mem _ hr), eqv_row r e (h r List.mem_cons_self)]
    by_cases h1 : r = e
    · subst h1
      simp
    · have h2 : ¬ e = r := fun z => h1 z.symm
      simp [h1, h2]
theorem q_notInRow {K : PySem.W.Frag} {H : Hp} {D : Addr} {vs : List V} {es : List Row} {v : V} {e : Row} {Q : VK} (h : H D = some (.lst vs)) (hd : TdAll K H vs (es.map eRow)) (hv : Td K H v (eRow e)) (hlen : ∀ r ∈ es, r.1.length = e.1.length) (q : Q (.bl (!decide (e ∈ es))) H) : rNotInD K v (.ref D) H Q := by
  refine ⟨eRow e, es.map eRow, hv.dp, .lst (SqL.of h) hd.dp, row_shaped e, rows_shaped es, ?_⟩
  have e1 := any_row (e := e) hlen
  rw [e1]
  exact q
local macro_rules | `(tactic| walk_at "st") => `(tactic| (repeat (first
  | ((with_reducible refine' r_var ?e ?_); (case e => exact rfl))
  | (with_reducible refine' r_op ?_)
  | (with_reducible refine' r_c ?_)
  | (with_reducible refine' r_cons ?_)
  | (with_reducible refine' r_nil ?_)
  | (with_reducible refine' r_cb ?_)
  | (with_reducible refine' r_call ?_)
  | (with_reducible refine' r_test ?_)
  | (with_reducible refine' r_lc ?_)
  | (with_reducible refine' r_lc2 ?_)
  | (with_reducible refine' r_sk ?_)
  | (with_reducible refine' r_iZ ?_)
  | (with_reducible refine' r_sl3 ?_)
  | (with_reducible refine' r_bmZ ?_)
  | (with_reducible refine' r_dg ?_)
  | (with_reducible refine' r_dpS ?_)
  | (with_reducible refine' r_dp1 ?_)
  | (with_reducible refine' r_dn ?_)
  | (with_reducible refine' r_iT ?_)
  | (with_reducible refine' r_iL ?_)
  | (with_reducible refine' r_iE ?_)
  | (with_reducible refine' r_iR ?_)
  | (with_reducible refine' r_ret ?_)
  | (with_reducible refine' r_asgS ?_)
  | (with_reducible refine' r_asg1 ?_)
  | (with_reducible refine' r_asgTS ?_)
  | (with_reducible refine' r_ifS ?_)
  | (with_reducible refine' r_if1 ?_)
  | (with_reducible refine' r_forS ?_)
  | (with_reducible refine' r_for1 ?_)
  | (with_reducible refine' r_dropS ?_)
  | (with_reducible refine' r_drop1 ?_)
  | (with_reducible refine' r_tup ?_)
  | (with_reducible refine' r_lst ?_)
  | (with_reducible refine' r_sl ?_)
  | (with_reducible refine' r_noP ?_)
  | (with_reducible refine' r_part ?_)
  | (with_reducible refine' r_bm ?_)
  | (with_reducible refine' r_bm0 ?_)
  | (with_reducible refine' r_un ?_)
  | (with_reducible refine' r_notV ?_)
  | (with_reducible refine' r_B ?_)
  | (with_reducible refine' r_and ?_)
  | (with_reducible refine' r_or ?_)
  | (with_reducible refine' r_not ?_)
  | (with_reducible refine' r_yes ?_)
  | (with_reducible refine' r_next ?_)
  | (with_reducible refine' r_break ?_)
  | (with_reducible refine' r_gn ?_)
  | (with_reducible refine' r_tupRg ?_)
  | (with_reducible refine' r_rg1 ?_)
  )))
local macro_rules | `(tactic| walk_at "no") => `(tactic| (refine q_eqS ⟨_, rfl, ite2 (fun e => absurd (of_decide_eq_true e) (by decide +kernel)) (fun _ => ?_)⟩; walk_at "st"; try dsimp only))
local macro_rules | `(tactic| walk_at "yes") => `(tactic| (refine q_eqS ⟨_, rfl, ite2 (fun _ => ?_) (fun e => absurd (decide_eq_true rfl) e)⟩; walk_at "st"))
section
variable {P : Program} {w : World} {K : PySem.W.Frag} {mg : Str → Option Value} {base : Heap}
variable {T : List (Addr × Str)}
def sp_law_table (K : PySem.W.Frag) (T : List (Addr × Str)) : Sp := Sp1 fun a H Q => ∃ (q : Plain) (wb ws : List Int), IsMS q wb ws ∧ TdZ K H a (dsOf q) ∧ wb.Nodup ∧ ws.Nodup ∧ (∀ c ∈ wb, c ∉ ws) ∧ wb.length + ws.length ≤ 5 ∧
  ∀ v H' out, TableOf q wb ws out → Fr T [] H H' → Td K H' v (eP (.table (out.map (·.2)))) → Q v H'
/-! ### _law_table -/
abbrev s_law_table : Stmt := topS 35
abbrev N_law_table : List Str := ["_law_choice_here", "_law_sides", "_law_rows", "_law_offered", "_law_row", "_law_places", "_law_contract"]
theorem sc_law_table : FnScope N_law_table ["_law_choice_here"] (defScope s_law_table) := ⟨rfl, rfl, rfl, by decide +kernel, rfl, by decide +kernel, by decide +kernel⟩
theorem d_law_table (B : B0 mg) (A0 : At K mg "_law_table" s_law_table) (D_law_subsets : Dn P w K mg base "_law_subsets" ["_law_contracts"] 1 (sp_law_subsets K T)) (D_law_choose : Dn P w K mg base "_law_choose" ["_law_contracts", "_law_choice_here", "_law_offered"] 4 (sp_law_choose K T 2)) : Dn P w K mg base "_law_table" ["_law_choice_here"] 5 (sp_law_table K T) := by
  obtain ⟨f_law_subsets, fd_law_subsets, G_law_subsets, g_law_subsets, k_law_subsets, b_law_subsets⟩ := D_law_subsets
  obtain ⟨f_law_choose, fd_law_choose, G_law_choose, g_law_choose, k_law_choose, b_law_choose⟩ := D_law_choose
  refine dn1 A0 sc_law_table (fun _ _ F => F.bindsN fun _ _ _ _ _ _ us hl => match us, hl with | [_], _ => rfl) fun f cdv A outer s H a0 Q E hr h => ?_
  have hu := hr.units
  have hu5 := units5 hr
  have hu1 := units1 hr
  have nd := sc_law_table.nd
  refine ⟨_, (pss_cons
  (ps_set (i := 1) nd rfl (by first | exact Or.inl rfl | exact Or.inr rfl) (pe_lst (pa_cons (pe_ix (kIxT (K := K) rfl) (pv 0) pe_int (fun _ _ => rfl)) (pa_cons (pe_ix (kIxT (K := K) rfl) (pv 0) pe_int (fun _ _ => rfl)) pa_nil))))
  (pss_cons
  (ps_if (pt_cmpR op_eq (pe_ix (kIxT (K := K) rfl) (pv 0) pe_int (fun _ _ => rfl)) pe_str (by rfl)) (pss_one
  (ps_set (i := 1) nd rfl (by first | exact Or.inl rfl | exact Or.inr rfl) (pe_lst (pa_cons (pe_ix (kIxT (K := K) rfl) (pv 0) pe_int (fun _ _ => rfl)) (pa_cons (pe_ix (kIxT (K := K) rfl) (pv 0) pe_int (fun _ _ => rfl)) pa_nil))))) pss_nil)
  (pss_cons
  (ps_set (i := 2) nd rfl (by first | exact Or.inl rfl | exact Or.inr rfl) (pe_lst pa_nil))
  (pss_cons
  (ps_for PassesOwn.never rfl (kpList (K := K) rfl (pe_call G_law_subsets (hr.mono (by decide)) (by rfl) g_law_subsets k_law_subsets b_law_subsets .nil pass0 (pa_cons (pe_callB (kSortTI (K := K) rfl) (by rfl) B.sorted (by decide +kernel) (pa_cons (pe_op (kCatA (K := K) rfl) (pe_ix (kIxL (K := K) rfl) (pv 1) pe_int (fun _ _ => rfl)) (pe_ix (kIxL (K := K) rfl) (pv 1) pe_int (fun _ _ => rfl))) pa_nil)) pa_nil))) (pg_name (i := 3) nd rfl (by first | exact Or.inl rfl | exact Or.inr rfl)) (pss_cons
  (ps_set (i := 4) nd rfl (by first | exact Or.inl rfl | exact Or.inr rfl) (pe_call G_law_choose (hr.mono (by decide)) (by rfl) g_law_choose k_law_choose b_law_choose .nil pass0 (pa_cons (pe_tup pa_nil) (pa_cons (pv 0) (pa_cons (pv 3) pa_nil)))))
  (pss_cons
  (ps_set (i := 5) nd rfl (by first | exact Or.inl rfl | exact Or.inr rfl) (pe_callB (kSum (K := K) rfl rfl) (by rfl) B.sum (by decide +kernel) (pa_cons (pe_lc (own := [("_law_contract", 6)]) (g := (gName 6)) (by rfl) nd (kpTup (K := K) rfl (pv 4)) (blkOk_by (own := [("_law_contract", 6)]) (N := N_law_table) (sc := defScope s_law_table) (by decide +kernel)) (fun _ _ _ _ _ => (pg_name (i := 6) nd rfl (by first | exact Or.inl rfl | exact Or.inr rfl))) (fun _ _ _ _ _ => pts_nil) (fun _ _ _ _ _ => (pe_bmZ PySem.F.plainAttrs_tuple PySem.F.slot_tuple_index PySem.F.type_tuple_index (kTIndex (K := K) rfl) (pe_ix (kIxL (K := K) rfl) (pv 1) (pe_callTy call_int1 (by rfl) B.int (by decide +kernel) (pa_cons (pe_cmpR (kIn (K := K) rfl) (pv 6) (pe_ix (kIxL (K := K) rfl) (pv 1) pe_int (fun _ _ => rfl)) (by rfl)) pa_nil)) (fun _ _ => rfl)) (pa_cons (pv 6) pa_nil)))) pa_nil)))
  (pss_one
  (ps_if (PW.pt (pw_and (pt_cmpR op_gt (pe_callB (kLen (K := K) rfl) (by rfl) B.len PySem.boot_len (pa_cons (pv 4) pa_nil)) pe_int (by rfl)) (pw_and1 (pt_cmpR (kNotInD (K := K) hu5 rfl) (pe_tup (pa_cons (pe_un un_neg (pe_callB (kLen (K := K) rfl) (by rfl) B.len PySem.boot_len (pa_cons (pv 4) pa_nil))) (pa_cons (pv 5) (pa_cons (pv 4) pa_nil)))) (pv 2) (by rfl))))) (pss_one
  (ps_expr (pe_bm PySem.F.plainAttrs_list PySem.F.slot_list_append PySem.F.type_list_append mt_append (pv 2) (pa_cons (pe_tup (pa_cons (pe_un un_neg (pe_callB (kLen (K := K) rfl) (by rfl) B.len PySem.boot_len (pa_cons (pv 4) pa_nil))) (pa_cons (pv 5) (pa_cons (pv 4) pa_nil)))) pa_nil)))) pss_nil)))))
  (pss_one
  (ps_ret (pe_tup (pa_cons pe_str (pa_cons (pe_callTy (kTuple (K := K) rfl) (by rfl) B.tuple (by decide +kernel) (pa_cons (pe_lc (own := [("_law_row", 4)]) (g := (gName 4)) (by rfl) nd (kpList (K := K) rfl (pe_callB (kSortRow (K := K) hu rfl) (by rfl) B.sorted (by decide +kernel) (pa_cons (pv 2) pa_nil))) (blkOk_by (own := [("_law_row", 4)]) (N := N_law_table) (sc := defScope s_law_table) (by decide +kernel)) (fun _ _ _ _ _ => (pg_name (i := 4) nd rfl (by first | exact Or.inl rfl | exact Or.inr rfl))) (fun _ _ _ _ _ => pts_nil) (fun _ _ _ _ _ => (pe_ix (kIxT (K := K) rfl) (pv 4) pe_int (fun _ _ => rfl)))) pa_nil)) pa_nil))))))))), ?_⟩
  obtain ⟨q, wb, ws, hq, tZ, nb, ns, hd, hl, qq⟩ := h
  have tq : Td K H a0 (eP q) := by
    rcases hq with ⟨r, rfl, h0⟩ | ⟨br, sr, rfl, h0, h1⟩ <;> exact tZ.td
  have okq : OkPl [] q := by
    rcases hq with ⟨r, rfl, h0⟩ | ⟨br, sr, rfl, h0, h1⟩
    · exact ⟨h0, by omega, by omega⟩
    · exact ⟨h0, h1, by omega, by omega⟩
  rcases id hq with ⟨r, rfl, h0⟩ | ⟨br, sr, rfl, h0, h1⟩
  · walk_at "st"
    refine q_ixZ tZ (d := tI wb) rfl fun y0 v0 z0 => ?_
    walk_at "st"
    refine q_ixZ tZ (d := tI ws) rfl fun y1 v1 z1 => ?_
    replace z0 := td_tZ v0 z0
    replace z1 := td_tZ v1 z1
    walk_at "st"
    refine ⟨Nat.le_of_lt (line_of (show (2 : Nat) ≤ 100000 by decide)), fun sd hsd => ?_⟩
    have fH1 : Fr T [] H (upd H sd (.lst [y0, y1])) := Fr.new hsd
    have hs1 : (upd H sd (.lst [y0, y1])) sd = some (.lst [y0, y1]) := upd_same
    generalize upd H sd (.lst [y0, y1]) = H1 at fH1 hs1
    walk_at "st"
    refine q_ixT (tq.mono fH1) (d := .str "maker") rfl fun yk tk => ?_
    obtain rfl := tk.str_inv
    walk_at "st"
    walk_at "no"
    walk_at "st"
    refine ⟨Nat.zero_le _, fun pa hpa => ?_⟩
    have f01 : Fr T [] H1 (upd H1 pa (.lst [])) := Fr.new hpa
    have hpa0 : (upd H1 pa (.lst [])) pa = some (.lst []) := upd_same
    have nsd0 : sd ≠ pa := ne_of_none hs1 hpa
    generalize upd H1 pa (.lst []) = H0 at f01 hpa0
    have hsd := f01.lst0 hs1
    have fH0 := fH1.trans f01
    have npa : Fresh H pa := fH1.there hpa
    replace v0 := v0.mono fH0
    replace v1 := v1.mono fH0
    replace z0 := z0.keep fH0
    replace z1 := z1.keep fH0
    generalize hqe : Plain.maker r wb ws = q at hq tq tZ okq qq
    walk_at "st"
    refine q_ixL hsd rfl ?_
    walk_at "st"
    refine q_ixL hsd rfl ?_
    refine q_catT (T := T) v0 v1 (by omega) fun u2 H2 f2 t2 => ?_
    obtain ⟨a2, rfl, sq2⟩ := td_tI t2
    walk_at "st"
    refine ⟨a2, _, rfl, sq2, fun p3 hp3 => ?_⟩
    have f3 : Fr T [] H2 (upd H2 p3 (.lst ((sortI (wb ++ ws)).map V.int))) := Fr.new hp3
    have hx3 : (upd H2 p3 (.lst ((sortI (wb ++ ws)).map V.int))) p3 = some (.lst ((sortI (wb ++ ws)).map V.int)) := upd_same
    generalize upd H2 p3 (.lst ((sortI (wb ++ ws)).map V.int)) = H3 at f3 hx3
    have sl : (sortI (wb ++ ws)).length ≤ 5 := by rw [sortI_len, List.length_append]; omega
    walk_at "st"
    refine ⟨_, rfl, sortI (wb ++ ws), SqI.of_l hx3, by omega, fun p4 H4 xs rows hp4 f4 hx4 tx4 pm => ?_⟩
    have rl : rows.length ≤ 32 := by
      rw [pm.length_eq, subsL_len _ _ rfl]
      exact Nat.pow_le_pow_right (by decide) sl
    have f04 : Fr T [] H0 H4 := (f2.trans f3).trans f4
    have npr4 : p4 ≠ pa := by
      obtain ⟨ps, _⟩ | z := Classical.em (p4 = pa)
      · exfalso
        have e := (f2.trans f3).lst0 hpa0
        obtain ⟨ps, z⟩ := hp4 _ e
        cases z
      · exact z
    have m4 : ∀ z ∈ [pa], ∃ l, H4 z = some (.lst l) := fun z hz => by
      simp at hz
      subst hz
      exact ⟨_, f04.lst0 hpa0⟩
    have nsd : sd ≠ pa := nsd0
    refine for_L (T := T) (M := [pa]) rows tI hx4 tx4 (by simpa using npr4) (fun i σ H' => ∃ (es : List Row) (vs : List V) (x3 x4 x5 x6 : Option V), σ = [some a0, some (.ref sd), some (.ref pa), x3, x4, x5, x6] ∧ Fr T [] H H' ∧ Fr T [pa] H4 H' ∧ H' pa = some (.lst vs) ∧ TdAll K H' vs (es.map eRow) ∧ es.length ≤ i ∧
        ∀ e, e ∈ es ↔ ∃ r ∈ rows.take i, lawP (fun _ => 0) q (fun c => decide (c ∈ r)) ≠ [] ∧ e = entR wb ws (lawP (fun _ => 0) q fun c => decide (c ∈ r)))
      ⟨[], [], none, none, none, none, rfl, fH0.trans f04, Fr.reflM m4, f04.lst0 hpa0, .nil, Nat.zero_le _, by simp⟩ (fun i σ H' q => by obtain ⟨_, _, _, _, _, _, _, _, f, _⟩ := q; exact f) ?_ ?_
    · rintro i r v σ' H5 hi ⟨es, vs, x3, x4, x5, x6, rfl, f5, g5, hp5, te5, hel, hmem⟩ tr
      have hil : i < rows.length := (List.getElem?_eq_some_iff.mp hi).1
      walk_at "st"
      refine ⟨Nat.zero_le _, fun l6 hl6 => ?_⟩
      have f6 : Fr T [] H5 (upd H5 l6 (.tup [])) := Fr.new hl6
      have t6 : Td K (upd H5 l6 (.tup [])) (.ref l6) (.tuple (([] : List Ctr).map eC)) := td_new upd_same .nil
      generalize upd H5 l6 (.tup []) = H6 at f6 t6
      walk_at "st"
      refine ⟨_, _, _, rfl, [], .plain q, r, trivial, t6, (tq.mono f5).mono f6, tr.mono f6, okq, fun v7 H7 f7 t7 => ?_⟩
      have eC7 : lawC (price []) (.plain q) (fun c => decide (c ∈ r)) = lawP (fun _ => 0) q fun c => decide (c ∈ r) := ms_pr hq _ _ _
      rw [eC7] at t7
      generalize hC : (lawP (fun _ => 0) q fun c => decide (c ∈ r)) = C at t7
      have hCm : ∀ c ∈ C, c ∈ wb ∨ c ∈ ws := fun c hc => by
        rw [← hC, ms_law hq, sortI_mem] at hc
        obtain ⟨k1, e1⟩ := ms_buy hq fun c => decide (c ∈ r)
        obtain ⟨k2, e2⟩ := ms_sell hq fun c => decide (c ∈ r)
        rw [e1, e2] at hc
        rcases List.mem_append.mp hc with z | z
        · exact Or.inl (List.mem_filter.mp (List.mem_of_mem_take z)).1
        · exact Or.inr (List.mem_filter.mp (List.mem_of_mem_take z)).1
      have hCl : C.length ≤ 5 := by
        have nd : C.Nodup := by
          rw [← hC]
          have := (ms_good hq nb ns hd (fun _ => 0)).nd fun c => decide (c ∈ r)
          rw [ms_law hq, sortI_nodup, ← ms_eq hq (pr := fun _ => 0)]
          exact this
        have := nodup_len (ys := wb ++ ws) nd fun c hc => List.mem_append.mpr (hCm c hc)
        rw [List.length_append] at this
        omega
      have hsd7 := (g5.trans ((f6.trans f7).wide g5.m1)).lst (f04.lst0 hsd) (by simpa using nsd)
      have v07 : Td K H7 y0 (tI wb) := (((v0.mono f04).mono g5).mono f6).mono f7
      have v17 : Td K H7 y1 (tI ws) := (((v1.mono f04).mono g5).mono f6).mono f7
      have z07 : TupZ H7 y0 := (((z0.keep f04).keep g5).keep f6).keep f7
      have z17 : TupZ H7 y1 := (((z1.keep f04).keep g5).keep f6).keep f7
      walk_at "st"
      refine lc_T (T := T) C .int t7 (line_of (by omega)) (fun _ => true) (fun c => .int (placeOf wb ws c)) (fun _ => rfl) ?_ ?_
      · intro c u H8 hc f8 tu R1 R2 r1 r2
        obtain rfl := tu.int_inv
        walk_at "st"
        refine iteT ?_
        walk_at "st"
        refine q_ixL (f8.lst0 hsd7) rfl ?_
        refine q_in (SqI.of_t (v17.mono f8)) ?_
        refine Or.inr ⟨_, rfl, ?_⟩
        by_cases hm : c ∈ ws
        · have e1 : (if (if false = true then !decide (c ∈ ws) else decide (c ∈ ws)) = true then (1 : Int) else 0) = 1 := by simp [hm]
          rw [e1]
          refine q_ixL (f8.lst0 hsd7) (u := y1) rfl ?_
          obtain ⟨a9, rfl, sq9⟩ := td_tI (v17.mono f8)
          refine ⟨z17.keep f8, ?_⟩
          walk_at "st"
          refine ⟨a9, ws, c, rfl, rfl, sq9, hm, ?_⟩
          have e2 : placeOf wb ws c = ((ws.idxOf c : Nat) : Int) := by unfold placeOf; rw [if_pos hm]
          rw [← e2]
          exact r1 rfl _ _ (Fr.refl _) (.int _)
        · have e1 : (if (if false = true then !decide (c ∈ ws) else decide (c ∈ ws)) = true then (1 : Int) else 0) = 0 := by simp [hm]
          rw [e1]
          refine q_ixL (f8.lst0 hsd7) (u := y0) rfl ?_
          obtain ⟨a9, rfl, sq9⟩ := td_tI (v07.mono f8)
          refine ⟨z07.keep f8, ?_⟩
          walk_at "st"
          refine ⟨a9, wb, c, rfl, rfl, sq9, (hCm c hc).resolve_right hm, ?_⟩
          have e2 : placeOf wb ws c = ((wb.idxOf c : Nat) : Int) := by unfold placeOf; rw [if_neg hm]
          rw [← e2]
          exact r1 rfl _ _ (Fr.refl _) (.int _)
      intro D H8 xs8 hD f8 hx8 tx8
      rw [filt_true] at tx8
      have e8 : (C.map fun c => PyData.int (placeOf wb ws c)) = (C.map (placeOf wb ws)).map PyData.int := by rw [List.map_map]; rfl
      rw [e8] at tx8
      rw [tx8.ints] at hx8
      walk_at "st"
      refine ⟨D, _, rfl, SqL.of hx8, ?_⟩
      have eP8 : (C.map (placeOf wb ws)).sum = places wb ws C := rfl
      rw [eP8]
      have f58 : Fr T [] H5 H8 := (f6.trans f7).trans f8
      have t78 := t7.mono f8
      have f08 := f5.trans f58
      have g08 : Fr T [pa] H4 H8 := g5.trans (f58.wide g5.m1)
      have hp8 := f58.lst0 hp5
      have te8 := te5.mono f58
      have stay : ∀ (H' : Hp) (σ2 : St) (es' : List Row) (vs' : List V), (∃ x3 x4 x5 x6, σ2 = [some a0, some (.ref sd), some (.ref pa), x3, x4, x5, x6]) → Fr T [] H H' → Fr T [pa] H4 H' → H' pa = some (.lst vs') → TdAll K H' vs' (es'.map eRow) → es'.length ≤ i + 1 → (∀ e, e ∈ es' ↔ e ∈ es ∨ (C ≠ [] ∧ e = entR wb ws C)) →
          ∃ (es : List Row) (vs : List V) (x3 x4 x5 x6 : Option V), σ2 = [some a0, some (.ref sd), some (.ref pa), x3, x4, x5, x6] ∧ Fr T [] H H' ∧ Fr T [pa] H4 H' ∧ H' pa = some (.lst vs) ∧ TdAll K H' vs (es.map eRow) ∧ es.length ≤ i + 1 ∧
            ∀ e, e ∈ es ↔ ∃ r ∈ rows.take (i + 1), lawP (fun _ => 0) q (fun c => decide (c ∈ r)) ≠ [] ∧ e = entR wb ws (lawP (fun _ => 0) q fun c => decide (c ∈ r)) := by
        rintro H' σ2 es' vs' ⟨x3, x4, x5, x6, rfl⟩ a1 a2 a3 a4 a5 a6
        refine ⟨es', vs', _, _, _, _, rfl, a1, a2, a3, a4, a5, fun e => ?_⟩
        rw [a6, hmem, take_snoc hi]
        constructor
        · rintro (⟨r', h1, h2⟩ | ⟨h1, h2⟩)
          · exact ⟨r', List.mem_append_left _ h1, h2⟩
          · exact ⟨r, List.mem_append_right _ (List.mem_singleton.mpr rfl), by rw [hC]; exact h1, by rw [hC]; exact h2⟩
        · rintro ⟨r', h1, h2, h3⟩
          rcases List.mem_append.mp h1 with h1 | h1
          · exact Or.inl ⟨r', h1, h2, h3⟩
          · simp at h1
            subst h1
            rw [hC] at h2 h3
            exact Or.inr ⟨h2, h3⟩
      walk_at "st"
      refine q_lenT t78 ?_
      rw [List.length_map]
      walk_at "st"
      refine q_I ⟨_, rfl, ite2 (fun e1 => ?_) (fun e1 => ?_)⟩
      · have hCne : C ≠ [] := fun z => by
          rw [z] at e1
          exact absurd (of_decide_eq_true e1) (by decide)
        walk_at "st"
        refine q_lenT t78 ?_
        rw [List.length_map]
        refine q_U ?_
        walk_at "st"
        refine ⟨Nat.le_of_lt (line_of (show (3 : Nat) ≤ 100000 by decide)), fun l9 hl9 => ?_⟩
        have f9 : Fr T [] H8 (upd H8 l9 (.tup [.int (-(C.length : Int)), .int (places wb ws C), v7])) := Fr.new hl9
        have t9 : Td K (upd H8 l9 (.tup [.int (-(C.length : Int)), .int (places wb ws C), v7])) (.ref l9) (eRow (entR wb ws C)) := td_new upd_same (.cons (.int _) (.cons (.int _) (.cons (t78.mono f9) .nil)))
        generalize upd H8 l9 (.tup [.int (-(C.length : Int)), .int (places wb ws C), v7]) = H9 at f9 t9
        walk_at "st"
        refine q_notInRow (f9.lst0 hp8) (te8.mono f9) t9 (fun r hr => by obtain ⟨r', _, _, rfl⟩ := (hmem r).mp hr; rfl) ?_
        refine ⟨_, rfl, ite2 (fun e2 => ?_) (fun e2 => ?_)⟩
        · have f89 := f08.trans f9
          walk_at "st"
          refine ⟨ty_lst (f9.lst0 hp8), ?_⟩
          walk_at "st"
          refine q_lenT (t78.mono f9) ?_
          rw [List.length_map]
          refine q_U ?_
          walk_at "st"
          refine ⟨Nat.le_of_lt (line_of (show (3 : Nat) ≤ 100000 by decide)), fun l10 hl10 => ?_⟩
          have f10 : Fr T [] H9 (upd H9 l10 (.tup [.int (-(C.length : Int)), .int (places wb ws C), v7])) := Fr.new hl10
          have t10 : Td K (upd H9 l10 (.tup [.int (-(C.length : Int)), .int (places wb ws C), v7])) (.ref l10) (eRow (entR wb ws C)) := td_new upd_same (.cons (.int _) (.cons (.int _) (.cons ((t78.mono f9).mono f10) .nil)))
          generalize upd H9 l10 (.tup [.int (-(C.length : Int)), .int (places wb ws C), v7]) = H10 at f10 t10
          have hp10 := (f9.trans f10).lst0 hp8
          have te10 := te8.mono (f9.trans f10)
          walk_at "st"
          refine q_app hp10 (line_of (by rw [te10.length, List.length_map]; omega)) ?_
          have gx : Fr T [pa] H10 (upd H10 pa (.lst (vs ++ [.ref l10]))) := Fr.set (fun p hp => by simp at hp; subst hp; exact ⟨_, hp10⟩) (by simp)
          refine stay _ _ (es ++ [entR wb ws C]) _ ⟨_, _, _, _, rfl⟩ ((f89.trans f10).mut npa hp10) ((g08.trans ((f9.trans f10).wide g08.m1)).trans gx) upd_same ?_ ?_ ?_
          · rw [List.map_append]
            exact (te10.append (.cons t10 .nil)).mono gx
          · rw [List.length_append]
            exact Nat.succ_le_succ hel
          · intro e
            rw [List.mem_append, List.mem_singleton]
            exact ⟨fun z => z.imp id fun y => ⟨hCne, y⟩, fun z => z.imp id fun y => y.2⟩
        · walk_at "st"
          refine stay _ _ es _ ⟨_, _, _, _, rfl⟩ (f08.trans f9) (g08.trans (f9.wide g08.m1)) (f9.lst0 hp8) (te8.mono f9) (by omega) fun e => ?_
          have hin : entR wb ws C ∈ es := by
            refine Classical.byContradiction fun z => e2 ?_
            rw [decide_eq_false z]
            rfl
          exact ⟨Or.inl, fun z => z.elim id fun y => y.2 ▸ hin⟩
      · refine iteF ?_
        walk_at "st"
        refine stay _ _ es _ ⟨_, _, _, _, rfl⟩ f08 g08 hp8 te8 (by omega) fun e => ?_
        refine ⟨Or.inl, fun z => z.elim id fun y => absurd ?_ e1⟩
        have : 0 < C.length := List.length_pos_iff.mpr y.1
        exact decide_eq_true (by omega)
    · rintro σ' H5 ⟨es, vs, x3, x4, x5, x6, rfl, f5, g5, hp5, te5, hel, hmem⟩
      rw [List.take_of_length_le (Nat.le_refl _)] at hmem
      dsimp only
      refine r_ret ?_
      refine r_tup ?_
      refine r_cons ?_
      refine r_c ?_
      walk_at "st"
      refine ⟨pa, vs, es, 2, rfl, SqL.of hp5, te5, by decide, fun r hr => ?_, fun ys out p6 ty6 pm6 so6 hp6 => ?_⟩
      · obtain ⟨r', _, _, rfl⟩ := (hmem r).mp hr
        rfl
      · have f6 : Fr T [] H5 (upd H5 p6 (.lst ys)) := Fr.new hp6
        have hx6 : (upd H5 p6 (.lst ys)) p6 = some (.lst ys) := upd_same
        have ty6' := ty6.mono f6
        generalize upd H5 p6 (.lst ys) = H6 at f6 hx6 ty6'
        have ol : out.length ≤ 32 := by rw [pm6.length_eq]; omega
        have tof : TableOf q wb ws out := ⟨by omega, so6, fun e => by
          rw [pm6.mem_iff, hmem]
          exact ⟨fun ⟨r, h1, h2⟩ => ⟨r, pm.mem_iff.mp h1, h2⟩, fun ⟨r, h1, h2⟩ => ⟨r, pm.mem_iff.mpr h1, h2⟩⟩⟩
        refine lc_L (T := T) out eRow hx6 ty6' (line_of (by omega)) (fun _ => true) (fun r => tI r.2) (fun _ => rfl) ?_ ?_
        · intro r u H7 hr f7 tu R1 R2 r1 r2
          obtain ⟨r', _, _, rfl⟩ := (tof.mem r).mp hr
          walk_at "st"
          refine iteT ?_
          walk_at "st"
          exact q_ixT tu (d := tI (lawP (fun _ => 0) q fun c => decide (c ∈ r'))) rfl fun u1 t1 => r1 rfl _ _ (Fr.refl _) t1
        · intro D7 H7 zs hD7 f7 hz tz
          rw [filt_true] at tz
          have ez : (out.map fun r => tI r.2) = (out.map (·.2)).map tI := by rw [List.map_map]; rfl
          rw [ez] at tz
          walk_at "st"
          refine q_tupK (T := T) hz tz fun l8 H8 f8 t8 => ?_
          walk_at "st"
          refine ⟨Nat.le_of_lt (line_of (show (2 : Nat) ≤ 100000 by decide)), fun l9 hl9 => ?_⟩
          have f9 : Fr T [] H8 (upd H8 l9 (.tup [.str "table", .ref l8])) := Fr.new hl9
          exact qq _ _ out tof ((((f5.trans f6).trans f7).trans f8).trans f9) (td_new upd_same (.cons (.str _) (.cons (t8.mono f9) .nil)))
  · walk_at "st"
    refine q_ixT tq (d := tI wb) rfl fun z0 w0 => ?_
    walk_at "st"
    refine q_ixT tq (d := .int sr) rfl fun z1 w1 => ?_
    walk_at "st"
    refine ⟨Nat.le_of_lt (line_of (show (2 : Nat) ≤ 100000 by decide)), fun sd0 hsd0 => ?_⟩
    have fHa : Fr T [] H (upd H sd0 (.lst [z0, z1])) := Fr.new hsd0
    generalize upd H sd0 (.lst [z0, z1]) = Ha at fHa
    walk_at "st"
    refine q_ixT (tq.mono fHa) (d := .str "sides") rfl fun yk tk => ?_
    obtain rfl := tk.str_inv
    walk_at "st"
    walk_at "yes"
    refine q_ixZ (tZ.keep fHa) (d := tI wb) rfl fun y0 v0 z0 => ?_
    walk_at "st"
    refine q_ixZ (tZ.keep fHa) (d := tI ws) rfl fun y1 v1 z1 => ?_
    replace z0 := td_tZ v0 z0
    replace z1 := td_tZ v1 z1
    walk_at "st"
    refine ⟨Nat.le_of_lt (line_of (show (2 : Nat) ≤ 100000 by decide)), fun sd hsd => ?_⟩
    have fH1' : Fr T [] Ha (upd Ha sd (.lst [y0, y1])) := Fr.new hsd
    have hs1 : (upd Ha sd (.lst [y0, y1])) sd = some (.lst [y0, y1]) := upd_same
    generalize upd Ha sd (.lst [y0, y1]) = H1 at fH1' hs1
    have fH1 := fHa.trans fH1'
    walk_at "st"
    refine ⟨Nat.zero_le _, fun pa hpa => ?_⟩
    have f01 : Fr T [] H1 (upd H1 pa (.lst [])) := Fr.new hpa
    have hpa0 : (upd H1 pa (.lst [])) pa = some (.lst []) := upd_same
    have nsd0 : sd ≠ pa := ne_of_none hs1 hpa
    generalize upd H1 pa (.lst []) = H0 at f01 hpa0
    have hsd := f01.lst0 hs1
    have fH0 := fH1.trans f01
    have npa : Fresh H pa := fH1.there hpa
    replace v0 := v0.mono (fH1'.trans f01)
    replace v1 := v1.mono (fH1'.trans f01)
    replace z0 := z0.keep (fH1'.trans f01)
    replace z1 := z1.keep (fH1'.trans f01)
    generalize hqe : Plain.sides br wb sr ws = q at hq tq tZ okq qq
    walk_at "st"
    refine q_ixL hsd rfl ?_
    walk_at "st"
    refine q_ixL hsd rfl ?_
    refine q_catT (T := T) v0 v1 (by omega) fun u2 H2 f2 t2 => ?_
    obtain ⟨a2, rfl, sq2⟩ := td_tI t2
    walk_at "st"
    refine ⟨a2, _, rfl, sq2, fun p3 hp3 => ?_⟩
    have f3 : Fr T [] H2 (upd H2 p3 (.lst ((sortI (wb ++ ws)).map V.int))) := Fr.new hp3
    have hx3 : (upd H2 p3 (.lst ((sortI (wb ++ ws)).map V.int))) p3 = some (.lst ((sortI (wb ++ ws)).map V.int)) := upd_same
    generalize upd H2 p3 (.lst ((sortI (wb ++ ws)).map V.int)) = H3 at f3 hx3
    have sl : (sortI (wb ++ ws)).length ≤ 5 := by rw [sortI_len, List.length_append]; omega
    walk_at "st"
    refine ⟨_, rfl, sortI (wb ++ ws), SqI.of_l hx3, by omega, fun p4 H4 xs rows hp4 f4 hx4 tx4 pm => ?_⟩
    have rl : rows.length ≤ 32 := by
      rw [pm.length_eq, subsL_len _ _ rfl]
      exact Nat.pow_le_pow_right (by decide) sl
    have f04 : Fr T [] H0 H4 := (f2.trans f3).trans f4
    have npr4 : p4 ≠ pa := by
      obtain ⟨ps, _⟩ | z := Classical.em (p4 = pa)
      · exfalso
        have e := (f2.trans f3).lst0 hpa0
        obtain ⟨ps, z⟩ := hp4 _ e
        cases z
      · exact z
    have m4 : ∀ z ∈ [pa], ∃ l, H4 z = some (.lst l) := fun z hz => by
      simp at hz
      subst hz
      exact ⟨_, f04.lst0 hpa0⟩
    have nsd : sd ≠ pa := nsd0
    refine for_L (T := T) (M := [pa]) rows tI hx4 tx4 (by simpa using npr4) (fun i σ H' => ∃ (es : List Row) (vs : List V) (x3 x4 x5 x6 : Option V), σ = [some a0, some (.ref sd), some (.ref pa), x3, x4, x5, x6] ∧ Fr T [] H H' ∧ Fr T [pa] H4 H' ∧ H' pa = some (.lst vs) ∧ TdAll K H' vs (es.map eRow) ∧ es.length ≤ i ∧
        ∀ e, e ∈ es ↔ ∃ r ∈ rows.take i, lawP (fun _ => 0) q (fun c => decide (c ∈ r)) ≠ [] ∧ e = entR wb ws (lawP (fun _ => 0) q fun c => decide (c ∈ r)))
      ⟨[], [], none, none, none, none, rfl, fH0.trans f04, Fr.reflM m4, f04.lst0 hpa0, .nil, Nat.zero_le _, by simp⟩ (fun i σ H' q => by obtain ⟨_, _, _, _, _, _, _, _, f, _⟩ := q; exact f) ?_ ?_
    · rintro i r v σ' H5 hi ⟨es, vs, x3, x4, x5, x6, rfl, f5, g5, hp5, te5, hel, hmem⟩ tr
      have hil : i < rows.length := (List.getElem?_eq_some_iff.mp hi).1
      walk_at "st"
      refine ⟨Nat.zero_le _, fun l6 hl6 => ?_⟩
      have f6 : Fr T [] H5 (upd H5 l6 (.tup [])) := Fr.new hl6
      have t6 : Td K (upd H5 l6 (.tup [])) (.ref l6) (.tuple (([] : List Ctr).map eC)) := td_new upd_same .nil
      generalize upd H5 l6 (.tup []) = H6 at f6 t6
      walk_at "st"
      refine ⟨_, _, _, rfl, [], .plain q, r, trivial, t6, (tq.mono f5).mono f6, tr.mono f6, okq, fun v7 H7 f7 t7 => ?_⟩
      have eC7 : lawC (price []) (.plain q) (fun c => decide (c ∈ r)) = lawP (fun _ => 0) q fun c => decide (c ∈ r) := ms_pr hq _ _ _
      rw [eC7] at t7
      generalize hC : (lawP (fun _ => 0) q fun c => decide (c ∈ r)) = C at t7
      have hCm : ∀ c ∈ C, c ∈ wb ∨ c ∈ ws := fun c hc => by
        rw [← hC, ms_law hq, sortI_mem] at hc
        obtain ⟨k1, e1⟩ := ms_buy hq fun c => decide (c ∈ r)
        obtain ⟨k2, e2⟩ := ms_sell hq fun c => decide (c ∈ r)
        rw [e1, e2] at hc
        rcases List.mem_append.mp hc with z | z
        · exact Or.inl (List.mem_filter.mp (List.mem_of_mem_take z)).1
        · exact Or.inr (List.mem_filter.mp (List.mem_of_mem_take z)).1
      have hCl : C.length ≤ 5 := by
        have nd : C.Nodup := by
          rw [← hC]
          have := (ms_good hq nb ns hd (fun _ => 0)).nd fun c => decide (c ∈ r)
          rw [ms_law hq, sortI_nodup, ← ms_eq hq (pr := fun _ => 0)]
          exact this
        have := nodup_len (ys := wb ++ ws) nd fun c hc => List.mem_append.mpr (hCm c hc)
        rw [List.length_append] at this
        omega
      have hsd7 := (g5.trans ((f6.trans f7).wide g5.m1)).lst (f04.lst0 hsd) (by simpa using nsd)
      have v07 : Td K H7 y0 (tI wb) := (((v0.mono f04).mono g5).mono f6).mono f7
      have v17 : Td K H7 y1 (tI ws) := (((v1.mono f04).mono g5).mono f6).mono f7
      have z07 : TupZ H7 y0 := (((z0.keep f04).keep g5).keep f6).keep f7
      have z17 : TupZ H7 y1 := (((z1.keep f04).keep g5).keep f6).keep f7
      walk_at "st"
      refine lc_T (T := T) C .int t7 (line_of (by omega)) (fun _ => true) (fun c => .int (placeOf wb ws c)) (fun _ => rfl) ?_ ?_
      · intro c u H8 hc f8 tu R1 R2 r1 r2
        obtain rfl := tu.int_inv
        walk_at "st"
        refine iteT ?_
        walk_at "st"
        refine q_ixL (f8.lst0 hsd7) rfl ?_
        refine q_in (SqI.of_t (v17.mono f8)) ?_
        refine Or.inr ⟨_, rfl, ?_⟩
        by_cases hm : c ∈ ws
        · have e1 : (if (if false = true then !decide (c ∈ ws) else decide (c ∈ ws)) = true then (1 : Int) else 0) = 1 := by simp [hm]
          rw [e1]
          refine q_ixL (f8.lst0 hsd7) (u := y1) rfl ?_
          obtain ⟨a9, rfl, sq9⟩ := td_tI (v17.mono f8)
          refine ⟨z17.keep f8, ?_⟩
          walk_at "st"
          refine ⟨a9, ws, c, rfl, rfl, sq9, hm, ?_⟩
          have e2 : placeOf wb ws c = ((ws.idxOf c : Nat) : Int) := by unfold placeOf; rw [if_pos hm]
          rw [← e2]
          exact r1 rfl _ _ (Fr.refl _) (.int _)
        · have e1 : (if (if false = true then !decide (c ∈ ws) else decide (c ∈ ws)) = true then (1 : Int) else 0) = 0 := by simp [hm]
          rw [e1]
          refine q_ixL (f8.lst0 hsd7) (u := y0) rfl ?_
          obtain ⟨a9, rfl, sq9⟩ := td_tI (v07.mono f8)
          refine ⟨z07.keep f8, ?_⟩
          walk_at "st"
          refine ⟨a9, wb, c, rfl, rfl, sq9, (hCm c hc).resolve_right hm, ?_⟩
          have e2 : placeOf wb ws c = ((wb.idxOf c : Nat) : Int) := by unfold placeOf; rw [if_neg hm]
          rw [← e2]
          exact r1 rfl _ _ (Fr.refl _) (.int _)
      intro D H8 xs8 hD f8 hx8 tx8
      rw [filt_true] at tx8
      have e8 : (C.map fun c => PyData.int (placeOf wb ws c)) = (C.map (placeOf wb ws)).map PyData.int := by rw [List.map_map]; rfl
      rw [e8] at tx8
      rw [tx8.ints] at hx8
      walk_at "st"
      refine ⟨D, _, rfl, SqL.of hx8, ?_⟩
      have eP8 : (C.map (placeOf wb ws)).sum = places wb ws C := rfl
      rw [eP8]
      have f58 : Fr T [] H5 H8 := (f6.trans f7).trans f8
      have t78 := t7.mono f8
      have f08 := f5.trans f58
      have g08 : Fr T [pa] H4 H8 := g5.trans (f58.wide g5.m1)
      have hp8 := f58.lst0 hp5
      have te8 := te5.mono f58
      have stay : ∀ (H' : Hp) (σ2 : St) (es' : List Row) (vs' : List V), (∃ x3 x4 x5 x6, σ2 = [some a0, some (.ref sd), some (.ref pa), x3, x4, x5, x6]) → Fr T [] H H' → Fr T [pa] H4 H' → H' pa = some (.lst vs') → TdAll K H' vs' (es'.map eRow) → es'.length ≤ i + 1 → (∀ e, e ∈ es' ↔ e ∈ es ∨ (C ≠ [] ∧ e = entR wb ws C)) →
          ∃ (es : List Row) (vs : List V) (x3 x4 x5 x6 : Option V), σ2 = [some a0, some (.ref sd), some (.ref pa), x3, x4, x5, x6] ∧ Fr T [] H H' ∧ Fr T [pa] H4 H' ∧ H' pa = some (.lst vs) ∧ TdAll K H' vs (es.map eRow) ∧ es.length ≤ i + 1 ∧
            ∀ e, e ∈ es ↔ ∃ r ∈ rows.take (i + 1), lawP (fun _ => 0) q (fun c => decide (c ∈ r)) ≠ [] ∧ e = entR wb ws (lawP (fun _ => 0) q fun c => decide (c ∈ r)) := by
        rintro H' σ2 es' vs' ⟨x3, x4, x5, x6, rfl⟩ a1 a2 a3 a4 a5 a6
        refine ⟨es', vs', _, _, _, _, rfl, a1, a2, a3, a4, a5, fun e => ?_⟩
        rw [a6, hmem, take_snoc hi]
        constructor
        · rintro (⟨r', h1, h2⟩ | ⟨h1, h2⟩)
          · exact ⟨r', List.mem_append_left _ h1, h2⟩
          · exact ⟨r, List.mem_append_right _ (List.mem_singleton.mpr rfl), by rw [hC]; exact h1, by rw [hC]; exact h2⟩
        · rintro ⟨r', h1, h2, h3⟩
          rcases List.mem_append.mp h1 with h1 | h1
          · exact Or.inl ⟨r', h1, h2, h3⟩
          · simp at h1
            subst h1
            rw [hC] at h2 h3
            exact Or.inr ⟨h2, h3⟩
      walk_at "st"
      refine q_lenT t78 ?_
      rw [List.length_map]
      walk_at "st"
      refine q_I ⟨_, rfl, ite2 (fun e1 => ?_) (fun e1 => ?_)⟩
      · have hCne : C ≠ [] := fun z => by
          rw [z] at e1
          exact absurd (of_decide_eq_true e1) (by decide)
        walk_at "st"
        refine q_lenT t78 ?_
        rw [List.length_map]
        refine q_U ?_
        walk_at "st"
        refine ⟨Nat.le_of_lt (line_of (show (3 : Nat) ≤ 100000 by decide)), fun l9 hl9 => ?_⟩
        have f9 : Fr T [] H8 (upd H8 l9 (.tup [.int (-(C.length : Int)), .int (places wb ws C), v7])) := Fr.new hl9
        have t9 : Td K (upd H8 l9 (.tup [.int (-(C.length : Int)), .int (places wb ws C), v7])) (.ref l9) (eRow (entR wb ws C)) := td_new upd_same (.cons (.int _) (.cons (.int _) (.cons (t78.mono f9) .nil)))
        generalize upd H8 l9 (.tup [.int (-(C.length : Int)), .int (places wb ws C), v7]) = H9 at f9 t9
        walk_at "st"
        refine q_notInRow (f9.lst0 hp8) (te8.mono f9) t9 (fun r hr => by obtain ⟨r', _, _, rfl⟩ := (hmem r).mp hr; rfl) ?_
        refine ⟨_, rfl, ite2 (fun e2 => ?_) (fun e2 => ?_)⟩
        · have f89 := f08.trans f9
          walk_at "st"
          refine ⟨ty_lst (f9.lst0 hp8), ?_⟩
          walk_at "st"
          refine q_lenT (t78.mono f9) ?_
          rw [List.length_map]
          refine q_U ?_
          walk_at "st"
          refine ⟨Nat.le_of_lt (line_of (show (3 : Nat) ≤ 100000 by decide)), fun l10 hl10 => ?_⟩
          have f10 : Fr T [] H9 (upd H9 l10 (.tup [.int (-(C.length : Int)), .int (places wb ws C), v7])) := Fr.new hl10
          have t10 : Td K (upd H9 l10 (.tup [.int (-(C.length : Int)), .int (places wb ws C), v7])) (.ref l10) (eRow (entR wb ws C)) := td_new upd_same (.cons (.int _) (.cons (.int _) (.cons ((t78.mono f9).mono f10) .nil)))
          generalize upd H9 l10 (.tup [.int (-(C.length : Int)), .int (places wb ws C), v7]) = H10 at f10 t10
          have hp10 := (f9.trans f10).lst0 hp8
          have te10 := te8.mono (f9.trans f10)
          walk_at "st"
          refine q_app hp10 (line_of (by rw [te10.length, List.length_map]; omega)) ?_
          have gx : Fr T [pa] H10 (upd H10 pa (.lst (vs ++ [.ref l10]))) := Fr.set (fun p hp => by simp at hp; subst hp; exact ⟨_, hp10⟩) (by simp)
          refine stay _ _ (es ++ [entR wb ws C]) _ ⟨_, _, _, _, rfl⟩ ((f89.trans f10).mut npa hp10) ((g08.trans ((f9.trans f10).wide g08.m1)).trans gx) upd_same ?_ ?_ ?_
          · rw [List.map_append]
            exact (te10.append (.cons t10 .nil)).mono gx
          · rw [List.length_append]
            exact Nat.succ_le_succ hel
          · intro e
            rw [List.mem_append, List.mem_singleton]
            exact ⟨fun z => z.imp id fun y => ⟨hCne, y⟩, fun z => z.imp id fun y => y.2⟩
        · walk_at "st"
          refine stay _ _ es _ ⟨_, _, _, _, rfl⟩ (f08.trans f9) (g08.trans (f9.wide g08.m1)) (f9.lst0 hp8) (te8.mono f9) (by omega) fun e => ?_
          have hin : entR wb ws C ∈ es := by
            refine Classical.byContradiction fun z => e2 ?_
            rw [decide_eq_false z]
            rfl
          exact ⟨Or.inl, fun z => z.elim id fun y => y.2 ▸ hin⟩
      · refine iteF ?_
        walk_at "st"
        refine stay _ _ es _ ⟨_, _, _, _, rfl⟩ f08 g08 hp8 te8 (by omega) fun e => ?_
        refine ⟨Or.inl, fun z => z.elim id fun y => absurd ?_ e1⟩
        have : 0 < C.length := List.length_pos_iff.mpr y.1
        exact decide_eq_true (by omega)
    · rintro σ' H5 ⟨es, vs, x3, x4, x5, x6, rfl, f5, g5, hp5, te5, hel, hmem⟩
      rw [List.take_of_length_le (Nat.le_refl _)] at hmem
      dsimp only
      refine r_ret ?_
      refine r_tup ?_
      refine r_cons ?_
      refine r_c ?_
      walk_at "st"
      refine ⟨pa, vs, es, 2, rfl, SqL.of hp5, te5, by decide, fun r hr => ?_, fun ys out p6 ty6 pm6 so6 hp6 => ?_⟩
      · obtain ⟨r', _, _, rfl⟩ := (hmem r).mp hr
        rfl
      · have f6 : Fr T [] H5 (upd H5 p6 (.lst ys)) := Fr.new hp6
        have hx6 : (upd H5 p6 (.lst ys)) p6 = some (.lst ys) := upd_same
        have ty6' := ty6.mono f6
        generalize upd H5 p6 (.lst ys) = H6 at f6 hx6 ty6'
        have ol : out.length ≤ 32 := by rw [pm6.length_eq]; omega
        have tof : TableOf q wb ws out := ⟨by omega, so6, fun e => by
          rw [pm6.mem_iff, hmem]
          exact ⟨fun ⟨r, h1, h2⟩ => ⟨r, pm.mem_iff.mp h1, h2⟩, fun ⟨r, h1, h2⟩ => ⟨r, pm.mem_iff.mpr h1, h2⟩⟩⟩
        refine lc_L (T := T) out eRow hx6 ty6' (line_of (by omega)) (fun _ => true) (fun r => tI r.2) (fun _ => rfl) ?_ ?_
        · intro r u H7 hr f7 tu R1 R2 r1 r2
          obtain ⟨r', _, _, rfl⟩ := (tof.mem r).mp hr
          walk_at "st"
          refine iteT ?_
          walk_at "st"
          exact q_ixT tu (d := tI (lawP (fun _ => 0) q fun c => decide (c ∈ r'))) rfl fun u1 t1 => r1 rfl _ _ (Fr.refl _) t1
        · intro D7 H7 zs hD7 f7 hz tz
          rw [filt_true] at tz
          have ez : (out.map fun r => tI r.2) = (out.map (·.2)).map tI := by rw [List.map_map]; rfl
          rw [ez] at tz
          walk_at "st"
          refine q_tupK (T := T) hz tz fun l8 H8 f8 t8 => ?_
          walk_at "st"
          refine ⟨Nat.le_of_lt (line_of (show (2 : Nat) ≤ 100000 by decide)), fun l9 hl9 => ?_⟩
          have f9 : Fr T [] H8 (upd H8 l9 (.tup [.str "table", .ref l8])) := Fr.new hl9
          exact qq _ _ out tof ((((f5.trans f6).trans f7).trans f8).trans f9) (td_new upd_same (.cons (.str _) (.cons (t8.mono f9) .nil)))
end
end Nc
set_option maxHeartbeats 4000000
/-! GF: plain choices. -/
namespace Nc
open PySem PySem.Spec L2
/-- two ways of an if meet again -/
theorem r_ifJ {tt : TT} {ts ws us : TS} {D : Ends} {σ : St} {H : Hp} (R : St → Hp → Prop) (rest : ∀ σ' H', R σ' H' → us D σ' H') (h : (∀ σ' H', R σ' H' → us D σ' H') → tt σ H fun b H1 => if b = true then ts { D with nx := us D } σ H1 else ws { D with nx := us D } σ H1) : tSeq (tIfS tt ts ws) us D σ H := h rest
theorem ok_ms {q : Plain} {w0 w1 bs ss : List Int} (h : IsMS q w0 w1) (n0 : w0.Nodup) (n1 : w1.Nodup) (h0 : ∀ c ∈ w0, c ∈ bs) (h1 : ∀ c ∈ w1, c ∈ ss) (hd : ∀ c ∈ bs, c ∉ ss) (l0 : w0.length ≤ 100) (l1 : w1.length ≤ 100) : OkPlain bs ss q := by
  refine ⟨fun pr => (ms_good h n0 n1 (fun c a b => hd c (h0 c a) (h1 c b)) pr).more h0 h1 hd, fun pr => ?_, fun cs _ _ => ?_⟩
  · rcases h with ⟨r, rfl, _⟩ | ⟨br, sr, rfl, _⟩
    · exact agrees_maker pr r w0 w1
    · exact agrees_sides pr br w0 sr w1
  · rcases h with ⟨r, rfl, a⟩ | ⟨br, sr, rfl, a, b⟩
    · exact ⟨a, l0, l1⟩
    · exact ⟨a, b, l0, l1⟩
theorem ok_caps {w0 w1 bs ss : List Int} {bg sg : List (List Int × Int)} (n0 : w0.Nodup) (n1 : w1.Nodup) (h0 : ∀ c ∈ w0, c ∈ bs) (h1 : ∀ c ∈ w1, c ∈ ss) (hd : ∀ c ∈ bs, c ∉ ss) (gb : Gr bs bg) (gs : Gr ss sg) (nb : bs.Nodup) (ns : ss.Nodup) (lb : bs.length ≤ 100) (ls : ss.length ≤ 100) : OkPlain bs ss (.caps w0 bg w1 sg) := by
  have l0 : w0.length ≤ 100 := Nat.le_trans (nodup_len n0 h0) lb
  have l1 : w1.length ≤ 100 := Nat.le_trans (nodup_len n1 h1) ls
  refine ⟨fun pr => (good_caps pr n0 n1 (fun c a b => hd c (h0 c a) (h1 c b)) gb.nd gs.nd gb.lam gs.lam).more h0 h1 hd, fun pr => agrees_caps pr n0 n1 gb.nd gs.nd, fun cs _ _ => ?_⟩
  have a := gb.len
  have b := gs.len
  exact ⟨l0, l1, by omega, by omega, fun g hg => Nat.le_trans (gb.le g hg) lb, fun g hg => Nat.le_trans (gs.le g hg) ls⟩
theorem ok_trader {room cost : Int} {w0 w1 bs ss : List Int} (hr : 0 ≤ room) (n0 : w0.Nodup) (n1 : w1.Nodup) (h0 : ∀ c ∈ w0, c ∈ bs) (h1 : ∀ c ∈ w1, c ∈ ss) (hd : ∀ c ∈ bs, c ∉ ss) (l0 : w0.length ≤ 100) (l1 : w1.length ≤ 100) : OkPlain bs ss (.trader room cost (sortI w0) (sortI w1)) := by
  have h0' : ∀ c ∈ sortI w0, c ∈ bs := fun c hc => h0 c (sortI_mem.mp hc)
  have h1' : ∀ c ∈ sortI w1, c ∈ ss := fun c hc => h1 c (sortI_mem.mp hc)
  refine ⟨fun pr => (good_trader pr room cost (sortI_nodup.mpr n0) (sortI_nodup.mpr n1) (fun c a b => hd c (h0' c a) (h1' c b))).more h0' h1' hd, fun pr => agrees_trader pr room cost _ _, fun cs a b => ⟨hr, by rw [sortI_len]; exact l0, by rw [sortI_len]; exact l1, fun n hn => a n (h0' n hn), fun n hn => b n (h1' n hn)⟩⟩
theorem or_pure {tt tu : TT} {σ : St} {H : Hp} {c1 c2 : Bool} (h1 : ∀ Q : Bool → Hp → Prop, Q c1 H → tt σ H Q) (h2 : ∀ Q : Bool → Hp → Prop, Q c2 H → tu σ H Q) (R : Bool → Hp → Prop) (q : R (c1 || c2) H) : tOr tt tu σ H R := by
  refine r_or (h1 _ ?_)
  cases c1 with
  | true => exact iteT q
  | false => exact iteF (h2 _ q)
theorem and_pure {tt tu : TT} {σ : St} {H : Hp} {c1 c2 : Bool} (h1 : ∀ Q : Bool → Hp → Prop, Q c1 H → tt σ H Q) (h2 : ∀ Q : Bool → Hp → Prop, Q c2 H → tu σ H Q) (R : Bool → Hp → Prop) (q : R (c1 && c2) H) : tAnd tt tu σ H R := by
  refine r_and (h1 _ ?_)
  cases c1 with
  | true => exact iteT (h2 _ q)
  | false => exact iteF q
theorem tdZ_new {T : List (Addr × Str)} {K : PySem.W.Frag} {H : Hp} {l : Addr} {xs : List V} {ds : List PyData} (hl : H l = none) (hd : TdAll K H xs ds) (hz : ∀ t, V.ref t ∈ xs → TupZ H (.ref t)) : TdZ K (upd H l (.tup xs)) (.ref l) ds :=
  ⟨l, xs, rfl, SqT.of upd_same, hd.mono (Fr.new (T := T) hl), fun t ht => (hz t ht).keep (Fr.new (T := T) hl)⟩
local macro_rules | `(tactic| walk_at "st") => `(tactic| (repeat (first
  | ((with_reducible refine' r_var ?e ?_); (case e => exact rfl))
  | (with_reducible refine' r_op ?_)
  | (with_reducible refine' r_c ?_)
  | (with_reducible refine' r_cons ?_)
  | (with_reducible refine' r_nil ?_)
  | (with_reducible refine' r_cb ?_)
  | (with_reducible refine' r_call ?_)
  | (with_reducible refine' r_test ?_)
  | (with_reducible refine' r_lc ?_)
  | (with_reducible refine' r_lc2 ?_)
  | (with_reducible refine' r_sk ?_)
  | (with_reducible refine' r_iZ ?_)
  | (with_reducible refine' r_sl3 ?_)
  | (with_reducible refine' r_bmZ ?_)
  | (with_reducible refine' r_dg ?_)
  | (with_reducible refine' r_dpS ?_)
  | (with_reducible refine' r_dp1 ?_)
  | (with_reducible refine' r_dn ?_)
  | (with_reducible refine' r_iT ?_)
  | (with_reducible refine' r_iL ?_)
  | (with_reducible refine' r_iE ?_)
  | (with_reducible refine' r_iR ?_)
  | (with_reducible refine' r_ret ?_)
  | (with_reducible refine' r_asgS ?_)
  | (with_reducible refine' r_asg1 ?_)
  | (with_reducible refine' r_asgTS ?_)
  | (with_reducible refine' r_ifS ?_)
  | (with_reducible refine' r_if1 ?_)
  | (with_reducible refine' r_forS ?_)
  | (with_reducible refine' r_for1 ?_)
  | (with_reducible refine' r_dropS ?_)
  | (with_reducible refine' r_drop1 ?_)
  | (with_reducible refine' r_tup ?_)
  | (with_reducible refine' r_lst ?_)
  | (with_reducible refine' r_sl ?_)
  | (with_reducible refine' r_noP ?_)
  | (with_reducible refine' r_part ?_)
  | (with_reducible refine' r_bm ?_)
  | (with_reducible refine' r_bm0 ?_)
  | (with_reducible refine' r_un ?_)
  | (with_reducible refine' r_notV ?_)
  | (with_reducible refine' r_B ?_)
  | (with_reducible refine' r_and ?_)
  | (with_reducible refine' r_or ?_)
  | (with_reducible refine' r_not ?_)
  | (with_reducible refine' r_yes ?_)
  | (with_reducible refine' r_next ?_)
  | (with_reducible refine' r_break ?_)
  | (with_reducible refine' r_gn ?_)
  | (with_reducible refine' r_tupRg ?_)
  | (with_reducible refine' r_rg1 ?_)
  )))
local macro_rules | `(tactic| walk_at "no") => `(tactic| (refine q_eqS ⟨_, rfl, ite2 (fun e => absurd (of_decide_eq_true e) (by decide +kernel)) (fun _ => ?_)⟩; walk_at "st"; try dsimp only))
local macro_rules | `(tactic| walk_at "yes") => `(tactic| (refine q_eqS ⟨_, rfl, ite2 (fun _ => ?_) (fun e => absurd (decide_eq_true rfl) e)⟩; walk_at "st"))
section
variable {P : Program} {w : World} {K : PySem.W.Frag} {mg : Str → Option Value} {base : Heap}
variable {T : List (Addr × Str)}
def sp_law_plain_choice (K : PySem.W.Frag) (T : List (Addr × Str)) : Sp := Sp4 fun a b c d H Q => ∃ (s p lb ls : Addr) (ns bs ss : List Int), a = .ref s ∧ SqL K H s (ns.map V.int) ∧ s ≠ p ∧ b = .ref p ∧ Dr H p ∧ c = .ref lb ∧ H lb = some (.lst (bs.map V.int)) ∧ lb ≠ p ∧ d = .ref ls ∧ H ls = some (.lst (ss.map V.int)) ∧ ls ≠ p ∧
  bs.Nodup ∧ ss.Nodup ∧ (∀ c ∈ bs, c ∉ ss) ∧ bs.length ≤ 12 ∧ ss.length ≤ 12 ∧ ∀ v H' pl, OkPlain bs ss pl → Fr T [p] H H' → Dr H' p → Td K H' v (eP pl) → Q v H'
/-! ### _law_plain_choice -/
abbrev s_law_plain_choice : Stmt := topS 39
abbrev N_law_plain_choice : List Str := ["_law_script", "_law_draws_here", "_law_buys", "_law_sells", "_law_share", "_law_wishes", "_law_rooms", "_law_kind", "_law_choice_here", "_law_cost"]
theorem sc_law_plain_choice : FnScope N_law_plain_choice ["_law_script", "_law_draws_here", "_law_buys", "_law_sells"] (defScope s_law_plain_choice) := ⟨rfl, rfl, rfl, by decide +kernel, rfl, by decide +kernel, by decide +kernel⟩
theorem d_law_plain_choice (B : B0 mg) (A0 : At K mg "_law_plain_choice" s_law_plain_choice) (D_law_take : Dn P w K mg base "_law_take" ["_law_draws_here", "_law_many"] 1 (sp_law_take K T)) (D_law_mixed : Dn P w K mg base "_law_mixed" ["_law_draws_here", "_law_contracts", "_law_share"] 2 (sp_law_mixed K T)) (D_law_cell : Dn P w K mg base "_law_cell" ["_law_script", "_law_draws_here"] 2 (sp_law_cell K T)) (D_law_groups : Dn P w K mg base "_law_groups" ["_law_draws_here", "_law_contracts"] 2 (sp_law_groups K T)) (D_law_table : Dn P w K mg base "_law_table" ["_law_choice_here"] 5 (sp_law_table K T)) : Dn P w K mg base "_law_plain_choice" ["_law_script", "_law_draws_here", "_law_buys", "_law_sells"] 6 (sp_law_plain_choice K T) := by
  obtain ⟨f_law_take, fd_law_take, G_law_take, g_law_take, k_law_take, b_law_take⟩ := D_law_take
  obtain ⟨f_law_mixed, fd_law_mixed, G_law_mixed, g_law_mixed, k_law_mixed, b_law_mixed⟩ := D_law_mixed
  obtain ⟨f_law_cell, fd_law_cell, G_law_cell, g_law_cell, k_law_cell, b_law_cell⟩ := D_law_cell
  obtain ⟨f_law_groups, fd_law_groups, G_law_groups, g_law_groups, k_law_groups, b_law_groups⟩ := D_law_groups
  obtain ⟨f_law_table, fd_law_table, G_law_table, g_law_table, k_law_table, b_law_table⟩ := D_law_table
  refine dn4 A0 sc_law_plain_choice (fun _ _ F => F.bindsN fun _ _ _ _ _ _ us hl => match us, hl with | [_, _, _, _], _ => rfl) fun f cdv A outer s H a0 a1 a2 a3 Q E hr h => ?_
  have nd := sc_law_plain_choice.nd
  refine ⟨_, (pss_cons
  (ps_set (i := 4) nd rfl (by first | exact Or.inl rfl | exact Or.inr rfl) (pe_ix (kIxL (K := K) rfl) (pe_lst (pa_cons pe_int (pa_cons pe_int (pa_cons pe_int (pa_cons pe_int pa_nil))))) (pe_call G_law_take (hr.mono (by decide)) (by rfl) g_law_take k_law_take b_law_take .nil pass0 (pa_cons (pv 1) (pa_cons pe_int pa_nil))) (fun _ _ => rfl)))
  (pss_cons
  (ps_set (i := 5) nd rfl (by first | exact Or.inl rfl | exact Or.inr rfl) (pe_lst (pa_cons (pe_call G_law_mixed (hr.mono (by decide)) (by rfl) g_law_mixed k_law_mixed b_law_mixed .nil pass0 (pa_cons (pv 1) (pa_cons (pv 2) (pa_cons (pv 4) pa_nil)))) (pa_cons (pe_call G_law_mixed (hr.mono (by decide)) (by rfl) g_law_mixed k_law_mixed b_law_mixed .nil pass0 (pa_cons (pv 1) (pa_cons (pv 3) (pa_cons (pv 4) pa_nil)))) pa_nil))))
  (pss_cons
  (ps_set (i := 6) nd rfl (by first | exact Or.inl rfl | exact Or.inr rfl) (pe_lst (pa_cons (pe_ix (kIxL (K := K) rfl) (pe_lst (pa_cons pe_int (pa_cons pe_int (pa_cons pe_int (pa_cons pe_int (pa_cons pe_int (pa_cons pe_int pa_nil))))))) (pe_call G_law_take (hr.mono (by decide)) (by rfl) g_law_take k_law_take b_law_take .nil pass0 (pa_cons (pv 1) (pa_cons pe_int pa_nil))) (fun _ _ => rfl)) (pa_cons (pe_ix (kIxL (K := K) rfl) (pe_lst (pa_cons pe_int (pa_cons pe_int (pa_cons pe_int (pa_cons pe_int (pa_cons pe_int pa_nil)))))) (pe_call G_law_take (hr.mono (by decide)) (by rfl) g_law_take k_law_take b_law_take .nil pass0 (pa_cons (pv 1) (pa_cons pe_int pa_nil))) (fun _ _ => rfl)) pa_nil))))
  (pss_cons
  (ps_if (pt_cmpR op_eq (pe_call G_law_take (hr.mono (by decide)) (by rfl) g_law_take k_law_take b_law_take .nil pass0 (pa_cons (pv 1) (pa_cons pe_int pa_nil))) pe_int (by rfl)) (pss_one
  (ps_set (i := 6) nd rfl (by first | exact Or.inl rfl | exact Or.inr rfl) (pe_slice3 (K := K) rfl (pe_lst (pa_cons (pe_callB call_abs (by rfl) B.abs (by decide +kernel) (pa_cons (pe_call G_law_cell (hr.mono (by decide)) (by rfl) g_law_cell k_law_cell b_law_cell .nil pass0 (pa_cons (pv 0) (pa_cons (pv 1) pa_nil))) pa_nil)) (pa_cons (pe_ix (kIxL (K := K) rfl) (pv 6) pe_int (fun _ _ => rfl)) pa_nil))) po_none po_none (po_some (pe_ix (kIxL (K := K) rfl) (pe_lst (pa_cons pe_int (pa_cons (pe_un un_neg pe_int) pa_nil))) (pe_call G_law_take (hr.mono (by decide)) (by rfl) g_law_take k_law_take b_law_take .nil pass0 (pa_cons (pv 1) (pa_cons pe_int pa_nil))) (fun _ _ => rfl)))))) pss_nil)
  (pss_cons
  (ps_set (i := 7) nd rfl (by first | exact Or.inl rfl | exact Or.inr rfl) (pe_call G_law_take (hr.mono (by decide)) (by rfl) g_law_take k_law_take b_law_take .nil pass0 (pa_cons (pv 1) (pa_cons pe_int pa_nil))))
  (pss_cons
  (ps_if (pt_cmpR op_eq (pv 7) pe_int (by rfl)) (pss_one
  (ps_ret (pe_tup (pa_cons pe_str (pa_cons (pe_ix (kIxL (K := K) rfl) (pv 5) pe_int (fun _ _ => rfl)) (pa_cons (pe_call G_law_groups (hr.mono (by decide)) (by rfl) g_law_groups k_law_groups b_law_groups .nil pass0 (pa_cons (pv 1) (pa_cons (pv 2) pa_nil))) (pa_cons (pe_ix (kIxL (K := K) rfl) (pv 5) pe_int (fun _ _ => rfl)) (pa_cons (pe_call G_law_groups (hr.mono (by decide)) (by rfl) g_law_groups k_law_groups b_law_groups .nil pass0 (pa_cons (pv 1) (pa_cons (pv 3) pa_nil))) pa_nil)))))))) pss_nil)
  (pss_cons
  (ps_if (PW.pt (pw_and (pt_cmpR op_lt (pv 7) pe_int (by rfl)) (pw_and (pt_cmpR op_gt (pe_callB (kLen (K := K) rfl) (by rfl) B.len PySem.boot_len (pa_cons (pv 2) pa_nil)) pe_int (by rfl)) (pw_and1 (pt_cmpR op_gt (pe_callB (kLen (K := K) rfl) (by rfl) B.len PySem.boot_len (pa_cons (pv 3) pa_nil)) pe_int (by rfl)))))) (pss_cons
  (ps_set (i := 9) nd rfl (by first | exact Or.inl rfl | exact Or.inr rfl) (pe_op op_sub (pe_call G_law_take (hr.mono (by decide)) (by rfl) g_law_take k_law_take b_law_take .nil pass0 (pa_cons (pv 1) (pa_cons pe_int pa_nil))) pe_int))
  (pss_cons
  (ps_if (pt_cmpR op_eq (pe_call G_law_take (hr.mono (by decide)) (by rfl) g_law_take k_law_take b_law_take .nil pass0 (pa_cons (pv 1) (pa_cons pe_int pa_nil))) pe_int (by rfl)) (pss_one
  (ps_set (i := 9) nd rfl (by first | exact Or.inl rfl | exact Or.inr rfl) (pe_call G_law_cell (hr.mono (by decide)) (by rfl) g_law_cell k_law_cell b_law_cell .nil pass0 (pa_cons (pv 0) (pa_cons (pv 1) pa_nil))))) pss_nil)
  (pss_one
  (ps_ret (pe_tup (pa_cons pe_str (pa_cons (pe_ix (kIxL (K := K) rfl) (pv 6) pe_int (fun _ _ => rfl)) (pa_cons (pv 9) (pa_cons (pe_callTy (kTuple (K := K) rfl) (by rfl) B.tuple (by decide +kernel) (pa_cons (pe_callB (kSortTI (K := K) rfl) (by rfl) B.sorted (by decide +kernel) (pa_cons (pe_ix (kIxL (K := K) rfl) (pv 5) pe_int (fun _ _ => rfl)) pa_nil)) pa_nil)) (pa_cons (pe_callTy (kTuple (K := K) rfl) (by rfl) B.tuple (by decide +kernel) (pa_cons (pe_callB (kSortTI (K := K) rfl) (by rfl) B.sorted (by decide +kernel) (pa_cons (pe_ix (kIxL (K := K) rfl) (pv 5) pe_int (fun _ _ => rfl)) pa_nil)) pa_nil)) pa_nil)))))))))) pss_nil)
  (pss_cons
  (ps_set (i := 8) nd rfl (by first | exact Or.inl rfl | exact Or.inr rfl) (pe_tup (pa_cons pe_str (pa_cons (pe_ix (kIxL (K := K) rfl) (pv 6) pe_int (fun _ _ => rfl)) (pa_cons (pe_ix (kIxL (K := K) rfl) (pv 5) pe_int (fun _ _ => rfl)) (pa_cons (pe_ix (kIxL (K := K) rfl) (pv 5) pe_int (fun _ _ => rfl)) pa_nil))))))
  (pss_cons
  (ps_if (PW.pt (pw_or (pt_cmpR op_lt (pv 7) pe_int (by rfl)) (pw_or (pt_cmpR op_eq (pe_callB (kLen (K := K) rfl) (by rfl) B.len PySem.boot_len (pa_cons (pv 2) pa_nil)) pe_int (by rfl)) (pw_or1 (pt_cmpR op_eq (pe_callB (kLen (K := K) rfl) (by rfl) B.len PySem.boot_len (pa_cons (pv 3) pa_nil)) pe_int (by rfl)))))) (pss_one
  (ps_set (i := 8) nd rfl (by first | exact Or.inl rfl | exact Or.inr rfl) (pe_tup (pa_cons pe_str (pa_cons (pe_ix (kIxL (K := K) rfl) (pv 6) pe_int (fun _ _ => rfl)) (pa_cons (pe_ix (kIxL (K := K) rfl) (pv 5) pe_int (fun _ _ => rfl)) (pa_cons (pe_ix (kIxL (K := K) rfl) (pv 6) pe_int (fun _ _ => rfl)) (pa_cons (pe_ix (kIxL (K := K) rfl) (pv 5) pe_int (fun _ _ => rfl)) pa_nil)))))))) pss_nil)
  (pss_cons
  (ps_if (PW.pt (pw_and (pt_cmpR op_eq (pe_call G_law_take (hr.mono (by decide)) (by rfl) g_law_take k_law_take b_law_take .nil pass0 (pa_cons (pv 1) (pa_cons pe_int pa_nil))) pe_int (by rfl)) (pw_and (pt_cmpR op_lt (pe_op op_add (pe_callB (kLen (K := K) rfl) (by rfl) B.len PySem.boot_len (pa_cons (pe_ix (kIxL (K := K) rfl) (pv 5) pe_int (fun _ _ => rfl)) pa_nil)) (pe_callB (kLen (K := K) rfl) (by rfl) B.len PySem.boot_len (pa_cons (pe_ix (kIxL (K := K) rfl) (pv 5) pe_int (fun _ _ => rfl)) pa_nil))) pe_int (by rfl)) (pw_and1 (pt_cmpR op_lt (pe_op op_add (pe_callB (kLen (K := K) rfl) (by rfl) B.len PySem.boot_len (pa_cons (pv 2) pa_nil)) (pe_callB (kLen (K := K) rfl) (by rfl) B.len PySem.boot_len (pa_cons (pv 3) pa_nil))) pe_int (by rfl)))))) (pss_one
  (ps_ret (pe_call G_law_table (hr.mono (by decide)) (by rfl) g_law_table k_law_table b_law_table .nil pass0 (pa_cons (pv 8) pa_nil)))) pss_nil)
  (pss_one
  (ps_ret (pv 8))))))))))))), ?_⟩
  obtain ⟨s, p, lb, ls, ns, bs, ss, rfl, hs, hsp, rfl, hp, rfl, hb, hbp, rfl, hss, hlsp, nb, nss, hd, lb12, ls12, qq⟩ := h
  walk_at "st"
  refine ⟨Nat.le_of_lt (line_of (show (4 : Nat) ≤ 100000 by decide)), fun h1 hh1 => ?_⟩
  have f1 : Fr T [] H (upd H h1 (.lst [.int 8, .int 8, .int 7, .int 5])) := Fr.new hh1
  have hx1 : (upd H h1 (.lst [.int 8, .int 8, .int 7, .int 5])) h1 = some (.lst (([8, 8, 7, 5] : List Int).map V.int)) := upd_same
  have n1p : h1 ≠ p := by
    obtain ⟨ds, e⟩ := hp
    exact (ne_of_none e hh1).symm
  generalize upd H h1 (.lst [.int 8, .int 8, .int 7, .int 5]) = H1 at f1 hx1
  have d1 := hp.keep f1
  walk_at "st"
  refine ⟨_, _, rfl, p, 4, rfl, d1, rfl, by decide, fun r2 H2 r20 r24 f2 d2 => ?_⟩
  obtain ⟨share, _, hshare⟩ := at_draw (ns := [8, 8, 7, 5]) r20 r24
  refine q_ixL (f2.lst hx1 (by simpa using n1p)) hshare ?_
  have f02 : Fr T [p] H H2 := (f1.wide hp.m).trans f2
  walk_at "st"
  refine ⟨_, _, _, rfl, p, lb, bs, share, rfl, d2, rfl, f02.lst hb (by simpa using hbp), hbp, nb, by omega, rfl, fun v3 H3 w0 m0 f3 d3 t3 z3 => ?_⟩
  have f03 := f02.trans f3
  walk_at "st"
  refine ⟨_, _, _, rfl, p, ls, ss, share, rfl, d3, rfl, f03.lst hss (by simpa using hlsp), hlsp, nss, by omega, rfl, fun v4 H4 w1 m1 f4 d4 t4 z4 => ?_⟩
  have f04 := f03.trans f4
  have w0l : w0.length ≤ 12 := Nat.le_trans m0.len lb12
  have w1l : w1.length ≤ 12 := Nat.le_trans m1.len ls12
  walk_at "st"
  refine ⟨Nat.le_of_lt (line_of (show (2 : Nat) ≤ 100000 by decide)), fun hw hhw => ?_⟩
  have f5 : Fr T [] H4 (upd H4 hw (.lst [v3, v4])) := Fr.new hhw
  have hx5 : (upd H4 hw (.lst [v3, v4])) hw = some (.lst [v3, v4]) := upd_same
  have nwp : hw ≠ p := by
    obtain ⟨ds, e⟩ := d4
    exact (ne_of_none e hhw).symm
  have t35 := (t3.mono f4).mono f5
  have t45 := t4.mono f5
  have z35 := (z3.keep f4).keep f5
  have z45 := z4.keep f5
  generalize upd H4 hw (.lst [v3, v4]) = H5 at f5 hx5 t35 t45 z35 z45
  have d5 := d4.keep f5
  have f05 := f04.trans (f5.wide d4.m)
  walk_at "st"
  refine ⟨Nat.le_of_lt (line_of (show (6 : Nat) ≤ 100000 by decide)), fun h6 hh6 => ?_⟩
  have f6 : Fr T [] H5 (upd H5 h6 (.lst [.int 1, .int 1, .int 2, .int 3, .int 9, .int 0])) := Fr.new hh6
  have hx6 : (upd H5 h6 (.lst [.int 1, .int 1, .int 2, .int 3, .int 9, .int 0])) h6 = some (.lst (([1, 1, 2, 3, 9, 0] : List Int).map V.int)) := upd_same
  have n6p : h6 ≠ p := by
    obtain ⟨ds, e⟩ := d5
    exact (ne_of_none e hh6).symm
  generalize upd H5 h6 (.lst [.int 1, .int 1, .int 2, .int 3, .int 9, .int 0]) = H6 at f6 hx6
  have d6 := d5.keep f6
  walk_at "st"
  refine ⟨_, _, rfl, p, 6, rfl, d6, rfl, by decide, fun r7 H7 r70 r76 f7 d7 => ?_⟩
  obtain ⟨ra, hra, hra2⟩ := at_draw (ns := [1, 1, 2, 3, 9, 0]) r70 r76
  have ra0 : 0 ≤ ra := by
    revert hra
    clear hra2
    simp only [List.mem_cons, List.not_mem_nil, or_false]
    omega
  refine q_ixL (f7.lst hx6 (by simpa using n6p)) hra2 ?_
  walk_at "st"
  refine ⟨Nat.le_of_lt (line_of (show (5 : Nat) ≤ 100000 by decide)), fun h8 hh8 => ?_⟩
  have f8 : Fr T [] H7 (upd H7 h8 (.lst [.int 1, .int 1, .int 2, .int 9, .int 0])) := Fr.new hh8
  have hx8 : (upd H7 h8 (.lst [.int 1, .int 1, .int 2, .int 9, .int 0])) h8 = some (.lst (([1, 1, 2, 9, 0] : List Int).map V.int)) := upd_same
  have n8p : h8 ≠ p := by
    obtain ⟨ds, e⟩ := d7
    exact (ne_of_none e hh8).symm
  generalize upd H7 h8 (.lst [.int 1, .int 1, .int 2, .int 9, .int 0]) = H8 at f8 hx8
  have d8 := d7.keep f8
  walk_at "st"
  refine ⟨_, _, rfl, p, 5, rfl, d8, rfl, by decide, fun r9 H9 r90 r95 f9 d9 => ?_⟩
  obtain ⟨rb, hrb, hrb2⟩ := at_draw (ns := [1, 1, 2, 9, 0]) r90 r95
  have rb0 : 0 ≤ rb := by
    revert hrb
    clear hrb2
    simp only [List.mem_cons, List.not_mem_nil, or_false]
    omega
  refine q_ixL (f9.lst hx8 (by simpa using n8p)) hrb2 ?_
  walk_at "st"
  refine ⟨Nat.le_of_lt (line_of (show (2 : Nat) ≤ 100000 by decide)), fun hr0 hhr => ?_⟩
  have f10 : Fr T [] H9 (upd H9 hr0 (.lst [.int ra, .int rb])) := Fr.new hhr
  have hx10 : (upd H9 hr0 (.lst [.int ra, .int rb])) hr0 = some (.lst [.int ra, .int rb]) := upd_same
  have nrp : hr0 ≠ p := by
    obtain ⟨ds, e⟩ := d9
    exact (ne_of_none e hhr).symm
  generalize upd H9 hr0 (.lst [.int ra, .int rb]) = H10 at f10 hx10
  have d10 := d9.keep f10
  have f510 : Fr T [p] H5 H10 := ((((f6.wide d5.m).trans f7).trans (f8.wide d7.m)).trans f9).trans (f10.wide d9.m)
  refine r_ifJ (fun σ' H' => ∃ (hr : Addr) (r0 r1 : Int), σ' = [some (.ref s), some (.ref p), some (.ref lb), some (.ref ls), some (.int share), some (.ref hw), some (.ref hr), none, none, none] ∧ Fr T [p] H5 H' ∧ Dr H' p ∧ H' hr = some (.lst [.int r0, .int r1]) ∧ hr ≠ p ∧ 0 ≤ r0 ∧ 0 ≤ r1) ?_ fun rest => ?_
  rotate_left
  · walk_at "st"
    refine ⟨_, _, rfl, p, 12, rfl, d10, rfl, by decide, fun r11 H11 _ _ f11 d11 => ?_⟩
    have f511 := f510.trans f11
    have hx11 := f11.lst hx10 (by simpa using nrp)
    walk_at "st"
    refine q_eqI ⟨_, rfl, ite2 (fun e => ?_) (fun e => ?_)⟩
    · walk_at "st"
      refine ⟨_, _, rfl, s, p, ns, rfl, (f05.trans f511).sqL (by simpa using hsp) hs, hsp, rfl, d11, fun cell H12 f12 d12 => ?_⟩
      have hx12 := f12.lst hx11 (by simpa using nrp)
      walk_at "st"
      refine ⟨cell, rfl, ?_⟩
      generalize hab : (if cell < 0 then -cell else cell) = ab
      have ab0 : 0 ≤ ab := by
        rw [← hab]
        split <;> omega
      walk_at "st"
      refine q_ixL hx12 (u := .int ra) rfl ?_
      walk_at "st"
      refine ⟨Nat.le_of_lt (line_of (show (2 : Nat) ≤ 100000 by decide)), fun h13 hh13 => ?_⟩
      have f13 : Fr T [] H12 (upd H12 h13 (.lst [.int ab, .int ra])) := Fr.new hh13
      have hx13 : (upd H12 h13 (.lst [.int ab, .int ra])) h13 = some (.lst [.int ab, .int ra]) := upd_same
      have n13p : h13 ≠ p := by
        obtain ⟨ds, e⟩ := d12
        exact (ne_of_none e hh13).symm
      generalize upd H12 h13 (.lst [.int ab, .int ra]) = H13 at f13 hx13
      have d13 := d12.keep f13
      walk_at "st"
      refine q_U ?_
      walk_at "st"
      refine ⟨Nat.le_of_lt (line_of (show (2 : Nat) ≤ 100000 by decide)), fun h14 hh14 => ?_⟩
      have f14 : Fr T [] H13 (upd H13 h14 (.lst [.int 1, .int (-1)])) := Fr.new hh14
      have hx14 : (upd H13 h14 (.lst [.int 1, .int (-1)])) h14 = some (.lst (([1, -1] : List Int).map V.int)) := upd_same
      have n14p : h14 ≠ p := by
        obtain ⟨ds, e⟩ := d13
        exact (ne_of_none e hh14).symm
      generalize upd H13 h14 (.lst [.int 1, .int (-1)]) = H14 at f14 hx14
      have d14 := d13.keep f14
      walk_at "st"
      refine ⟨_, _, rfl, p, 2, rfl, d14, rfl, by decide, fun r15 H15 r150 r152 f15 d15 => ?_⟩
      obtain ⟨st, hst, hst2⟩ := at_draw (ns := [1, -1]) r150 r152
      refine q_ixL (f15.lst hx14 (by simpa using n14p)) hst2 ?_
      have hx15 := f15.lst (f14.lst0 hx13) (by simpa using n13p)
      have st1 : st = 1 ∨ st = -1 := by simpa using hst
      have hcut : ∃ r0 r1 : Int, cut3 [V.int ab, V.int ra] none none (some st) = [.int r0, .int r1] ∧ 0 ≤ r0 ∧ 0 ≤ r1 := by
        rcases st1 with rfl | rfl
        · exact ⟨ab, ra, cut_same _ _, ab0, ra0⟩
        · exact ⟨ra, ab, cut_turn _ _, ra0, ab0⟩
      obtain ⟨r0, r1, hcut, r00, r10⟩ := hcut
      refine ⟨st, rfl, h13, _, rfl, SqL.of hx15, ?_, ?_, fun h16 hh16 => ?_⟩
      · rcases st1 with rfl | rfl <;> simp
      · rw [hcut]
        exact Nat.le_of_lt (line_of (show (2 : Nat) ≤ 100000 by decide))
      · rw [hcut]
        have f16 : Fr T [] H15 (upd H15 h16 (.lst [.int r0, .int r1])) := Fr.new hh16
        have n16p : h16 ≠ p := by
          obtain ⟨ds, e⟩ := d15
          exact (ne_of_none e hh16).symm
        refine rest _ _ ⟨h16, r0, r1, rfl, ?_, d15.keep f16, upd_same, n16p, r00, r10⟩
        exact ((((f511.trans f12).trans (f13.wide d12.m)).trans (f14.wide d13.m)).trans f15).trans (f16.wide d15.m)
    · refine r_next ?_
      exact rest _ _ ⟨hr0, ra, rb, rfl, f511, d11, hx11, nrp, ra0, rb0⟩
  rintro σ' Ha ⟨hr, r0, r1, rfl, fa, da, hra', nhr, r00, r10⟩
  have hwa := fa.lst hx5 (by simpa using nwp)
  have t3a := t35.mono fa
  have t4a := t45.mono fa
  have z3a := z35.keep fa
  have z4a := z45.keep fa
  have f0a := f05.trans fa
  walk_at "st"
  refine ⟨_, _, rfl, p, 8, rfl, da, rfl, by decide, fun kind Hb k0 k8 fb db => ?_⟩
  have f0b := f0a.trans fb
  have hwb := fb.lst hwa (by simpa using nwp)
  have hrb' := fb.lst hra' (by simpa using nhr)
  have t3b := t3a.mono fb
  have t4b := t4a.mono fb
  have z3b := z3a.keep fb
  have z4b := z4a.keep fb
  have hbb := f0b.lst hb (by simpa using hbp)
  have hsb := f0b.lst hss (by simpa using hlsp)
  walk_at "st"
  refine q_eqI ⟨_, rfl, ite2 (fun e0 => ?_) (fun e0 => ?_)⟩
  · walk_at "st"
    refine q_ixL hwb (u := v3) rfl ?_
    walk_at "st"
    refine ⟨_, _, rfl, p, lb, bs, rfl, db, rfl, hbb, hbp, nb, by omega, fun vg Hc bg grb fc dc tg => ?_⟩
    have hwc := fc.lst hwb (by simpa using nwp)
    walk_at "st"
    refine q_ixL hwc (u := v4) rfl ?_
    walk_at "st"
    refine ⟨_, _, rfl, p, ls, ss, rfl, dc, rfl, fc.lst hsb (by simpa using hlsp), hlsp, nss, by omega, fun vh Hd sg grs fd dd th => ?_⟩
    walk_at "st"
    refine ⟨Nat.le_of_lt (line_of (show (5 : Nat) ≤ 100000 by decide)), fun l9 hl9 => ?_⟩
    have f9' : Fr T [] Hd (upd Hd l9 (.tup [.str "caps", v3, vg, v4, vh])) := Fr.new hl9
    have fbd := fc.trans fd
    refine qq _ _ _ (ok_caps m0.nd m1.nd m0.sub m1.sub hd grb grs nb nss (by omega) (by omega)) ((f0b.trans fbd).trans (f9'.wide dd.m)) (dd.keep f9') (td_new upd_same ?_)
    exact .cons (.str _) (.cons ((t3b.mono fbd).mono f9') (.cons ((tg.mono fd).mono f9') (.cons ((t4b.mono fbd).mono f9') (.cons (th.mono f9') .nil))))
  refine r_next ?_
  dsimp only
  refine r_ifJ (fun σ' H' => σ' = [some (.ref s), some (.ref p), some (.ref lb), some (.ref ls), some (.int share), some (.ref hw), some (.ref hr), some (.int kind), none, none] ∧ H' = Hb) ?_ fun rest2 => ?_
  rotate_left
  · refine and_pure (c1 := decide (kind < 3)) (c2 := decide (0 < (bs.length : Int)) && decide (0 < (ss.length : Int))) (fun Q q => ?_) (fun Q q => ?_) _ ?_
    · walk_at "st"
      exact q_I ⟨_, rfl, q⟩
    · refine and_pure (c1 := decide (0 < (bs.length : Int))) (c2 := decide (0 < (ss.length : Int))) (fun Q q => ?_) (fun Q q => ?_) _ q
      · walk_at "st"
        refine q_lenL hbb ?_
        rw [List.length_map]
        walk_at "st"
        exact q_I ⟨_, rfl, q⟩
      · walk_at "st"
        refine q_lenL hsb ?_
        rw [List.length_map]
        walk_at "st"
        exact q_I ⟨_, rfl, q⟩
    refine ite2 (fun _ => ?_) (fun _ => ?_)
    · walk_at "st"
      refine ⟨_, _, rfl, p, 5, rfl, db, rfl, by decide, fun r11 Hc _ _ fc dc => ?_⟩
      walk_at "st"
      refine q_I ?_
      refine r_ifJ (fun σ' H' => ∃ cost : Int, σ' = [some (.ref s), some (.ref p), some (.ref lb), some (.ref ls), some (.int share), some (.ref hw), some (.ref hr), some (.int kind), none, some (.int cost)] ∧ Fr T [p] Hb H' ∧ Dr H' p) ?_ fun rest3 => ?_
      rotate_left
      · walk_at "st"
        refine ⟨_, _, rfl, p, 12, rfl, dc, rfl, by decide, fun r12 Hd _ _ fd dd => ?_⟩
        walk_at "st"
        refine q_eqI ⟨_, rfl, ite2 (fun e => ?_) (fun e => ?_)⟩
        · walk_at "st"
          refine ⟨_, _, rfl, s, p, ns, rfl, ((f0b.trans fc).trans fd).sqL (by simpa using hsp) hs, hsp, rfl, dd, fun cell He fe de => ?_⟩
          exact rest3 _ _ ⟨cell, rfl, (fc.trans fd).trans fe, de⟩
        · refine r_next ?_
          exact rest3 _ _ ⟨_, rfl, fc.trans fd, dd⟩
      rintro σ' Hd ⟨cost, rfl, fd, dd⟩
      have hwd := fd.lst hwb (by simpa using nwp)
      obtain ⟨a3, e3, s3⟩ := td_tI (t3b.mono fd)
      obtain ⟨a4, e4, s4⟩ := td_tI (t4b.mono fd)
      walk_at "st"
      refine q_ixL (fd.lst hrb' (by simpa using nhr)) (u := .int r0) rfl ?_
      walk_at "st"
      refine q_ixL hwd (u := v3) rfl ?_
      walk_at "st"
      refine ⟨a3, w0, by rw [e3], s3, fun p1 hp1 => ?_⟩
      walk_at "st"
      refine q_tupK (T := T) upd_same (tdAll_ints _) fun l1 He f1' t1 => ?_
      have fde : Fr T [] Hd He := (Fr.new hp1).trans f1'
      have hwe := fde.lst0 hwd
      walk_at "st"
      refine q_ixL hwe (u := v4) rfl ?_
      walk_at "st"
      refine ⟨a4, w1, by rw [e4], fde.sqT s4, fun p2 hp2 => ?_⟩
      walk_at "st"
      refine q_tupK (T := T) upd_same (tdAll_ints _) fun l2 Hf f2' t2 => ?_
      have fef : Fr T [] He Hf := (Fr.new hp2).trans f2'
      walk_at "st"
      refine ⟨Nat.le_of_lt (line_of (show (5 : Nat) ≤ 100000 by decide)), fun l9 hl9 => ?_⟩
      have f9' : Fr T [] Hf (upd Hf l9 (.tup [.str "trader", .int r0, .int cost, .ref l1, .ref l2])) := Fr.new hl9
      have fdx := (fde.trans fef).trans f9'
      refine qq _ _ _ (ok_trader (cost := cost) r00 m0.nd m1.nd m0.sub m1.sub hd (by omega) (by omega)) ((f0b.trans fd).trans (fdx.wide dd.m)) (dd.keep fdx) (td_new upd_same ?_)
      exact .cons (.str _) (.cons (.int _) (.cons (.int _) (.cons ((t1.mono fef).mono f9') (.cons (t2.mono f9') .nil))))
    · refine r_next ?_
      exact rest2 _ _ ⟨rfl, rfl⟩
  rintro σ' Hb' ⟨rfl, rfl⟩
  walk_at "st"
  refine q_ixL hrb' (u := .int r0) rfl ?_
  walk_at "st"
  refine q_ixL hwb (u := v3) rfl ?_
  walk_at "st"
  refine q_ixL hwb (u := v4) rfl ?_
  walk_at "st"
  refine ⟨Nat.le_of_lt (line_of (show (4 : Nat) ≤ 100000 by decide)), fun l8 hl8 => ?_⟩
  have zz : ∀ t, V.ref t = v3 ∨ V.ref t = v4 → TupZ Hb' (.ref t) := fun t ht => by
    rcases ht with e | e
    · rw [e]; exact z3b
    · rw [e]; exact z4b
  have f18 : Fr T [] Hb' (upd Hb' l8 (.tup [.str "maker", .int r0, v3, v4])) := Fr.new hl8
  have t18 : TdZ K (upd Hb' l8 (.tup [.str "maker", .int r0, v3, v4])) (.ref l8) (dsOf (.maker r0 w0 w1)) := tdZ_new (T := T) hl8 (.cons (.str _) (.cons (.int _) (.cons t3b (.cons t4b .nil)))) fun t ht => zz t (by simpa using ht)
  generalize upd Hb' l8 (.tup [.str "maker", .int r0, v3, v4]) = H8' at f18 t18
  refine r_ifJ (fun σ' H' => ∃ (q : Plain) (v : V), σ' = [some (.ref s), some (.ref p), some (.ref lb), some (.ref ls), some (.int share), some (.ref hw), some (.ref hr), some (.int kind), some v, none] ∧ Fr T [] Hb' H' ∧ IsMS q w0 w1 ∧ TdZ K H' v (dsOf q)) ?_ fun rest4 => ?_
  rotate_left
  · refine or_pure (c1 := decide (kind < 5)) (c2 := decide ((bs.length : Int) = 0) || decide ((ss.length : Int) = 0)) (fun Q q => ?_) (fun Q q => ?_) _ ?_
    · walk_at "st"
      exact q_I ⟨_, rfl, q⟩
    · refine or_pure (c1 := decide ((bs.length : Int) = 0)) (c2 := decide ((ss.length : Int) = 0)) (fun Q q => ?_) (fun Q q => ?_) _ q
      · walk_at "st"
        refine q_lenL (f18.lst0 hbb) ?_
        rw [List.length_map]
        walk_at "st"
        exact q_eqI ⟨_, rfl, q⟩
      · walk_at "st"
        refine q_lenL (f18.lst0 hsb) ?_
        rw [List.length_map]
        walk_at "st"
        exact q_eqI ⟨_, rfl, q⟩
    refine ite2 (fun _ => ?_) (fun _ => ?_)
    · have hr8 := f18.lst0 hrb'
      have hw8 := f18.lst0 hwb
      walk_at "st"
      refine q_ixL hr8 (u := .int r0) rfl ?_
      walk_at "st"
      refine q_ixL hw8 (u := v3) rfl ?_
      walk_at "st"
      refine q_ixL hr8 (u := .int r1) rfl ?_
      walk_at "st"
      refine q_ixL hw8 (u := v4) rfl ?_
      walk_at "st"
      refine ⟨Nat.le_of_lt (line_of (show (5 : Nat) ≤ 100000 by decide)), fun l9 hl9 => ?_⟩
      refine rest4 _ _ ⟨.sides r0 w0 r1 w1, .ref l9, rfl, f18.trans (Fr.new hl9), Or.inr ⟨r0, r1, rfl, r00, r10⟩, tdZ_new (T := T) hl9 (.cons (.str _) (.cons (.int _) (.cons (t3b.mono f18) (.cons (.int _) (.cons (t4b.mono f18) .nil))))) fun t ht => (zz t (by simpa using ht)).keep f18⟩
    · refine r_next ?_
      exact rest4 _ _ ⟨.maker r0 w0 w1, .ref l8, rfl, f18, Or.inl ⟨r0, rfl, r00⟩, t18⟩
  rintro σ' Hc ⟨q, v, rfl, fc, hq, tq⟩
  have dc := db.keep fc
  have f0c := f0b.trans (fc.wide db.m)
  have dis : ∀ c ∈ w0, c ∉ w1 := fun c a b => hd c (m0.sub c a) (m1.sub c b)
  walk_at "st"
  refine ⟨_, _, rfl, p, 4, rfl, dc, rfl, by decide, fun r13 Hd _ _ fd dd => ?_⟩
  have f0d := f0c.trans fd
  have tqd := tq.keep fd
  have fin : ∃ ds, eP q = .tuple ds ∧ dsOf q = ds := by
    rcases hq with ⟨r, rfl, _⟩ | ⟨br, sr, rfl, _, _⟩ <;> exact ⟨_, rfl, rfl⟩
  have eq : eP q = .tuple (dsOf q) := by
    obtain ⟨ds, a, b⟩ := fin
    rw [a, b]
  have stay : Q v Hd := by
    refine qq v Hd q (ok_ms hq m0.nd m1.nd m0.sub m1.sub hd (by omega) (by omega)) f0d dd ?_
    rw [eq]
    exact tqd.td
  have hwd := fd.lst (fc.lst0 hwb) (by simpa using nwp)
  have t3d := (t3b.mono fc).mono fd
  have t4d := (t4b.mono fc).mono fd
  have hbd := fd.lst (fc.lst0 hbb) (by simpa using hbp)
  have hsd := fd.lst (fc.lst0 hsb) (by simpa using hlsp)
  walk_at "st"
  refine q_eqI ⟨_, rfl, ite2 (fun _ => ?_) (fun _ => ?_)⟩
  · refine and_pure (c1 := decide ((w0.length : Int) + (w1.length : Int) < 6)) (c2 := decide ((bs.length : Int) + (ss.length : Int) < 7)) (fun Q q => ?_) (fun Q q => ?_) _ ?_
    · walk_at "st"
      refine q_ixL hwd (u := v3) rfl ?_
      walk_at "st"
      refine q_lenT t3d ?_
      rw [List.length_map]
      walk_at "st"
      refine q_ixL hwd (u := v4) rfl ?_
      walk_at "st"
      refine q_lenT t4d ?_
      rw [List.length_map]
      refine q_I ?_
      walk_at "st"
      exact q_I ⟨_, rfl, q⟩
    · walk_at "st"
      refine q_lenL hbd ?_
      rw [List.length_map]
      walk_at "st"
      refine q_lenL hsd ?_
      rw [List.length_map]
      refine q_I ?_
      walk_at "st"
      exact q_I ⟨_, rfl, q⟩
    refine ite2 (fun e => ?_) (fun _ => ?_)
    · rw [Bool.and_eq_true] at e
      have e1 := of_decide_eq_true e.1
      walk_at "st"
      refine ⟨_, rfl, q, w0, w1, hq, tqd, m0.nd, m1.nd, dis, by omega, fun v2 He out tof fe te => ?_⟩
      exact qq _ _ _ (table_ok hq m0.nd m1.nd m0.sub m1.sub hd (by omega) tof) (f0d.trans (fe.wide dd.m)) (dd.keep fe) te
    · walk_at "st"
      exact stay
  · refine iteF ?_
    walk_at "st"
    exact stay
end
end Nc
set_option maxHeartbeats 4000000
/-! GH: choices. -/
namespace Nc
open PySem PySem.Spec L2
structure OkChoice (bs ss : List Int) (ch : Choice) : Prop where
  good : ∀ pr, Good bs ss (progC pr ch)
  agr : ∀ pr off, lawC pr ch off = sortI (progC pr ch off)
  ok : ∀ cs, (∀ c ∈ bs, InC cs c) → (∀ c ∈ ss, InC cs c) → OkCh cs ch
theorem OkPlain.choice {bs ss : List Int} {p : Plain} (h : OkPlain bs ss p) : OkChoice bs ss (.plain p) := ⟨h.good, fun pr off => (h.agr pr).eq off, h.ok⟩
theorem flat_sort (f g : Plain → List Int) : ∀ (ps : List Plain), (∀ p ∈ ps, g p = sortI (f p)) → (ps.flatMap g).Perm (ps.flatMap f)
  | [], _ => List.Perm.refl _
  | p :: ps, h => by
    rw [List.flatMap_cons, List.flatMap_cons, h p List.mem_cons_self]
    exact (sortI_perm _).append (flat_sort f g ps fun q hq => h q (List.mem_cons_of_mem _ hq))
theorem split_ok {bs ss : List Int} {ps : List Plain} {L : Nat → List Int} (hd : ∀ c ∈ bs, c ∉ ss) (hl : ps.length ≤ 100) (hL : ∀ j j', j ≠ j' → ∀ c ∈ L j, c ∉ L j')
    (h : ∀ (j : Nat) p, ps[j]? = some p → OkPlain (bs.filter fun c => decide (c ∈ L j)) (ss.filter fun c => decide (c ∈ L j)) p) : OkChoice bs ss (.split ps) := by
  have hm : ∀ p ∈ ps, ∃ j : Nat, ps[j]? = some p := fun p hp => List.mem_iff_getElem?.mp hp
  have more : ∀ pr, ∀ p ∈ ps, Good bs ss (progP pr p) := fun pr p hp => by
    obtain ⟨j, hj⟩ := hm p hp
    exact ((h j p hj).good pr).more (fun c hc => (List.mem_filter.mp hc).1) (fun c hc => (List.mem_filter.mp hc).1) hd
  refine ⟨fun pr => ?_, fun pr off => ?_, fun cs hb hs => ⟨hl, fun p hp => ?_⟩⟩
  · have g := split_good (bs := bs) (ss := ss) (fs := ps.map fun p => progP pr p) (fun f hf => by
      obtain ⟨p, hp, rfl⟩ := List.mem_map.mp hf
      exact more pr p hp) (fun off => by
      rw [List.flatMap_map]
      rw [List.nodup_iff_pairwise_ne, List.pairwise_flatMap]
      refine ⟨fun p hp => List.nodup_iff_pairwise_ne.mp ((more pr p hp).nd off), List.pairwise_iff_getElem.mpr fun i j hi hj hij x hx y hy e => ?_⟩
      subst e
      have a := (((h i _ (List.getElem?_eq_getElem hi)).good pr).mem off x hx).2
      have b := (((h j _ (List.getElem?_eq_getElem hj)).good pr).mem off x hy).2
      have a' : x ∈ L i := a.elim (fun z => of_decide_eq_true (List.mem_filter.mp z).2) fun z => of_decide_eq_true (List.mem_filter.mp z).2
      have b' : x ∈ L j := b.elim (fun z => of_decide_eq_true (List.mem_filter.mp z).2) fun z => of_decide_eq_true (List.mem_filter.mp z).2
      exact hL i j (Nat.ne_of_lt hij) x a' b')
    have e : (fun off => (ps.map fun p => progP pr p).flatMap fun f => f off) = progC pr (.split ps) := by
      funext off
      rw [List.flatMap_map]
      rfl
    rw [← e]
    exact g
  · show sortI (ps.flatMap fun p => lawP pr p off) = sortI (ps.flatMap fun p => progP pr p off)
    refine sortI_congr (flat_sort _ _ ps fun p hp => ?_)
    obtain ⟨j, hj⟩ := hm p hp
    exact ((h j p hj).agr pr).eq off
  · obtain ⟨j, hj⟩ := hm p hp
    exact (h j p hj).ok cs (fun c hc => hb c (List.mem_filter.mp hc).1) (fun c hc => hs c (List.mem_filter.mp hc).1)
theorem map_fm {g : Nat → Option Int} : ∀ {l : List Nat}, (∀ a ∈ l, (g a).isSome = true) → l.map (fun a => PyData.int ((g a).getD 0)) = (l.filterMap g).map PyData.int
  | [], _ => rfl
  | a :: l, h => by
    obtain ⟨x, hx⟩ := Option.isSome_iff_exists.mp (h a List.mem_cons_self)
    rw [List.map_cons, List.filterMap_cons, hx, map_fm fun b hb => h b (List.mem_cons_of_mem _ hb)]
    rfl
local macro_rules | `(tactic| walk_at "st") => `(tactic| (repeat (first
  | ((with_reducible refine' r_var ?e ?_); (case e => exact rfl))
  | (with_reducible refine' r_op ?_)
  | (with_reducible refine' r_c ?_)
  | (with_reducible refine' r_cons ?_)
  | (with_reducible refine' r_nil ?_)
  | (with_reducible refine' r_cb ?_)
  | (with_reducible refine' r_call ?_)
  | (with_reducible refine' r_test ?_)
  | (with_reducible refine' r_lc ?_)
  | (with_reducible refine' r_lc2 ?_)
  | (with_reducible refine' r_sk ?_)
  | (with_reducible refine' r_iZ ?_)
  | (with_reducible refine' r_sl3 ?_)
  | (with_reducible refine' r_bmZ ?_)
  | (with_reducible refine' r_dg ?_)
  | (with_reducible refine' r_dpS ?_)
  | (with_reducible refine' r_dp1 ?_)
  | (with_reducible refine' r_dn ?_)
  | (with_reducible refine' r_iT ?_)
  | (with_reducible refine' r_iL ?_)
  | (with_reducible refine' r_iE ?_)
  | (with_reducible refine' r_iR ?_)
  | (with_reducible refine' r_ret ?_)
  | (with_reducible refine' r_asgS ?_)
  | (with_reducible refine' r_asg1 ?_)
  | (with_reducible refine' r_asgTS ?_)
  | (with_reducible refine' r_ifS ?_)
  | (with_reducible refine' r_if1 ?_)
  | (with_reducible refine' r_forS ?_)
  | (with_reducible refine' r_for1 ?_)
  | (with_reducible refine' r_dropS ?_)
  | (with_reducible refine' r_drop1 ?_)
  | (with_reducible refine' r_tup ?_)
  | (with_reducible refine' r_lst ?_)
  | (with_reducible refine' r_sl ?_)
  | (with_reducible refine' r_noP ?_)
  | (with_reducible refine' r_part ?_)
  | (with_reducible refine' r_bm ?_)
  | (with_reducible refine' r_bm0 ?_)
  | (with_reducible refine' r_un ?_)
  | (with_reducible refine' r_notV ?_)
  | (with_reducible refine' r_B ?_)
  | (with_reducible refine' r_and ?_)
  | (with_reducible refine' r_or ?_)
  | (with_reducible refine' r_not ?_)
  | (with_reducible refine' r_yes ?_)
  | (with_reducible refine' r_next ?_)
  | (with_reducible refine' r_break ?_)
  | (with_reducible refine' r_gn ?_)
  | (with_reducible refine' r_tupRg ?_)
  | (with_reducible refine' r_rg1 ?_)
  )))
local macro_rules | `(tactic| walk_at "no") => `(tactic| (refine q_eqS ⟨_, rfl, ite2 (fun e => absurd (of_decide_eq_true e) (by decide +kernel)) (fun _ => ?_)⟩; walk_at "st"; try dsimp only))
local macro_rules | `(tactic| walk_at "yes") => `(tactic| (refine q_eqS ⟨_, rfl, ite2 (fun _ => ?_) (fun e => absurd (decide_eq_true rfl) e)⟩; walk_at "st"))
section
variable {P : Program} {w : World} {K : PySem.W.Frag} {mg : Str → Option Value} {base : Heap}
variable {T : List (Addr × Str)}
def sp_law_choice (K : PySem.W.Frag) (T : List (Addr × Str)) : Sp := Sp4 fun a b c d H Q => ∃ (s p lb ls : Addr) (ns bs ss : List Int), a = .ref s ∧ SqL K H s (ns.map V.int) ∧ s ≠ p ∧ b = .ref p ∧ Dr H p ∧ c = .ref lb ∧ H lb = some (.lst (bs.map V.int)) ∧ lb ≠ p ∧ d = .ref ls ∧ H ls = some (.lst (ss.map V.int)) ∧ ls ≠ p ∧
  bs.Nodup ∧ ss.Nodup ∧ (∀ c ∈ bs, c ∉ ss) ∧ bs.length ≤ 12 ∧ ss.length ≤ 12 ∧ ∀ v H' ch, OkChoice bs ss ch → Fr T [p] H H' → Dr H' p → Td K H' v (eCh ch) → Q v H'
/-! ### _law_choice -/
abbrev s_law_choice : Stmt := topS 40
abbrev N_law_choice : List Str := ["_law_script", "_law_draws_here", "_law_buys", "_law_sells", "_law_parts", "_law_many", "_law_places", "_law_k", "_law_own_here", "_law_first", "_law_contract", "_law_at"]
theorem sc_law_choice : FnScope N_law_choice ["_law_script", "_law_draws_here", "_law_buys", "_law_sells"] (defScope s_law_choice) := ⟨rfl, rfl, rfl, by decide +kernel, rfl, by decide +kernel, by decide +kernel⟩
theorem d_law_choice (B : B0 mg) (A0 : At K mg "_law_choice" s_law_choice) (D_law_take : Dn P w K mg base "_law_take" ["_law_draws_here", "_law_many"] 1 (sp_law_take K T)) (D_law_plain_choice : Dn P w K mg base "_law_plain_choice" ["_law_script", "_law_draws_here", "_law_buys", "_law_sells"] 6 (sp_law_plain_choice K T)) : Dn P w K mg base "_law_choice" ["_law_script", "_law_draws_here", "_law_buys", "_law_sells"] 7 (sp_law_choice K T) := by
  obtain ⟨f_law_take, fd_law_take, G_law_take, g_law_take, k_law_take, b_law_take⟩ := D_law_take
  obtain ⟨f_law_plain_choice, fd_law_plain_choice, G_law_plain_choice, g_law_plain_choice, k_law_plain_choice, b_law_plain_choice⟩ := D_law_plain_choice
  refine dn4 A0 sc_law_choice (fun _ _ F => F.bindsN fun _ _ _ _ _ _ us hl => match us, hl with | [_, _, _, _], _ => rfl) fun f cdv A outer s H a0 a1 a2 a3 Q E hr h => ?_
  have nd := sc_law_choice.nd
  refine ⟨_, (pss_cons
  (ps_if (pt_cmpR op_gt (pe_call G_law_take (hr.mono (by decide)) (by rfl) g_law_take k_law_take b_law_take .nil pass0 (pa_cons (pv 1) (pa_cons pe_int pa_nil))) pe_int (by rfl)) (pss_one
  (ps_ret (pe_call G_law_plain_choice (hr.mono (by decide)) (by rfl) g_law_plain_choice k_law_plain_choice b_law_plain_choice .nil pass0 (pa_cons (pv 0) (pa_cons (pv 1) (pa_cons (pv 2) (pa_cons (pv 3) pa_nil))))))) pss_nil)
  (pss_cons
  (ps_set (i := 4) nd rfl (by first | exact Or.inl rfl | exact Or.inr rfl) (pe_lst pa_nil))
  (pss_cons
  (ps_set (i := 5) nd rfl (by first | exact Or.inl rfl | exact Or.inr rfl) (pe_ix (kIxL (K := K) rfl) (pe_lst (pa_cons pe_int (pa_cons pe_int (pa_cons pe_int (pa_cons pe_int (pa_cons pe_int (pa_cons pe_int pa_nil))))))) (pe_call G_law_take (hr.mono (by decide)) (by rfl) g_law_take k_law_take b_law_take .nil pass0 (pa_cons (pv 1) (pa_cons pe_int pa_nil))) (fun _ _ => rfl)))
  (pss_cons
  (ps_if (pt_cmpR op_eq (pe_callB (kLen (K := K) rfl) (by rfl) B.len PySem.boot_len (pa_cons (pe_op op_cat (pv 2) (pv 3)) pa_nil)) pe_int (by rfl)) (pss_one
  (ps_ret (pe_tup (pa_cons pe_str (pa_cons (pe_tup pa_nil) pa_nil))))) pss_nil)
  (pss_cons
  (ps_set (i := 6) nd rfl (by first | exact Or.inl rfl | exact Or.inr rfl) (pe_lc (own := [("_law_contract", 10)]) (g := (gName 10)) (by rfl) nd (kpList (K := K) rfl (pe_op op_cat (pv 2) (pv 3))) (blkOk_by (own := [("_law_contract", 10)]) (N := N_law_choice) (sc := defScope s_law_choice) (by decide +kernel)) (fun _ _ _ _ _ => (pg_name (i := 10) nd rfl (by first | exact Or.inl rfl | exact Or.inr rfl))) (fun _ _ _ _ _ => pts_nil) (fun _ _ _ _ _ => (pe_call G_law_take (hr.mono (by decide)) (by rfl) g_law_take k_law_take b_law_take .nil pass0 (pa_cons (pv 1) (pa_cons (pv 5) pa_nil))))))
  (pss_cons
  (ps_for PassesOwn.never rfl (pi_range1 (by rfl) B.range (pa_cons (pv 5) pa_nil)) (pg_name (i := 7) nd rfl (by first | exact Or.inl rfl | exact Or.inr rfl)) (pss_cons
  (ps_set (i := 8) nd rfl (by first | exact Or.inl rfl | exact Or.inr rfl) (pe_lc (own := [("_law_at", 11)]) (g := (gName 11)) (by rfl) nd (pi_range1 (by rfl) B.range (pa_cons (pe_callB (kLen (K := K) rfl) (by rfl) B.len PySem.boot_len (pa_cons (pv 6) pa_nil)) pa_nil)) (blkOk_by (own := [("_law_at", 11)]) (N := N_law_choice) (sc := defScope s_law_choice) (by decide +kernel)) (fun _ _ _ _ _ => (pg_name (i := 11) nd rfl (by first | exact Or.inl rfl | exact Or.inr rfl))) (fun _ _ _ _ _ => (pts_one (pt_cmpR op_eq (pe_ix (kIxL (K := K) rfl) (pv 6) (pv 11) (fun _ _ => rfl)) (pv 7) (by rfl)))) (fun _ _ _ _ _ => (pe_ix (kIxL (K := K) rfl) (pe_op op_cat (pv 2) (pv 3)) (pv 11) (fun _ _ => rfl)))))
  (pss_cons
  (ps_setLc (i := 9) (own := [("_law_contract", 10)]) (g := (gName 10)) (by rfl) nd rfl rfl (sw_true rfl rfl rfl (by decide +kernel)) (kpList (K := K) rfl (pv 2)) (blkOk_by (own := [("_law_contract", 10)]) (N := N_law_choice) (sc := defScope s_law_choice) (by decide +kernel)) (fun _ _ _ _ _ => (pg_name (i := 10) nd rfl (by first | exact Or.inl rfl | exact Or.inr rfl))) (fun _ _ _ _ _ => (pts_one (pt_cmpR (kIn (K := K) rfl) (pv 10) (pv 8) (by rfl)))) (fun _ _ _ _ _ => (pv 10)))
  (pss_one
  (ps_expr (pe_bm PySem.F.plainAttrs_list PySem.F.slot_list_append PySem.F.type_list_append mt_append (pv 4) (pa_cons (pe_call G_law_plain_choice (hr.mono (by decide)) (by rfl) g_law_plain_choice k_law_plain_choice b_law_plain_choice .nil pass0 (pa_cons (pv 0) (pa_cons (pv 1) (pa_cons (pv 9) (pa_cons (pe_lc (own := [("_law_contract", 10)]) (g := (gName 10)) (by rfl) nd (kpList (K := K) rfl (pv 3)) (blkOk_by (own := [("_law_contract", 10)]) (N := N_law_choice) (sc := defScope s_law_choice) (by decide +kernel)) (fun _ _ _ _ _ => (pg_name (i := 10) nd rfl (by first | exact Or.inl rfl | exact Or.inr rfl))) (fun _ _ _ _ _ => (pts_one (pt_cmpR (kIn (K := K) rfl) (pv 10) (pv 8) (by rfl)))) (fun _ _ _ _ _ => (pv 10))) pa_nil))))) pa_nil)))))))
  (pss_one
  (ps_ret (pe_tup (pa_cons pe_str (pa_cons (pe_callTy (kTuple (K := K) rfl) (by rfl) B.tuple (by decide +kernel) (pa_cons (pv 4) pa_nil)) pa_nil))))))))))), ?_⟩
  obtain ⟨s, p, lb, ls, ns, bs, ss, rfl, hs, hsp, rfl, hp, rfl, hb, hbp, rfl, hss, hlsp, nb, nss, hd, lb12, ls12, qq⟩ := h
  walk_at "st"
  refine ⟨_, _, rfl, p, 8, rfl, hp, rfl, by decide, fun r1 H1 _ _ f1 d1 => ?_⟩
  have hb1 := f1.lst hb (by simpa using hbp)
  have hs1 := f1.lst hss (by simpa using hlsp)
  walk_at "st"
  refine q_I ⟨_, rfl, ite2 (fun _ => ?_) (fun _ => ?_)⟩
  · walk_at "st"
    refine ⟨_, _, _, _, rfl, ?_⟩
    exact ⟨s, p, lb, ls, ns, bs, ss, rfl, f1.sqL (by simpa using hsp) hs, hsp, rfl, d1, rfl, hb1, hbp, rfl, hs1, hlsp, nb, nss, hd, lb12, ls12, fun v H2 pl okp f2 d2 t2 => qq v H2 (.plain pl) okp.choice (f1.trans f2) d2 t2⟩
  walk_at "st"
  try dsimp only
  walk_at "st"
  refine ⟨Nat.zero_le _, fun pa hpa => ?_⟩
  have npa : p ≠ pa := by
    obtain ⟨ds, e⟩ := d1
    exact ne_of_none e hpa
  have np : Fresh H pa := f1.fresh (Fresh.of hpa)
  have f2 : Fr T [] H1 (upd H1 pa (.lst [])) := Fr.new hpa
  have ha2 : (upd H1 pa (.lst [])) pa = some (.lst []) := upd_same
  generalize upd H1 pa (.lst []) = H2 at f2 ha2
  have d2 := d1.keep f2
  walk_at "st"
  refine ⟨Nat.le_of_lt (line_of (show (6 : Nat) ≤ 100000 by decide)), fun h3 hh3 => ?_⟩
  have f3 : Fr T [] H2 (upd H2 h3 (.lst [.int 2, .int 3, .int 2, .int 1, .int 5, .int 9])) := Fr.new hh3
  have hx3 : (upd H2 h3 (.lst [.int 2, .int 3, .int 2, .int 1, .int 5, .int 9])) h3 = some (.lst (([2, 3, 2, 1, 5, 9] : List Int).map V.int)) := upd_same
  have n3p : h3 ≠ p := by
    obtain ⟨ds, e⟩ := d2
    exact (ne_of_none e hh3).symm
  generalize upd H2 h3 (.lst [.int 2, .int 3, .int 2, .int 1, .int 5, .int 9]) = H3 at f3 hx3
  have d3 := d2.keep f3
  walk_at "st"
  refine ⟨_, _, rfl, p, 6, rfl, d3, rfl, by decide, fun r4 H4 r40 r46 f4 d4 => ?_⟩
  obtain ⟨many, hmany, hmany2⟩ := at_draw (ns := [2, 3, 2, 1, 5, 9]) r40 r46
  have m1 : 1 ≤ many ∧ many ≤ 9 := by
    revert hmany
    clear hmany2
    simp only [List.mem_cons, List.not_mem_nil, or_false]
    omega
  refine q_ixL (f4.lst hx3 (by simpa using n3p)) hmany2 ?_
  have f14 : Fr T [p] H1 H4 := ((f2.trans f3).wide d1.m).trans f4
  have hb4 := f14.lst hb1 (by simpa using hbp)
  have hs4 := f14.lst hs1 (by simpa using hlsp)
  have ha4 := ((f3.wide d2.m).trans f4).lst ha2 (by simpa using npa.symm)
  have cat : ∀ (Hx : Hp) (Q : VK), Hx lb = some (.lst (bs.map V.int)) → Hx ls = some (.lst (ss.map V.int)) → (∀ pc, Hx pc = none → Q (.ref pc) (upd Hx pc (.lst ((bs ++ ss).map V.int)))) → rCat (.ref lb) (.ref ls) Hx Q := fun Hx Q a b q => q_cat a b (by
    rw [List.length_map, List.length_map]
    exact Nat.le_of_lt (line_of (by omega))) fun pc hpc => by
      rw [← List.map_append]
      exact q pc hpc
  walk_at "st"
  refine cat H4 _ hb4 hs4 fun p5 hp5 => ?_
  have f5 : Fr T [] H4 (upd H4 p5 (.lst ((bs ++ ss).map V.int))) := Fr.new hp5
  have hx5 : (upd H4 p5 (.lst ((bs ++ ss).map V.int))) p5 = some (.lst ((bs ++ ss).map V.int)) := upd_same
  generalize upd H4 p5 (.lst ((bs ++ ss).map V.int)) = H5 at f5 hx5
  have d5 := d4.keep f5
  have f05 := (f1.trans f14).trans (f5.wide d4.m)
  walk_at "st"
  refine q_lenL hx5 ?_
  rw [List.length_map]
  walk_at "st"
  refine q_eqI ⟨_, rfl, ite2 (fun e => ?_) (fun e => ?_)⟩
  · walk_at "st"
    refine ⟨Nat.zero_le _, fun l6 hl6 => ?_⟩
    have f6 : Fr T [] H5 (upd H5 l6 (.tup [])) := Fr.new hl6
    have t6 : Td K (upd H5 l6 (.tup [])) (.ref l6) (.tuple (([] : List Plain).map eP)) := td_new upd_same .nil
    generalize upd H5 l6 (.tup []) = H6 at f6 t6
    walk_at "st"
    refine ⟨Nat.le_of_lt (line_of (show (2 : Nat) ≤ 100000 by decide)), fun l7 hl7 => ?_⟩
    have f7 : Fr T [] H6 (upd H6 l7 (.tup [.str "split", .ref l6])) := Fr.new hl7
    exact qq _ _ (.split []) (split_ok (L := fun _ => []) hd (Nat.zero_le _) (fun _ _ _ c hc => by cases hc) fun j p hj => by simp at hj) (f05.trans ((f6.trans f7).wide d5.m)) (d5.keep (f6.trans f7)) (td_new upd_same (.cons (.str _) (.cons (t6.mono f7) .nil)))
  walk_at "st"
  try dsimp only
  walk_at "st"
  refine cat H5 _ (f5.lst0 hb4) (f5.lst0 hs4) fun p6 hp6 => ?_
  have f6 : Fr T [] H5 (upd H5 p6 (.lst ((bs ++ ss).map V.int))) := Fr.new hp6
  have hx6 : (upd H5 p6 (.lst ((bs ++ ss).map V.int))) p6 = some (.lst ((bs ++ ss).map V.int)) := upd_same
  have n6p : p6 ≠ p := by
    obtain ⟨ds, e⟩ := d5
    exact (ne_of_none e hp6).symm
  generalize upd H5 p6 (.lst ((bs ++ ss).map V.int)) = H6 at f6 hx6
  have d6 := d5.keep f6
  walk_at "st"
  refine lc_Dr (T := T) (K := K) hx6 d6 n6p (by rw [List.length_append]; exact line_of (by omega)) (fun _ => True) (fun _ => rfl) ?_ ?_
  · intro u Ha fa da R hR
    walk_at "st"
    exact ⟨_, _, rfl, p, many, rfl, da, rfl, by omega, fun r Hb _ _ fb db => hR r Hb trivial fb db⟩
  intro D H7 rs hD f7 d7 hx7 hrl _
  have nDp : D ≠ p := by
    obtain ⟨ds, e⟩ := d6
    exact (ne_of_none e hD).symm
  have f47 : Fr T [p] H4 H7 := ((f5.trans f6).wide d4.m).trans f7
  have hb7 := f47.lst hb4 (by simpa using hbp)
  have hs7 := f47.lst hs4 (by simpa using hlsp)
  have ha7 := f47.lst ha4 (by simpa using npa.symm)
  have f07 := (f1.trans f14).trans f47
  have nDa : D ≠ pa := (ne_of_none ((f5.trans f6).lst0 ha4) hD).symm
  have nba : lb ≠ pa := ne_of_none hb1 hpa
  have nsa : ls ≠ pa := ne_of_none hs1 hpa
  have ndall : (bs ++ ss).Nodup := by
    rw [List.nodup_append]
    exact ⟨nb, nss, fun a ha b hb' e => hd a ha (e ▸ hb')⟩
  generalize hall : bs ++ ss = al at *
  have all12 : al.length ≤ 24 := by rw [← hall, List.length_append]; omega
  generalize hLd : (fun k : Nat => ((List.range rs.length).filter fun i => decide (rs[i]? = some (k : Int))).filterMap fun i => al[i]?) = L
  have hLm : ∀ k c, c ∈ L k ↔ ∃ i : Nat, rs[i]? = some (k : Int) ∧ al[i]? = some c := by
    intro k c
    rw [← hLd]
    simp only [List.mem_filterMap, List.mem_filter, List.mem_range, decide_eq_true_eq]
    constructor
    · rintro ⟨i, ⟨_, h1⟩, h2⟩
      exact ⟨i, h1, h2⟩
    · rintro ⟨i, h1, h2⟩
      exact ⟨i, ⟨(List.getElem?_eq_some_iff.mp h1).1, h1⟩, h2⟩
  have hLdis : ∀ j j', j ≠ j' → ∀ c ∈ L j, c ∉ L j' := by
    intro j j' hne c h1 h2
    obtain ⟨i, a1, a2⟩ := (hLm j c).mp h1
    obtain ⟨i', b1, b2⟩ := (hLm j' c).mp h2
    obtain ⟨g1, g2⟩ := List.getElem?_eq_some_iff.mp a2
    obtain ⟨g3, g4⟩ := List.getElem?_eq_some_iff.mp b2
    have ei : i = i' := (List.getElem_inj ndall (h₀ := g1) (h₁ := g3)).mp (g2.trans g4.symm)
    subst ei
    rw [a1] at b1
    have := Option.some.inj b1
    omega
  walk_at "st"
  refine ⟨_, rfl, by omega, by omega, ?_⟩
  refine for_R (fun i σ H' => ∃ (ps : List Plain) (vs : List V) (x8 x9 x10 x11 x12 : Option V), σ = [some (.ref s), some (.ref p), some (.ref lb), some (.ref ls), some (.ref pa), some (.int many), some (.ref D), x8, x9, x10, x11, x12] ∧ Fr T [p] H H' ∧ Fr T [p, pa] H7 H' ∧ Dr H' p ∧ H' pa = some (.lst vs) ∧ TdAll K H' vs (ps.map eP) ∧ ps.length = i ∧
    ∀ (j : Nat) q, ps[j]? = some q → OkPlain (bs.filter fun c => decide (c ∈ L j)) (ss.filter fun c => decide (c ∈ L j)) q) ?_ ?_ ?_
  · refine ⟨[], [], none, none, none, none, none, rfl, f07, Fr.reflM (fun z hz => ?_), d7, ha7, .nil, rfl, fun j q hj => by simp at hj⟩
    have : z = p ∨ z = pa := by simpa using hz
    rcases this with rfl | rfl
    · obtain ⟨ds, e⟩ := d7
      exact ⟨_, e⟩
    · exact ⟨_, ha7⟩
  · rintro i σ' H8 hi ⟨ps, vs, x8, x9, x10, x11, x12, rfl, f8, g8, d8, ha8, t8, hpl, hps⟩
    have kp : ∀ {a : Addr} {l : List V}, H7 a = some (.lst l) → a ≠ p → a ≠ pa → H8 a = some (.lst l) := fun {a l} e h1 h2 => g8.lst e (by simp [h1, h2])
    have hb8 := kp hb7 hbp nba
    have hs8 := kp hs7 hlsp nsa
    have hD8 := kp hx7 nDp nDa
    walk_at "st"
    refine q_lenL hD8 ?_
    rw [List.length_map]
    walk_at "st"
    refine ⟨_, rfl, by omega, by omega, ?_⟩
    rw [Int.toNat_natCast]
    refine lc_R (T := T) (K := K) (n := rs.length) (line_of (by omega)) (fun a => decide (rs[a]? = some (i : Int))) (fun a => .int ((al[a]?).getD 0)) (fun _ => rfl) ?_ ?_
    · intro a Ha ha fa R1 R2 r1 r2
      have hra : rs[a]? = some rs[a] := List.getElem?_eq_getElem ha
      have haa : al[a]? = some (al[a]'(by omega)) := List.getElem?_eq_getElem (by omega)
      rw [hra] at r1 r2
      rw [haa] at r1
      walk_at "st"
      refine q_ixL (fa.lst0 hD8) (at_nat (by rw [List.getElem?_map, hra]; rfl)) ?_
      walk_at "st"
      refine q_eqI ⟨_, rfl, ?_⟩
      have e1 : decide (rs[a] = (i : Int)) = decide (some rs[a] = some (i : Int)) := decide_eq_decide.mpr ⟨fun z => by rw [z], fun z => Option.some.inj z⟩
      rw [e1]
      refine ite2 (fun e => ?_) (fun e => ?_)
      · walk_at "st"
        refine cat Ha _ (fa.lst0 hb8) (fa.lst0 hs8) fun pc hpc => ?_
        walk_at "st"
        exact q_ixL upd_same (at_nat (by rw [List.getElem?_map, haa]; rfl)) (r1 e _ _ (Fr.new hpc) (.int _))
      · exact r2 (Bool.eq_false_iff.mpr e) _ (Fr.refl _)
    intro D9 H9 xs9 hD9 f9 hx9 tx9
    have e9 : (((List.range rs.length).filter fun a => decide (rs[a]? = some (i : Int))).map fun a => PyData.int ((al[a]?).getD 0)) = (L i).map PyData.int := by
      rw [← hLd]
      exact map_fm fun a ha => by
        have h1 := List.mem_range.mp (List.mem_filter.mp ha).1
        rw [List.getElem?_eq_getElem (show a < al.length by omega)]
        rfl
    rw [e9] at tx9
    rw [tx9.ints] at hx9
    have n9p : D9 ≠ p := by
      obtain ⟨ds, e⟩ := d8
      exact (ne_of_none e hD9).symm
    have hb9 := f9.lst0 hb8
    have hs9 := f9.lst0 hs8
    walk_at "st"
    refine lc_L (T := T) bs .int hb9 (tdAll_ints _) (line_of (by omega)) (fun c => decide (c ∈ L i)) .int (fun _ => rfl) ?_ ?_
    · intro c u Ha hc fa tu R1 R2 r1 r2
      obtain rfl := tu.int_inv
      walk_at "st"
      refine q_in (SqI.of_l (fa.lst0 hx9)) ⟨_, rfl, ite2 (fun e => ?_) (fun e => ?_)⟩
      · walk_at "st"
        exact r1 e _ _ (Fr.refl _) (.int _)
      · exact r2 (Bool.eq_false_iff.mpr e) _ (Fr.refl _)
    intro D10 H10 xs10 hD10 f10 hx10 tx10
    rw [tx10.ints] at hx10
    have d9 := d8.keep f9
    have d10 := d9.keep f10
    have n10p : D10 ≠ p := by
      obtain ⟨ds, e⟩ := d9
      exact (ne_of_none e hD10).symm
    walk_at "st"
    refine ⟨ty_lst ((f9.trans f10).lst0 ha8), ?_⟩
    walk_at "st"
    refine lc_L (T := T) ss .int (f10.lst0 hs9) (tdAll_ints _) (line_of (by omega)) (fun c => decide (c ∈ L i)) .int (fun _ => rfl) ?_ ?_
    · intro c u Ha hc fa tu R1 R2 r1 r2
      obtain rfl := tu.int_inv
      walk_at "st"
      refine q_in (SqI.of_l (fa.lst0 (f10.lst0 hx9))) ⟨_, rfl, ite2 (fun e => ?_) (fun e => ?_)⟩
      · walk_at "st"
        exact r1 e _ _ (Fr.refl _) (.int _)
      · exact r2 (Bool.eq_false_iff.mpr e) _ (Fr.refl _)
    intro D11 H11 xs11 hD11 f11 hx11 tx11
    rw [tx11.ints] at hx11
    have d11 := d10.keep f11
    have n11p : D11 ≠ p := by
      obtain ⟨ds, e⟩ := d10
      exact (ne_of_none e hD11).symm
    have f811 := (f9.trans f10).trans f11
    have f011 := f8.trans (f811.wide d8.m)
    have ha11 := f811.lst0 ha8
    walk_at "st"
    refine ⟨_, _, _, _, rfl, ?_⟩
    refine ⟨s, p, D10, D11, ns, bs.filter (fun c => decide (c ∈ L i)), ss.filter (fun c => decide (c ∈ L i)), rfl, f011.sqL (by simpa using hsp) hs, hsp, rfl, d11, rfl, f11.lst0 hx10, n10p, rfl, hx11, n11p, nb.filter _, nss.filter _, fun c a b => hd c (List.mem_filter.mp a).1 (List.mem_filter.mp b).1, Nat.le_trans (List.length_filter_le _ _) lb12, Nat.le_trans (List.length_filter_le _ _) ls12, fun v H12 pl okp f12 d12 t12 => ?_⟩
    have ha12 := f12.lst ha11 (by simpa using npa.symm)
    have f812 : Fr T [p] H8 H12 := (f811.wide d8.m).trans f12
    walk_at "st"
    refine q_app ha12 (line_of (by rw [t8.length, List.length_map]; omega)) ?_
    have gx : Fr T [pa] H12 (upd H12 pa (.lst (vs ++ [v]))) := Fr.set (fun p hp => by simp at hp; subst hp; exact ⟨_, ha12⟩) (by simp)
    refine ⟨ps ++ [pl], vs ++ [v], _, _, _, _, _, rfl, (f8.trans f812).mut np ha12, ?_, d12.upd npa, upd_same, ?_, ?_, ?_⟩
    · refine g8.trans ⟨fun a o m e n => ?_, fun t => gx.tabs (f812.tabs t), g8.m1, fun z hz => ?_⟩
      · have ma : a ≠ pa := fun z => m (by simp [z])
        rw [upd_ne ma]
        exact f812.keep a o (fun z => m (by simp at z; simp [z])) e n
      · have : z = p ∨ z = pa := by simpa using hz
        rcases this with rfl | rfl
        · obtain ⟨ds, e⟩ := d12
          exact ⟨_, by rw [upd_ne npa]; exact e⟩
        · exact ⟨_, upd_same⟩
    · rw [List.map_append]
      exact ((t8.mono f812).append (.cons t12 .nil)).mono gx
    · rw [List.length_append, hpl]
      rfl
    · intro j q hj
      by_cases h1 : j < ps.length
      · rw [List.getElem?_append_left h1] at hj
        exact hps j q hj
      · rw [List.getElem?_append_right (by omega)] at hj
        have hj2 : j - ps.length = 0 := by
          have := (List.getElem?_eq_some_iff.mp hj).1
          simp at this
          omega
        rw [hj2] at hj
        simp at hj
        subst hj
        have ej : j = i := by omega
        rw [ej]
        exact okp
  · rintro σ' H8 ⟨ps, vs, x8, x9, x10, x11, x12, rfl, f8, g8, d8, ha8, t8, hpl, hps⟩
    dsimp only
    refine r_ret ?_
    refine r_tup ?_
    refine r_cons ?_
    refine r_c ?_
    walk_at "st"
    refine q_tupK (T := T) ha8 t8 fun l9 H9 f9 t9 => ?_
    walk_at "st"
    refine ⟨Nat.le_of_lt (line_of (show (2 : Nat) ≤ 100000 by decide)), fun l10 hl10 => ?_⟩
    have f10 : Fr T [] H9 (upd H9 l10 (.tup [.str "split", .ref l9])) := Fr.new hl10
    exact qq _ _ (.split ps) (split_ok hd (by omega) hLdis hps) (f8.trans ((f9.trans f10).wide d8.m)) (d8.keep (f9.trans f10)) (td_new upd_same (.cons (.str _) (.cons (t9.mono f10) .nil)))
end
end Nc
set_option maxHeartbeats 4000000
/-! GI: steady webs. -/
namespace Nc
open PySem PySem.Spec L2
theorem nums_lt {cs : List Ctr} {p : Ctr → Bool} {c : Int} (hc : c ∈ numsOf cs p) : InC cs c := by
  obtain ⟨h0, d, hd, _⟩ := nums_mem.mp hc
  have := (List.getElem?_eq_some_iff.mp hd).1
  exact ⟨h0, by omega⟩
theorem nums_idxs {cs : List Ctr} {p : Ctr → Bool} {c : Int} : c ∈ numsOf cs p ↔ c ∈ idxs cs p := by rw [nums_mem, idxs_mem]
theorem ord_uniq {ord : List Int} (nd : ord.Nodup) {i j : Nat} {x : Int} (h1 : ord[i]? = some x) (h2 : ord[j]? = some x) : i = j := by
  obtain ⟨g1, g2⟩ := List.getElem?_eq_some_iff.mp h1
  obtain ⟨g3, g4⟩ := List.getElem?_eq_some_iff.mp h2
  exact (List.getElem_inj nd (h₀ := g1) (h₁ := g3)).mp (g2.trans g4.symm)
theorem idx_at {ord : List Int} (nd : ord.Nodup) {i : Nat} {x : Int} (h : ord[i]? = some x) : ord.idxOf x = i := by
  obtain ⟨g1, g2⟩ := List.getElem?_eq_some_iff.mp h
  rw [← g2]
  exact List.Nodup.idxOf_getElem nd i g1
theorem nums_le12 {cs : List Ctr} {p : Ctr → Bool} (h : cs.length ≤ 12) : (numsOf cs p).length ≤ 12 := by
  unfold numsOf
  rw [List.length_map]
  have := List.length_filter_le (fun i => (cs[i]?.map p).getD false) (List.range cs.length)
  rw [List.length_range] at this
  omega
/-- what a house may be given -/
def HouseOk (cs : List Ctr) (k : Nat) (ch : Choice) : Prop := OkChoice (numsOf cs fun c => decide (c.2.1 = (k : Int))) (numsOf cs fun c => decide (c.1 = (k : Int))) ch
theorem goodW_of {cs : List Ctr} {hs : List (Str × Choice)} {rk : Int → Nat} (h6 : cs.length ≤ 6) (hl : hs.length ≤ 100) (hrk : ∀ c ∈ cs, rk c.1 < rk c.2.1) (hin : ∀ c ∈ cs, (0 ≤ c.1 ∧ c.1 < hs.length) ∧ 0 ≤ c.2.1 ∧ c.2.1 < hs.length)
    (hch : ∀ (k : Nat) x, hs[k]? = some x → HouseOk cs k x.2) : GoodW ⟨hs, cs⟩ := by
  have ne : ∀ c ∈ cs, c.1 ≠ c.2.1 := fun c hc e => by
    have := hrk c hc
    rw [e] at this
    exact Nat.lt_irrefl _ this
  refine ⟨⟨by show cs.length ≤ 12; omega, hl, fun x hx => ?_, fun c hc => (hin c hc).1, fun c hc => (hin c hc).2⟩, h6, ⟨rk, hrk⟩, fun k x hx => ?_, fun x hx off => ?_⟩
  · obtain ⟨k, hk⟩ := List.mem_iff_getElem?.mp hx
    exact (hch k x hk).ok cs (fun c hc => nums_lt hc) fun c hc => nums_lt hc
  · refine ((hch k x hx).good (price cs)).more (fun c hc => nums_idxs.mp hc) (fun c hc => nums_idxs.mp hc) fun c h1 h2 => ?_
    obtain ⟨_, d, hd, e1⟩ := idxs_mem.mp h1
    obtain ⟨_, d', hd', e2⟩ := idxs_mem.mp h2
    rw [hd] at hd'
    cases hd'
    exact ne d (List.mem_of_getElem? hd) ((of_decide_eq_true e2).trans (of_decide_eq_true e1).symm)
  · obtain ⟨k, hk⟩ := List.mem_iff_getElem?.mp hx
    exact (hch k x hk).agr (price cs) off
local macro_rules | `(tactic| walk_at "st") => `(tactic| (repeat (first
  | ((with_reducible refine' r_var ?e ?_); (case e => exact rfl))
  | (with_reducible refine' r_op ?_)
  | (with_reducible refine' r_c ?_)
  | (with_reducible refine' r_cons ?_)
  | (with_reducible refine' r_nil ?_)
  | (with_reducible refine' r_cb ?_)
  | (with_reducible refine' r_call ?_)
  | (with_reducible refine' r_test ?_)
  | (with_reducible refine' r_lc ?_)
  | (with_reducible refine' r_lc2 ?_)
  | (with_reducible refine' r_sk ?_)
  | (with_reducible refine' r_iZ ?_)
  | (with_reducible refine' r_sl3 ?_)
  | (with_reducible refine' r_bmZ ?_)
  | (with_reducible refine' r_dg ?_)
  | (with_reducible refine' r_dpS ?_)
  | (with_reducible refine' r_dp1 ?_)
  | (with_reducible refine' r_dn ?_)
  | (with_reducible refine' r_iT ?_)
  | (with_reducible refine' r_iL ?_)
  | (with_reducible refine' r_iE ?_)
  | (with_reducible refine' r_iR ?_)
  | (with_reducible refine' r_ret ?_)
  | (with_reducible refine' r_asgS ?_)
  | (with_reducible refine' r_asg1 ?_)
  | (with_reducible refine' r_asgTS ?_)
  | (with_reducible refine' r_ifS ?_)
  | (with_reducible refine' r_if1 ?_)
  | (with_reducible refine' r_forS ?_)
  | (with_reducible refine' r_for1 ?_)
  | (with_reducible refine' r_dropS ?_)
  | (with_reducible refine' r_drop1 ?_)
  | (with_reducible refine' r_tup ?_)
  | (with_reducible refine' r_lst ?_)
  | (with_reducible refine' r_sl ?_)
  | (with_reducible refine' r_noP ?_)
  | (with_reducible refine' r_part ?_)
  | (with_reducible refine' r_bm ?_)
  | (with_reducible refine' r_bm0 ?_)
  | (with_reducible refine' r_un ?_)
  | (with_reducible refine' r_notV ?_)
  | (with_reducible refine' r_B ?_)
  | (with_reducible refine' r_and ?_)
  | (with_reducible refine' r_or ?_)
  | (with_reducible refine' r_not ?_)
  | (with_reducible refine' r_yes ?_)
  | (with_reducible refine' r_next ?_)
  | (with_reducible refine' r_break ?_)
  | (with_reducible refine' r_gn ?_)
  | (with_reducible refine' r_tupRg ?_)
  | (with_reducible refine' r_rg1 ?_)
  )))
local macro_rules | `(tactic| walk_at "no") => `(tactic| (refine q_eqS ⟨_, rfl, ite2 (fun e => absurd (of_decide_eq_true e) (by decide +kernel)) (fun _ => ?_)⟩; walk_at "st"; try dsimp only))
local macro_rules | `(tactic| walk_at "yes") => `(tactic| (refine q_eqS ⟨_, rfl, ite2 (fun _ => ?_) (fun e => absurd (decide_eq_true rfl) e)⟩; walk_at "st"))
section
variable {P : Program} {w : World} {K : PySem.W.Frag} {mg : Str → Option Value} {base : Heap}
variable {T : List (Addr × Str)}
/-- a web as it is drawn: told so that a house may be changed later -/
structure Drawn (wb : Web Str) : Prop where
  n6 : wb.cs.length ≤ 6
  nh : wb.hs.length ≤ 100
  rk : ∃ rk : Int → Nat, ∀ c ∈ wb.cs, rk c.1 < rk c.2.1
  inn : ∀ c ∈ wb.cs, (0 ≤ c.1 ∧ c.1 < wb.hs.length) ∧ 0 ≤ c.2.1 ∧ c.2.1 < wb.hs.length
  ch : ∀ (k : Nat) x, wb.hs[k]? = some x → HouseOk wb.cs k x.2
theorem Drawn.good {wb : Web Str} (h : Drawn wb) : GoodW wb := by
  obtain ⟨rk, hrk⟩ := h.rk
  exact goodW_of h.n6 h.nh hrk h.inn h.ch
def sp_law_steady_web (K : PySem.W.Frag) (T : List (Addr × Str)) : Sp := Sp4 fun a b c d H Q => ∃ (s p : Addr) (ns : List Int), a = .ref s ∧ SqL K H s (ns.map V.int) ∧ s ≠ p ∧ b = .ref p ∧ Dr H p ∧ c = .int 5 ∧ d = .int 6 ∧ ∀ v H' wb, Drawn wb → Fr T [p] H H' → Dr H' p → Td K H' v (eW wb) → Q v H'
/-! ### _law_steady_web -/
abbrev s_law_steady_web : Stmt := topS 44
abbrev N_law_steady_web : List Str := ["_law_script", "_law_draws_here", "_law_many", "_law_most", "_law_count", "_law_order", "_law_k", "_law_pairs_here", "_law_houses", "_law_buys", "_law_sells", "_law_name", "_law_number"]
theorem sc_law_steady_web : FnScope N_law_steady_web ["_law_script", "_law_draws_here", "_law_many", "_law_most"] (defScope s_law_steady_web) := ⟨rfl, rfl, rfl, by decide +kernel, rfl, by decide +kernel, by decide +kernel⟩
theorem d_law_steady_web (B : B0 mg) (A0 : At K mg "_law_steady_web" s_law_steady_web) (D_law_take : Dn P w K mg base "_law_take" ["_law_draws_here", "_law_many"] 1 (sp_law_take K T)) (D_law_pairs : Dn P w K mg base "_law_pairs" ["_law_script", "_law_draws_here", "_law_order", "_law_most", "_law_shape"] 3 (sp_law_pairs K T)) (D_law_word : Dn P w K mg base "_law_word" ["_law_number"] 1 (sp_law_word K T)) (D_law_choice : Dn P w K mg base "_law_choice" ["_law_script", "_law_draws_here", "_law_buys", "_law_sells"] 7 (sp_law_choice K T)) : Dn P w K mg base "_law_steady_web" ["_law_script", "_law_draws_here", "_law_many", "_law_most"] 8 (sp_law_steady_web K T) := by
  obtain ⟨f_law_take, fd_law_take, G_law_take, g_law_take, k_law_take, b_law_take⟩ := D_law_take
  obtain ⟨f_law_pairs, fd_law_pairs, G_law_pairs, g_law_pairs, k_law_pairs, b_law_pairs⟩ := D_law_pairs
  obtain ⟨f_law_word, fd_law_word, G_law_word, g_law_word, k_law_word, b_law_word⟩ := D_law_word
  obtain ⟨f_law_choice, fd_law_choice, G_law_choice, g_law_choice, k_law_choice, b_law_choice⟩ := D_law_choice
  refine dn4 A0 sc_law_steady_web (fun _ _ F => F.bindsN fun _ _ _ _ _ _ us hl => match us, hl with | [_, _, _, _], _ => rfl) fun f cdv A outer s H a0 a1 a2 a3 Q E hr h => ?_
  have nd := sc_law_steady_web.nd
  refine ⟨_, (pss_cons
  (ps_set (i := 4) nd rfl (by first | exact Or.inl rfl | exact Or.inr rfl) (pe_op op_add pe_int (pe_call G_law_take (hr.mono (by decide)) (by rfl) g_law_take k_law_take b_law_take .nil pass0 (pa_cons (pv 1) (pa_cons (pe_op op_sub (pv 2) pe_int) pa_nil)))))
  (pss_cons
  (ps_set (i := 5) nd rfl (by first | exact Or.inl rfl | exact Or.inr rfl) (pe_lst pa_nil))
  (pss_cons
  (ps_for PassesOwn.never rfl (pi_range1 (by rfl) B.range (pa_cons (pv 4) pa_nil)) (pg_name (i := 6) nd rfl (by first | exact Or.inl rfl | exact Or.inr rfl)) (pss_one
  (ps_expr (pe_bm PySem.F.plainAttrs_list PySem.F.slot_list_insert PySem.F.type_list_insert mt_insert (pv 5) (pa_cons (pe_call G_law_take (hr.mono (by decide)) (by rfl) g_law_take k_law_take b_law_take .nil pass0 (pa_cons (pv 1) (pa_cons (pe_op op_add (pv 6) pe_int) pa_nil))) (pa_cons (pv 6) pa_nil))))))
  (pss_cons
  (ps_set (i := 7) nd rfl (by first | exact Or.inl rfl | exact Or.inr rfl) (pe_call G_law_pairs (hr.mono (by decide)) (by rfl) g_law_pairs k_law_pairs b_law_pairs .nil pass0 (pa_cons (pv 0) (pa_cons (pv 1) (pa_cons (pv 5) (pa_cons (pv 3) (pa_cons (pe_call G_law_take (hr.mono (by decide)) (by rfl) g_law_take k_law_take b_law_take .nil pass0 (pa_cons (pv 1) (pa_cons pe_int pa_nil))) pa_nil)))))))
  (pss_cons
  (ps_set (i := 8) nd rfl (by first | exact Or.inl rfl | exact Or.inr rfl) (pe_lst pa_nil))
  (pss_cons
  (ps_for PassesOwn.never rfl (pi_range1 (by rfl) B.range (pa_cons (pv 4) pa_nil)) (pg_name (i := 6) nd rfl (by first | exact Or.inl rfl | exact Or.inr rfl)) (pss_cons
  (ps_setLc (i := 9) (own := [("_law_number", 12)]) (g := (gName 12)) (by rfl) nd rfl rfl (sw_true rfl rfl rfl (by decide +kernel)) (pi_range1 (by rfl) B.range (pa_cons (pe_callB (kLen (K := K) rfl) (by rfl) B.len PySem.boot_len (pa_cons (pv 7) pa_nil)) pa_nil)) (blkOk_by (own := [("_law_number", 12)]) (N := N_law_steady_web) (sc := defScope s_law_steady_web) (by decide +kernel)) (fun _ _ _ _ _ => (pg_name (i := 12) nd rfl (by first | exact Or.inl rfl | exact Or.inr rfl))) (fun _ _ _ _ _ => (pts_one (pt_cmpR op_eq (pe_ix (kIxT (K := K) rfl) (pe_ix (kIxL (K := K) rfl) (pv 7) (pv 12) (fun _ _ => rfl)) pe_int (fun _ _ => rfl)) (pv 6) (by rfl)))) (fun _ _ _ _ _ => (pv 12)))
  (pss_cons
  (ps_setLc (i := 10) (own := [("_law_number", 12)]) (g := (gName 12)) (by rfl) nd rfl rfl (sw_true rfl rfl rfl (by decide +kernel)) (pi_range1 (by rfl) B.range (pa_cons (pe_callB (kLen (K := K) rfl) (by rfl) B.len PySem.boot_len (pa_cons (pv 7) pa_nil)) pa_nil)) (blkOk_by (own := [("_law_number", 12)]) (N := N_law_steady_web) (sc := defScope s_law_steady_web) (by decide +kernel)) (fun _ _ _ _ _ => (pg_name (i := 12) nd rfl (by first | exact Or.inl rfl | exact Or.inr rfl))) (fun _ _ _ _ _ => (pts_one (pt_cmpR op_eq (pe_ix (kIxT (K := K) rfl) (pe_ix (kIxL (K := K) rfl) (pv 7) (pv 12) (fun _ _ => rfl)) pe_int (fun _ _ => rfl)) (pv 6) (by rfl)))) (fun _ _ _ _ _ => (pv 12)))
  (pss_cons
  (ps_set (i := 11) nd rfl (by first | exact Or.inl rfl | exact Or.inr rfl) (pe_op op_add_str (pe_call G_law_word (hr.mono (by decide)) (by rfl) g_law_word k_law_word b_law_word .nil pass0 (pa_cons (pe_op op_add (pe_op op_add pe_int (pe_op op_mul pe_int (pv 6))) (pe_call G_law_take (hr.mono (by decide)) (by rfl) g_law_take k_law_take b_law_take .nil pass0 (pa_cons (pv 1) (pa_cons pe_int pa_nil)))) pa_nil)) (pe_op op_mulS (pe_ix (kIxL (K := K) rfl) (pe_lst (pa_cons pe_str (pa_cons pe_str (pa_cons pe_str pa_nil)))) (pe_call G_law_take (hr.mono (by decide)) (by rfl) g_law_take k_law_take b_law_take .nil pass0 (pa_cons (pv 1) (pa_cons pe_int pa_nil))) (fun _ _ => rfl)) (pe_callTy call_int1 (by rfl) B.int (by decide +kernel) (pa_cons (pe_cmpR op_eq (pv 6) pe_int (by rfl)) pa_nil)))))
  (pss_one
  (ps_expr (pe_bm PySem.F.plainAttrs_list PySem.F.slot_list_append PySem.F.type_list_append mt_append (pv 8) (pa_cons (pe_tup (pa_cons (pv 11) (pa_cons (pe_call G_law_choice (hr.mono (by decide)) (by rfl) g_law_choice k_law_choice b_law_choice .nil pass0 (pa_cons (pv 0) (pa_cons (pv 1) (pa_cons (pv 9) (pa_cons (pv 10) pa_nil))))) pa_nil))) pa_nil))))))))
  (pss_one
  (ps_ret (pe_tup (pa_cons (pe_callTy (kTuple (K := K) rfl) (by rfl) B.tuple (by decide +kernel) (pa_cons (pv 8) pa_nil)) (pa_cons (pe_callTy (kTuple (K := K) rfl) (by rfl) B.tuple (by decide +kernel) (pa_cons (pv 7) pa_nil)) pa_nil))))))))))), ?_⟩
  obtain ⟨s, p, ns, rfl, hs, hsp, rfl, hp, rfl, rfl, qq⟩ := h
  walk_at "st"
  refine q_I ?_
  walk_at "st"
  refine ⟨_, _, rfl, p, 5 - 1, rfl, hp, rfl, by decide, fun r1 H1 r10 r14 f1 d1 => ?_⟩
  refine q_I ?_
  obtain ⟨n, hn⟩ : ∃ n : Nat, 2 + r1 = n := ⟨(2 + r1).toNat, by omega⟩
  rw [hn]
  have n2 : 2 ≤ n ∧ n ≤ 5 := by omega
  walk_at "st"
  refine ⟨Nat.zero_le _, fun oa hoa => ?_⟩
  have npo : p ≠ oa := by
    obtain ⟨ds, e⟩ := d1
    exact ne_of_none e hoa
  have no : Fresh H oa := f1.fresh (Fresh.of hoa)
  have f2 : Fr T [] H1 (upd H1 oa (.lst [])) := Fr.new hoa
  have ho2 : (upd H1 oa (.lst [])) oa = some (.lst (([] : List Int).map V.int)) := upd_same
  generalize upd H1 oa (.lst []) = H2 at f2 ho2
  have d2 := d1.keep f2
  walk_at "st"
  refine ⟨_, rfl, by omega, by omega, ?_⟩
  rw [Int.toNat_natCast]
  refine for_R (fun i σ H' => ∃ (ord : List Int) (x6 : Option V), σ = [some (.ref s), some (.ref p), some (.int 5), some (.int 6), some (.int (n : Int)), some (.ref oa), x6, none, none, none, none, none, none] ∧ Fr T [p] H H' ∧ Dr H' p ∧ H' oa = some (.lst (ord.map V.int)) ∧ ord.Perm (rangeI i) ∧ ord.length = i)
    ⟨[], none, rfl, f1.trans (f2.wide d1.m), d2, ho2, List.Perm.refl _, rfl⟩ ?_ ?_
  · rintro i σ' H3 hi ⟨ord, x6, rfl, f3, d3, ho3, pm, hol⟩
    walk_at "st"
    refine ⟨ty_lst ho3, ?_⟩
    walk_at "st"
    refine q_I ?_
    walk_at "st"
    refine ⟨_, _, rfl, p, (i : Int) + 1, rfl, d3, rfl, by omega, fun r H4 r0 ri f4 d4 => ?_⟩
    have ho4 := f4.lst ho3 (by simpa using npo.symm)
    walk_at "st"
    refine ⟨oa, _, r, _, rfl, rfl, ho4, by rw [List.length_map]; exact line_of (by omega), r0, by omega, ?_⟩
    have em : (ord.map V.int).take r.toNat ++ [V.int (i : Int)] ++ (ord.map V.int).drop r.toNat = (ord.take r.toNat ++ [(i : Int)] ++ ord.drop r.toNat).map V.int := by
      rw [List.map_append, List.map_append, List.map_take, List.map_drop]
      rfl
    rw [em]
    have p2 := ins_perm ord r.toNat (i : Int)
    have er : rangeI (i + 1) = rangeI i ++ [(i : Int)] := by
      unfold rangeI
      rw [List.range_succ, List.map_append]
      rfl
    refine ⟨ord.take r.toNat ++ [(i : Int)] ++ ord.drop r.toNat, _, rfl, (f3.trans f4).mut no ho4, d4.upd npo, upd_same, ?_, ?_⟩
    · rw [er]
      exact (p2.trans (pm.cons _)).trans (List.perm_append_singleton _ _).symm
    · rw [p2.length_eq, List.length_cons, hol]
  rintro σ' H3 ⟨ord, x6, rfl, f3, d3, ho3, pm, hol⟩
  have ond : ord.Nodup := by
    rw [pm.nodup_iff]
    unfold rangeI
    rw [List.nodup_iff_pairwise_ne, List.pairwise_map]
    exact List.pairwise_lt_range.imp fun h => by omega
  dsimp only
  walk_at "st"
  refine ⟨_, _, rfl, p, 4, rfl, d3, rfl, by decide, fun sh H4 _ _ f4 d4 => ?_⟩
  refine ⟨_, _, _, _, _, rfl, ?_⟩
  refine ⟨s, p, oa, ns, ord, 6, sh, rfl, (f3.trans f4).sqL (by simpa using hsp) hs, hsp, rfl, d4, rfl, f4.lst ho3 (by simpa using npo.symm), npo.symm, by omega, by omega, rfl, by decide, rfl, fun pa H5 vs cs npa f5 d5 hpa tpa hcl hah => ?_⟩
  have vl : vs.length = cs.length := by rw [tpa.length, List.length_map]
  have npp : pa ≠ p := fun z => by
    subst z
    obtain ⟨ds, e⟩ := d4
    obtain ⟨ps, e'⟩ := npa _ e
    cases e'
  walk_at "st"
  refine ⟨Nat.zero_le _, fun ha hha => ?_⟩
  have f6 : Fr T [] H5 (upd H5 ha (.lst [])) := Fr.new hha
  have hh6 : (upd H5 ha (.lst [])) ha = some (.lst []) := upd_same
  have nph : p ≠ ha := by
    obtain ⟨ds, e⟩ := d5
    exact ne_of_none e hha
  have npah : pa ≠ ha := ne_of_none hpa hha
  generalize upd H5 ha (.lst []) = H6 at f6 hh6
  have d6 := d5.keep f6
  have f56 := f6.wide d5.m
  have f06 := ((f3.trans f4).trans f5).trans f56
  have nh : Fresh H ha := ((f3.trans f4).trans f5).fresh (Fresh.of hha)
  have m6 : ∀ z ∈ [p, ha], ∃ l, H6 z = some (.lst l) := fun z hz => by
    have : z = p ∨ z = ha := by simpa using hz
    rcases this with rfl | rfl
    · obtain ⟨ds, e⟩ := d6
      exact ⟨_, e⟩
    · exact ⟨_, hh6⟩
  walk_at "st"
  refine ⟨_, rfl, by omega, by omega, ?_⟩
  rw [Int.toNat_natCast]
  refine for_R (fun i σ H' => ∃ (hs : List (Str × Choice)) (hv : List V) (x6 x9 x10 x11 : Option V), σ = [some (.ref s), some (.ref p), some (.int 5), some (.int 6), some (.int (n : Int)), some (.ref oa), x6, some (.ref pa), some (.ref ha), x9, x10, x11, none] ∧ Fr T [p] H H' ∧ Fr T [p, ha] H6 H' ∧ Dr H' p ∧ H' ha = some (.lst hv) ∧ TdAll K H' hv (hs.map eH) ∧ hs.length = i ∧ ∀ (k : Nat) x, hs[k]? = some x → HouseOk cs k x.2)
    ⟨[], [], _, _, _, _, rfl, f06, Fr.reflM m6, d6, hh6, .nil, rfl, fun k x hx => by simp at hx⟩ ?_ ?_
  rotate_left
  · rintro σ' H7 ⟨hs', hv, x6, x9, x10, x11, rfl, f7, g7, d7, hh7, th7, hhl, hho⟩
    have hpa7 := g7.lst (f6.lst0 hpa) (by simp [npp, npah])
    have tpa7 := (tpa.mono f6).mono g7
    dsimp only
    walk_at "st"
    refine q_tupK (T := T) hh7 th7 fun l8 H8 f8 t8 => ?_
    walk_at "st"
    refine q_tupK (T := T) (f8.lst0 hpa7) (tpa7.mono f8) fun l9 H9 f9 t9 => ?_
    walk_at "st"
    refine ⟨Nat.le_of_lt (line_of (show (2 : Nat) ≤ 100000 by decide)), fun l10 hl10 => ?_⟩
    have f10 : Fr T [] H9 (upd H9 l10 (.tup [.ref l8, .ref l9])) := Fr.new hl10
    have fx := (f8.trans f9).trans f10
    refine qq _ _ ⟨hs', cs⟩ ⟨hcl, by show hs'.length ≤ 100; omega, ⟨fun x => ord.idxOf x, fun c hc => ?_⟩, fun c hc => ?_, hho⟩ (f7.trans (fx.wide d7.m)) (d7.keep fx) (td_new upd_same (.cons ((t8.mono f9).mono f10) (.cons (t9.mono f10) .nil)))
    · obtain ⟨i, j, hij, e1, e2⟩ := hah c hc
      show ord.idxOf c.1 < ord.idxOf c.2.1
      rw [idx_at ond e1, idx_at ond e2]
      exact hij
    · obtain ⟨i, j, hij, e1, e2⟩ := hah c hc
      have rng : ∀ {x : Int} {i : Nat}, ord[i]? = some x → 0 ≤ x ∧ x < (hs'.length : Int) := fun {x i} e => by
        have := pm.mem_iff.mp (List.mem_of_getElem? e)
        unfold rangeI at this
        obtain ⟨k, hk, rfl⟩ := List.mem_map.mp this
        have := List.mem_range.mp hk
        omega
      exact ⟨rng e1, rng e2⟩
  rintro k σ' H7 hk ⟨hs', hv, x6, x9, x10, x11, rfl, f7, g7, d7, hh7, th7, hhl, hho⟩
  have hpa7 := g7.lst (f6.lst0 hpa) (by simp [npp, npah])
  have tpa7 := (tpa.mono f6).mono g7
  walk_at "st"
  refine q_lenL hpa7 ?_
  walk_at "st"
  refine ⟨_, rfl, by omega, by omega, ?_⟩
  rw [Int.toNat_natCast, vl]
  refine lc_R (T := T) (K := K) (n := cs.length) (line_of (by omega)) (fun i => (cs[i]?.map fun c => decide (c.2.1 = (k : Int))).getD false) (fun i => .int (i : Int)) (fun _ => rfl) ?_ ?_
  · intro n Hx hn fx R1 R2 r1 r2
    have hcn := List.getElem?_eq_getElem hn
    rw [hcn] at r1 r2
    obtain ⟨vn, hvn, tvn⟩ := (tpa7.mono fx).atI (k := (n : Int)) (at_nat (by rw [List.getElem?_map, hcn]; rfl))
    walk_at "st"
    refine q_ixL (fx.lst0 hpa7) hvn ?_
    walk_at "st"
    refine q_ixT tvn (d := .int (cs[n]).2.1) rfl fun u3 t3 => ?_
    obtain rfl := t3.int_inv
    walk_at "st"
    refine q_eqI ⟨_, rfl, ite2 (fun e => ?_) (fun e => ?_)⟩
    · walk_at "st"
      exact r1 e _ _ (Fr.refl _) (.int _)
    · exact r2 (Bool.eq_false_iff.mpr e) _ (Fr.refl _)
  intro D8 H8 xs8 hD8 f8 hx8 tx8
  have etx8 : (((List.range cs.length).filter fun i => (cs[i]?.map fun c => decide (c.2.1 = (k : Int))).getD false).map fun (i : Nat) => PyData.int (i : Int)) = (numsOf cs fun c => decide (c.2.1 = (k : Int))).map PyData.int := by
    unfold numsOf
    rw [List.map_map]
    rfl
  rw [etx8] at tx8
  rw [tx8.ints] at hx8
  have hpa8 := f8.lst0 hpa7
  have tpa8 := tpa7.mono f8
  walk_at "st"
  refine q_lenL hpa8 ?_
  walk_at "st"
  refine ⟨_, rfl, by omega, by omega, ?_⟩
  rw [Int.toNat_natCast, vl]
  refine lc_R (T := T) (K := K) (n := cs.length) (line_of (by omega)) (fun i => (cs[i]?.map fun c => decide (c.1 = (k : Int))).getD false) (fun i => .int (i : Int)) (fun _ => rfl) ?_ ?_
  · intro n Hx hn fx R1 R2 r1 r2
    have hcn := List.getElem?_eq_getElem hn
    rw [hcn] at r1 r2
    obtain ⟨vn, hvn, tvn⟩ := (tpa8.mono fx).atI (k := (n : Int)) (at_nat (by rw [List.getElem?_map, hcn]; rfl))
    walk_at "st"
    refine q_ixL (fx.lst0 hpa8) hvn ?_
    walk_at "st"
    refine q_ixT tvn (d := .int (cs[n]).1) rfl fun u3 t3 => ?_
    obtain rfl := t3.int_inv
    walk_at "st"
    refine q_eqI ⟨_, rfl, ite2 (fun e => ?_) (fun e => ?_)⟩
    · walk_at "st"
      exact r1 e _ _ (Fr.refl _) (.int _)
    · exact r2 (Bool.eq_false_iff.mpr e) _ (Fr.refl _)
  intro D9 H9 xs9 hD9 f9 hx9 tx9
  have etx9 : (((List.range cs.length).filter fun i => (cs[i]?.map fun c => decide (c.1 = (k : Int))).getD false).map fun (i : Nat) => PyData.int (i : Int)) = (numsOf cs fun c => decide (c.1 = (k : Int))).map PyData.int := by
    unfold numsOf
    rw [List.map_map]
    rfl
  rw [etx9] at tx9
  rw [tx9.ints] at hx9
  have d8 := d7.keep f8
  have d9 := d8.keep f9
  have n8p : D8 ≠ p := by
    obtain ⟨ds, e⟩ := d7
    exact (ne_of_none e hD8).symm
  have n9p : D9 ≠ p := by
    obtain ⟨ds, e⟩ := d8
    exact (ne_of_none e hD9).symm
  have hx8' := f9.lst0 hx8
  have hh9 := (f8.trans f9).lst0 hh7
  have f79 := (f8.trans f9).wide d7.m
  walk_at "st"
  refine q_IC (Or.inl ⟨by decide, by decide⟩) ?_
  refine q_I ?_
  walk_at "st"
  refine ⟨_, _, rfl, p, 7, rfl, d9, rfl, by decide, fun r10 H10 _ _ f10 d10 => ?_⟩
  walk_at "st"
  refine q_I ?_
  walk_at "st"
  refine ⟨_, rfl, _, rfl, fun wd hwd => ?_⟩
  walk_at "st"
  refine ⟨Nat.le_of_lt (line_of (show (3 : Nat) ≤ 100000 by decide)), fun h11 hh11 => ?_⟩
  have f11 : Fr T [] H10 (upd H10 h11 (.lst [.str "", .str "", .str "xx"])) := Fr.new hh11
  have hx11 : (upd H10 h11 (.lst [.str "", .str "", .str "xx"])) h11 = some (.lst [.str "", .str "", .str "xx"]) := upd_same
  have n11p : h11 ≠ p := by
    obtain ⟨ds, e⟩ := d10
    exact (ne_of_none e hh11).symm
  generalize upd H10 h11 (.lst [.str "", .str "", .str "xx"]) = H11 at f11 hx11
  have d11 := d10.keep f11
  walk_at "st"
  refine ⟨_, _, rfl, p, 3, rfl, d11, rfl, by decide, fun r12 H12 r120 r123 f12 d12 => ?_⟩
  obtain ⟨u, hu, hor⟩ := at3 (x := V.str "") (y := V.str "") (z := V.str "xx") r120 r123
  have hstr : ∃ z : Str, u = .str z ∧ z.length ≤ 16 := by
    rcases hor with rfl | rfl | rfl
    · exact ⟨_, rfl, by decide +kernel⟩
    · exact ⟨_, rfl, by decide +kernel⟩
    · exact ⟨_, rfl, by decide +kernel⟩
  obtain ⟨z, rfl, hz⟩ := hstr
  refine q_ixL (f12.lst hx11 (by simpa using n11p)) hu ?_
  walk_at "st"
  refine q_eqI ?_
  refine Or.inr ⟨_, rfl, ?_⟩
  have hi01 : 0 ≤ (if decide ((k : Int) = 0) = true then (1 : Int) else 0) ∧ (if decide ((k : Int) = 0) = true then (1 : Int) else 0) ≤ 1 := by split <;> omega
  refine ⟨z, _, rfl, rfl, hz, hi01.1, hi01.2, fun z2 hz2 => ?_⟩
  refine ⟨_, _, rfl, rfl, ?_, ?_⟩
  · rw [sizeLine_eq]
    show wd.length + z2.length ≤ 16777216
    omega
  generalize (wd ++ z2 : Str) = nm
  have f912 : Fr T [p] H9 H12 := (f10.trans (f11.wide d10.m)).trans f12
  have hh12 := f912.lst hh9 (by simpa using nph.symm)
  walk_at "st"
  refine ⟨ty_lst hh12, ?_⟩
  walk_at "st"
  refine ⟨_, _, _, _, rfl, ?_⟩
  refine ⟨s, p, D8, D9, ns, _, _, rfl, ((f7.trans f79).trans f912).sqL (by simpa using hsp) hs, hsp, rfl, d12, rfl, f912.lst hx8' (by simpa using n8p), n8p, rfl, f912.lst hx9 (by simpa using n9p), n9p, nums_nodup, nums_nodup, fun c a b => ?_, ?_, ?_, fun v H13 ch okc f13 d13 t13 => ?_⟩
  · obtain ⟨_, d, hd, e1⟩ := nums_mem.mp a
    obtain ⟨_, d', hd', e2⟩ := nums_mem.mp b
    rw [hd] at hd'
    cases hd'
    obtain ⟨i, j, hij, g1, g2⟩ := hah d (List.mem_of_getElem? hd)
    have e := (of_decide_eq_true e2).trans (of_decide_eq_true e1).symm
    rw [e] at g1
    have := ord_uniq ond g1 g2
    omega
  · exact nums_le12 (by omega)
  · exact nums_le12 (by omega)
  have hh13 := f13.lst hh12 (by simpa using nph.symm)
  have f713 : Fr T [p] H7 H13 := (f79.trans f912).trans f13
  walk_at "st"
  refine ⟨Nat.le_of_lt (line_of (show (2 : Nat) ≤ 100000 by decide)), fun t ht => ?_⟩
  have f14 : Fr T [] H13 (upd H13 t (.tup [.str nm, v])) := Fr.new ht
  have t14 : Td K (upd H13 t (.tup [.str nm, v])) (.ref t) (eH (nm, ch)) := td_new upd_same (.cons (.str _) (.cons (t13.mono f14) .nil))
  generalize upd H13 t (.tup [.str nm, v]) = H14 at f14 t14
  have d14 := d13.keep f14
  have hh14 := f14.lst0 hh13
  have f714 := f713.trans (f14.wide d13.m)
  walk_at "st"
  refine q_app hh14 (line_of (by rw [th7.length, List.length_map]; omega)) ?_
  have gx : Fr T [ha] H14 (upd H14 ha (.lst (hv ++ [.ref t]))) := Fr.set (fun p hp => by simp at hp; subst hp; exact ⟨_, hh14⟩) (by simp)
  refine ⟨hs' ++ [(nm, ch)], hv ++ [.ref t], _, _, _, _, rfl, (f7.trans f714).mut nh hh14, ?_, d14.upd nph, upd_same, ?_, ?_, ?_⟩
  · refine g7.trans ⟨fun a o m e n => ?_, fun t => gx.tabs (f714.tabs t), g7.m1, fun z hz => ?_⟩
    · have ma : a ≠ ha := fun z => m (by simp [z])
      rw [upd_ne ma]
      exact f714.keep a o (fun z => m (by simp at z; simp [z])) e n
    · have : z = p ∨ z = ha := by simpa using hz
      rcases this with rfl | rfl
      · obtain ⟨ds, e⟩ := d14
        exact ⟨_, by rw [upd_ne nph]; exact e⟩
      · exact ⟨_, upd_same⟩
  · rw [List.map_append]
    exact ((th7.mono f714).append (.cons t14 .nil)).mono gx
  · rw [List.length_append, hhl]
    rfl
  · intro j x hj
    by_cases h1 : j < hs'.length
    · rw [List.getElem?_append_left h1] at hj
      exact hho j x hj
    · rw [List.getElem?_append_right (by omega)] at hj
      have hj2 : j - hs'.length = 0 := by
        have := (List.getElem?_eq_some_iff.mp hj).1
        simp at this
        omega
      rw [hj2] at hj
      simp at hj
      subst hj
      have ej : j = k := by omega
      rw [ej]
      exact okc
end
end Nc
set_option maxHeartbeats 1000000
/-! MW: wild tables are good. -/
namespace Nc
theorem Good.swap {bs ss : List Int} {f : (Int → Bool) → List Int} (h : Good bs ss f) : Good ss bs f where
  mem := fun off c hc => ⟨(h.mem off c hc).1, (h.mem off c hc).2.symm⟩
  nd := h.nd
  irc := h.irc
  fsb := h.fss
  fss := h.fsb
theorem OkPlain.swap {bs ss : List Int} {p : Plain} (h : OkPlain bs ss p) : OkPlain ss bs p := ⟨fun pr => (h.good pr).swap, h.agr, fun cs a b => h.ok cs b a⟩
theorem firstRow_in {rows : List (List Int)} {off : Int → Bool} : firstRow rows off = [] ∨ firstRow rows off ∈ rows := by
  unfold firstRow
  cases e : rows.find? (rowIn off) with
  | none => exact Or.inl rfl
  | some r => exact Or.inr (List.mem_of_find?_eq_some e)
theorem one_mem {a b c : Int} {R : List Int} (hR : R.Perm [b, c]) (off : Int → Bool) (x : Int) : x ∈ firstRow [[a], R, [b], [c]] off ↔ (off a = true ∧ x = a) ∨ (off a = false ∧ (x = b ∨ x = c) ∧ off x = true) := by
  have e : rowIn off R = (off b && off c) := by
    unfold rowIn
    rw [hR.all_eq]
    simp
  have em : x ∈ R ↔ x = b ∨ x = c := by rw [hR.mem_iff]; simp
  unfold firstRow
  rw [List.find?_cons, List.find?_cons, List.find?_cons, List.find?_cons, e]
  have e1 : ∀ z, rowIn off [z] = off z := fun z => by simp [rowIn]
  rw [e1, e1, e1]
  cases ha : off a with
  | true => simp
  | false =>
    cases hb : off b with
    | true =>
      cases hc : off c with
      | true =>
        simp only [Bool.and_self, Option.getD_some, em]
        constructor
        · rintro (rfl | rfl)
          · exact Or.inr ⟨by simp, Or.inl rfl, hb⟩
          · exact Or.inr ⟨by simp, Or.inr rfl, hc⟩
        · rintro (⟨z, _⟩ | ⟨_, z, _⟩)
          · cases z
          · exact z
      | false =>
        simp only [Bool.and_false, Option.getD_some, List.mem_singleton]
        constructor
        · rintro rfl
          exact Or.inr ⟨by simp, Or.inl rfl, hb⟩
        · rintro (⟨z, _⟩ | ⟨_, z | z, y⟩)
          · cases z
          · exact z
          · rw [z, hc] at y
            cases y
    | false =>
      cases hc : off c with
      | true =>
        simp only [Bool.and_true, Option.getD_some, List.mem_singleton]
        constructor
        · rintro rfl
          exact Or.inr ⟨by simp, Or.inr rfl, hc⟩
        · rintro (⟨z, _⟩ | ⟨_, z | z, y⟩)
          · cases z
          · rw [z, hb] at y
            cases y
          · exact z
      | false =>
        simp only [Bool.and_false, List.find?_nil, Option.getD_none]
        constructor
        · intro z
          cases z
        · rintro (⟨z, _⟩ | ⟨_, z | z, y⟩)
          · cases z
          · rw [z, hb] at y
            cases y
          · rw [z, hc] at y
            cases y
theorem wild_one {a b c : Int} {R : List Int} {bs ss : List Int} (hR : R.Perm [b, c]) (so : R.Pairwise (· ≤ ·)) (hne : b ≠ c) (ha : a ∈ bs) (hb : b ∈ bs) (hc : c ∈ bs) (hd : ∀ c ∈ bs, c ∉ ss) : OkPlain bs ss (.table [[a], R, [b], [c]]) := by
  have hin : ∀ x, (x = a ∨ x = b ∨ x = c) → x ∈ bs := by
    rintro x (rfl | rfl | rfl) <;> assumption
  have rl : R.length = 2 := by rw [hR.length_eq]; rfl
  refine ⟨fun pr => ?_, fun pr => agrees_table pr fun r hr => ?_, fun cs _ _ => ⟨by show 4 ≤ 100; decide, fun r hr => ?_⟩⟩
  · have M := fun off x => one_mem (a := a) hR off x
    show Good bs ss fun off => firstRow [[a], R, [b], [c]] off
    refine ⟨fun off x hx => ?_, fun off => ?_, fun off off' h1 h2 x => ?_, fun off off' x h1 h2 h3 h4 h5 => ?_, fun off off' x h1 h2 h3 h4 h5 => ?_⟩
    · rcases (M off x).mp hx with ⟨h, rfl⟩ | ⟨_, z, h⟩
      · exact ⟨h, Or.inl ha⟩
      · exact ⟨h, Or.inl (hin x (Or.inr z))⟩
    · rcases firstRow_in (rows := [[a], R, [b], [c]]) (off := off) with z | z
      · rw [z]
        exact List.nodup_nil
      · simp only [List.mem_cons, List.not_mem_nil, or_false] at z
        rcases z with z | z | z | z
        · rw [z]; simp
        · rw [z, hR.nodup_iff]
          simp [hne]
        · rw [z]; simp
        · rw [z]; simp
    · rw [M, M]
      cases e : off a with
      | true =>
        have := h2 a ((M off a).mpr (Or.inl ⟨e, rfl⟩))
        rw [this]
        simp
      | false =>
        have e' : off' a = false := by
          cases z : off' a with
          | false => rfl
          | true => rw [h1 a z] at e; cases e
        rw [e']
        constructor
        · rintro (⟨z, _⟩ | ⟨_, z, y⟩)
          · cases z
          · exact Or.inr ⟨by simp, z, h1 x y⟩
        · rintro (⟨z, _⟩ | ⟨_, z, y⟩)
          · cases z
          · exact Or.inr ⟨by simp, z, h2 x ((M off x).mpr (Or.inr ⟨e, z, y⟩))⟩
    · have h5 := (M off x).mp h5
      show x ∈ firstRow _ off'
      rw [M]
      rcases h5 with ⟨e, rfl⟩ | ⟨e, z, y⟩
      · exact Or.inl ⟨h4, rfl⟩
      · refine Or.inr ⟨?_, z, h4⟩
        cases e' : off' a with
        | false => rfl
        | true => rw [h1 a ha e'] at e; cases e
    · exfalso
      have h5 := (M off x).mp h5
      rcases h5 with ⟨e, rfl⟩ | ⟨e, z, y⟩
      · exact hd x ha h3
      · exact hd x (hin x (Or.inr z)) h3
  · simp only [List.mem_cons, List.not_mem_nil, or_false] at hr
    rcases hr with rfl | rfl | rfl | rfl
    · simp
    · exact so
    · simp
    · simp
  · simp only [List.mem_cons, List.not_mem_nil, or_false] at hr
    rcases hr with rfl | rfl | rfl | rfl
    · simp
    · omega
    · simp
    · simp
theorem mix_mem {x y z : Int} {R0 R1 R2 : List Int} (p0 : R0.Perm [x, y, z]) (p1 : R1.Perm [x, y]) (p2 : R2.Perm [x, z]) (off : Int → Bool) (u : Int) : u ∈ firstRow [R0, R1, R2] off ↔ off x = true ∧ (off y = true ∨ off z = true) ∧ (u = x ∨ (u = y ∨ u = z) ∧ off u = true) := by
  have e0 : rowIn off R0 = (off x && (off y && off z)) := by
    unfold rowIn
    rw [p0.all_eq]
    simp
  have e1 : rowIn off R1 = (off x && off y) := by
    unfold rowIn
    rw [p1.all_eq]
    simp
  have e2 : rowIn off R2 = (off x && off z) := by
    unfold rowIn
    rw [p2.all_eq]
    simp
  have m0 : u ∈ R0 ↔ u = x ∨ u = y ∨ u = z := by rw [p0.mem_iff]; simp
  have m1 : u ∈ R1 ↔ u = x ∨ u = y := by rw [p1.mem_iff]; simp
  have m2 : u ∈ R2 ↔ u = x ∨ u = z := by rw [p2.mem_iff]; simp
  unfold firstRow
  rw [List.find?_cons, List.find?_cons, List.find?_cons, e0, e1, e2]
  cases hx : off x with
  | false => simp
  | true =>
    cases hy : off y with
    | true =>
      cases hz : off z with
      | true =>
        simp only [Bool.and_self, Option.getD_some, m0]
        constructor
        · rintro (rfl | rfl | rfl)
          · exact ⟨by simp, Or.inl (by simp), Or.inl rfl⟩
          · exact ⟨by simp, Or.inl (by simp), Or.inr ⟨Or.inl rfl, hy⟩⟩
          · exact ⟨by simp, Or.inl (by simp), Or.inr ⟨Or.inr rfl, hz⟩⟩
        · rintro ⟨_, _, h | ⟨h, _⟩⟩
          · exact Or.inl h
          · exact Or.inr h
      | false =>
        simp only [Bool.and_false, Bool.and_self, Option.getD_some, m1]
        constructor
        · rintro (rfl | rfl)
          · exact ⟨by simp, Or.inl (by simp), Or.inl rfl⟩
          · exact ⟨by simp, Or.inl (by simp), Or.inr ⟨Or.inl rfl, hy⟩⟩
        · rintro ⟨_, _, h | ⟨h | h, e⟩⟩
          · exact Or.inl h
          · exact Or.inr h
          · rw [h, hz] at e
            cases e
    | false =>
      cases hz : off z with
      | true =>
        simp only [Bool.and_true, Bool.and_false, Bool.and_self, Option.getD_some, m2]
        constructor
        · rintro (rfl | rfl)
          · exact ⟨by simp, Or.inr (by simp), Or.inl rfl⟩
          · exact ⟨by simp, Or.inr (by simp), Or.inr ⟨Or.inr rfl, hz⟩⟩
        · rintro ⟨_, _, h | ⟨h | h, e⟩⟩
          · exact Or.inl h
          · rw [h, hy] at e
            cases e
          · exact Or.inr h
      | false => simp
theorem wild_mix {x y z : Int} {R0 R1 R2 : List Int} {bs ss : List Int} (p0 : R0.Perm [x, y, z]) (p1 : R1.Perm [x, y]) (p2 : R2.Perm [x, z]) (s0 : R0.Pairwise (· ≤ ·)) (s1 : R1.Pairwise (· ≤ ·)) (s2 : R2.Pairwise (· ≤ ·)) (hne : y ≠ z) (hx : x ∈ bs) (hy : y ∈ ss) (hz : z ∈ ss) (hd : ∀ c ∈ bs, c ∉ ss) : OkPlain bs ss (.table [R0, R1, R2]) := by
  have xy : x ≠ y := fun e => hd x hx (e ▸ hy)
  have xz : x ≠ z := fun e => hd x hx (e ▸ hz)
  have l0 : R0.length = 3 := by rw [p0.length_eq]; rfl
  have l1 : R1.length = 2 := by rw [p1.length_eq]; rfl
  have l2 : R2.length = 2 := by rw [p2.length_eq]; rfl
  refine ⟨fun pr => ?_, fun pr => agrees_table pr fun r hr => ?_, fun cs _ _ => ⟨by show 3 ≤ 100; decide, fun r hr => ?_⟩⟩
  · have M := fun off u => mix_mem p0 p1 p2 off u
    show Good bs ss fun off => firstRow [R0, R1, R2] off
    refine ⟨fun off u hu => ?_, fun off => ?_, fun off off' h1 h2 u => ?_, fun off off' u h1 h2 h3 h4 h5 => ?_, fun off off' u h1 h2 h3 h4 h5 => ?_⟩
    · obtain ⟨h, _, rfl | ⟨rfl | rfl, k⟩⟩ := (M off u).mp hu
      · exact ⟨h, Or.inl hx⟩
      · exact ⟨k, Or.inr hy⟩
      · exact ⟨k, Or.inr hz⟩
    · rcases firstRow_in (rows := [R0, R1, R2]) (off := off) with h | h
      · rw [h]
        exact List.nodup_nil
      · simp only [List.mem_cons, List.not_mem_nil, or_false] at h
        rcases h with h | h | h
        · rw [h, p0.nodup_iff]
          simp [xy, xz, hne]
        · rw [h, p1.nodup_iff]
          simp [xy]
        · rw [h, p2.nodup_iff]
          simp [xz]
    · rw [M, M]
      constructor
      · rintro ⟨a, b, c⟩
        exact ⟨h1 x a, b.imp (h1 y) (h1 z), c.imp id fun d => ⟨d.1, h1 u d.2⟩⟩
      · rintro ⟨a, b, c⟩
        have fx := h2 x ((M off x).mpr ⟨a, b, Or.inl rfl⟩)
        refine ⟨fx, ?_, c.imp id fun d => ⟨d.1, h2 u ((M off u).mpr ⟨a, b, Or.inr d⟩)⟩⟩
        rcases b with e | e
        · exact Or.inl (h2 y ((M off y).mpr ⟨a, Or.inl e, Or.inr ⟨Or.inl rfl, e⟩⟩))
        · exact Or.inr (h2 z ((M off z).mpr ⟨a, Or.inr e, Or.inr ⟨Or.inr rfl, e⟩⟩))
    · obtain ⟨a, b, c⟩ := (M off u).mp h5
      show u ∈ firstRow _ off'
      rw [M]
      rcases c with rfl | ⟨rfl | rfl, k⟩
      · exact ⟨h4, b.imp (h2 y hy) (h2 z hz), Or.inl rfl⟩
      · exact absurd hy (hd u h3)
      · exact absurd hz (hd u h3)
    · obtain ⟨a, b, c⟩ := (M off u).mp h5
      show u ∈ firstRow _ off'
      rw [M]
      rcases c with rfl | ⟨rfl | rfl, k⟩
      · exact absurd h3 (hd u hx)
      · exact ⟨h2 x hx a, Or.inl h4, Or.inr ⟨Or.inl rfl, h4⟩⟩
      · exact ⟨h2 x hx a, Or.inr h4, Or.inr ⟨Or.inr rfl, h4⟩⟩
  · simp only [List.mem_cons, List.not_mem_nil, or_false] at hr
    rcases hr with rfl | rfl | rfl <;> assumption
  · simp only [List.mem_cons, List.not_mem_nil, or_false] at hr
    rcases hr with rfl | rfl | rfl <;> omega
end Nc
set_option maxHeartbeats 4000000
/-! GJ: wild webs. -/
namespace Nc
open PySem PySem.Spec L2
theorem cut_ft (xs : List V) (a b : Nat) : cutV xs (some (a : Int)) (some (b : Int)) = (xs.drop a).take (b - a) := by
  unfold cutV
  rw [HT.sIx_nat, HT.sIx_nat]
  by_cases ha : a ≤ xs.length
  · rw [Nat.min_eq_left ha, List.take_eq_take_iff, List.length_drop]
    omega
  · rw [Nat.min_eq_right (show xs.length ≤ a by omega), List.drop_of_length_le (Nat.le_refl _), List.drop_of_length_le (l := xs) (show xs.length ≤ a by omega)]
    simp
theorem cut1 (xs : List V) : cutV xs none (some 1) = xs.take 1 := cut_to xs 1
theorem cut2 (xs : List V) : cutV xs none (some 2) = xs.take 2 := cut_to xs 2
theorem cut13 (xs : List V) : cutV xs (some 1) (some 3) = (xs.drop 1).take 2 := cut_ft xs 1 3
theorem cut12 (xs : List V) : cutV xs (some 1) (some 2) = (xs.drop 1).take 1 := cut_ft xs 1 2
theorem cut23 (xs : List V) : cutV xs (some 2) (some 3) = (xs.drop 2).take 1 := cut_ft xs 2 3
section
variable {K : PySem.W.Frag} {T : List (Addr × Str)} {H : Hp} {D : Addr} {Q : V → Hp → Prop} {ns ms rs : List Int}
theorem q_slI {lo hi : Option Int} (h : H D = some (.lst (ns.map V.int))) (e : cutV (ns.map V.int) lo hi = rs.map V.int) (q : ∀ p H', H p = none → Fr T [] H H' → H' p = some (.lst (rs.map V.int)) → Q (.ref p) H') : rSlL K (.ref D) lo hi H Q :=
  q_slL h fun p hp => q p _ hp (Fr.new hp) (by rw [e]; exact upd_same)
theorem q_catI {b : Addr} (h1 : H D = some (.lst (ns.map V.int))) (h2 : H b = some (.lst (ms.map V.int))) (hz : ns.length + ms.length ≤ 100000) (q : ∀ p H', H p = none → Fr T [] H H' → H' p = some (.lst ((ns ++ ms).map V.int)) → Q (.ref p) H') : rCat (.ref D) (.ref b) H Q :=
  q_cat h1 h2 (by rw [List.length_map, List.length_map]; exact Nat.le_of_lt (line_of hz)) fun p hp => q p _ hp (Fr.new hp) (by rw [List.map_append]; exact upd_same)
theorem q_sortI (h : H D = some (.lst (ns.map V.int))) (q : ∀ p H', H p = none → Fr T [] H H' → H' p = some (.lst ((sortI ns).map V.int)) → Q (.ref p) H') : rSortedI K [.ref D] H Q :=
  q_sortedL h fun p hp => q p _ hp (Fr.new hp) upd_same
theorem q_tupI (h : H D = some (.lst (ns.map V.int))) (q : ∀ l H', Fr T [] H H' → Td K H' (.ref l) (tI ns) → Q (.ref l) H') : rTupleK K [.ref D] H Q := q_tupK h (tdAll_ints ns) q
end
local macro_rules | `(tactic| walk_at "st") => `(tactic| (repeat (first
  | ((with_reducible refine' r_var ?e ?_); (case e => exact rfl))
  | (with_reducible refine' r_op ?_)
  | (with_reducible refine' r_c ?_)
  | (with_reducible refine' r_cons ?_)
  | (with_reducible refine' r_nil ?_)
  | (with_reducible refine' r_cb ?_)
  | (with_reducible refine' r_call ?_)
  | (with_reducible refine' r_test ?_)
  | (with_reducible refine' r_lc ?_)
  | (with_reducible refine' r_lc2 ?_)
  | (with_reducible refine' r_sk ?_)
  | (with_reducible refine' r_iZ ?_)
  | (with_reducible refine' r_sl3 ?_)
  | (with_reducible refine' r_bmZ ?_)
  | (with_reducible refine' r_dg ?_)
  | (with_reducible refine' r_dpS ?_)
  | (with_reducible refine' r_dp1 ?_)
  | (with_reducible refine' r_dn ?_)
  | (with_reducible refine' r_iT ?_)
  | (with_reducible refine' r_iL ?_)
  | (with_reducible refine' r_iE ?_)
  | (with_reducible refine' r_iR ?_)
  | (with_reducible refine' r_ret ?_)
  | (with_reducible refine' r_asgS ?_)
  | (with_reducible refine' r_asg1 ?_)
  | (with_reducible refine' r_asgTS ?_)
  | (with_reducible refine' r_ifS ?_)
  | (with_reducible refine' r_if1 ?_)
  | (with_reducible refine' r_forS ?_)
  | (with_reducible refine' r_for1 ?_)
  | (with_reducible refine' r_dropS ?_)
  | (with_reducible refine' r_drop1 ?_)
  | (with_reducible refine' r_tup ?_)
  | (with_reducible refine' r_lst ?_)
  | (with_reducible refine' r_sl ?_)
  | (with_reducible refine' r_noP ?_)
  | (with_reducible refine' r_part ?_)
  | (with_reducible refine' r_bm ?_)
  | (with_reducible refine' r_bm0 ?_)
  | (with_reducible refine' r_un ?_)
  | (with_reducible refine' r_notV ?_)
  | (with_reducible refine' r_B ?_)
  | (with_reducible refine' r_and ?_)
  | (with_reducible refine' r_or ?_)
  | (with_reducible refine' r_not ?_)
  | (with_reducible refine' r_yes ?_)
  | (with_reducible refine' r_next ?_)
  | (with_reducible refine' r_break ?_)
  | (with_reducible refine' r_gn ?_)
  | (with_reducible refine' r_tupRg ?_)
  | (with_reducible refine' r_rg1 ?_)
  )))
local macro_rules | `(tactic| walk_at "no") => `(tactic| (refine q_eqS ⟨_, rfl, ite2 (fun e => absurd (of_decide_eq_true e) (by decide +kernel)) (fun _ => ?_)⟩; walk_at "st"; try dsimp only))
local macro_rules | `(tactic| walk_at "yes") => `(tactic| (refine q_eqS ⟨_, rfl, ite2 (fun _ => ?_) (fun e => absurd (decide_eq_true rfl) e)⟩; walk_at "st"))
section
variable {P : Program} {w : World} {K : PySem.W.Frag} {mg : Str → Option Value} {base : Heap}
variable {T : List (Addr × Str)}
def sp_law_wild (K : PySem.W.Frag) (T : List (Addr × Str)) : Sp := Sp2 fun a b H Q => ∃ (lb ls : Addr) (bs ss : List Int), a = .ref lb ∧ H lb = some (.lst (bs.map V.int)) ∧ b = .ref ls ∧ H ls = some (.lst (ss.map V.int)) ∧
  bs.Pairwise (· < ·) ∧ ss.Pairwise (· < ·) ∧ (∀ c ∈ bs, c ∉ ss) ∧ bs.length ≤ 12 ∧ ss.length ≤ 12 ∧ 2 < bs.length + ss.length ∧ ∀ v H' pl, OkPlain bs ss pl → Fr T [] H H' → Td K H' v (eP pl) → Q v H'
/-! ### _law_wild -/
abbrev s_law_wild : Stmt := topS 42
abbrev N_law_wild : List Str := ["_law_buys", "_law_sells", "_law_one", "_law_two", "_law_own_here"]
theorem sc_law_wild : FnScope N_law_wild ["_law_buys", "_law_sells"] (defScope s_law_wild) := ⟨rfl, rfl, rfl, by decide +kernel, rfl, by decide +kernel, by decide +kernel⟩
theorem d_law_wild (B : B0 mg) (A0 : At K mg "_law_wild" s_law_wild) : Dn P w K mg base "_law_wild" ["_law_buys", "_law_sells"] 2 (sp_law_wild K T) := by
  refine dn2 A0 sc_law_wild (fun _ _ F => F.bindsN fun _ _ _ _ _ _ us hl => match us, hl with | [_, _], _ => rfl) fun f cdv A outer s H a0 a1 Q E hr h => ?_
  have nd := sc_law_wild.nd
  refine ⟨_, (pss_cons
  (ps_if (PW.pt (pw_or (pt_cmpR op_eq (pe_callB (kLen (K := K) rfl) (by rfl) B.len PySem.boot_len (pa_cons (pv 0) pa_nil)) pe_int (by rfl)) (pw_or1 (pt_cmpR op_eq (pe_callB (kLen (K := K) rfl) (by rfl) B.len PySem.boot_len (pa_cons (pv 1) pa_nil)) pe_int (by rfl))))) (pss_cons
  (ps_set (i := 4) nd rfl (by first | exact Or.inl rfl | exact Or.inr rfl) (pe_op op_cat (pv 0) (pv 1)))
  (pss_one
  (ps_ret (pe_tup (pa_cons pe_str (pa_cons (pe_tup (pa_cons (pe_callTy (kTuple (K := K) rfl) (by rfl) B.tuple (by decide +kernel) (pa_cons (pe_slice (kSlL (K := K) rfl) (pv 4) po_none (po_some pe_int)) pa_nil)) (pa_cons (pe_callTy (kTuple (K := K) rfl) (by rfl) B.tuple (by decide +kernel) (pa_cons (pe_slice (kSlL (K := K) rfl) (pv 4) (po_some pe_int) (po_some pe_int)) pa_nil)) (pa_cons (pe_callTy (kTuple (K := K) rfl) (by rfl) B.tuple (by decide +kernel) (pa_cons (pe_slice (kSlL (K := K) rfl) (pv 4) (po_some pe_int) (po_some pe_int)) pa_nil)) (pa_cons (pe_callTy (kTuple (K := K) rfl) (by rfl) B.tuple (by decide +kernel) (pa_cons (pe_slice (kSlL (K := K) rfl) (pv 4) (po_some pe_int) (po_some pe_int)) pa_nil)) pa_nil))))) pa_nil)))))) pss_nil)
  (pss_cons
  (ps_set (i := 2) nd rfl (by first | exact Or.inl rfl | exact Or.inr rfl) (pe_op op_cat (pe_slice (kSlL (K := K) rfl) (pv 0) po_none (po_some pe_int)) (pe_slice (kSlL (K := K) rfl) (pv 1) po_none (po_some pe_int))))
  (pss_cons
  (ps_set (i := 3) nd rfl (by first | exact Or.inl rfl | exact Or.inr rfl) (pe_lst (pa_cons (pe_callTy (kTuple (K := K) rfl) (by rfl) B.tuple (by decide +kernel) (pa_cons (pe_callB (kSorted (K := K) rfl) (by rfl) B.sorted (by decide +kernel) (pa_cons (pe_op op_cat (pe_slice (kSlL (K := K) rfl) (pv 0) po_none (po_some pe_int)) (pe_slice (kSlL (K := K) rfl) (pv 1) po_none (po_some pe_int))) pa_nil)) pa_nil)) (pa_cons (pe_callTy (kTuple (K := K) rfl) (by rfl) B.tuple (by decide +kernel) (pa_cons (pe_callB (kSorted (K := K) rfl) (by rfl) B.sorted (by decide +kernel) (pa_cons (pe_op op_cat (pe_slice (kSlL (K := K) rfl) (pv 0) po_none (po_some pe_int)) (pe_slice (kSlL (K := K) rfl) (pv 1) (po_some pe_int) (po_some pe_int))) pa_nil)) pa_nil)) pa_nil))))
  (pss_cons
  (ps_if (pt_cmpR op_lt (pe_callB (kLen (K := K) rfl) (by rfl) B.len PySem.boot_len (pa_cons (pv 1) pa_nil)) pe_int (by rfl)) (pss_cons
  (ps_set (i := 2) nd rfl (by first | exact Or.inl rfl | exact Or.inr rfl) (pe_op op_cat (pe_slice (kSlL (K := K) rfl) (pv 0) po_none (po_some pe_int)) (pe_slice (kSlL (K := K) rfl) (pv 1) po_none (po_some pe_int))))
  (pss_one
  (ps_set (i := 3) nd rfl (by first | exact Or.inl rfl | exact Or.inr rfl) (pe_lst (pa_cons (pe_callTy (kTuple (K := K) rfl) (by rfl) B.tuple (by decide +kernel) (pa_cons (pe_callB (kSorted (K := K) rfl) (by rfl) B.sorted (by decide +kernel) (pa_cons (pe_op op_cat (pe_slice (kSlL (K := K) rfl) (pv 0) po_none (po_some pe_int)) (pe_slice (kSlL (K := K) rfl) (pv 1) po_none (po_some pe_int))) pa_nil)) pa_nil)) (pa_cons (pe_callTy (kTuple (K := K) rfl) (by rfl) B.tuple (by decide +kernel) (pa_cons (pe_callB (kSorted (K := K) rfl) (by rfl) B.sorted (by decide +kernel) (pa_cons (pe_op op_cat (pe_slice (kSlL (K := K) rfl) (pv 0) (po_some pe_int) (po_some pe_int)) (pe_slice (kSlL (K := K) rfl) (pv 1) po_none (po_some pe_int))) pa_nil)) pa_nil)) pa_nil)))))) pss_nil)
  (pss_one
  (ps_ret (pe_tup (pa_cons pe_str (pa_cons (pe_tup (pa_cons (pe_callTy (kTuple (K := K) rfl) (by rfl) B.tuple (by decide +kernel) (pa_cons (pe_callB (kSorted (K := K) rfl) (by rfl) B.sorted (by decide +kernel) (pa_cons (pv 2) pa_nil)) pa_nil)) (pa_cons (pe_ix (kIxL (K := K) rfl) (pv 3) pe_int (fun _ _ => rfl)) (pa_cons (pe_ix (kIxL (K := K) rfl) (pv 3) pe_int (fun _ _ => rfl)) pa_nil)))) pa_nil))))))))), ?_⟩
  obtain ⟨lb, ls, bs, ss, rfl, hb, rfl, hs, sb, so, hd, lb12, ls12, l2, qq⟩ := h
  by_cases h0 : bs = [] ∨ ss = []
  · obtain ⟨a, b, c, r, e⟩ : ∃ a b c r, bs ++ ss = a :: b :: c :: r := by
      have hl : 3 ≤ (bs ++ ss).length := by rw [List.length_append]; omega
      match bs ++ ss, hl with
      | a :: b :: c :: r, _ => exact ⟨a, b, c, r, rfl⟩
    have hsrt : (bs ++ ss).Pairwise (· < ·) := by
      rcases h0 with rfl | rfl
      · simpa using so
      · simpa using sb
    have hok : OkPlain bs ss (.table [[a], [b, c], [b], [c]]) := by
      rw [e] at hsrt
      obtain ⟨s1, hsrt⟩ := List.pairwise_cons.mp hsrt
      obtain ⟨s2, hsrt⟩ := List.pairwise_cons.mp hsrt
      have hbc := s2 c (by simp)
      have hso : [b, c].Pairwise (· ≤ ·) := by
        simp
        omega
      have hm : ∀ x, x ∈ a :: b :: c :: r → x ∈ bs ++ ss := fun x hx => e ▸ hx
      rcases h0 with rfl | rfl
      · exact (wild_one (List.Perm.refl _) hso (by omega) (by simpa using hm a (by simp)) (by simpa using hm b (by simp)) (by simpa using hm c (by simp)) (fun x h1 h2 => by cases h2)).swap
      · exact wild_one (List.Perm.refl _) hso (by omega) (by simpa using hm a (by simp)) (by simpa using hm b (by simp)) (by simpa using hm c (by simp)) (fun x h1 h2 => by cases h2)
    have fin : ∀ {D : Ends} {σ : St} (H1 : Hp), Fr T [] H H1 → True := fun _ _ => trivial
    walk_at "st"
    refine q_lenL hb ?_
    rw [List.length_map]
    walk_at "st"
    refine q_eqI ⟨_, rfl, ite2 (fun e0 => ?_) (fun e0 => ?_)⟩
    · refine iteT ?_
      walk_at "st"
      refine q_catI (T := T) hb hs (by omega) fun p1 H1 n1 f1 h1 => ?_
      rw [e] at h1
      walk_at "st"
      refine ⟨_, rfl, ?_⟩
      refine q_slI (T := T) h1 (rs := [a]) ((cut1 _).trans rfl) fun p2 H2 n2 f2 h2 => ?_
      walk_at "st"
      refine q_tupI (T := T) h2 fun l2 H3 f3 t2 => ?_
      walk_at "st"
      refine ⟨_, rfl, ?_⟩
      walk_at "st"
      refine ⟨_, rfl, ?_⟩
      refine q_slI (T := T) ((f2.trans f3).lst0 h1) (rs := [b, c]) ((cut13 _).trans rfl) fun p3 H4 n3 f4 h3 => ?_
      walk_at "st"
      refine q_tupI (T := T) h3 fun l3 H5 f5 t3 => ?_
      walk_at "st"
      refine ⟨_, rfl, ?_⟩
      walk_at "st"
      refine ⟨_, rfl, ?_⟩
      refine q_slI (T := T) (((f2.trans f3).trans (f4.trans f5)).lst0 h1) (rs := [b]) ((cut12 _).trans rfl) fun p4 H6 n4 f6 h4 => ?_
      walk_at "st"
      refine q_tupI (T := T) h4 fun l4 H7 f7 t4 => ?_
      walk_at "st"
      refine ⟨_, rfl, ?_⟩
      walk_at "st"
      refine ⟨_, rfl, ?_⟩
      refine q_slI (T := T) ((((f2.trans f3).trans (f4.trans f5)).trans (f6.trans f7)).lst0 h1) (rs := [c]) ((cut23 _).trans rfl) fun p5 H8 n5 f8 h5 => ?_
      walk_at "st"
      refine q_tupI (T := T) h5 fun l5 H9 f9 t5 => ?_
      walk_at "st"
      refine ⟨Nat.le_of_lt (line_of (show (4 : Nat) ≤ 100000 by decide)), fun l6 hl6 => ?_⟩
      have f10 : Fr T [] H9 (upd H9 l6 (.tup [.ref l2, .ref l3, .ref l4, .ref l5])) := Fr.new hl6
      have g9 := (f8.trans f9).trans f10
      have g7 := (f6.trans f7).trans g9
      have g5 := (f4.trans f5).trans g7
      have t6 : Td K (upd H9 l6 (.tup [.ref l2, .ref l3, .ref l4, .ref l5])) (.ref l6) (.tuple ([[a], [b, c], [b], [c]].map tI)) := td_new upd_same (.cons (t2.mono g5) (.cons (t3.mono g7) (.cons (t4.mono g9) (.cons (t5.mono f10) .nil))))
      generalize upd H9 l6 (.tup [.ref l2, .ref l3, .ref l4, .ref l5]) = H10 at f10 g9 g7 g5 t6
      walk_at "st"
      refine ⟨Nat.le_of_lt (line_of (show (2 : Nat) ≤ 100000 by decide)), fun l7 hl7 => ?_⟩
      have f11 : Fr T [] H10 (upd H10 l7 (.tup [.str "table", .ref l6])) := Fr.new hl7
      exact qq _ _ _ hok ((f1.trans (f2.trans f3)).trans (g5.trans f11)) (td_new upd_same (.cons (.str _) (.cons (t6.mono f11) .nil)))
    walk_at "st"
    refine q_lenL hs ?_
    rw [List.length_map]
    walk_at "st"
    refine q_eqI ⟨_, rfl, ite2 (fun e1 => ?_) (fun e1 => ?_)⟩
    · walk_at "st"
      refine q_catI (T := T) hb hs (by omega) fun p1 H1 n1 f1 h1 => ?_
      rw [e] at h1
      walk_at "st"
      refine ⟨_, rfl, ?_⟩
      refine q_slI (T := T) h1 (rs := [a]) ((cut1 _).trans rfl) fun p2 H2 n2 f2 h2 => ?_
      walk_at "st"
      refine q_tupI (T := T) h2 fun l2 H3 f3 t2 => ?_
      walk_at "st"
      refine ⟨_, rfl, ?_⟩
      walk_at "st"
      refine ⟨_, rfl, ?_⟩
      refine q_slI (T := T) ((f2.trans f3).lst0 h1) (rs := [b, c]) ((cut13 _).trans rfl) fun p3 H4 n3 f4 h3 => ?_
      walk_at "st"
      refine q_tupI (T := T) h3 fun l3 H5 f5 t3 => ?_
      walk_at "st"
      refine ⟨_, rfl, ?_⟩
      walk_at "st"
      refine ⟨_, rfl, ?_⟩
      refine q_slI (T := T) (((f2.trans f3).trans (f4.trans f5)).lst0 h1) (rs := [b]) ((cut12 _).trans rfl) fun p4 H6 n4 f6 h4 => ?_
      walk_at "st"
      refine q_tupI (T := T) h4 fun l4 H7 f7 t4 => ?_
      walk_at "st"
      refine ⟨_, rfl, ?_⟩
      walk_at "st"
      refine ⟨_, rfl, ?_⟩
      refine q_slI (T := T) ((((f2.trans f3).trans (f4.trans f5)).trans (f6.trans f7)).lst0 h1) (rs := [c]) ((cut23 _).trans rfl) fun p5 H8 n5 f8 h5 => ?_
      walk_at "st"
      refine q_tupI (T := T) h5 fun l5 H9 f9 t5 => ?_
      walk_at "st"
      refine ⟨Nat.le_of_lt (line_of (show (4 : Nat) ≤ 100000 by decide)), fun l6 hl6 => ?_⟩
      have f10 : Fr T [] H9 (upd H9 l6 (.tup [.ref l2, .ref l3, .ref l4, .ref l5])) := Fr.new hl6
      have g9 := (f8.trans f9).trans f10
      have g7 := (f6.trans f7).trans g9
      have g5 := (f4.trans f5).trans g7
      have t6 : Td K (upd H9 l6 (.tup [.ref l2, .ref l3, .ref l4, .ref l5])) (.ref l6) (.tuple ([[a], [b, c], [b], [c]].map tI)) := td_new upd_same (.cons (t2.mono g5) (.cons (t3.mono g7) (.cons (t4.mono g9) (.cons (t5.mono f10) .nil))))
      generalize upd H9 l6 (.tup [.ref l2, .ref l3, .ref l4, .ref l5]) = H10 at f10 g9 g7 g5 t6
      walk_at "st"
      refine ⟨Nat.le_of_lt (line_of (show (2 : Nat) ≤ 100000 by decide)), fun l7 hl7 => ?_⟩
      have f11 : Fr T [] H10 (upd H10 l7 (.tup [.str "table", .ref l6])) := Fr.new hl7
      exact qq _ _ _ hok ((f1.trans (f2.trans f3)).trans (g5.trans f11)) (td_new upd_same (.cons (.str _) (.cons (t6.mono f11) .nil)))
    · exfalso
      have e0 := of_decide_eq_false (Bool.eq_false_iff.mpr e0)
      have e1 := of_decide_eq_false (Bool.eq_false_iff.mpr e1)
      rcases h0 with rfl | rfl
      · exact e0 rfl
      · exact e1 rfl
  · obtain ⟨x, bs, rfl⟩ : ∃ x l, bs = x :: l := List.exists_cons_of_ne_nil fun z => h0 (Or.inl z)
    obtain ⟨y, ss, rfl⟩ : ∃ x l, ss = x :: l := List.exists_cons_of_ne_nil fun z => h0 (Or.inr z)
    match ss with
    | z :: t =>
      have g0 : Fr T [] H H := Fr.refl _
      have hok : OkPlain (x :: bs) (y :: z :: t) (.table [sortI [x, y, z], sortI [x, y], sortI [x, z]]) := by
        obtain ⟨s1, _⟩ := List.pairwise_cons.mp so
        have hyz := s1 z (by simp)
        exact wild_mix (sortI_perm _) (sortI_perm _) (sortI_perm _) (sortI_sorted _) (sortI_sorted _) (sortI_sorted _) (by omega) (by simp) (by simp) (by simp) hd
      walk_at "st"
      refine q_lenL hb ?_
      rw [List.length_map]
      walk_at "st"
      refine q_eqI ⟨_, rfl, ite2 (fun e0 => absurd (of_decide_eq_true e0) (by simp; try omega)) (fun _ => ?_)⟩
      walk_at "st"
      refine q_lenL hs ?_
      rw [List.length_map]
      walk_at "st"
      refine q_eqI ⟨_, rfl, ite2 (fun e0 => absurd (of_decide_eq_true e0) (by simp; try omega)) (fun _ => ?_)⟩
      walk_at "st"
      walk_at "st"
      refine ⟨_, rfl, ?_⟩
      refine q_slI (T := T) (g0.lst0 hb) (rs := [x]) ((cut1 _).trans rfl) fun p1 K1 n1 f1 h1 => ?_
      have g1 := g0.trans f1
      walk_at "st"
      refine ⟨_, rfl, ?_⟩
      refine q_slI (T := T) (g1.lst0 hs) (rs := [y, z]) ((cut2 _).trans rfl) fun p2 K2 n2 f2 h2 => ?_
      have g2 := g1.trans f2
      walk_at "st"
      refine q_catI (T := T) (f2.lst0 h1) h2 (by simp) fun p3 K3 n3 f3 h3 => ?_
      have g3 := g2.trans f3
      walk_at "st"
      refine ⟨_, rfl, ?_⟩
      refine q_slI (T := T) (g3.lst0 hb) (rs := [x]) ((cut1 _).trans rfl) fun p4 K4 n4 f4 h4 => ?_
      have g4 := g3.trans f4
      walk_at "st"
      refine ⟨_, rfl, ?_⟩
      refine q_slI (T := T) (g4.lst0 hs) (rs := [y]) ((cut1 _).trans rfl) fun p5 K5 n5 f5 h5 => ?_
      have g5 := g4.trans f5
      walk_at "st"
      refine q_catI (T := T) (f5.lst0 h4) h5 (by simp) fun p6 K6 n6 f6 h6 => ?_
      have g6 := g5.trans f6
      walk_at "st"
      refine q_sortI (T := T) h6 fun p7 K7 n7 f7 h7 => ?_
      have g7 := g6.trans f7
      walk_at "st"
      refine q_tupI (T := T) h7 fun l8 K8 f8 t8 => ?_
      have g8 := g7.trans f8
      walk_at "st"
      refine ⟨_, rfl, ?_⟩
      refine q_slI (T := T) (g8.lst0 hb) (rs := [x]) ((cut1 _).trans rfl) fun p9 K9 n9 f9 h9 => ?_
      have g9 := g8.trans f9
      walk_at "st"
      refine ⟨_, rfl, ?_⟩
      walk_at "st"
      refine ⟨_, rfl, ?_⟩
      refine q_slI (T := T) (g9.lst0 hs) (rs := [z]) ((cut12 _).trans rfl) fun p10 K10 n10 f10 h10 => ?_
      have g10 := g9.trans f10
      walk_at "st"
      refine q_catI (T := T) (f10.lst0 h9) h10 (by simp) fun p11 K11 n11 f11 h11 => ?_
      have g11 := g10.trans f11
      walk_at "st"
      refine q_sortI (T := T) h11 fun p12 K12 n12 f12 h12 => ?_
      have g12 := g11.trans f12
      walk_at "st"
      refine q_tupI (T := T) h12 fun l13 K13 f13 t13 => ?_
      have g13 := g12.trans f13
      walk_at "st"
      refine ⟨Nat.le_of_lt (line_of (show (2 : Nat) ≤ 100000 by decide)), fun p14 n14 => ?_⟩
      have f14 : Fr T [] K13 (upd K13 p14 (.lst [.ref l8, .ref l13])) := Fr.new n14
      have h14 : (upd K13 p14 (.lst [.ref l8, .ref l13])) p14 = some (.lst [.ref l8, .ref l13]) := upd_same
      generalize upd K13 p14 (.lst [.ref l8, .ref l13]) = K14 at f14 h14
      have g14 := g13.trans f14
      walk_at "st"
      refine q_lenL (g14.lst0 hs) ?_
      rw [List.length_map]
      walk_at "st"
      refine q_I ⟨_, rfl, ite2 (fun e0 => absurd (of_decide_eq_true e0) (by simp; try omega)) (fun _ => ?_)⟩
      refine r_next ?_
      walk_at "st"
      refine q_sortI (T := T) (((((((((((f4.trans f5).trans f6).trans f7).trans f8).trans f9).trans f10).trans f11).trans f12).trans f13).trans f14).lst0 h3) fun p15 K15 n15 f15 h15 => ?_
      have g15 := g14.trans f15
      walk_at "st"
      refine q_tupI (T := T) h15 fun l16 K16 f16 t16 => ?_
      have g16 := g15.trans f16
      walk_at "st"
      refine q_ixL ((f15.trans f16).lst0 h14) (k := 0) rfl ?_
      walk_at "st"
      refine q_ixL ((f15.trans f16).lst0 h14) (k := 1) rfl ?_
      walk_at "st"
      refine ⟨Nat.le_of_lt (line_of (show (3 : Nat) ≤ 100000 by decide)), fun l17 n17 => ?_⟩
      have f17 : Fr T [] K16 (upd K16 l17 (.tup [.ref l16, .ref l8, .ref l13])) := Fr.new n17
      have t17 : Td K (upd K16 l17 (.tup [.ref l16, .ref l8, .ref l13])) (.ref l17) (.tuple ([sortI [x, y, z], sortI [x, y], sortI [x, z]].map tI)) := td_new upd_same (.cons (t16.mono f17) (.cons (((((((((t8.mono f9).mono f10).mono f11).mono f12).mono f13).mono f14).mono f15).mono f16).mono f17) (.cons ((((t13.mono f14).mono f15).mono f16).mono f17) .nil)))
      generalize upd K16 l17 (.tup [.ref l16, .ref l8, .ref l13]) = K17 at f17 t17
      have g17 := g16.trans f17
      walk_at "st"
      refine ⟨Nat.le_of_lt (line_of (show (2 : Nat) ≤ 100000 by decide)), fun l18 n18 => ?_⟩
      have f18 : Fr T [] K17 (upd K17 l18 (.tup [.str "table", .ref l17])) := Fr.new n18
      exact qq _ _ _ hok (g17.trans f18) (td_new upd_same (.cons (.str _) (.cons (t17.mono f18) .nil)))
    | [] =>
      match bs with
      | [] => simp at l2
      | z :: r =>
        have g0 : Fr T [] H H := Fr.refl _
        have hok : OkPlain (x :: z :: r) [y] (.table [sortI [x, z, y], sortI [x, y], sortI [z, y]]) := by
          obtain ⟨s1, _⟩ := List.pairwise_cons.mp sb
          have hxz := s1 z (by simp)
          have q0 : ([x, z, y] : List Int).Perm [y, x, z] := List.perm_append_comm (l₁ := [x, z]) (l₂ := [y])
          exact (wild_mix (bs := [y]) (ss := x :: z :: r) ((sortI_perm _).trans q0) ((sortI_perm _).trans (List.Perm.swap _ _ _)) ((sortI_perm _).trans (List.Perm.swap _ _ _)) (sortI_sorted _) (sortI_sorted _) (sortI_sorted _) (by omega) (by simp) (by simp) (by simp) (fun c h1 h2 => hd c h2 h1)).swap
        walk_at "st"
        refine q_lenL hb ?_
        rw [List.length_map]
        walk_at "st"
        refine q_eqI ⟨_, rfl, ite2 (fun e0 => absurd (of_decide_eq_true e0) (by simp; try omega)) (fun _ => ?_)⟩
        walk_at "st"
        refine q_lenL hs ?_
        rw [List.length_map]
        walk_at "st"
        refine q_eqI ⟨_, rfl, ite2 (fun e0 => absurd (of_decide_eq_true e0) (by simp; try omega)) (fun _ => ?_)⟩
        walk_at "st"
        walk_at "st"
        refine ⟨_, rfl, ?_⟩
        refine q_slI (T := T) (g0.lst0 hb) (rs := [x]) ((cut1 _).trans rfl) fun p1 K1 n1 f1 h1 => ?_
        have g1 := g0.trans f1
        walk_at "st"
        refine ⟨_, rfl, ?_⟩
        refine q_slI (T := T) (g1.lst0 hs) (rs := [y]) ((cut2 _).trans rfl) fun p2 K2 n2 f2 h2 => ?_
        have g2 := g1.trans f2
        walk_at "st"
        refine q_catI (T := T) (f2.lst0 h1) h2 (by simp) fun p3 K3 n3 f3 h3 => ?_
        have g3 := g2.trans f3
        walk_at "st"
        refine ⟨_, rfl, ?_⟩
        refine q_slI (T := T) (g3.lst0 hb) (rs := [x]) ((cut1 _).trans rfl) fun p4 K4 n4 f4 h4 => ?_
        have g4 := g3.trans f4
        walk_at "st"
        refine ⟨_, rfl, ?_⟩
        refine q_slI (T := T) (g4.lst0 hs) (rs := [y]) ((cut1 _).trans rfl) fun p5 K5 n5 f5 h5 => ?_
        have g5 := g4.trans f5
        walk_at "st"
        refine q_catI (T := T) (f5.lst0 h4) h5 (by simp) fun p6 K6 n6 f6 h6 => ?_
        have g6 := g5.trans f6
        walk_at "st"
        refine q_sortI (T := T) h6 fun p7 K7 n7 f7 h7 => ?_
        have g7 := g6.trans f7
        walk_at "st"
        refine q_tupI (T := T) h7 fun l8 K8 f8 t8 => ?_
        have g8 := g7.trans f8
        walk_at "st"
        refine ⟨_, rfl, ?_⟩
        refine q_slI (T := T) (g8.lst0 hb) (rs := [x]) ((cut1 _).trans rfl) fun p9 K9 n9 f9 h9 => ?_
        have g9 := g8.trans f9
        walk_at "st"
        refine ⟨_, rfl, ?_⟩
        walk_at "st"
        refine ⟨_, rfl, ?_⟩
        refine q_slI (T := T) (g9.lst0 hs) (rs := ([] : List Int)) ((cut12 _).trans rfl) fun p10 K10 n10 f10 h10 => ?_
        have g10 := g9.trans f10
        walk_at "st"
        refine q_catI (T := T) (f10.lst0 h9) h10 (by simp) fun p11 K11 n11 f11 h11 => ?_
        have g11 := g10.trans f11
        walk_at "st"
        refine q_sortI (T := T) h11 fun p12 K12 n12 f12 h12 => ?_
        have g12 := g11.trans f12
        walk_at "st"
        refine q_tupI (T := T) h12 fun l13 K13 f13 t13 => ?_
        have g13 := g12.trans f13
        walk_at "st"
        refine ⟨Nat.le_of_lt (line_of (show (2 : Nat) ≤ 100000 by decide)), fun p14 n14 => ?_⟩
        have f14 : Fr T [] K13 (upd K13 p14 (.lst [.ref l8, .ref l13])) := Fr.new n14
        have h14 : (upd K13 p14 (.lst [.ref l8, .ref l13])) p14 = some (.lst [.ref l8, .ref l13]) := upd_same
        generalize upd K13 p14 (.lst [.ref l8, .ref l13]) = K14 at f14 h14
        have g14 := g13.trans f14
        walk_at "st"
        refine q_lenL (g14.lst0 hs) ?_
        rw [List.length_map]
        walk_at "st"
        refine q_I ⟨_, rfl, ite2 (fun _ => ?_) (fun e0 => absurd (decide_eq_true (by simp)) e0)⟩
        walk_at "st"
        refine ⟨_, rfl, ?_⟩
        refine q_slI (T := T) (g14.lst0 hb) (rs := [x, z]) ((cut2 _).trans rfl) fun p15 K15 n15 f15 h15 => ?_
        have g15 := g14.trans f15
        walk_at "st"
        refine ⟨_, rfl, ?_⟩
        refine q_slI (T := T) (g15.lst0 hs) (rs := [y]) ((cut1 _).trans rfl) fun p16 K16 n16 f16 h16 => ?_
        have g16 := g15.trans f16
        walk_at "st"
        refine q_catI (T := T) (f16.lst0 h15) h16 (by simp) fun p17 K17 n17 f17 h17 => ?_
        have g17 := g16.trans f17
        walk_at "st"
        refine ⟨_, rfl, ?_⟩
        refine q_slI (T := T) (g17.lst0 hb) (rs := [x]) ((cut1 _).trans rfl) fun p18 K18 n18 f18 h18 => ?_
        have g18 := g17.trans f18
        walk_at "st"
        refine ⟨_, rfl, ?_⟩
        refine q_slI (T := T) (g18.lst0 hs) (rs := [y]) ((cut1 _).trans rfl) fun p19 K19 n19 f19 h19 => ?_
        have g19 := g18.trans f19
        walk_at "st"
        refine q_catI (T := T) (f19.lst0 h18) h19 (by simp) fun p20 K20 n20 f20 h20 => ?_
        have g20 := g19.trans f20
        walk_at "st"
        refine q_sortI (T := T) h20 fun p21 K21 n21 f21 h21 => ?_
        have g21 := g20.trans f21
        walk_at "st"
        refine q_tupI (T := T) h21 fun l22 K22 f22 t22 => ?_
        have g22 := g21.trans f22
        walk_at "st"
        refine ⟨_, rfl, ?_⟩
        walk_at "st"
        refine ⟨_, rfl, ?_⟩
        refine q_slI (T := T) (g22.lst0 hb) (rs := [z]) ((cut12 _).trans rfl) fun p23 K23 n23 f23 h23 => ?_
        have g23 := g22.trans f23
        walk_at "st"
        refine ⟨_, rfl, ?_⟩
        refine q_slI (T := T) (g23.lst0 hs) (rs := [y]) ((cut1 _).trans rfl) fun p24 K24 n24 f24 h24 => ?_
        have g24 := g23.trans f24
        walk_at "st"
        refine q_catI (T := T) (f24.lst0 h23) h24 (by simp) fun p25 K25 n25 f25 h25 => ?_
        have g25 := g24.trans f25
        walk_at "st"
        refine q_sortI (T := T) h25 fun p26 K26 n26 f26 h26 => ?_
        have g26 := g25.trans f26
        walk_at "st"
        refine q_tupI (T := T) h26 fun l27 K27 f27 t27 => ?_
        have g27 := g26.trans f27
        walk_at "st"
        refine ⟨Nat.le_of_lt (line_of (show (2 : Nat) ≤ 100000 by decide)), fun p28 n28 => ?_⟩
        have f28 : Fr T [] K27 (upd K27 p28 (.lst [.ref l22, .ref l27])) := Fr.new n28
        have h28 : (upd K27 p28 (.lst [.ref l22, .ref l27])) p28 = some (.lst [.ref l22, .ref l27]) := upd_same
        generalize upd K27 p28 (.lst [.ref l22, .ref l27]) = K28 at f28 h28
        have g28 := g27.trans f28
        walk_at "st"
        walk_at "st"
        refine q_sortI (T := T) (((((((((((f18.trans f19).trans f20).trans f21).trans f22).trans f23).trans f24).trans f25).trans f26).trans f27).trans f28).lst0 h17) fun p29 K29 n29 f29 h29 => ?_
        have g29 := g28.trans f29
        walk_at "st"
        refine q_tupI (T := T) h29 fun l30 K30 f30 t30 => ?_
        have g30 := g29.trans f30
        walk_at "st"
        refine q_ixL ((f29.trans f30).lst0 h28) (k := 0) rfl ?_
        walk_at "st"
        refine q_ixL ((f29.trans f30).lst0 h28) (k := 1) rfl ?_
        walk_at "st"
        refine ⟨Nat.le_of_lt (line_of (show (3 : Nat) ≤ 100000 by decide)), fun l31 n31 => ?_⟩
        have f31 : Fr T [] K30 (upd K30 l31 (.tup [.ref l30, .ref l22, .ref l27])) := Fr.new n31
        have t31 : Td K (upd K30 l31 (.tup [.ref l30, .ref l22, .ref l27])) (.ref l31) (.tuple ([sortI [x, z, y], sortI [x, y], sortI [z, y]].map tI)) := td_new upd_same (.cons (t30.mono f31) (.cons (((((((((t22.mono f23).mono f24).mono f25).mono f26).mono f27).mono f28).mono f29).mono f30).mono f31) (.cons ((((t27.mono f28).mono f29).mono f30).mono f31) .nil)))
        generalize upd K30 l31 (.tup [.ref l30, .ref l22, .ref l27]) = K31 at f31 t31
        have g31 := g30.trans f31
        walk_at "st"
        refine ⟨Nat.le_of_lt (line_of (show (2 : Nat) ≤ 100000 by decide)), fun l32 n32 => ?_⟩
        have f32 : Fr T [] K31 (upd K31 l32 (.tup [.str "table", .ref l31])) := Fr.new n32
        exact qq _ _ _ hok (g31.trans f32) (td_new upd_same (.cons (.str _) (.cons (t31.mono f32) .nil)))
end
end Nc
set_option maxHeartbeats 4000000
/-! GK: the unsteady web. -/
namespace Nc
open PySem PySem.Spec L2
theorem ord5 {l : List Int} (h : l.Perm [0, 1, 2, 3, 4]) : ∃ a b c d e, l = [a, b, c, d, e] ∧ l.Nodup ∧ (∀ x ∈ l, 0 ≤ x ∧ x < 5) ∧ ∀ x : Int, 0 ≤ x → x < 5 → ∃ t : Nat, t < 5 ∧ l[t]? = some x := by
  have hl : l.length = 5 := h.length_eq
  have hm : ∀ x, x ∈ l ↔ (x = 0 ∨ x = 1 ∨ x = 2 ∨ x = 3 ∨ x = 4) := fun x => by rw [h.mem_iff]; simp
  have nd : l.Nodup := h.nodup_iff.mpr (by decide)
  obtain ⟨a, b, c, d, e, rfl⟩ : ∃ a b c d e, l = [a, b, c, d, e] := by
    match l, hl with
    | [a, b, c, d, e], _ => exact ⟨a, b, c, d, e, rfl⟩
  refine ⟨a, b, c, d, e, rfl, nd, fun x hx => ?_, fun x h0 h1 => ?_⟩
  · rcases (hm x).mp hx with rfl | rfl | rfl | rfl | rfl <;> omega
  · have hx : x ∈ [a, b, c, d, e] := (hm x).mpr (by omega)
    obtain ⟨t, ht⟩ := List.mem_iff_getElem?.mp hx
    have := (List.getElem?_eq_some_iff.mp ht).1
    exact ⟨t, by simpa using this, ht⟩
def chsU (nb : List Int) : List Choice := match nb with
  | [n0, n1, n2, n3, n4] => [.plain (.table [[n0], sortI [n1, n2], [n1], [n2]]), .plain (.sides 1 [n4, n3] 0 []), .plain (.sides 0 [] 1 [n3, n0]), .plain (.sides 0 [] 1 [n1, n4]), .plain (.sides 0 [] 1 [n2])]
  | _ => []
def prsU : List (Int × Int) := [(2, 0), (3, 0), (4, 0), (2, 1), (3, 1)]
theorem prsU_in : ∀ p ∈ prsU, (0 ≤ p.1 ∧ p.1 < 5) ∧ 0 ≤ p.2 ∧ p.2 < 5 := by decide
structure UnsC (pl nb : List Int) (cs : List Ctr) (i : Nat) : Prop where
  len : cs.length = i
  at_ : ∀ j : Nat, j < i → ∃ (t : Nat) (pr : Int × Int) (x y z : Int), nb[t]? = some (j : Int) ∧ prsU[t]? = some pr ∧ pl[pr.1.toNat]? = some x ∧ pl[pr.2.toNat]? = some y ∧ cs[j]? = some (x, y, z)
structure UnsH (pl nb : List Int) (hs : List (Str × Choice)) (i : Nat) : Prop where
  len : hs.length = i
  at_ : ∀ j : Nat, j < i → ∃ (t : Nat) (nm : Str) (ch : Choice), pl[t]? = some (j : Int) ∧ (chsU nb)[t]? = some ch ∧ hs[j]? = some (nm, ch)
theorem UnsC.snoc {pl nb : List Int} {cs : List Ctr} {i : Nat} (h : UnsC pl nb cs i) {t : Nat} {pr : Int × Int} {x y z : Int} (h1 : nb[t]? = some (i : Int)) (h2 : prsU[t]? = some pr) (h3 : pl[pr.1.toNat]? = some x) (h4 : pl[pr.2.toNat]? = some y) : UnsC pl nb (cs ++ [(x, y, z)]) (i + 1) := by
  refine ⟨by simp [h.len], fun j hj => ?_⟩
  by_cases e : j < i
  · obtain ⟨t, pr, x, y, z, a, b, c, d, f⟩ := h.at_ j e
    exact ⟨t, pr, x, y, z, a, b, c, d, by rw [List.getElem?_append_left (by rw [h.len]; exact e)]; exact f⟩
  · have : j = i := by omega
    subst this
    exact ⟨t, pr, x, y, z, h1, h2, h3, h4, by rw [List.getElem?_append_right (by rw [h.len]; exact Nat.le_refl _), h.len, Nat.sub_self]; rfl⟩
theorem UnsH.snoc {pl nb : List Int} {hs : List (Str × Choice)} {i : Nat} (h : UnsH pl nb hs i) {t : Nat} {nm : Str} {ch : Choice} (h1 : pl[t]? = some (i : Int)) (h2 : (chsU nb)[t]? = some ch) : UnsH pl nb (hs ++ [(nm, ch)]) (i + 1) := by
  refine ⟨by simp [h.len], fun j hj => ?_⟩
  by_cases e : j < i
  · obtain ⟨t, nm, ch, a, b, f⟩ := h.at_ j e
    exact ⟨t, nm, ch, a, b, by rw [List.getElem?_append_left (by rw [h.len]; exact e)]; exact f⟩
  · have : j = i := by omega
    subst this
    exact ⟨t, nm, ch, h1, h2, by rw [List.getElem?_append_right (by rw [h.len]; exact Nat.le_refl _), h.len, Nat.sub_self]; rfl⟩
theorem uns_drawn {pl nb : List Int} {cs : List Ctr} {hs : List (Str × Choice)} (hp : pl.Perm [0, 1, 2, 3, 4]) (hn : nb.Perm [0, 1, 2, 3, 4]) (hc : UnsC pl nb cs 5) (hh : UnsH pl nb hs 5) : Drawn ⟨hs, cs⟩ := by
  obtain ⟨p0, p1, p2, p3, p4, rfl, ndp, inp, _⟩ := ord5 hp
  obtain ⟨n0, n1, n2, n3, n4, rfl, ndn, inn, _⟩ := ord5 hn
  have C : ∀ (t : Nat) (j : Int) (pr : Int × Int) (x y : Int), [n0, n1, n2, n3, n4][t]? = some j → prsU[t]? = some pr → [p0, p1, p2, p3, p4][pr.1.toNat]? = some x → [p0, p1, p2, p3, p4][pr.2.toNat]? = some y → 0 ≤ j ∧ ∃ z, cs[j.toNat]? = some (x, y, z) := by
    intro t j pr x y h1 h2 h3 h4
    have hj := inn j (List.mem_of_getElem? h1)
    obtain ⟨t', pr', x', y', z, a, b, c, d, f⟩ := hc.at_ j.toNat (by omega)
    rw [Int.toNat_of_nonneg hj.1] at a
    have := ord_uniq ndn h1 a
    subst this
    rw [h2] at b
    cases b
    rw [h3] at c
    cases c
    rw [h4] at d
    cases d
    exact ⟨hj.1, z, f⟩
  obtain ⟨z0, y0, c0⟩ := C 0 n0 (2, 0) p2 p0 rfl rfl rfl rfl
  obtain ⟨z1, y1, c1⟩ := C 1 n1 (3, 0) p3 p0 rfl rfl rfl rfl
  obtain ⟨z2, y2, c2⟩ := C 2 n2 (4, 0) p4 p0 rfl rfl rfl rfl
  obtain ⟨z3, y3, c3⟩ := C 3 n3 (2, 1) p2 p1 rfl rfl rfl rfl
  obtain ⟨z4, y4, c4⟩ := C 4 n4 (3, 1) p3 p1 rfl rfl rfl rfl
  have P : ((p0 ≠ p1 ∧ p0 ≠ p2 ∧ p0 ≠ p3 ∧ p0 ≠ p4) ∧ (p1 ≠ p2 ∧ p1 ≠ p3 ∧ p1 ≠ p4) ∧ (p2 ≠ p3 ∧ p2 ≠ p4) ∧ p3 ≠ p4) := by
    simpa [List.nodup_cons, not_or] using ndp
  have Nn : ((n0 ≠ n1 ∧ n0 ≠ n2 ∧ n0 ≠ n3 ∧ n0 ≠ n4) ∧ (n1 ≠ n2 ∧ n1 ≠ n3 ∧ n1 ≠ n4) ∧ (n2 ≠ n3 ∧ n2 ≠ n4) ∧ n3 ≠ n4) := by
    simpa [List.nodup_cons, not_or] using ndn
  have rows : ∀ c ∈ cs, (c.1 = p2 ∨ c.1 = p3 ∨ c.1 = p4) ∧ (c.2.1 = p0 ∨ c.2.1 = p1) := by
    intro c hcm
    obtain ⟨j, hj⟩ := List.mem_iff_getElem?.mp hcm
    have hj5 : j < 5 := by
      have := (List.getElem?_eq_some_iff.mp hj).1
      rw [hc.len] at this
      exact this
    obtain ⟨t, pr, x, y, z, _, b, c', d, f⟩ := hc.at_ j hj5
    rw [hj] at f
    cases f
    have ht : t < 5 := (List.getElem?_eq_some_iff.mp b).1
    have : t = 0 ∨ t = 1 ∨ t = 2 ∨ t = 3 ∨ t = 4 := by omega
    rcases this with rfl | rfl | rfl | rfl | rfl <;>
      (simp [prsU] at b; subst b; simp at c' d; subst c'; subst d; simp)
  have rk : ∀ c ∈ cs, (if c.1 = p0 ∨ c.1 = p1 then 1 else 0) < (if c.2.1 = p0 ∨ c.2.1 = p1 then 1 else 0) := fun c hcm => by
    obtain ⟨h1, h2⟩ := rows c hcm
    have e1 : ¬ (c.1 = p0 ∨ c.1 = p1) := by
      rintro (z | z) <;> rcases h1 with h | h | h <;> rw [h] at z
      · exact P.1.2.1 z.symm
      · exact P.1.2.2.1 z.symm
      · exact P.1.2.2.2 z.symm
      · exact P.2.1.1 z.symm
      · exact P.2.1.2.1 z.symm
      · exact P.2.1.2.2 z.symm
    rw [if_neg e1, if_pos h2]
    decide
  have hhl : hs.length = 5 := hh.len
  refine ⟨by show cs.length ≤ 6; rw [hc.len]; decide, by show hs.length ≤ 100; omega, ⟨fun x => if x = p0 ∨ x = p1 then 1 else 0, rk⟩, fun c hcm => ?_, fun k x hx => ?_⟩
  · obtain ⟨h1, h2⟩ := rows c hcm
    show (0 ≤ c.1 ∧ c.1 < (hs.length : Int)) ∧ 0 ≤ c.2.1 ∧ c.2.1 < (hs.length : Int)
    rw [hhl]
    refine ⟨inp c.1 ?_, inp c.2.1 ?_⟩
    · rcases h1 with h | h | h <;> simp [h]
    · rcases h2 with h | h <;> simp [h]
  · have hk5 : k < 5 := by
      have := (List.getElem?_eq_some_iff.mp hx).1
      exact hhl ▸ this
    obtain ⟨t, nm, ch, a, b, f⟩ := hh.at_ k hk5
    have hx : hs[k]? = some x := hx
    rw [hx] at f
    cases f
    show HouseOk cs k ch
    have hd : ∀ c ∈ numsOf cs (fun c => decide (c.2.1 = (k : Int))), c ∉ numsOf cs fun c => decide (c.1 = (k : Int)) := fun c h1 h2 => by
      obtain ⟨_, d, hd, e1⟩ := nums_mem.mp h1
      obtain ⟨_, d', hd', e2⟩ := nums_mem.mp h2
      rw [hd] at hd'
      cases hd'
      have := rk d (List.mem_of_getElem? hd)
      rw [of_decide_eq_true e1, of_decide_eq_true e2] at this
      exact Nat.lt_irrefl _ this
    have bu : ∀ {j x y z : Int}, 0 ≤ j → cs[j.toNat]? = some (x, y, z) → y = k → j ∈ numsOf cs fun c => decide (c.2.1 = (k : Int)) := fun h0 h1 h2 => nums_mem.mpr ⟨h0, _, h1, decide_eq_true h2⟩
    have se : ∀ {j x y z : Int}, 0 ≤ j → cs[j.toNat]? = some (x, y, z) → x = k → j ∈ numsOf cs fun c => decide (c.1 = (k : Int)) := fun h0 h1 h2 => nums_mem.mpr ⟨h0, _, h1, decide_eq_true h2⟩
    have ht : t < 5 := (List.getElem?_eq_some_iff.mp a).1
    have ht5 : t = 0 ∨ t = 1 ∨ t = 2 ∨ t = 3 ∨ t = 4 := by omega
    have hmem2 : ∀ {S : List Int} {u v : Int}, u ∈ S → v ∈ S → ∀ c ∈ [u, v], c ∈ S := fun h1 h2 c hc => by
      rcases List.mem_cons.mp hc with rfl | hc
      · exact h1
      · rw [List.mem_singleton.mp hc]; exact h2
    have nil : ∀ {S : List Int}, ∀ c ∈ ([] : List Int), c ∈ S := fun c hc => absurd hc List.not_mem_nil
    have mems : ∀ {br sr : Int} {w0 w1 : List Int}, 0 ≤ br → 0 ≤ sr → w0.Nodup → w1.Nodup → (∀ c ∈ w0, c ∈ numsOf cs fun c => decide (c.2.1 = (k : Int))) → (∀ c ∈ w1, c ∈ numsOf cs fun c => decide (c.1 = (k : Int))) → w0.length ≤ 100 → w1.length ≤ 100 → HouseOk cs k (.plain (.sides br w0 sr w1)) := fun h1 h2 h3 h4 h5 h6 h7 h8 =>
      (ok_ms (Or.inr ⟨_, _, rfl, h1, h2⟩) h3 h4 h5 h6 hd h7 h8).choice
    rcases ht5 with rfl | rfl | rfl | rfl | rfl
    · have b := Option.some.inj b
      rw [← b]
      exact (wild_one (R := sortI [n1, n2]) (sortI_perm _) (sortI_sorted _) Nn.2.1.1 (bu z0 c0 (Option.some.inj a)) (bu z1 c1 (Option.some.inj a)) (bu z2 c2 (Option.some.inj a)) hd).choice
    · have b := Option.some.inj b
      rw [← b]
      exact mems (by decide) (by decide) (by simpa using Ne.symm Nn.2.2.2) List.nodup_nil (hmem2 (bu z4 c4 (Option.some.inj a)) (bu z3 c3 (Option.some.inj a))) nil (by simp) (by simp)
    · have b := Option.some.inj b
      rw [← b]
      exact mems (by decide) (by decide) List.nodup_nil (by simpa using Ne.symm Nn.1.2.2.1) nil (hmem2 (se z3 c3 (Option.some.inj a)) (se z0 c0 (Option.some.inj a))) (by simp) (by simp)
    · have b := Option.some.inj b
      rw [← b]
      exact mems (by decide) (by decide) List.nodup_nil (by simpa using Nn.2.1.2.2) nil (hmem2 (se z1 c1 (Option.some.inj a)) (se z4 c4 (Option.some.inj a))) (by simp) (by simp)
    · have b := Option.some.inj b
      rw [← b]
      exact mems (by decide) (by decide) List.nodup_nil (by simp) nil (fun c hc => by rw [List.mem_singleton.mp hc]; exact se z2 c2 (Option.some.inj a)) (by simp) (by simp)
section
variable {K : PySem.W.Frag} {T : List (Addr × Str)} {H : Hp} {D : Addr} {Q : VK}
/-- a written tuple, a written list: what is asked once the parts have come -/
def TupQ (xs : List V) (H : Hp) (Q : VK) : Prop := xs.length ≤ sizeLine ∧ ∀ p, H p = none → Q (.ref p) (upd H p (.tup xs))
def LstQ (xs : List V) (H : Hp) (Q : VK) : Prop := xs.length ≤ sizeLine ∧ ∀ p, H p = none → Q (.ref p) (upd H p (.lst xs))
theorem r_tupQ {t : TA} {σ : St} (h : t σ H fun xs H1 => TupQ xs H1 Q) : tTup t σ H Q := h
theorem r_lstQ {t : TA} {σ : St} (h : t σ H fun xs H1 => LstQ xs H1 Q) : tLst t σ H Q := h
theorem qt {xs : List V} {ds : List PyData} (hd : TdAll K H xs ds) (q : ∀ l H', Fr T [] H H' → Td K H' (.ref l) (.tuple ds) → Q (.ref l) H') (hz : ds.length ≤ 100000 := by simp) : TupQ xs H Q := q_tup hd hz q
theorem ql {xs : List V} {ds : List PyData} (hd : TdAll K H xs ds) (q : ∀ l H', H l = none → Fr T [] H H' → H' l = some (.lst xs) → TdAll K H' xs ds → Q (.ref l) H') (hz : ds.length ≤ 100000 := by simp) : LstQ xs H Q :=
  ⟨by rw [hd.length]; exact Nat.le_of_lt (line_of hz), fun p hp => q p _ hp (Fr.new hp) upd_same (hd.mono (Fr.new (T := T) hp))⟩
theorem q_index {ns : List Int} {a : Addr} {c : Int} {t : Nat} (h : H a = some (.lst (ns.map V.int))) (nd : ns.Nodup) (hc : ns[t]? = some c) (q : Q (.int (t : Int)) H) : rIndex K (.ref a) [.int c] H Q := by
  have ev : ∀ x y : Int, eqV (.int x) (.int y) = decide (x = y) := fun x y => by
    show (x == y) = decide (x = y)
    by_cases h : x = y
    · subst h; simp
    · simp [h]
  refine ⟨a, ns.map V.int, .int c, t, .int c, rfl, rfl, SqL.of h, rfl, flat_ints ns, by rw [List.getElem?_map, hc]; rfl, by rw [ev]; exact decide_eq_true rfl, fun m z' hm hz' => ?_, q⟩
  rw [List.getElem?_map] at hz'
  cases e : ns[m]? with
  | none => rw [e] at hz'; cases hz'
  | some y =>
    rw [e] at hz'
    cases hz'
    rw [ev]
    refine decide_eq_false fun z => ?_
    rw [z] at e
    have := ord_uniq nd e hc
    omega
end
theorem Fr.mutF {T : List (Addr × Str)} {M : List Addr} {H H1 H2 : Hp} {c : Addr} (f : Fr T M H H1) (hn : Fresh H c) (g : Fr T [c] H1 H2) : Fr T M H H2 := by
  refine ⟨fun a u m e n => g.keep a u (by simpa using hn.ne e n) (f.keep a u m e n) n, fun t => g.tabs (f.tabs t), f.m0, fun q hq => ?_⟩
  obtain ⟨l0, e0⟩ := f.m0 q hq
  obtain ⟨l, e⟩ := f.m1 q hq
  exact ⟨l, g.lst e (by simpa using hn.lst e0)⟩
theorem qapp {K : PySem.W.Frag} {T : List (Addr × Str)} {H : Hp} {c : Addr} {Q : VK} {xs : List V} {ds : List PyData} {y : V} {d : PyData} (h : H c = some (.lst xs)) (tx : TdAll K H xs ds) (ty : Td K H y d) (hz : xs.length ≤ 1000) (q : ∀ H', Fr T [c] H H' → H' c = some (.lst (xs ++ [y])) → TdAll K H' (xs ++ [y]) (ds ++ [d]) → Q .non H') : rAppend (.ref c) [y] H Q := by
  have f : Fr T [c] H (upd H c (.lst (xs ++ [y]))) := Fr.set (fun p hp => by simp at hp; subst hp; exact ⟨_, h⟩) (by simp)
  exact q_app h (line_of (by omega)) (q _ f upd_same ((tx.mono f).snoc (ty.mono f)))
/-- what is kept while the web is made -/
structure US (T : List (Addr × Str)) (p la lb : Addr) (pl nb : List Int) (H0 H : Hp) : Prop where
  fr : Fr T [p] H0 H
  d : Dr H p
  a : H la = some (.lst (pl.map V.int))
  b : H lb = some (.lst (nb.map V.int))
  na : la ≠ p
  nb : lb ≠ p
section
variable {T : List (Addr × Str)} {p la lb : Addr} {pl nb : List Int} {H0 H H1 : Hp}
theorem US.go (u : US T p la lb pl nb H0 H) (f : Fr T [] H H1) : US T p la lb pl nb H0 H1 := ⟨u.fr.trans (f.wide u.d.m), u.d.keep f, f.lst0 u.a, f.lst0 u.b, u.na, u.nb⟩
theorem US.draw (u : US T p la lb pl nb H0 H) (f : Fr T [p] H H1) (d : Dr H1 p) : US T p la lb pl nb H0 H1 := ⟨u.fr.trans f, d, f.lst u.a (by simpa using u.na), f.lst u.b (by simpa using u.nb), u.na, u.nb⟩
theorem US.mut (u : US T p la lb pl nb H0 H) {c : Addr} (hf : Fresh H0 c) (g : Fr T [c] H H1) (hp : c ≠ p) (ha : c ≠ la) (hb : c ≠ lb) : US T p la lb pl nb H0 H1 := by
  refine ⟨u.fr.mutF hf g, ?_, g.lst u.a (by simpa using ha.symm), g.lst u.b (by simpa using hb.symm), u.na, u.nb⟩
  obtain ⟨ds, e⟩ := u.d
  exact ⟨ds, g.lst e (by simpa using hp.symm)⟩
end
local macro_rules | `(tactic| walk_at "st") => `(tactic| (repeat (first
  | ((with_reducible refine' r_var ?e ?_); (case e => exact rfl))
  | (with_reducible refine' r_op ?_)
  | (with_reducible refine' r_c ?_)
  | (with_reducible refine' r_cons ?_)
  | (with_reducible refine' r_nil ?_)
  | (with_reducible refine' r_cb ?_)
  | (with_reducible refine' r_call ?_)
  | (with_reducible refine' r_test ?_)
  | (with_reducible refine' r_lc ?_)
  | (with_reducible refine' r_lc2 ?_)
  | (with_reducible refine' r_sk ?_)
  | (with_reducible refine' r_iZ ?_)
  | (with_reducible refine' r_sl3 ?_)
  | (with_reducible refine' r_bmZ ?_)
  | (with_reducible refine' r_dg ?_)
  | (with_reducible refine' r_dpS ?_)
  | (with_reducible refine' r_dp1 ?_)
  | (with_reducible refine' r_dn ?_)
  | (with_reducible refine' r_iT ?_)
  | (with_reducible refine' r_iL ?_)
  | (with_reducible refine' r_iE ?_)
  | (with_reducible refine' r_iR ?_)
  | (with_reducible refine' r_ret ?_)
  | (with_reducible refine' r_asgS ?_)
  | (with_reducible refine' r_asg1 ?_)
  | (with_reducible refine' r_asgTS ?_)
  | (with_reducible refine' r_ifS ?_)
  | (with_reducible refine' r_if1 ?_)
  | (with_reducible refine' r_forS ?_)
  | (with_reducible refine' r_for1 ?_)
  | (with_reducible refine' r_dropS ?_)
  | (with_reducible refine' r_drop1 ?_)
  | (with_reducible refine' r_tup ?_)
  | (with_reducible refine' r_lst ?_)
  | (with_reducible refine' r_sl ?_)
  | (with_reducible refine' r_noP ?_)
  | (with_reducible refine' r_part ?_)
  | (with_reducible refine' r_bm ?_)
  | (with_reducible refine' r_bm0 ?_)
  | (with_reducible refine' r_un ?_)
  | (with_reducible refine' r_notV ?_)
  | (with_reducible refine' r_B ?_)
  | (with_reducible refine' r_and ?_)
  | (with_reducible refine' r_or ?_)
  | (with_reducible refine' r_not ?_)
  | (with_reducible refine' r_yes ?_)
  | (with_reducible refine' r_next ?_)
  | (with_reducible refine' r_break ?_)
  | (with_reducible refine' r_gn ?_)
  | (with_reducible refine' r_tupRg ?_)
  | (with_reducible refine' r_rg1 ?_)
  )))
local macro_rules | `(tactic| walk_at "no") => `(tactic| (refine q_eqS ⟨_, rfl, ite2 (fun e => absurd (of_decide_eq_true e) (by decide +kernel)) (fun _ => ?_)⟩; walk_at "st"; try dsimp only))
local macro_rules | `(tactic| walk_at "yes") => `(tactic| (refine q_eqS ⟨_, rfl, ite2 (fun _ => ?_) (fun e => absurd (decide_eq_true rfl) e)⟩; walk_at "st"))
local macro_rules | `(tactic| walk_at "sq") => `(tactic| (repeat (first
  | ((with_reducible refine' r_var ?e ?_); (case e => exact rfl))
  | (with_reducible refine' r_op ?_)
  | (with_reducible refine' r_c ?_)
  | (with_reducible refine' r_cons ?_)
  | (with_reducible refine' r_nil ?_)
  | (with_reducible refine' r_cb ?_)
  | (with_reducible refine' r_call ?_)
  | (with_reducible refine' r_test ?_)
  | (with_reducible refine' r_lc ?_)
  | (with_reducible refine' r_lc2 ?_)
  | (with_reducible refine' r_sk ?_)
  | (with_reducible refine' r_iZ ?_)
  | (with_reducible refine' r_sl3 ?_)
  | (with_reducible refine' r_bmZ ?_)
  | (with_reducible refine' r_dg ?_)
  | (with_reducible refine' r_dpS ?_)
  | (with_reducible refine' r_dp1 ?_)
  | (with_reducible refine' r_dn ?_)
  | (with_reducible refine' r_iT ?_)
  | (with_reducible refine' r_iL ?_)
  | (with_reducible refine' r_iE ?_)
  | (with_reducible refine' r_iR ?_)
  | (with_reducible refine' r_ret ?_)
  | (with_reducible refine' r_asgS ?_)
  | (with_reducible refine' r_asg1 ?_)
  | (with_reducible refine' r_asgTS ?_)
  | (with_reducible refine' r_ifS ?_)
  | (with_reducible refine' r_if1 ?_)
  | (with_reducible refine' r_forS ?_)
  | (with_reducible refine' r_for1 ?_)
  | (with_reducible refine' r_dropS ?_)
  | (with_reducible refine' r_drop1 ?_)
  | (with_reducible refine' r_tupQ ?_)
  | (with_reducible refine' r_lstQ ?_)
  | (with_reducible refine' r_sl ?_)
  | (with_reducible refine' r_noP ?_)
  | (with_reducible refine' r_part ?_)
  | (with_reducible refine' r_bm ?_)
  | (with_reducible refine' r_bm0 ?_)
  | (with_reducible refine' r_un ?_)
  | (with_reducible refine' r_notV ?_)
  | (with_reducible refine' r_B ?_)
  | (with_reducible refine' r_and ?_)
  | (with_reducible refine' r_or ?_)
  | (with_reducible refine' r_not ?_)
  | (with_reducible refine' r_yes ?_)
  | (with_reducible refine' r_next ?_)
  | (with_reducible refine' r_break ?_)
  | (with_reducible refine' r_gn ?_)
  | (with_reducible refine' r_tupRg ?_)
  | (with_reducible refine' r_rg1 ?_)
  )))
section
variable {P : Program} {w : World} {K : PySem.W.Frag} {mg : Str → Option Value} {base : Heap}
variable {T : List (Addr × Str)}
def sp_law_unsteady_web (K : PySem.W.Frag) (T : List (Addr × Str)) : Sp := Sp1 fun a H Q => ∃ p : Addr, a = .ref p ∧ Dr H p ∧ ∀ v H' wb, Drawn wb → Fr T [p] H H' → Dr H' p → Td K H' v (eW wb) → Q v H'
/-! ### _law_unsteady_web -/
abbrev s_law_unsteady_web : Stmt := topS 41
abbrev N_law_unsteady_web : List Str := ["_law_draws_here", "_law_place", "_law_number", "_law_two", "_law_choices", "_law_pairs_here", "_law_contracts", "_law_houses", "_law_k", "_law_pair"]
theorem sc_law_unsteady_web : FnScope N_law_unsteady_web ["_law_draws_here"] (defScope s_law_unsteady_web) := ⟨rfl, rfl, rfl, by decide +kernel, rfl, by decide +kernel, by decide +kernel⟩
theorem d_law_unsteady_web (B : B0 mg) (A0 : At K mg "_law_unsteady_web" s_law_unsteady_web) (D_law_mixed : Dn P w K mg base "_law_mixed" ["_law_draws_here", "_law_contracts", "_law_share"] 2 (sp_law_mixed K T)) (D_law_take : Dn P w K mg base "_law_take" ["_law_draws_here", "_law_many"] 1 (sp_law_take K T)) (D_law_word : Dn P w K mg base "_law_word" ["_law_number"] 1 (sp_law_word K T)) : Dn P w K mg base "_law_unsteady_web" ["_law_draws_here"] 3 (sp_law_unsteady_web K T) := by
  obtain ⟨f_law_mixed, fd_law_mixed, G_law_mixed, g_law_mixed, k_law_mixed, b_law_mixed⟩ := D_law_mixed
  obtain ⟨f_law_take, fd_law_take, G_law_take, g_law_take, k_law_take, b_law_take⟩ := D_law_take
  obtain ⟨f_law_word, fd_law_word, G_law_word, g_law_word, k_law_word, b_law_word⟩ := D_law_word
  refine dn1 A0 sc_law_unsteady_web (fun _ _ F => F.bindsN fun _ _ _ _ _ _ us hl => match us, hl with | [_], _ => rfl) fun f cdv A outer s H a0 Q E hr h => ?_
  have nd := sc_law_unsteady_web.nd
  refine ⟨_, (pss_cons
  (ps_set (i := 1) nd rfl (by first | exact Or.inl rfl | exact Or.inr rfl) (pe_callTy (kList (K := K) rfl) (by rfl) B.list (by decide +kernel) (pa_cons (pe_call G_law_mixed (hr.mono (by decide)) (by rfl) g_law_mixed k_law_mixed b_law_mixed .nil pass0 (pa_cons (pv 0) (pa_cons (pe_lst (pa_cons pe_int (pa_cons pe_int (pa_cons pe_int (pa_cons pe_int (pa_cons pe_int pa_nil)))))) (pa_cons pe_int pa_nil)))) pa_nil)))
  (pss_cons
  (ps_set (i := 2) nd rfl (by first | exact Or.inl rfl | exact Or.inr rfl) (pe_callTy (kList (K := K) rfl) (by rfl) B.list (by decide +kernel) (pa_cons (pe_call G_law_mixed (hr.mono (by decide)) (by rfl) g_law_mixed k_law_mixed b_law_mixed .nil pass0 (pa_cons (pv 0) (pa_cons (pe_lst (pa_cons pe_int (pa_cons pe_int (pa_cons pe_int (pa_cons pe_int (pa_cons pe_int pa_nil)))))) (pa_cons pe_int pa_nil)))) pa_nil)))
  (pss_cons
  (ps_set (i := 3) nd rfl (by first | exact Or.inl rfl | exact Or.inr rfl) (pe_callTy (kTuple (K := K) rfl) (by rfl) B.tuple (by decide +kernel) (pa_cons (pe_callB (kSorted (K := K) rfl) (by rfl) B.sorted (by decide +kernel) (pa_cons (pe_lst (pa_cons (pe_ix (kIxL (K := K) rfl) (pv 2) pe_int (fun _ _ => rfl)) (pa_cons (pe_ix (kIxL (K := K) rfl) (pv 2) pe_int (fun _ _ => rfl)) pa_nil))) pa_nil)) pa_nil)))
  (pss_cons
  (ps_set (i := 4) nd rfl (by first | exact Or.inl rfl | exact Or.inr rfl) (pe_lst (pa_cons (pe_tup (pa_cons pe_str (pa_cons (pe_tup (pa_cons (pe_tup (pa_cons (pe_ix (kIxL (K := K) rfl) (pv 2) pe_int (fun _ _ => rfl)) pa_nil)) (pa_cons (pv 3) (pa_cons (pe_tup (pa_cons (pe_ix (kIxL (K := K) rfl) (pv 2) pe_int (fun _ _ => rfl)) pa_nil)) (pa_cons (pe_tup (pa_cons (pe_ix (kIxL (K := K) rfl) (pv 2) pe_int (fun _ _ => rfl)) pa_nil)) pa_nil))))) pa_nil))) pa_nil)))
  (pss_cons
  (ps_expr (pe_bm PySem.F.plainAttrs_list PySem.F.slot_list_append PySem.F.type_list_append mt_append (pv 4) (pa_cons (pe_tup (pa_cons pe_str (pa_cons pe_int (pa_cons (pe_tup (pa_cons (pe_ix (kIxL (K := K) rfl) (pv 2) pe_int (fun _ _ => rfl)) (pa_cons (pe_ix (kIxL (K := K) rfl) (pv 2) pe_int (fun _ _ => rfl)) pa_nil))) (pa_cons pe_int (pa_cons (pe_tup pa_nil) pa_nil)))))) pa_nil)))
  (pss_cons
  (ps_expr (pe_bm PySem.F.plainAttrs_list PySem.F.slot_list_append PySem.F.type_list_append mt_append (pv 4) (pa_cons (pe_tup (pa_cons pe_str (pa_cons pe_int (pa_cons (pe_tup pa_nil) (pa_cons pe_int (pa_cons (pe_tup (pa_cons (pe_ix (kIxL (K := K) rfl) (pv 2) pe_int (fun _ _ => rfl)) (pa_cons (pe_ix (kIxL (K := K) rfl) (pv 2) pe_int (fun _ _ => rfl)) pa_nil))) pa_nil)))))) pa_nil)))
  (pss_cons
  (ps_expr (pe_bm PySem.F.plainAttrs_list PySem.F.slot_list_append PySem.F.type_list_append mt_append (pv 4) (pa_cons (pe_tup (pa_cons pe_str (pa_cons pe_int (pa_cons (pe_tup pa_nil) (pa_cons pe_int (pa_cons (pe_tup (pa_cons (pe_ix (kIxL (K := K) rfl) (pv 2) pe_int (fun _ _ => rfl)) (pa_cons (pe_ix (kIxL (K := K) rfl) (pv 2) pe_int (fun _ _ => rfl)) pa_nil))) pa_nil)))))) pa_nil)))
  (pss_cons
  (ps_expr (pe_bm PySem.F.plainAttrs_list PySem.F.slot_list_append PySem.F.type_list_append mt_append (pv 4) (pa_cons (pe_tup (pa_cons pe_str (pa_cons pe_int (pa_cons (pe_tup pa_nil) (pa_cons pe_int (pa_cons (pe_tup (pa_cons (pe_ix (kIxL (K := K) rfl) (pv 2) pe_int (fun _ _ => rfl)) pa_nil)) pa_nil)))))) pa_nil)))
  (pss_cons
  (ps_set (i := 5) nd rfl (by first | exact Or.inl rfl | exact Or.inr rfl) (pe_lst (pa_cons (pe_tup (pa_cons pe_int (pa_cons pe_int pa_nil))) (pa_cons (pe_tup (pa_cons pe_int (pa_cons pe_int pa_nil))) (pa_cons (pe_tup (pa_cons pe_int (pa_cons pe_int pa_nil))) (pa_cons (pe_tup (pa_cons pe_int (pa_cons pe_int pa_nil))) (pa_cons (pe_tup (pa_cons pe_int (pa_cons pe_int pa_nil))) pa_nil)))))))
  (pss_cons
  (ps_set (i := 6) nd rfl (by first | exact Or.inl rfl | exact Or.inr rfl) (pe_lst pa_nil))
  (pss_cons
  (ps_set (i := 7) nd rfl (by first | exact Or.inl rfl | exact Or.inr rfl) (pe_lst pa_nil))
  (pss_cons
  (ps_for PassesOwn.never rfl (pi_range1 (by rfl) B.range (pa_cons pe_int pa_nil)) (pg_name (i := 8) nd rfl (by first | exact Or.inl rfl | exact Or.inr rfl)) (pss_cons
  (ps_set (i := 9) nd rfl (by first | exact Or.inl rfl | exact Or.inr rfl) (pe_ix (kIxL (K := K) rfl) (pv 5) (pe_bm PySem.F.plainAttrs_list PySem.F.slot_list_index PySem.F.type_list_index (kIndex (K := K) rfl) (pv 2) (pa_cons (pv 8) pa_nil)) (fun _ _ => rfl)))
  (pss_cons
  (ps_expr (pe_bm PySem.F.plainAttrs_list PySem.F.slot_list_append PySem.F.type_list_append mt_append (pv 6) (pa_cons (pe_tup (pa_cons (pe_ix (kIxL (K := K) rfl) (pv 1) (pe_ix (kIxT (K := K) rfl) (pv 9) pe_int (fun _ _ => rfl)) (fun _ _ => rfl)) (pa_cons (pe_ix (kIxL (K := K) rfl) (pv 1) (pe_ix (kIxT (K := K) rfl) (pv 9) pe_int (fun _ _ => rfl)) (fun _ _ => rfl)) (pa_cons (pe_call G_law_take (hr.mono (by decide)) (by rfl) g_law_take k_law_take b_law_take .nil pass0 (pa_cons (pv 0) (pa_cons pe_int pa_nil))) pa_nil)))) pa_nil)))
  (pss_one
  (ps_expr (pe_bm PySem.F.plainAttrs_list PySem.F.slot_list_append PySem.F.type_list_append mt_append (pv 7) (pa_cons (pe_tup (pa_cons (pe_call G_law_word (hr.mono (by decide)) (by rfl) g_law_word k_law_word b_law_word .nil pass0 (pa_cons (pe_op op_add (pe_op op_add pe_int (pe_op op_mul pe_int (pv 8))) (pe_call G_law_take (hr.mono (by decide)) (by rfl) g_law_take k_law_take b_law_take .nil pass0 (pa_cons (pv 0) (pa_cons pe_int pa_nil)))) pa_nil)) (pa_cons (pe_ix (kIxL (K := K) rfl) (pv 4) (pe_bm PySem.F.plainAttrs_list PySem.F.slot_list_index PySem.F.type_list_index (kIndex (K := K) rfl) (pv 1) (pa_cons (pv 8) pa_nil)) (fun _ _ => rfl)) pa_nil))) pa_nil)))))))
  (pss_one
  (ps_ret (pe_tup (pa_cons (pe_callTy (kTuple (K := K) rfl) (by rfl) B.tuple (by decide +kernel) (pa_cons (pv 7) pa_nil)) (pa_cons (pe_callTy (kTuple (K := K) rfl) (by rfl) B.tuple (by decide +kernel) (pa_cons (pv 6) pa_nil)) pa_nil))))))))))))))))), ?_⟩
  obtain ⟨p, rfl, hp, qq⟩ := h
  walk_at "sq"
  refine ql (T := T) (K := K) (ds := [.int 0, .int 1, .int 2, .int 3, .int 4]) (tdAll_ints [0, 1, 2, 3, 4]) fun l1 H1 hl1 f1 hx1 _ => ?_
  have d1 := hp.keep f1
  have n1p : l1 ≠ p := by
    obtain ⟨ds, e⟩ := hp
    exact (ne_of_none e hl1).symm
  walk_at "sq"
  refine ⟨_, _, _, rfl, p, l1, [0, 1, 2, 3, 4], 8, rfl, d1, rfl, hx1, n1p, by decide, by decide, rfl, fun v2 H2 pl mx f2 d2 t2 _ => ?_⟩
  have pp := mx.all (by decide)
  walk_at "sq"
  refine q_listT (T := T) t2 fun la xs3 H3 hla f3 hx3 tx3 => ?_
  rw [tx3.ints] at hx3
  have d3 := d2.keep f3
  have nap : la ≠ p := by
    obtain ⟨ds, e⟩ := d2
    exact (ne_of_none e hla).symm
  have f03 : Fr T [p] H H3 := ((f1.wide hp.m).trans f2).trans (f3.wide d2.m)
  walk_at "sq"
  refine ql (T := T) (K := K) (ds := [.int 0, .int 1, .int 2, .int 3, .int 4]) (tdAll_ints [0, 1, 2, 3, 4]) fun l4 H4 hl4 f4 hx4 _ => ?_
  have d4 := d3.keep f4
  have n4p : l4 ≠ p := by
    obtain ⟨ds, e⟩ := d3
    exact (ne_of_none e hl4).symm
  walk_at "sq"
  refine ⟨_, _, _, rfl, p, l4, [0, 1, 2, 3, 4], 8, rfl, d4, rfl, hx4, n4p, by decide, by decide, rfl, fun v5 H5 nb my f5 d5 t5 _ => ?_⟩
  have pn := my.all (by decide)
  walk_at "sq"
  refine q_listT (T := T) t5 fun lb xs6 H6 hlb f6 hx6 tx6 => ?_
  rw [tx6.ints] at hx6
  have d6 := d5.keep f6
  have nbp : lb ≠ p := by
    obtain ⟨ds, e⟩ := d5
    exact (ne_of_none e hlb).symm
  have f36 : Fr T [p] H3 H6 := ((f4.wide d3.m).trans f5).trans (f6.wide d5.m)
  have u6 : US T p la lb pl nb H H6 := ⟨f03.trans f36, d6, f36.lst hx3 (by simpa using nap), hx6, nap, nbp⟩
  have fla : Fresh H la := ((f1.wide hp.m).trans f2).fresh (Fresh.of hla)
  have flb : Fresh H lb := ((f03.trans (f4.wide d3.m)).trans f5).fresh (Fresh.of hlb)
  clear f03 f36 hx3 hx6
  obtain ⟨n0, n1, n2, n3, n4, enb, ndn, inn, exn⟩ := ord5 pn
  obtain ⟨p0, p1, p2, p3, p4, epl, ndp, inp, exp⟩ := ord5 pp
  have hb0 : atI (nb.map V.int) 0 = some (.int n0) := by rw [enb]; rfl
  have hb1 : atI (nb.map V.int) 1 = some (.int n1) := by rw [enb]; rfl
  have hb2 : atI (nb.map V.int) 2 = some (.int n2) := by rw [enb]; rfl
  have hb3 : atI (nb.map V.int) 3 = some (.int n3) := by rw [enb]; rfl
  have hb4 : atI (nb.map V.int) 4 = some (.int n4) := by rw [enb]; rfl
  walk_at "sq"
  refine q_ixL u6.b hb1 ?_
  walk_at "sq"
  refine q_ixL u6.b hb2 ?_
  walk_at "sq"
  refine ql (T := T) (K := K) (ds := [.int n1, .int n2]) (tdAll_ints [n1, n2]) fun l7 H7 hl7 f7 hx7 _ => ?_
  walk_at "sq"
  refine q_sortI (T := T) (ns := [n1, n2]) hx7 fun l8 H8 hl8 f8 hx8 => ?_
  walk_at "sq"
  refine q_tupI (T := T) hx8 fun l9 H9 f9 t9 => ?_
  have u9 := ((u6.go f7).go f8).go f9
  walk_at "sq"
  refine q_ixL u9.b hb0 ?_
  walk_at "sq"
  refine qt (T := T) (K := K) (ds := [.int n0]) (tdAll_ints [n0]) fun l10 H10 f10 t10 => ?_
  walk_at "sq"
  refine q_ixL (u9.go f10).b hb1 ?_
  walk_at "sq"
  refine qt (T := T) (K := K) (ds := [.int n1]) (tdAll_ints [n1]) fun l11 H11 f11 t11 => ?_
  walk_at "sq"
  refine q_ixL ((u9.go f10).go f11).b hb2 ?_
  walk_at "sq"
  refine qt (T := T) (K := K) (ds := [.int n2]) (tdAll_ints [n2]) fun l12 H12 f12 t12 => ?_
  have u12 := ((u9.go f10).go f11).go f12
  walk_at "sq"
  refine qt (T := T) (K := K) (ds := [tI [n0], tI (sortI [n1, n2]), tI [n1], tI [n2]]) (.cons ((t10.mono f11).mono f12) (.cons (((t9.mono f10).mono f11).mono f12) (.cons (t11.mono f12) (.cons t12 .nil)))) fun l13 H13 f13 t13 => ?_
  walk_at "sq"
  refine qt (T := T) (K := K) (ds := [.str "table", .tuple [tI [n0], tI (sortI [n1, n2]), tI [n1], tI [n2]]]) (.cons (.str _) (.cons t13 .nil)) fun l14 H14 f14 t14 => ?_
  walk_at "sq"
  refine ql (T := T) (K := K) (ds := [eCh (.plain (.table [[n0], sortI [n1, n2], [n1], [n2]]))]) (.cons t14 .nil) fun lc H15 hlc f15 hx15 tx15 => ?_
  have u15 := ((u12.go f13).go f14).go f15
  have flc : Fresh H lc := ((u12.go f13).go f14).fr.fresh (Fresh.of hlc)
  have nlc : lc ≠ p ∧ lc ≠ la ∧ lc ≠ lb := by
    have u14 := (u12.go f13).go f14
    refine ⟨?_, (ne_of_none u14.a hlc).symm, (ne_of_none u14.b hlc).symm⟩
    obtain ⟨ds, e⟩ := u14.d
    exact (ne_of_none e hlc).symm
  clear f7 f8 f9 f10 f11 f12 f13 f14 hx7 hx8 t9 t10 t11 t12 t13 t14 u6 u9 u12 f1 f2 f3 f4 f5 f6
  walk_at "sq"
  refine ⟨ty_lst hx15, ?_⟩
  walk_at "sq"
  refine q_ixL u15.b hb4 ?_
  walk_at "sq"
  refine q_ixL u15.b hb3 ?_
  walk_at "sq"
  refine qt (T := T) (K := K) (ds := [.int n4, .int n3]) (tdAll_ints [n4, n3]) fun l16 H16 f16 t16 => ?_
  walk_at "sq"
  refine qt (T := T) (K := K) (ds := []) (tdAll_ints []) fun l17 H17 f17 t17 => ?_
  walk_at "sq"
  refine qt (T := T) (K := K) (ds := [.str "sides", .int 1, tI [n4, n3], .int 0, tI []]) (.cons (.str _) (.cons (.int _) (.cons (t16.mono f17) (.cons (.int _) (.cons t17 .nil))))) fun l18 H18 f18 t18 => ?_
  have g18 := (f16.trans f17).trans f18
  walk_at "sq"
  refine qapp (T := T) (K := K) (d := eCh (.plain (.sides 1 [n4, n3] 0 []))) (g18.lst0 hx15) (tx15.mono g18) t18 (by simp) fun H19 f19 hx19 tx19 => ?_
  have u19 := (u15.go g18).mut flc f19 nlc.1 nlc.2.1 nlc.2.2
  clear g18 f16 f17 f18 f19
  walk_at "sq"
  refine ⟨ty_lst hx19, ?_⟩
  walk_at "sq"
  refine qt (T := T) (K := K) (ds := []) (tdAll_ints []) fun l20 H20 f20 t20 => ?_
  walk_at "sq"
  refine q_ixL (u19.go f20).b hb3 ?_
  walk_at "sq"
  refine q_ixL (u19.go f20).b hb0 ?_
  walk_at "sq"
  refine qt (T := T) (K := K) (ds := [.int n3, .int n0]) (tdAll_ints [n3, n0]) fun l21 H21 f21 t21 => ?_
  walk_at "sq"
  refine qt (T := T) (K := K) (ds := [.str "sides", .int 0, tI [], .int 1, tI [n3, n0]]) (.cons (.str _) (.cons (.int _) (.cons (t20.mono f21) (.cons (.int _) (.cons t21 .nil))))) fun l22 H22 f22 t22 => ?_
  have g22 := (f20.trans f21).trans f22
  walk_at "sq"
  refine qapp (T := T) (K := K) (d := eCh (.plain (.sides 0 [] 1 [n3, n0]))) (g22.lst0 hx19) (tx19.mono g22) t22 (by simp) fun H23 f23 hx23 tx23 => ?_
  have u23 := (u19.go g22).mut flc f23 nlc.1 nlc.2.1 nlc.2.2
  clear g22 f20 f21 f22 f23
  walk_at "sq"
  refine ⟨ty_lst hx23, ?_⟩
  walk_at "sq"
  refine qt (T := T) (K := K) (ds := []) (tdAll_ints []) fun l24 H24 f24 t24 => ?_
  walk_at "sq"
  refine q_ixL (u23.go f24).b hb1 ?_
  walk_at "sq"
  refine q_ixL (u23.go f24).b hb4 ?_
  walk_at "sq"
  refine qt (T := T) (K := K) (ds := [.int n1, .int n4]) (tdAll_ints [n1, n4]) fun l25 H25 f25 t25 => ?_
  walk_at "sq"
  refine qt (T := T) (K := K) (ds := [.str "sides", .int 0, tI [], .int 1, tI [n1, n4]]) (.cons (.str _) (.cons (.int _) (.cons (t24.mono f25) (.cons (.int _) (.cons t25 .nil))))) fun l26 H26 f26 t26 => ?_
  have g26 := (f24.trans f25).trans f26
  walk_at "sq"
  refine qapp (T := T) (K := K) (d := eCh (.plain (.sides 0 [] 1 [n1, n4]))) (g26.lst0 hx23) (tx23.mono g26) t26 (by simp) fun H27 f27 hx27 tx27 => ?_
  have u27 := (u23.go g26).mut flc f27 nlc.1 nlc.2.1 nlc.2.2
  clear g26 f24 f25 f26 f27
  walk_at "sq"
  refine ⟨ty_lst hx27, ?_⟩
  walk_at "sq"
  refine qt (T := T) (K := K) (ds := []) (tdAll_ints []) fun l28 H28 f28 t28 => ?_
  walk_at "sq"
  refine q_ixL (u27.go f28).b hb2 ?_
  walk_at "sq"
  refine qt (T := T) (K := K) (ds := [.int n2]) (tdAll_ints [n2]) fun l29 H29 f29 t29 => ?_
  walk_at "sq"
  refine qt (T := T) (K := K) (ds := [.str "sides", .int 0, tI [], .int 1, tI [n2]]) (.cons (.str _) (.cons (.int _) (.cons (t28.mono f29) (.cons (.int _) (.cons t29 .nil))))) fun l30 H30 f30 t30 => ?_
  have g30 := (f28.trans f29).trans f30
  walk_at "sq"
  refine qapp (T := T) (K := K) (d := eCh (.plain (.sides 0 [] 1 [n2]))) (g30.lst0 hx27) (tx27.mono g30) t30 (by simp) fun H31 f31 hx31 tx31 => ?_
  have u31 := (u27.go g30).mut flc f31 nlc.1 nlc.2.1 nlc.2.2
  clear g30 f28 f29 f30 f31
  rw [show ([eCh (.plain (.table [[n0], sortI [n1, n2], [n1], [n2]]))] ++ [eCh (.plain (.sides 1 [n4, n3] 0 []))] ++ [eCh (.plain (.sides 0 [] 1 [n3, n0]))] ++ [eCh (.plain (.sides 0 [] 1 [n1, n4]))] ++ [eCh (.plain (.sides 0 [] 1 [n2]))]) = (chsU nb).map eCh by rw [enb]; rfl] at tx31
  walk_at "sq"
  refine qt (T := T) (K := K) (ds := [.int 2, .int 0]) (tdAll_ints [2, 0]) fun l32 H32 f32 t32 => ?_
  walk_at "sq"
  refine qt (T := T) (K := K) (ds := [.int 3, .int 0]) (tdAll_ints [3, 0]) fun l33 H33 f33 t33 => ?_
  walk_at "sq"
  refine qt (T := T) (K := K) (ds := [.int 4, .int 0]) (tdAll_ints [4, 0]) fun l34 H34 f34 t34 => ?_
  walk_at "sq"
  refine qt (T := T) (K := K) (ds := [.int 2, .int 1]) (tdAll_ints [2, 1]) fun l35 H35 f35 t35 => ?_
  walk_at "sq"
  refine qt (T := T) (K := K) (ds := [.int 3, .int 1]) (tdAll_ints [3, 1]) fun l36 H36 f36 t36 => ?_
  walk_at "sq"
  refine ql (T := T) (K := K) (ds := prsU.map eI2) (hz := by simp [prsU]) (.cons ((((t32.mono f33).mono f34).mono f35).mono f36) (.cons (((t33.mono f34).mono f35).mono f36) (.cons ((t34.mono f35).mono f36) (.cons (t35.mono f36) (.cons t36 .nil))))) fun lq H37 hlq f37 hx37 tx37 => ?_
  have gq := ((((f32.trans f33).trans f34).trans f35).trans f36).trans f37
  have hq0 := ((((f32.trans f33).trans f34).trans f35).trans f36).lst0 hx31
  have nqc : lq ≠ lc := (ne_of_none hq0 hlq).symm
  have uq := u31.go gq
  have hc := gq.lst0 hx31
  have tc := tx31.mono gq
  have nqp : lq ≠ p := by
    obtain ⟨ds, e⟩ := (u31.go ((((f32.trans f33).trans f34).trans f35).trans f36)).d
    exact (ne_of_none e hlq).symm
  walk_at "sq"
  refine ql (T := T) (K := K) (ds := []) .nil fun lk Hk hlk fk hk tk => ?_
  have uk := uq.go fk
  have nk : lk ≠ p ∧ lk ≠ la ∧ lk ≠ lb ∧ lk ≠ lc ∧ lk ≠ lq := by
    refine ⟨?_, (ne_of_none uq.a hlk).symm, (ne_of_none uq.b hlk).symm, (ne_of_none hc hlk).symm, (ne_of_none hx37 hlk).symm⟩
    obtain ⟨ds, e⟩ := uq.d
    exact (ne_of_none e hlk).symm
  have flk : Fresh H lk := uq.fr.fresh (Fresh.of hlk)
  walk_at "sq"
  refine ql (T := T) (K := K) (ds := []) .nil fun lh Hh hlh fh hh th => ?_
  have uh := uk.go fh
  have nh : lh ≠ p ∧ lh ≠ la ∧ lh ≠ lb ∧ lh ≠ lc ∧ lh ≠ lq ∧ lh ≠ lk := by
    refine ⟨?_, (ne_of_none uk.a hlh).symm, (ne_of_none uk.b hlh).symm, (ne_of_none (fk.lst0 hc) hlh).symm, (ne_of_none (fk.lst0 hx37) hlh).symm, (ne_of_none hk hlh).symm⟩
    obtain ⟨ds, e⟩ := uk.d
    exact (ne_of_none e hlh).symm
  have flh : Fresh H lh := uk.fr.fresh (Fresh.of hlh)
  have gkh := fk.trans fh
  walk_at "sq"
  refine ⟨5, rfl, by decide, by decide, ?_⟩
  refine for_R (n := 5) (fun i σ H' => ∃ (cs : List Ctr) (cv : List V) (hs : List (Str × Choice)) (hv : List V) (vc vq : List V) (x8 x9 : Option V), σ = [some (.ref p), some (.ref la), some (.ref lb), some (.ref l9), some (.ref lc), some (.ref lq), some (.ref lk), some (.ref lh), x8, x9] ∧ US T p la lb pl nb H H' ∧ H' lc = some (.lst vc) ∧ TdAll K H' vc ((chsU nb).map eCh) ∧ H' lq = some (.lst vq) ∧ TdAll K H' vq (prsU.map eI2) ∧ H' lk = some (.lst cv) ∧ TdAll K H' cv (cs.map eC) ∧ H' lh = some (.lst hv) ∧ TdAll K H' hv (hs.map eH) ∧ UnsC pl nb cs i ∧ UnsH pl nb hs i)
    ⟨[], [], [], [], _, _, _, _, rfl, uh, gkh.lst0 hc, tc.mono gkh, gkh.lst0 hx37, tx37.mono gkh, fh.lst0 hk, .nil, hh, .nil, ⟨rfl, fun j hj => by omega⟩, ⟨rfl, fun j hj => by omega⟩⟩ ?_ ?_
  rotate_left
  · rintro σ' H1 ⟨cs, cv, hs, hv, vc, vq, x8, x9, rfl, u, hc, tc, hq, tq, hk, tk, hh, th, ic, ih⟩
    dsimp only
    walk_at "sq"
    refine q_tupK (T := T) hh th fun l8 H8 f8 t8 => ?_
    walk_at "sq"
    refine q_tupK (T := T) (f8.lst0 hk) (tk.mono f8) fun l9 H9 f9 t9 => ?_
    walk_at "sq"
    refine qt (T := T) (K := K) (ds := [.tuple (hs.map eH), .tuple (cs.map eC)]) (.cons (t8.mono f9) (.cons t9 .nil)) fun l10 H10 f10 t10 => ?_
    have u10 := ((u.go f8).go f9).go f10
    exact qq _ _ ⟨hs, cs⟩ (uns_drawn pp pn ic ih) u10.fr u10.d t10
  rintro i σ' H1 hi ⟨cs, cv, hs, hv, vc, vq, x8, x9, rfl, u, hc, tc, hq, tq, hk, tk, hh, th, ic, ih⟩
  obtain ⟨t, ht5, ht⟩ := exn (i : Int) (by omega) (by omega)
  obtain ⟨r, hr5, hr⟩ := exp (i : Int) (by omega) (by omega)
  obtain ⟨pr, hpr⟩ : ∃ pr, prsU[t]? = some pr := ⟨_, List.getElem?_eq_getElem (show t < prsU.length from ht5)⟩
  obtain ⟨ch, hch⟩ : ∃ ch, (chsU nb)[r]? = some ch := ⟨_, List.getElem?_eq_getElem (show r < (chsU nb).length by rw [enb]; exact hr5)⟩
  obtain ⟨⟨i10, i11⟩, i20, i21⟩ := prsU_in pr (List.mem_of_getElem? hpr)
  have lpl : pl.length = 5 := by rw [epl]; rfl
  obtain ⟨x, hx⟩ : ∃ x, pl[pr.1.toNat]? = some x := ⟨_, List.getElem?_eq_getElem (by omega)⟩
  obtain ⟨y, hy⟩ : ∃ y, pl[pr.2.toNat]? = some y := ⟨_, List.getElem?_eq_getElem (by omega)⟩
  have cvl : cv.length = i := by rw [tk.length, List.length_map, ic.len]
  have hvl : hv.length = i := by rw [th.length, List.length_map, ih.len]
  walk_at "sq"
  refine ⟨ty_lst u.b, ?_⟩
  walk_at "sq"
  refine q_index u.b ndn ht ?_
  obtain ⟨v1, hv1, tv1⟩ := tq.atI (k := (t : Int)) (at_nat (by rw [List.getElem?_map, hpr]; rfl))
  refine q_ixL hq hv1 ?_
  walk_at "sq"
  refine ⟨ty_lst hk, ?_⟩
  walk_at "sq"
  refine q_ixT tv1 (d := .int pr.1) rfl fun z1 tz1 => ?_
  obtain rfl := tz1.int_inv
  refine q_ixL u.a (at_map i10 hx) ?_
  walk_at "sq"
  refine q_ixT tv1 (d := .int pr.2) rfl fun z2 tz2 => ?_
  obtain rfl := tz2.int_inv
  refine q_ixL u.a (at_map i20 hy) ?_
  walk_at "sq"
  refine ⟨_, _, rfl, p, 9, rfl, u.d, rfl, by decide, fun z H2 _ _ f2 d2 => ?_⟩
  walk_at "sq"
  refine qt (T := T) (K := K) (ds := [.int x, .int y, .int z]) (tdAll_ints [x, y, z]) fun l3 H3 f3 t3 => ?_
  have u3 := (u.draw f2 d2).go f3
  have nm2 : ∀ {c : Addr}, c ≠ p → c ∉ [p] := fun h => by simpa using h
  walk_at "sq"
  have g3 := f2.trans (f3.wide d2.m)
  refine qapp (T := T) (K := K) (d := eC (x, y, z)) (g3.lst hk (nm2 nk.1)) (tk.mono g3) t3 (by omega) fun H4 f4 hk4 tk4 => ?_
  have u4 := u3.mut flk f4 nk.1 nk.2.1 nk.2.2.1
  have c4 : H4 lc = some (.lst vc) := f4.lst (g3.lst hc (nm2 nlc.1)) (by simpa using nk.2.2.2.1.symm)
  have q4 : H4 lq = some (.lst vq) := f4.lst (g3.lst hq (nm2 nqp)) (by simpa using nk.2.2.2.2.symm)
  have h4 : H4 lh = some (.lst hv) := f4.lst (g3.lst hh (nm2 nh.1)) (by simpa using nh.2.2.2.2.2)
  have tc4 := (tc.mono g3).mono f4
  have tq4 := (tq.mono g3).mono f4
  have th4 := (th.mono g3).mono f4
  walk_at "sq"
  refine ⟨ty_lst h4, ?_⟩
  walk_at "sq"
  refine q_IC (Or.inl ⟨by decide, by decide⟩) ?_
  refine q_I ?_
  walk_at "sq"
  refine ⟨_, _, rfl, p, 7, rfl, u4.d, rfl, by decide, fun z5 H5 _ _ f5 d5 => ?_⟩
  walk_at "sq"
  refine q_I ?_
  walk_at "sq"
  refine ⟨_, rfl, _, rfl, fun wd hwd => ?_⟩
  walk_at "sq"
  have u5 := u4.draw f5 d5
  refine ⟨ty_lst u5.a, ?_⟩
  walk_at "sq"
  refine q_index u5.a ndp hr ?_
  obtain ⟨v6, hv6, tv6⟩ := (tc4.mono f5).atI (k := (r : Int)) (at_nat (by rw [List.getElem?_map, hch]; rfl))
  refine q_ixL (f5.lst c4 (nm2 nlc.1)) hv6 ?_
  walk_at "sq"
  refine qt (T := T) (K := K) (ds := [.str wd, eCh ch]) (.cons (.str _) (.cons tv6 .nil)) fun l7 H7 f7 t7 => ?_
  have g7 := f5.trans (f7.wide d5.m)
  walk_at "sq"
  refine qapp (T := T) (K := K) (d := eH (wd, ch)) (g7.lst h4 (nm2 nh.1)) (th4.mono g7) t7 (by omega) fun H8 f8 hh8 th8 => ?_
  have u8 := (u5.go f7).mut flh f8 nh.1 nh.2.1 nh.2.2.1
  refine ⟨cs ++ [(x, y, z)], _, hs ++ [(wd, ch)], _, vc, vq, _, _, rfl, u8, f8.lst (g7.lst c4 (nm2 nlc.1)) (by simpa using nh.2.2.2.1.symm), (tc4.mono g7).mono f8, f8.lst (g7.lst q4 (nm2 nqp)) (by simpa using nh.2.2.2.2.1.symm), (tq4.mono g7).mono f8, f8.lst (g7.lst hk4 (nm2 nk.1)) (by simpa using nh.2.2.2.2.2.symm), ?_, hh8, ?_, ic.snoc ht hpr hx hy, ih.snoc hr hch⟩
  · rw [List.map_append]
    exact (tk4.mono g7).mono f8
  · rw [List.map_append]
    exact th8
end
end Nc
set_option maxHeartbeats 4000000
/-! GL: webs. -/
namespace Nc
open PySem PySem.Spec L2
theorem nums_asc {cs : List Ctr} {p : Ctr → Bool} : (numsOf cs p).Pairwise (· < ·) := by
  unfold numsOf
  rw [List.pairwise_map]
  exact (List.pairwise_lt_range.sublist List.filter_sublist).imp fun h => by omega
theorem Drawn.apart {wb : Web Str} (h : Drawn wb) (k : Int) : ∀ c ∈ numsOf wb.cs (fun c => decide (c.2.1 = k)), c ∉ numsOf wb.cs fun c => decide (c.1 = k) := fun c h1 h2 => by
  obtain ⟨rk, hrk⟩ := h.rk
  obtain ⟨_, d, hd, e1⟩ := nums_mem.mp h1
  obtain ⟨_, d', hd', e2⟩ := nums_mem.mp h2
  rw [hd] at hd'
  cases hd'
  have := hrk d (List.mem_of_getElem? hd)
  rw [of_decide_eq_true e1, of_decide_eq_true e2] at this
  exact Nat.lt_irrefl _ this
theorem Drawn.put {hs : List (Str × Choice)} {cs : List Ctr} (h : Drawn ⟨hs, cs⟩) {k : Nat} {nm : Str} {ch : Choice} (hc : HouseOk cs k ch) : Drawn ⟨hs.set k (nm, ch), cs⟩ := by
  refine ⟨h.n6, by show (hs.set k (nm, ch)).length ≤ 100; rw [List.length_set]; exact h.nh, h.rk, fun c hcm => by show (0 ≤ c.1 ∧ c.1 < ((hs.set k (nm, ch)).length : Int)) ∧ 0 ≤ c.2.1 ∧ c.2.1 < ((hs.set k (nm, ch)).length : Int); rw [List.length_set]; exact h.inn c hcm, fun j x hx => ?_⟩
  have hx : (hs.set k (nm, ch))[j]? = some x := hx
  by_cases e : k = j
  · subst e
    have hl := (List.getElem?_eq_some_iff.mp hx).1
    rw [List.length_set] at hl
    rw [List.getElem?_set_self hl] at hx
    cases hx
    exact hc
  · rw [List.getElem?_set_ne e] at hx
    exact h.ch j x hx
theorem TdAll.set {K : PySem.W.Frag} {H : Hp} : ∀ {vs : List V} {ds : List PyData} {k : Nat} {v : V} {d : PyData}, TdAll K H vs ds → Td K H v d → TdAll K H (vs.set k v) (ds.set k d)
  | [], ds, k, v, d, h, hv => by
    cases h
    exact .nil
  | w :: vs, ds, k, v, d, h, hv => by
    cases h with
    | cons h1 h2 =>
      cases k with
      | zero => exact .cons hv h2
      | succ k => exact .cons h1 (TdAll.set h2 hv)
local macro_rules | `(tactic| walk_at "st") => `(tactic| (repeat (first
  | ((with_reducible refine' r_var ?e ?_); (case e => exact rfl))
  | (with_reducible refine' r_op ?_)
  | (with_reducible refine' r_c ?_)
  | (with_reducible refine' r_cons ?_)
  | (with_reducible refine' r_nil ?_)
  | (with_reducible refine' r_cb ?_)
  | (with_reducible refine' r_call ?_)
  | (with_reducible refine' r_test ?_)
  | (with_reducible refine' r_lc ?_)
  | (with_reducible refine' r_lc2 ?_)
  | (with_reducible refine' r_sk ?_)
  | (with_reducible refine' r_iZ ?_)
  | (with_reducible refine' r_sl3 ?_)
  | (with_reducible refine' r_bmZ ?_)
  | (with_reducible refine' r_dg ?_)
  | (with_reducible refine' r_dpS ?_)
  | (with_reducible refine' r_dp1 ?_)
  | (with_reducible refine' r_dn ?_)
  | (with_reducible refine' r_iT ?_)
  | (with_reducible refine' r_iL ?_)
  | (with_reducible refine' r_iE ?_)
  | (with_reducible refine' r_iR ?_)
  | (with_reducible refine' r_ret ?_)
  | (with_reducible refine' r_asgS ?_)
  | (with_reducible refine' r_asg1 ?_)
  | (with_reducible refine' r_asgTS ?_)
  | (with_reducible refine' r_ifS ?_)
  | (with_reducible refine' r_if1 ?_)
  | (with_reducible refine' r_forS ?_)
  | (with_reducible refine' r_for1 ?_)
  | (with_reducible refine' r_dropS ?_)
  | (with_reducible refine' r_drop1 ?_)
  | (with_reducible refine' r_tup ?_)
  | (with_reducible refine' r_lst ?_)
  | (with_reducible refine' r_sl ?_)
  | (with_reducible refine' r_noP ?_)
  | (with_reducible refine' r_part ?_)
  | (with_reducible refine' r_bm ?_)
  | (with_reducible refine' r_bm0 ?_)
  | (with_reducible refine' r_un ?_)
  | (with_reducible refine' r_notV ?_)
  | (with_reducible refine' r_B ?_)
  | (with_reducible refine' r_and ?_)
  | (with_reducible refine' r_or ?_)
  | (with_reducible refine' r_not ?_)
  | (with_reducible refine' r_yes ?_)
  | (with_reducible refine' r_next ?_)
  | (with_reducible refine' r_break ?_)
  | (with_reducible refine' r_gn ?_)
  | (with_reducible refine' r_tupRg ?_)
  | (with_reducible refine' r_rg1 ?_)
  )))
local macro_rules | `(tactic| walk_at "no") => `(tactic| (refine q_eqS ⟨_, rfl, ite2 (fun e => absurd (of_decide_eq_true e) (by decide +kernel)) (fun _ => ?_)⟩; walk_at "st"; try dsimp only))
local macro_rules | `(tactic| walk_at "yes") => `(tactic| (refine q_eqS ⟨_, rfl, ite2 (fun _ => ?_) (fun e => absurd (decide_eq_true rfl) e)⟩; walk_at "st"))
local macro_rules | `(tactic| walk_at "sq") => `(tactic| (repeat (first
  | ((with_reducible refine' r_var ?e ?_); (case e => exact rfl))
  | (with_reducible refine' r_op ?_)
  | (with_reducible refine' r_c ?_)
  | (with_reducible refine' r_cons ?_)
  | (with_reducible refine' r_nil ?_)
  | (with_reducible refine' r_cb ?_)
  | (with_reducible refine' r_call ?_)
  | (with_reducible refine' r_test ?_)
  | (with_reducible refine' r_lc ?_)
  | (with_reducible refine' r_lc2 ?_)
  | (with_reducible refine' r_sk ?_)
  | (with_reducible refine' r_iZ ?_)
  | (with_reducible refine' r_sl3 ?_)
  | (with_reducible refine' r_bmZ ?_)
  | (with_reducible refine' r_dg ?_)
  | (with_reducible refine' r_dpS ?_)
  | (with_reducible refine' r_dp1 ?_)
  | (with_reducible refine' r_dn ?_)
  | (with_reducible refine' r_iT ?_)
  | (with_reducible refine' r_iL ?_)
  | (with_reducible refine' r_iE ?_)
  | (with_reducible refine' r_iR ?_)
  | (with_reducible refine' r_ret ?_)
  | (with_reducible refine' r_asgS ?_)
  | (with_reducible refine' r_asg1 ?_)
  | (with_reducible refine' r_asgTS ?_)
  | (with_reducible refine' r_ifS ?_)
  | (with_reducible refine' r_if1 ?_)
  | (with_reducible refine' r_forS ?_)
  | (with_reducible refine' r_for1 ?_)
  | (with_reducible refine' r_dropS ?_)
  | (with_reducible refine' r_drop1 ?_)
  | (with_reducible refine' r_tupQ ?_)
  | (with_reducible refine' r_lstQ ?_)
  | (with_reducible refine' r_sl ?_)
  | (with_reducible refine' r_noP ?_)
  | (with_reducible refine' r_part ?_)
  | (with_reducible refine' r_bm ?_)
  | (with_reducible refine' r_bm0 ?_)
  | (with_reducible refine' r_un ?_)
  | (with_reducible refine' r_notV ?_)
  | (with_reducible refine' r_B ?_)
  | (with_reducible refine' r_and ?_)
  | (with_reducible refine' r_or ?_)
  | (with_reducible refine' r_not ?_)
  | (with_reducible refine' r_yes ?_)
  | (with_reducible refine' r_next ?_)
  | (with_reducible refine' r_break ?_)
  | (with_reducible refine' r_gn ?_)
  | (with_reducible refine' r_tupRg ?_)
  | (with_reducible refine' r_rg1 ?_)
  )))
section
variable {P : Program} {w : World} {K : PySem.W.Frag} {mg : Str → Option Value} {base : Heap}
variable {T : List (Addr × Str)}
def sp_law_web (K : PySem.W.Frag) (T : List (Addr × Str)) : Sp := Sp4 fun a b c d H Q => ∃ (s p : Addr) (ns : List Int), a = .ref s ∧ SqL K H s (ns.map V.int) ∧ s ≠ p ∧ b = .ref p ∧ Dr H p ∧ c = .int 5 ∧ d = .int 6 ∧ ∀ v H' wb, Drawn wb → Fr T [p] H H' → Dr H' p → Td K H' v (eW wb) → Q v H'
/-! ### _law_web -/
abbrev s_law_web : Stmt := topS 43
abbrev N_law_web : List Str := ["_law_script", "_law_draws_here", "_law_many", "_law_most", "_law_kind", "_law_web_here", "_law_houses", "_law_house", "_law_buys", "_law_sells", "_law_number"]
theorem sc_law_web : FnScope N_law_web ["_law_script", "_law_draws_here", "_law_many", "_law_most"] (defScope s_law_web) := ⟨rfl, rfl, rfl, by decide +kernel, rfl, by decide +kernel, by decide +kernel⟩
theorem d_law_web (B : B0 mg) (A0 : At K mg "_law_web" s_law_web) (D_law_take : Dn P w K mg base "_law_take" ["_law_draws_here", "_law_many"] 1 (sp_law_take K T)) (D_law_unsteady_web : Dn P w K mg base "_law_unsteady_web" ["_law_draws_here"] 3 (sp_law_unsteady_web K T)) (D_law_steady_web : Dn P w K mg base "_law_steady_web" ["_law_script", "_law_draws_here", "_law_many", "_law_most"] 8 (sp_law_steady_web K T)) (D_law_wild : Dn P w K mg base "_law_wild" ["_law_buys", "_law_sells"] 2 (sp_law_wild K T)) : Dn P w K mg base "_law_web" ["_law_script", "_law_draws_here", "_law_many", "_law_most"] 9 (sp_law_web K T) := by
  obtain ⟨f_law_take, fd_law_take, G_law_take, g_law_take, k_law_take, b_law_take⟩ := D_law_take
  obtain ⟨f_law_unsteady_web, fd_law_unsteady_web, G_law_unsteady_web, g_law_unsteady_web, k_law_unsteady_web, b_law_unsteady_web⟩ := D_law_unsteady_web
  obtain ⟨f_law_steady_web, fd_law_steady_web, G_law_steady_web, g_law_steady_web, k_law_steady_web, b_law_steady_web⟩ := D_law_steady_web
  obtain ⟨f_law_wild, fd_law_wild, G_law_wild, g_law_wild, k_law_wild, b_law_wild⟩ := D_law_wild
  refine dn4 A0 sc_law_web (fun _ _ F => F.bindsN fun _ _ _ _ _ _ us hl => match us, hl with | [_, _, _, _], _ => rfl) fun f cdv A outer s H a0 a1 a2 a3 Q E hr h => ?_
  have nd := sc_law_web.nd
  refine ⟨_, (pss_cons
  (ps_set (i := 4) nd rfl (by first | exact Or.inl rfl | exact Or.inr rfl) (pe_call G_law_take (hr.mono (by decide)) (by rfl) g_law_take k_law_take b_law_take .nil pass0 (pa_cons (pv 1) (pa_cons pe_int pa_nil))))
  (pss_cons
  (ps_if (PW.pt (pw_and (pt_cmpR op_eq (pv 4) pe_int (by rfl)) (pw_and1 (pt_cmpR op_gt (pe_callB (call_min2 rfl) (by rfl) B.min (by decide +kernel) (pa_cons (pv 2) (pa_cons (pv 3) pa_nil))) pe_int (by rfl))))) (pss_one
  (ps_ret (pe_call G_law_unsteady_web (hr.mono (by decide)) (by rfl) g_law_unsteady_web k_law_unsteady_web b_law_unsteady_web .nil pass0 (pa_cons (pv 1) pa_nil)))) pss_nil)
  (pss_cons
  (ps_set (i := 5) nd rfl (by first | exact Or.inl rfl | exact Or.inr rfl) (pe_call G_law_steady_web (hr.mono (by decide)) (by rfl) g_law_steady_web k_law_steady_web b_law_steady_web .nil pass0 (pa_cons (pv 0) (pa_cons (pv 1) (pa_cons (pv 2) (pa_cons (pv 3) pa_nil))))))
  (pss_cons
  (ps_if (pt_cmpR op_gt (pv 4) pe_int (by rfl)) (pss_one
  (ps_ret (pv 5))) pss_nil)
  (pss_cons
  (ps_set (i := 6) nd rfl (by first | exact Or.inl rfl | exact Or.inr rfl) (pe_callTy (kList (K := K) rfl) (by rfl) B.list (by decide +kernel) (pa_cons (pe_ix (kIxT (K := K) rfl) (pv 5) pe_int (fun _ _ => rfl)) pa_nil)))
  (pss_cons
  (ps_for PassesOwn.never rfl (pi_range1 (by rfl) B.range (pa_cons (pe_callB (kLen (K := K) rfl) (by rfl) B.len PySem.boot_len (pa_cons (pv 6) pa_nil)) pa_nil)) (pg_name (i := 7) nd rfl (by first | exact Or.inl rfl | exact Or.inr rfl)) (pss_cons
  (ps_setLc (i := 8) (own := [("_law_number", 10)]) (g := (gName 10)) (by rfl) nd rfl rfl (sw_true rfl rfl rfl (by decide +kernel)) (pi_range1 (by rfl) B.range (pa_cons (pe_callB (kLen (K := K) rfl) (by rfl) B.len PySem.boot_len (pa_cons (pe_ix (kIxT (K := K) rfl) (pv 5) pe_int (fun _ _ => rfl)) pa_nil)) pa_nil)) (blkOk_by (own := [("_law_number", 10)]) (N := N_law_web) (sc := defScope s_law_web) (by decide +kernel)) (fun _ _ _ _ _ => (pg_name (i := 10) nd rfl (by first | exact Or.inl rfl | exact Or.inr rfl))) (fun _ _ _ _ _ => (pts_one (pt_cmpR op_eq (pe_ix (kIxT (K := K) rfl) (pe_ix (kIxT (K := K) rfl) (pe_ix (kIxT (K := K) rfl) (pv 5) pe_int (fun _ _ => rfl)) (pv 10) (fun _ _ => rfl)) pe_int (fun _ _ => rfl)) (pv 7) (by rfl)))) (fun _ _ _ _ _ => (pv 10)))
  (pss_cons
  (ps_setLc (i := 9) (own := [("_law_number", 10)]) (g := (gName 10)) (by rfl) nd rfl rfl (sw_true rfl rfl rfl (by decide +kernel)) (pi_range1 (by rfl) B.range (pa_cons (pe_callB (kLen (K := K) rfl) (by rfl) B.len PySem.boot_len (pa_cons (pe_ix (kIxT (K := K) rfl) (pv 5) pe_int (fun _ _ => rfl)) pa_nil)) pa_nil)) (blkOk_by (own := [("_law_number", 10)]) (N := N_law_web) (sc := defScope s_law_web) (by decide +kernel)) (fun _ _ _ _ _ => (pg_name (i := 10) nd rfl (by first | exact Or.inl rfl | exact Or.inr rfl))) (fun _ _ _ _ _ => (pts_one (pt_cmpR op_eq (pe_ix (kIxT (K := K) rfl) (pe_ix (kIxT (K := K) rfl) (pe_ix (kIxT (K := K) rfl) (pv 5) pe_int (fun _ _ => rfl)) (pv 10) (fun _ _ => rfl)) pe_int (fun _ _ => rfl)) (pv 7) (by rfl)))) (fun _ _ _ _ _ => (pv 10)))
  (pss_one
  (ps_if (PW.pt (pw_and (pt_cmpR op_gt (pe_op op_add (pe_callB (kLen (K := K) rfl) (by rfl) B.len PySem.boot_len (pa_cons (pv 8) pa_nil)) (pe_callB (kLen (K := K) rfl) (by rfl) B.len PySem.boot_len (pa_cons (pv 9) pa_nil))) pe_int (by rfl)) (pw_and1 (pt_cmpR op_gt (pe_call G_law_take (hr.mono (by decide)) (by rfl) g_law_take k_law_take b_law_take .nil pass0 (pa_cons (pv 1) (pa_cons pe_int pa_nil))) pe_int (by rfl))))) (pss_one
  (ps_asg (pe_tup (pa_cons (pe_ix (kIxT (K := K) rfl) (pe_ix (kIxL (K := K) rfl) (pv 6) (pv 7) (fun _ _ => rfl)) pe_int (fun _ _ => rfl)) (pa_cons (pe_call G_law_wild (hr.mono (by decide)) (by rfl) g_law_wild k_law_wild b_law_wild .nil pass0 (pa_cons (pv 8) (pa_cons (pv 9) pa_nil))) pa_nil))) (pg_sub (pv 6) (pv 7) set_list))) pss_nil)))))
  (pss_one
  (ps_ret (pe_tup (pa_cons (pe_callTy (kTuple (K := K) rfl) (by rfl) B.tuple (by decide +kernel) (pa_cons (pv 6) pa_nil)) (pa_cons (pe_ix (kIxT (K := K) rfl) (pv 5) pe_int (fun _ _ => rfl)) pa_nil))))))))))), ?_⟩
  obtain ⟨s, p, ns, rfl, hs, hsp, rfl, hp, rfl, rfl, qq⟩ := h
  walk_at "sq"
  refine ⟨_, _, rfl, p, 10, rfl, hp, rfl, by decide, fun r1 H1 r10 r1t f1 d1 => ?_⟩
  walk_at "sq"
  refine q_eqI ⟨_, rfl, ite2 (fun e0 => ?_) (fun e0 => ?_)⟩
  · walk_at "sq"
    refine ⟨_, _, rfl, ?_⟩
    walk_at "sq"
    refine q_I ⟨_, rfl, ite2 (fun _ => ?_) (fun e => absurd (by decide) e)⟩
    walk_at "sq"
    refine ⟨_, rfl, p, rfl, d1, fun v2 H2 wb dw f2 d2 t2 => ?_⟩
    exact qq v2 H2 wb dw (f1.trans f2) d2 t2
  refine iteF ?_
  walk_at "sq"
  refine ⟨_, _, _, _, rfl, s, p, ns, rfl, f1.sqL (by simpa using hsp) hs, hsp, rfl, d1, rfl, rfl, fun v2 H2 wb dw f2 d2 t2 => ?_⟩
  have f02 := f1.trans f2
  walk_at "sq"
  refine q_I ⟨_, rfl, ite2 (fun e1 => ?_) (fun e1 => ?_)⟩
  · walk_at "sq"
    exact qq v2 H2 wb dw f02 d2 t2
  obtain ⟨hs0, cs⟩ := wb
  have l6 : cs.length ≤ 6 := dw.n6
  have l100 : hs0.length ≤ 100 := dw.nh
  have thh : Td K H2 v2 (.tuple [.tuple (hs0.map eH), .tuple (cs.map eC)]) := t2
  walk_at "sq"
  refine q_ixT thh (d := .tuple (hs0.map eH)) rfl fun u3 t3 => ?_
  walk_at "sq"
  refine q_listT (T := T) t3 fun lh xs4 H4 hlh f4 hx4 tx4 => ?_
  have nhp : lh ≠ p := by
    obtain ⟨ds, e⟩ := d2
    exact (ne_of_none e hlh).symm
  have flh : Fresh H lh := f02.fresh (Fresh.of hlh)
  have d4 := d2.keep f4
  have f04 := f02.trans (f4.wide d2.m)
  have t4 := thh.mono f4
  walk_at "sq"
  refine q_lenL hx4 ?_
  rw [tx4.length, List.length_map]
  walk_at "sq"
  refine ⟨_, rfl, by omega, by omega, ?_⟩
  rw [Int.toNat_natCast]
  refine for_R (fun i σ H' => ∃ (hs : List (Str × Choice)) (hv : List V) (x7 x8 x9 x10 : Option V), σ = [some (.ref s), some (.ref p), some (.int 5), some (.int 6), some (.int r1), some v2, some (.ref lh), x7, x8, x9, x10] ∧ Fr T [p] H H' ∧ Dr H' p ∧ H' lh = some (.lst hv) ∧ TdAll K H' hv (hs.map eH) ∧ Td K H' v2 (.tuple [.tuple (hs0.map eH), .tuple (cs.map eC)]) ∧ hs.length = hs0.length ∧ Drawn ⟨hs, cs⟩)
    ⟨hs0, xs4, _, _, _, _, rfl, f04, d4, hx4, tx4, t4, rfl, dw⟩ ?_ ?_
  rotate_left
  · rintro σ' H5 ⟨hs, hv, x7, x8, x9, x10, rfl, f5, d5, hh5, th5, t5, hl5, dr5⟩
    dsimp only
    walk_at "sq"
    refine q_tupK (T := T) hh5 th5 fun l8 H8 f8 t8 => ?_
    walk_at "sq"
    refine q_ixT (t5.mono f8) (d := .tuple (cs.map eC)) rfl fun u9 t9 => ?_
    walk_at "sq"
    refine qt (T := T) (K := K) (ds := [.tuple (hs.map eH), .tuple (cs.map eC)]) (.cons t8 (.cons t9 .nil)) fun l10 H10 f10 t10 => ?_
    have fx := f8.trans f10
    exact qq _ _ ⟨hs, cs⟩ dr5 (f5.trans (fx.wide d5.m)) (d5.keep fx) t10
  rintro k σ' H5 hk ⟨hs, hv, x7, x8, x9, x10, rfl, f5, d5, hh5, th5, t5, hl5, dr5⟩
  have hvl : hv.length = hs.length := by rw [th5.length, List.length_map]
  walk_at "sq"
  refine q_ixT t5 (d := .tuple (cs.map eC)) rfl fun u6 t6 => ?_
  walk_at "sq"
  refine q_lenT t6 ?_
  rw [List.length_map]
  walk_at "sq"
  refine ⟨_, rfl, by omega, by omega, ?_⟩
  rw [Int.toNat_natCast]
  refine lc_R (T := T) (K := K) (n := cs.length) (line_of (by omega)) (fun i => (cs[i]?.map fun c => decide (c.2.1 = (k : Int))).getD false) (fun i => .int (i : Int)) (fun _ => rfl) ?_ ?_
  · intro n Hx hn fx R1 R2 r1 r2
    have hcn := List.getElem?_eq_getElem hn
    rw [hcn] at r1 r2
    walk_at "sq"
    refine q_ixT (t5.mono fx) (d := .tuple (cs.map eC)) rfl fun u7 t7 => ?_
    walk_at "sq"
    refine q_ixT t7 (at_nat (by rw [List.getElem?_map, hcn]; rfl)) fun u8 t8 => ?_
    walk_at "sq"
    refine q_ixT t8 (d := .int (cs[n]).2.1) rfl fun u9 t9 => ?_
    obtain rfl := t9.int_inv
    walk_at "sq"
    refine q_eqI ⟨_, rfl, ite2 (fun e => ?_) (fun e => ?_)⟩
    · walk_at "sq"
      exact r1 e _ _ (Fr.refl _) (.int _)
    · exact r2 (Bool.eq_false_iff.mpr e) _ (Fr.refl _)
  intro D8 H8 xs8 hD8 f8 hx8 tx8
  have etx8 : (((List.range cs.length).filter fun i => (cs[i]?.map fun c => decide (c.2.1 = (k : Int))).getD false).map fun (i : Nat) => PyData.int (i : Int)) = (numsOf cs fun c => decide (c.2.1 = (k : Int))).map PyData.int := by
    unfold numsOf
    rw [List.map_map]
    rfl
  rw [etx8] at tx8
  rw [tx8.ints] at hx8
  have t58 := t5.mono f8
  walk_at "sq"
  refine q_ixT t58 (d := .tuple (cs.map eC)) rfl fun u6 t6 => ?_
  walk_at "sq"
  refine q_lenT t6 ?_
  rw [List.length_map]
  walk_at "sq"
  refine ⟨_, rfl, by omega, by omega, ?_⟩
  rw [Int.toNat_natCast]
  refine lc_R (T := T) (K := K) (n := cs.length) (line_of (by omega)) (fun i => (cs[i]?.map fun c => decide (c.1 = (k : Int))).getD false) (fun i => .int (i : Int)) (fun _ => rfl) ?_ ?_
  · intro n Hx hn fx R1 R2 r1 r2
    have hcn := List.getElem?_eq_getElem hn
    rw [hcn] at r1 r2
    walk_at "sq"
    refine q_ixT (t58.mono fx) (d := .tuple (cs.map eC)) rfl fun u7 t7 => ?_
    walk_at "sq"
    refine q_ixT t7 (at_nat (by rw [List.getElem?_map, hcn]; rfl)) fun u8 t8 => ?_
    walk_at "sq"
    refine q_ixT t8 (d := .int (cs[n]).1) rfl fun u9 t9 => ?_
    obtain rfl := t9.int_inv
    walk_at "sq"
    refine q_eqI ⟨_, rfl, ite2 (fun e => ?_) (fun e => ?_)⟩
    · walk_at "sq"
      exact r1 e _ _ (Fr.refl _) (.int _)
    · exact r2 (Bool.eq_false_iff.mpr e) _ (Fr.refl _)
  intro D9 H9 xs9 hD9 f9 hx9 tx9
  have etx9 : (((List.range cs.length).filter fun i => (cs[i]?.map fun c => decide (c.1 = (k : Int))).getD false).map fun (i : Nat) => PyData.int (i : Int)) = (numsOf cs fun c => decide (c.1 = (k : Int))).map PyData.int := by
    unfold numsOf
    rw [List.map_map]
    rfl
  rw [etx9] at tx9
  rw [tx9.ints] at hx9
  have d9 := (d5.keep f8).keep f9
  have n8p : D8 ≠ p := by
    obtain ⟨ds, e⟩ := d5
    exact (ne_of_none e hD8).symm
  have n9p : D9 ≠ p := by
    obtain ⟨ds, e⟩ := d5.keep f8
    exact (ne_of_none e hD9).symm
  have hx8 := f9.lst0 hx8
  have f89 := f8.trans f9
  have hh9 := f89.lst0 hh5
  have th9 := th5.mono f89
  have t9 := t5.mono f89
  have f09 := f5.trans (f89.wide d5.m)
  have bn : (numsOf cs fun c => decide (c.2.1 = (k : Int))).length ≤ 12 := nums_le12 (by omega)
  have sn : (numsOf cs fun c => decide (c.1 = (k : Int))).length ≤ 12 := nums_le12 (by omega)
  walk_at "sq"
  refine q_lenL hx8 ?_
  rw [List.length_map]
  walk_at "sq"
  refine q_lenL hx9 ?_
  rw [List.length_map]
  refine q_I ?_
  walk_at "sq"
  refine q_I ⟨_, rfl, ite2 (fun e2 => ?_) (fun e2 => ?_)⟩
  rotate_left
  · refine iteF ?_
    walk_at "sq"
    exact ⟨hs, hv, _, _, _, _, rfl, f09, d9, hh9, th9, t9, hl5, dr5⟩
  have e2 := of_decide_eq_true e2
  walk_at "sq"
  refine ⟨_, _, rfl, p, 4, rfl, d9, rfl, by decide, fun r10 H10 _ _ f10 d10 => ?_⟩
  have nm2 : ∀ {c : Addr}, c ≠ p → c ∉ [p] := fun h => by simpa using h
  have hh10 := f10.lst hh9 (nm2 nhp)
  have th10 := th9.mono f10
  have t10 := t9.mono f10
  walk_at "sq"
  refine q_I ⟨_, rfl, ite2 (fun e3 => ?_) (fun e3 => ?_)⟩
  rotate_left
  · walk_at "sq"
    exact ⟨hs, hv, _, _, _, _, rfl, f09.trans f10, d10, hh10, th10, t10, hl5, dr5⟩
  obtain ⟨hd, hhd⟩ : ∃ x, hs[k]? = some x := ⟨_, List.getElem?_eq_getElem (by omega)⟩
  obtain ⟨nm, ch0⟩ := hd
  obtain ⟨v11, hv11, tv11⟩ := th10.atI (k := (k : Int)) (at_nat (by rw [List.getElem?_map, hhd]; rfl))
  refine r_asgSub1 ?_
  walk_at "sq"
  refine q_ixL hh10 hv11 ?_
  walk_at "sq"
  refine q_ixT tv11 (d := .str nm) rfl fun u12 t12 => ?_
  obtain rfl := t12.str_inv
  walk_at "sq"
  refine ⟨_, _, rfl, D8, D9, _, _, rfl, f10.lst hx8 (nm2 n8p), rfl, f10.lst hx9 (nm2 n9p), nums_asc, nums_asc, dr5.apart (k : Int), bn, sn, by omega, fun v13 H13 pl okp f13 t13 => ?_⟩
  walk_at "sq"
  refine qt (T := T) (K := K) (ds := [.str nm, eCh (.plain pl)]) (.cons (.str _) (.cons t13 .nil)) fun l14 H14 f14 t14 => ?_
  have f134 := f13.trans f14
  have hh14 := f134.lst0 hh10
  have d14 := d10.keep f134
  walk_at "sq"
  refine ⟨lh, hv, (k : Int), k, rfl, rfl, hh14, ixN_nat (by omega), ?_⟩
  have g14 : Fr T [lh] H14 (upd H14 lh (.lst (hv.set k (.ref l14)))) := Fr.set (fun q hq => by simp at hq; subst hq; exact ⟨_, hh14⟩) (by simp)
  refine ⟨hs.set k (nm, .plain pl), hv.set k (.ref l14), _, _, _, _, rfl, ((f09.trans f10).trans (f134.wide d10.m)).mut flh hh14, d14.upd nhp.symm, upd_same, ?_, (t10.mono f134).mono g14, by rw [List.length_set]; exact hl5, dr5.put okp.choice⟩
  rw [List.map_set]
  exact ((th10.mono f134).set t14).mono g14
end
end Nc
/-! F1: the market of a good web; the next stands settle. -/
namespace Nc
variable {wb : Web PySem.Str}
def selC (wb : Web PySem.Str) (c : Int) : Int := ((wb.cs[c.toNat]?).map fun x => x.1).getD 0
def buyC (wb : Web PySem.Str) (c : Int) : Int := ((wb.cs[c.toNat]?).map fun x => x.2.1).getD 0
def topR (rk : Int → Nat) : List Ctr → Nat
  | [] => 0
  | c :: cs => max (rk c.2.1 + 1) (topR rk cs)
theorem topR_lt {rk : Int → Nat} : ∀ {cs : List Ctr} {c : Ctr}, c ∈ cs → rk c.2.1 < topR rk cs
  | d :: cs, c, h => by
    unfold topR
    rcases List.mem_cons.mp h with rfl | h
    · omega
    · have := topR_lt (rk := rk) h
      omega
theorem at_C {c : Int} (h : InC wb.cs c) : ∃ d, wb.cs[c.toNat]? = some d ∧ d ∈ wb.cs ∧ selC wb c = d.1 ∧ buyC wb c = d.2.1 := by
  have hl : c.toNat < wb.cs.length := by
    have := h.1
    have := h.2
    omega
  have e := List.getElem?_eq_getElem hl
  refine ⟨_, e, List.getElem_mem hl, ?_, ?_⟩
  · unfold selC
    rw [e]
    rfl
  · unfold buyC
    rw [e]
    rfl
theorem buys_iff {f c : Int} : c ∈ buysOf wb.cs f ↔ InC wb.cs c ∧ buyC wb c = f := by
  unfold buysOf
  rw [idxs_mem]
  constructor
  · rintro ⟨h0, d, hd, hp⟩
    have hl := (List.getElem?_eq_some_iff.mp hd).1
    refine ⟨⟨h0, by omega⟩, ?_⟩
    unfold buyC
    rw [hd]
    exact of_decide_eq_true hp
  · rintro ⟨h, e⟩
    obtain ⟨d, hd, _, _, h2⟩ := at_C h
    exact ⟨h.1, d, hd, decide_eq_true (h2.symm.trans e)⟩
theorem sells_iff {f c : Int} : c ∈ sellsOf wb.cs f ↔ InC wb.cs c ∧ selC wb c = f := by
  unfold sellsOf
  rw [idxs_mem]
  constructor
  · rintro ⟨h0, d, hd, hp⟩
    have hl := (List.getElem?_eq_some_iff.mp hd).1
    refine ⟨⟨h0, by omega⟩, ?_⟩
    unfold selC
    rw [hd]
    exact of_decide_eq_true hp
  · rintro ⟨h, e⟩
    obtain ⟨d, hd, _, h1, _⟩ := at_C h
    exact ⟨h.1, d, hd, decide_eq_true (h1.symm.trans e)⟩
theorem own_iff {f c : Int} (h : InC wb.cs c) : c ∈ ownOf wb.cs f ↔ selC wb c = f ∨ buyC wb c = f := by
  obtain ⟨d, hd, _, h1, h2⟩ := at_C h
  rw [ownOf_mem h.1 hd, h1, h2]
  simp [eq_comm]
theorem choose_good (g : GoodW wb) {f : Int} (hf : InH wb f) : Good (buysOf wb.cs f) (sellsOf wb.cs f) (chooseW wb f) := by
  obtain ⟨x, hx, _, _, hc⟩ := inH_at hf
  have G := g.good f.toNat x hx
  rw [Int.toNat_of_nonneg hf.1] at G
  exact G.congr (fun off => by rw [hc, sortI_nodup]; exact G.nd off) (fun off c => by rw [hc, sortI_mem])
/-- what the house f takes, as a statement -/
noncomputable def chP (wb : Web PySem.Str) (f : Int) (Y : Int → Prop) (c : Int) : Prop := InH wb f ∧ c ∈ chooseW wb f (fun d => @decide (Y d) (Classical.propDecidable _))
theorem chP_of {f : Int} (hf : InH wb f) {off : Int → Bool} {Y : Int → Prop} (h : ∀ d, off d = true ↔ Y d) (c : Int) : chP wb f Y c ↔ c ∈ chooseW wb f off := by
  have e : (fun d => @decide (Y d) (Classical.propDecidable _)) = off := by
    funext d
    by_cases hd : Y d
    · rw [(h d).mpr hd]
      exact @decide_eq_true _ (Classical.propDecidable _) hd
    · rw [Bool.eq_false_iff.mpr fun z => hd ((h d).mp z)]
      exact @decide_eq_false _ (Classical.propDecidable _) hd
  unfold chP
  rw [e]
  exact ⟨fun z => z.2, fun z => ⟨hf, z⟩⟩
theorem dP {p : Prop} : @decide p (Classical.propDecidable _) = true ↔ p := ⟨fun h => @of_decide_eq_true _ (Classical.propDecidable _) h, fun h => @decide_eq_true _ (Classical.propDecidable _) h⟩
theorem seI (g : GoodW wb) {c : Int} (h : InC wb.cs c) : InH wb (selC wb c) := by
  obtain ⟨d, _, hm, h1, _⟩ := at_C h
  rw [h1]
  exact g.ok.se d hm
theorem buI (g : GoodW wb) {c : Int} (h : InC wb.cs c) : InH wb (buyC wb c) := by
  obtain ⟨d, _, hm, _, h2⟩ := at_C h
  rw [h2]
  exact g.ok.bu d hm
noncomputable def mkt (g : GoodW wb) : Mkt Int Int where
  U := InC wb.cs
  s := selC wb
  b := buyC wb
  ch := chP wb
  rank := g.rank.choose
  asc := fun c h => by
    obtain ⟨d, _, hm, h1, h2⟩ := at_C h
    rw [h1, h2]
    exact g.rank.choose_spec d hm
  top := topR g.rank.choose wb.cs
  bd := fun c h => by
    obtain ⟨d, _, hm, h1, h2⟩ := at_C h
    rw [h2]
    exact topR_lt hm
  sub := fun f Y c h => by
    obtain ⟨hf, hc⟩ := h
    obtain ⟨h1, h2⟩ := (choose_good g hf).mem _ c hc
    refine ⟨dP.mp h1, ?_⟩
    rcases h2 with z | z
    · exact ⟨(buys_iff.mp z).1, Or.inr (buys_iff.mp z).2⟩
    · exact ⟨(sells_iff.mp z).1, Or.inl (sells_iff.mp z).2⟩
  irc := fun f Y Z h1 h2 c => by
    by_cases hf : InH wb f
    · have e := (choose_good g hf).irc (fun d => @decide (Y d) (Classical.propDecidable _)) (fun d => @decide (Z d) (Classical.propDecidable _)) (fun d hd => dP.mpr (h1 d (dP.mp hd))) (fun d hd => dP.mpr (h2 d ⟨hf, hd⟩)) c
      exact ⟨fun z => ⟨hf, e.mp z.2⟩, fun z => ⟨hf, e.mpr z.2⟩⟩
    · exact ⟨fun z => absurd z.1 hf, fun z => absurd z.1 hf⟩
  fsb := fun f Y Y' c h1 h2 hb hy h => by
    obtain ⟨hf, hc⟩ := h
    have hU : InC wb.cs c := by
      rcases ((choose_good g hf).mem _ c hc).2 with z | z
      · exact (buys_iff.mp z).1
      · exact (sells_iff.mp z).1
    exact ⟨hf, (choose_good g hf).fsb _ _ c (fun d hd z => dP.mpr (h1 d (buys_iff.mp hd).1 (buys_iff.mp hd).2 (dP.mp z))) (fun d hd z => dP.mpr (h2 d (sells_iff.mp hd).1 (sells_iff.mp hd).2 (dP.mp z))) (buys_iff.mpr ⟨hU, hb⟩) (dP.mpr hy) hc⟩
  fss := fun f Y Y' c h1 h2 hb hy h => by
    obtain ⟨hf, hc⟩ := h
    have hU : InC wb.cs c := by
      rcases ((choose_good g hf).mem _ c hc).2 with z | z
      · exact (buys_iff.mp z).1
      · exact (sells_iff.mp z).1
    exact ⟨hf, (choose_good g hf).fss _ _ c (fun d hd z => dP.mpr (h1 d (sells_iff.mp hd).1 (sells_iff.mp hd).2 (dP.mp z))) (fun d hd z => dP.mpr (h2 d (buys_iff.mp hd).1 (buys_iff.mp hd).2 (dP.mp z))) (sells_iff.mpr ⟨hU, hb⟩) (dP.mpr hy) hc⟩
theorem fin_U (g : GoodW wb) : ∃ l : List Int, ∀ c, (mkt g).U c → c ∈ l := ⟨rangeI wb.cs.length, fun c h => by
  have h : InC wb.cs c := h
  unfold rangeI
  rw [List.mem_map]
  exact ⟨c.toNat, List.mem_range.mpr (by have := h.1; have := h.2; omega), by have := h.1; omega⟩⟩
/-! ### the next stand -/
theorem chL_iff (g : GoodW wb) {f : Int} (hf : InH wb f) (os as : List Int) (c : Int) : c ∈ chL wb f os as ↔ (mkt g).ch f ((mkt g).off (· ∈ os) (· ∈ as) f) c := by
  have e1 : (mkt g).ch f ((mkt g).off (· ∈ os) (· ∈ as) f) c ↔ (mkt g).ch f (· ∈ offTo wb f os as) c := by
    refine (mkt g).ch_own (fun d hd => ?_) c
    have hU : InC wb.cs d := hd.1
    show ((buyC wb d = f ∧ d ∈ os) ∨ (selC wb d = f ∧ d ∈ as)) ↔ d ∈ offTo wb f os as
    unfold offTo
    rw [sortI_mem, List.mem_append, List.mem_filter, List.mem_filter, buys_iff, sells_iff]
    simp [hU]
  rw [e1]
  exact (chP_of hf (fun d => by simp) c).symm
theorem step1 (g : GoodW wb) (s : List Int × List Int) (c : Int) : c ∈ (step wb s).1 ↔ InC wb.cs c ∧ (mkt g).nextO (· ∈ s.1) (· ∈ s.2) c := by
  unfold step
  simp only
  rw [List.mem_map]
  constructor
  · rintro ⟨⟨d, i⟩, hm, rfl⟩
    obtain ⟨hm, hp⟩ := List.mem_filter.mp hm
    have hd := List.mem_zipIdx_iff_getElem?.mp hm
    simp only at hd ⊢
    have hl := (List.getElem?_eq_some_iff.mp hd).1
    have hU : InC wb.cs (i : Int) := ⟨by omega, by omega⟩
    have e1 : selC wb (i : Int) = d.1 := by
      unfold selC
      rw [Int.toNat_natCast, hd]
      rfl
    refine ⟨hU, ?_⟩
    unfold stepP at hp
    rw [Bool.or_eq_true] at hp
    rcases hp with z | z
    · exact Or.inl (by simpa using z)
    · refine Or.inr ?_
      have z := of_decide_eq_true z
      simp only at z
      rw [← e1] at z
      exact (chL_iff g (seI g hU) _ _ _).mp z
  · rintro ⟨hU, hn⟩
    obtain ⟨d, hd, hm, e1, e2⟩ := at_C hU
    have ec : ((c.toNat : Nat) : Int) = c := Int.toNat_of_nonneg hU.1
    refine ⟨(d, c.toNat), List.mem_filter.mpr ⟨List.mem_zipIdx_iff_getElem?.mpr hd, ?_⟩, ec⟩
    unfold stepP
    rw [Bool.or_eq_true]
    simp only
    rw [ec]
    rcases hn with z | z
    · exact Or.inl (by simpa using z)
    · refine Or.inr (decide_eq_true ?_)
      rw [← e1]
      exact (chL_iff g (seI g hU) _ _ _).mpr z
theorem step2 (g : GoodW wb) (s : List Int × List Int) (c : Int) : c ∈ (step wb s).2 ↔ InC wb.cs c ∧ (mkt g).nextA (· ∈ s.1) (· ∈ s.2) c := by
  unfold step
  simp only
  rw [List.mem_map]
  constructor
  · rintro ⟨⟨d, i⟩, hm, rfl⟩
    obtain ⟨hm, hp⟩ := List.mem_filter.mp hm
    have hd := List.mem_zipIdx_iff_getElem?.mp hm
    simp only at hd ⊢
    have hl := (List.getElem?_eq_some_iff.mp hd).1
    have hU : InC wb.cs (i : Int) := ⟨by omega, by omega⟩
    have e1 : buyC wb (i : Int) = d.2.1 := by
      unfold buyC
      rw [Int.toNat_natCast, hd]
      rfl
    refine ⟨hU, ?_⟩
    unfold stepQ at hp
    rw [Bool.or_eq_true] at hp
    rcases hp with z | z
    · exact Or.inl (by simpa using z)
    · refine Or.inr ?_
      have z := of_decide_eq_true z
      simp only at z
      rw [← e1] at z
      exact (chL_iff g (buI g hU) _ _ _).mp z
  · rintro ⟨hU, hn⟩
    obtain ⟨d, hd, hm, e1, e2⟩ := at_C hU
    have ec : ((c.toNat : Nat) : Int) = c := Int.toNat_of_nonneg hU.1
    refine ⟨(d, c.toNat), List.mem_filter.mpr ⟨List.mem_zipIdx_iff_getElem?.mpr hd, ?_⟩, ec⟩
    unfold stepQ
    rw [Bool.or_eq_true]
    simp only
    rw [ec]
    rcases hn with z | z
    · exact Or.inl (by simpa using z)
    · refine Or.inr (decide_eq_true ?_)
      rw [← e2]
      exact (chL_iff g (buI g hU) _ _ _).mpr z
/-! ### sets in ascending order -/
theorem asc_nd {l : List Int} (h : l.Pairwise (· < ·)) : l.Nodup := h.imp fun z => by omega
theorem asc_uniq {l l' : List Int} (h : l.Pairwise (· < ·)) (h' : l'.Pairwise (· < ·)) (e : ∀ c, c ∈ l ↔ c ∈ l') : l = l' :=
  sorted_uniq ((List.perm_ext_iff_of_nodup (asc_nd h) (asc_nd h')).mpr e) (h.imp fun z => Int.le_of_lt z) (h'.imp fun z => Int.le_of_lt z)
theorem asc_sub {l l' : List Int} (h : l.Pairwise (· < ·)) (h' : l'.Pairwise (· < ·)) (e : ∀ c ∈ l, c ∈ l') : l.Sublist l' := by
  have e1 : l'.filter (fun c => decide (c ∈ l)) = l := asc_uniq (h'.sublist List.filter_sublist) h fun c => by
    rw [List.mem_filter]
    exact ⟨fun z => of_decide_eq_true z.2, fun z => ⟨e c z, decide_eq_true z⟩⟩
  have e2 : (l'.filter (fun c => decide (c ∈ l))).Sublist l' := List.filter_sublist
  rwa [e1] at e2
def Can (wb : Web PySem.Str) (l : List Int) : Prop := l.Pairwise (· < ·) ∧ ∀ c ∈ l, InC wb.cs c
theorem range_asc (n : Nat) : (rangeI n).Pairwise (· < ·) := by
  unfold rangeI
  rw [List.pairwise_map]
  exact List.pairwise_lt_range.imp fun h => by omega
theorem range_mem {n : Nat} {c : Int} : c ∈ rangeI n ↔ 0 ≤ c ∧ c < n := by
  unfold rangeI
  rw [List.mem_map]
  constructor
  · rintro ⟨i, hi, rfl⟩
    have := List.mem_range.mp hi
    omega
  · rintro ⟨h0, h1⟩
    exact ⟨c.toNat, List.mem_range.mpr (by omega), by omega⟩
theorem can_all (wb : Web PySem.Str) : Can wb (rangeI wb.cs.length) := ⟨range_asc _, fun c hc => range_mem.mp hc⟩
theorem can_nil (wb : Web PySem.Str) : Can wb [] := ⟨List.Pairwise.nil, fun c hc => by cases hc⟩
theorem Can.len {l : List Int} (h : Can wb l) : l.length ≤ wb.cs.length := by
  have := (asc_sub h.1 (range_asc wb.cs.length) fun c hc => range_mem.mpr (h.2 c hc)).length_le
  unfold rangeI at this
  rwa [List.length_map, List.length_range] at this
theorem zip_asc (cs : List Ctr) (p : Ctr × Nat → Bool) : ((cs.zipIdx.filter p).map fun x => (x.2 : Int)).Pairwise (· < ·) := by
  rw [List.pairwise_map]
  refine List.Pairwise.sublist List.filter_sublist ?_
  refine List.pairwise_iff_getElem.mpr fun i j hi hj hij => ?_
  rw [List.getElem_zipIdx, List.getElem_zipIdx]
  simp only
  omega
theorem can_step1 (g : GoodW wb) (s : List Int × List Int) : Can wb (step wb s).1 := ⟨zip_asc _ _, fun c hc => ((step1 g s c).mp hc).1⟩
theorem can_step2 (g : GoodW wb) (s : List Int × List Int) : Can wb (step wb s).2 := ⟨zip_asc _ _, fun c hc => ((step2 g s c).mp hc).1⟩
theorem can_iter (g : GoodW wb) {s : List Int × List Int} (h : Can wb s.1 ∧ Can wb s.2) (n : Nat) : Can wb (iter (step wb) n s).1 ∧ Can wb (iter (step wb) n s).2 := by
  cases n with
  | zero => exact h
  | succ n => exact ⟨can_step1 g _, can_step2 g _⟩
/-- a settled stand -/
theorem settled_of (g : GoodW wb) {s : List Int × List Int} (h : step wb s = s) : (mkt g).Settled (· ∈ s.1) (· ∈ s.2) := fun c hU => by
  have hU : InC wb.cs c := hU
  constructor
  · have e := step1 g s c
    rw [h] at e
    exact ⟨fun z => (e.mp z).2, fun z => e.mpr ⟨hU, z⟩⟩
  · have e := step2 g s c
    rw [h] at e
    exact ⟨fun z => (e.mp z).2, fun z => e.mpr ⟨hU, z⟩⟩
/-- one stand is at most another -/
def LeS (wb : Web PySem.Str) (s t : List Int × List Int) : Prop := ∀ c, InC wb.cs c → (c ∈ s.1 → c ∈ t.1) ∧ (c ∈ t.2 → c ∈ s.2)
theorem step_mono (g : GoodW wb) {s t : List Int × List Int} (h : LeS wb s t) : LeS wb (step wb s) (step wb t) := fun c hU => by
  have m := (mkt g).next_mono (O := (· ∈ s.1)) (A := (· ∈ s.2)) (O' := (· ∈ t.1)) (A' := (· ∈ t.2)) h c hU
  exact ⟨fun z => (step1 g t c).mpr ⟨hU, m.1 ((step1 g s c).mp z).2⟩, fun z => (step2 g s c).mpr ⟨hU, m.2 ((step2 g t c).mp z).2⟩⟩
theorem no_fall (μ : Nat → Nat) : ∃ n, μ n ≤ μ (n + 1) := Classical.byContradiction fun h => by
  have h' : ∀ n, μ (n + 1) < μ n := fun n => Nat.lt_of_not_le fun z => h ⟨n, z⟩
  have h2 : ∀ n, μ n + n ≤ μ 0 := by
    intro n
    induction n with
    | zero => simp
    | succ n ih =>
      have := h' n
      omega
  have := h2 (μ 0 + 1)
  omega
theorem LeS.eq {s t : List Int × List Int} (h : LeS wb s t) (cs : Can wb s.1 ∧ Can wb s.2) (ct : Can wb t.1 ∧ Can wb t.2) : (s.1.length ≤ t.1.length ∧ t.2.length ≤ s.2.length) ∧ (t.1.length ≤ s.1.length → s.2.length ≤ t.2.length → s = t) := by
  have a := asc_sub cs.1.1 ct.1.1 fun c hc => (h c (cs.1.2 c hc)).1 hc
  have b := asc_sub ct.2.1 cs.2.1 fun c hc => (h c (ct.2.2 c hc)).2 hc
  refine ⟨⟨a.length_le, b.length_le⟩, fun h1 h2 => ?_⟩
  have e1 := a.eq_of_length_le h1
  have e2 := b.eq_of_length_le h2
  exact Prod.ext e1 e2.symm
theorem down (g : GoodW wb) (n : Nat) : LeS wb (iter (step wb) (n + 1) (rangeI wb.cs.length, [])) (iter (step wb) n (rangeI wb.cs.length, [])) := by
  induction n with
  | zero => exact fun c hU => ⟨fun _ => range_mem.mpr hU, fun z => absurd z List.not_mem_nil⟩
  | succ n ih => exact step_mono g ih
theorem up (g : GoodW wb) (n : Nat) : LeS wb (iter (step wb) n ([], rangeI wb.cs.length)) (iter (step wb) (n + 1) ([], rangeI wb.cs.length)) := by
  induction n with
  | zero => exact fun c hU => ⟨fun z => absurd z List.not_mem_nil, fun _ => range_mem.mpr hU⟩
  | succ n ih => exact step_mono g ih
theorem ends_down (g : GoodW wb) : ∃ n, iter (step wb) (n + 1) (rangeI wb.cs.length, []) = iter (step wb) n (rangeI wb.cs.length, []) := by
  obtain ⟨n, hn⟩ := no_fall fun n => (iter (step wb) n (rangeI wb.cs.length, [])).1.length + (wb.cs.length - (iter (step wb) n (rangeI wb.cs.length, [])).2.length)
  have c1 := can_iter g (s := (rangeI wb.cs.length, [])) ⟨can_all wb, can_nil wb⟩ n
  have c2 := can_iter g (s := (rangeI wb.cs.length, [])) ⟨can_all wb, can_nil wb⟩ (n + 1)
  obtain ⟨⟨h1, h2⟩, h3⟩ := (down g n).eq c2 c1
  have l1 := c1.2.len
  have l2 := c2.2.len
  exact ⟨n, h3 (by omega) (by omega)⟩
theorem ends_up (g : GoodW wb) : ∃ n, iter (step wb) (n + 1) ([], rangeI wb.cs.length) = iter (step wb) n ([], rangeI wb.cs.length) := by
  obtain ⟨n, hn⟩ := no_fall fun n => (iter (step wb) n ([], rangeI wb.cs.length)).2.length + (wb.cs.length - (iter (step wb) n ([], rangeI wb.cs.length)).1.length)
  have c1 := can_iter g (s := ([], rangeI wb.cs.length)) ⟨can_nil wb, can_all wb⟩ n
  have c2 := can_iter g (s := ([], rangeI wb.cs.length)) ⟨can_nil wb, can_all wb⟩ (n + 1)
  obtain ⟨⟨h1, h2⟩, h3⟩ := (up g n).eq c1 c2
  have l1 := c1.1.len
  have l2 := c2.1.len
  exact ⟨n, (h3 (by omega) (by omega)).symm⟩
/-- every settled stand is at most the greatest one -/
theorem below (g : GoodW wb) {O A : Int → Prop} (h : (mkt g).Settled O A) (n : Nat) (c : Int) (hU : InC wb.cs c) : (O c → c ∈ (iter (step wb) n (rangeI wb.cs.length, [])).1) ∧ (c ∈ (iter (step wb) n (rangeI wb.cs.length, [])).2 → A c) := by
  induction n generalizing c with
  | zero => exact ⟨fun _ => range_mem.mpr hU, fun z => absurd z List.not_mem_nil⟩
  | succ n ih =>
    have m := (mkt g).next_mono (O := O) (A := A) (O' := (· ∈ (iter (step wb) n (rangeI wb.cs.length, [])).1)) (A' := (· ∈ (iter (step wb) n (rangeI wb.cs.length, [])).2)) (fun d hd => ih d hd) c hU
    exact ⟨fun z => (step1 g _ c).mpr ⟨hU, m.1 ((h c hU).1.mp z)⟩, fun z => (h c hU).2.mpr (m.2 ((step2 g _ c).mp z).2)⟩
theorem above (g : GoodW wb) {O A : Int → Prop} (h : (mkt g).Settled O A) (n : Nat) (c : Int) (hU : InC wb.cs c) : (c ∈ (iter (step wb) n ([], rangeI wb.cs.length)).1 → O c) ∧ (A c → c ∈ (iter (step wb) n ([], rangeI wb.cs.length)).2) := by
  induction n generalizing c with
  | zero => exact ⟨fun z => absurd z List.not_mem_nil, fun _ => range_mem.mpr hU⟩
  | succ n ih =>
    have m := (mkt g).next_mono (O := (· ∈ (iter (step wb) n ([], rangeI wb.cs.length)).1)) (A := (· ∈ (iter (step wb) n ([], rangeI wb.cs.length)).2)) (O' := O) (A' := A) (fun d hd => ih d hd) c hU
    exact ⟨fun z => (h c hU).1.mpr (m.1 ((step1 g _ c).mp z).2), fun z => (step2 g _ c).mpr ⟨hU, m.2 ((h c hU).2.mp z)⟩⟩
end Nc
/-! F2: masks and networks at rest; what the law asks is so. -/
namespace Nc
variable {wb : Web PySem.Str}
theorem setL_and {m k : Nat} {c : Int} : c ∈ setL (m &&& k) ↔ c ∈ setL m ∧ c ∈ setL k := by
  rw [setL_mem, setL_mem, setL_mem, Nat.testBit_and, Bool.and_eq_true]
  exact ⟨fun ⟨a, b, d, e⟩ => ⟨⟨a, b, d⟩, a, b, e⟩, fun ⟨⟨a, b, d⟩, _, _, e⟩ => ⟨a, b, d, e⟩⟩
theorem setL_or {m k : Nat} {c : Int} : c ∈ setL (m ||| k) ↔ c ∈ setL m ∨ c ∈ setL k := by
  rw [setL_mem, setL_mem, setL_mem, Nat.testBit_or, Bool.or_eq_true]
  constructor
  · rintro ⟨a, b, z | z⟩
    · exact Or.inl ⟨a, b, z⟩
    · exact Or.inr ⟨a, b, z⟩
  · rintro (⟨a, b, z⟩ | ⟨a, b, z⟩)
    · exact ⟨a, b, Or.inl z⟩
    · exact ⟨a, b, Or.inr z⟩
theorem mask_eq {m k : Nat} (hm : m < 2 ^ 12) (hk : k < 2 ^ 12) : m = k ↔ ∀ c, c ∈ setL m ↔ c ∈ setL k :=
  ⟨fun e c => by rw [e], fun h => by
    rw [← bits_setL hm, ← bits_setL hk]
    exact bitsN_perm ((List.perm_ext_iff_of_nodup (setL_nodup _) (setL_nodup _)).mpr h)⟩
theorem mask_pos {m : Nat} (hm : m < 2 ^ 12) : 0 < m ↔ ∃ c, c ∈ setL m := by
  have e := mask_eq hm (show 0 < 2 ^ 12 by decide)
  have z : ∀ c, c ∉ setL 0 := fun c h => by
    have := (setL_mem.mp h).2.2
    simp at this
  constructor
  · intro h
    refine Classical.byContradiction fun n => ?_
    have := e.mpr fun c => ⟨fun y => absurd ⟨c, y⟩ n, fun y => absurd y (z c)⟩
    omega
  · rintro ⟨c, hc⟩
    refine Nat.pos_of_ne_zero fun e0 => ?_
    rw [e0] at hc
    exact z c hc
theorem bits_set {r : List Int} (nd : r.Nodup) (h : ∀ c ∈ r, 0 ≤ c ∧ c < 12) (c : Int) : c ∈ setL (bitsN r) ↔ c ∈ r := setL_bits nd h c
theorem nums_in12 (h6 : wb.cs.length ≤ 6) {p : Ctr → Bool} : ∀ c ∈ numsOf wb.cs p, 0 ≤ c ∧ c < 12 := fun c hc => by
  obtain ⟨h0, d, hd, _⟩ := nums_mem.mp hc
  have := (List.getElem?_eq_some_iff.mp hd).1
  omega
theorem ent_own (g : GoodW wb) (h : Nat) (c : Int) : c ∈ setL (entOf wb h).o ↔ (mkt g).own (h : Int) c := by
  show c ∈ setL (bitsN (numsOf wb.cs fun c => decide (c.2.1 = (h : Int))) ||| bitsN (numsOf wb.cs fun c => decide (c.1 = (h : Int)))) ↔ InC wb.cs c ∧ (selC wb c = h ∨ buyC wb c = h)
  rw [setL_or, bits_set nums_nodup (nums_in12 g.n6), bits_set nums_nodup (nums_in12 g.n6), nums_idxs, nums_idxs]
  have a := buys_iff (wb := wb) (f := (h : Int)) (c := c)
  have b := sells_iff (wb := wb) (f := (h : Int)) (c := c)
  unfold buysOf at a
  unfold sellsOf at b
  rw [a, b]
  constructor
  · rintro (⟨x, y⟩ | ⟨x, y⟩)
    · exact ⟨x, Or.inr y⟩
    · exact ⟨x, Or.inl y⟩
  · rintro ⟨x, y | y⟩
    · exact Or.inr ⟨x, y⟩
    · exact Or.inl ⟨x, y⟩
theorem takes_ch (g : GoodW wb) {h : Nat} (hh : h < wb.hs.length) {off : Int → Bool} {Y : Int → Prop} (e : ∀ d, off d = true ↔ Y d) (c : Int) : c ∈ takesL wb h off ↔ (mkt g).ch (h : Int) Y c := by
  have hf : InH wb (h : Int) := ⟨by omega, by omega⟩
  obtain ⟨x, hx, _, _, hc⟩ := inH_at hf
  have e1 := (chP_of hf e c)
  refine Iff.trans ?_ e1.symm
  rw [hc, takes_eq g (by simpa using hx)]
theorem chM_set (g : GoodW wb) {h : Nat} (hh : h < wb.hs.length) (m : Nat) (c : Int) : c ∈ setL (chM wb h m) ↔ (mkt g).ch (h : Int) (· ∈ setL m) c := by
  unfold chM
  rw [bits_set (takes_nodup g) (fun c hc => by have := takes_6 g hc; omega), takes_ch g hh (Y := (· ∈ setL m)) (fun d => by simp)]
theorem chM_lt (g : GoodW wb) (h m : Nat) : chM wb h m < 2 ^ 12 := bits_lt (takes_nodup g) (fun c hc => (takes_6 g hc).1) fun c hc => by have := takes_6 g hc; omega
theorem o_lt (g : GoodW wb) (h : Nat) : (entOf wb h).o < 2 ^ 12 := Nat.lt_of_lt_of_le (own_lt g.n6 h) (by decide)
theorem and_lt {a b : Nat} (h : b < 2 ^ 12) : a &&& b < 2 ^ 12 := Nat.lt_of_le_of_lt Nat.and_le_right h
theorem plan_mem {e : Ent} : e ∈ planUp wb wb.hs.length ↔ ∃ h : Nat, h < wb.hs.length ∧ e = entOf wb h ∧ 0 < e.o := by
  unfold planUp
  rw [List.mem_filter, List.mem_map]
  constructor
  · rintro ⟨⟨h, hh, rfl⟩, ho⟩
    exact ⟨h, List.mem_range.mp hh, rfl, of_decide_eq_true ho⟩
  · rintro ⟨h, hh, rfl, ho⟩
    exact ⟨⟨h, List.mem_range.mpr hh, rfl⟩, decide_eq_true ho⟩
/-- a house that owns something stands in the plan -/
theorem own_plan (g : GoodW wb) {f c : Int} (h : (mkt g).own f c) : ∃ k : Nat, k < wb.hs.length ∧ f = k ∧ entOf wb k ∈ planUp wb wb.hs.length := by
  have hf : InH wb f := by
    obtain ⟨hU, rfl | rfl⟩ := h
    · exact seI g hU
    · exact buI g hU
  obtain ⟨k, rfl⟩ := Int.eq_ofNat_of_zero_le hf.1
  have hk : k < wb.hs.length := by
    have := hf.2
    omega
  exact ⟨k, hk, rfl, plan_mem.mpr ⟨k, hk, rfl, (mask_pos (o_lt g k)).mpr ⟨c, (ent_own g k c).mpr h⟩⟩⟩
theorem kept_iff (g : GoodW wb) (N : Nat) : keptN (planUp wb wb.hs.length) N = true ↔ (mkt g).Kept (· ∈ setL N) := by
  unfold keptN
  rw [List.all_eq_true]
  have key : ∀ h : Nat, h < wb.hs.length → (keptE N (entOf wb h) = true ↔ ∀ c, (mkt g).own (h : Int) c → c ∈ setL N → (mkt g).ch (h : Int) (· ∈ setL N) c) := fun h hh => by
    unfold keptE
    rw [decide_eq_true_iff]
    rw [show (entOf wb h).f = chM wb h from rfl, mask_eq (chM_lt g h _) (and_lt (o_lt g h))]
    have e : ∀ c, c ∈ setL (chM wb h (N &&& (entOf wb h).o)) ↔ (mkt g).ch (h : Int) (· ∈ setL N) c := fun c => by
      rw [chM_set g hh]
      refine (mkt g).ch_own (fun d hd => ?_) c
      rw [setL_and, ent_own g]
      exact ⟨fun z => z.1, fun z => ⟨z, hd⟩⟩
    constructor
    · intro z c ho hN
      rw [← e, z, setL_and, ent_own g]
      exact ⟨hN, ho⟩
    · intro z c
      rw [e, setL_and, ent_own g]
      exact ⟨fun y => ⟨((mkt g).sub _ _ _ y).1, ((mkt g).sub _ _ _ y).2⟩, fun y => z c y.2 y.1⟩
  constructor
  · intro z f c ho hN
    obtain ⟨k, hk, rfl, hm⟩ := own_plan g ho
    exact (key k hk).mp (z _ hm) c ho hN
  · intro z e he
    obtain ⟨h, hh, rfl, _⟩ := plan_mem.mp he
    exact (key h hh).mpr fun c ho hN => z _ c ho hN
theorem gains_iff (g : GoodW wb) (N L : Nat) : gainsN (planUp wb wb.hs.length) N L = true ↔ ∀ f c, (mkt g).own f c → c ∈ setL L → (mkt g).ch f (fun d => d ∈ setL N ∨ d ∈ setL L) c := by
  unfold gainsN
  rw [List.all_eq_true]
  have key : ∀ h : Nat, h < wb.hs.length → (gainE N L (entOf wb h) = true ↔ ∀ c, (mkt g).own (h : Int) c → c ∈ setL L → (mkt g).ch (h : Int) (fun d => d ∈ setL N ∨ d ∈ setL L) c) := fun h hh => by
    unfold gainE
    rw [show (entOf wb h).f = chM wb h from rfl]
    have e : ∀ c, c ∈ setL (chM wb h ((N ||| L) &&& (entOf wb h).o)) ↔ (mkt g).ch (h : Int) (fun d => d ∈ setL N ∨ d ∈ setL L) c := fun c => by
      rw [chM_set g hh]
      refine (mkt g).ch_own (fun d hd => ?_) c
      rw [setL_and, setL_or, ent_own g]
      exact ⟨fun z => z.1, fun z => ⟨z, hd⟩⟩
    have e2 : (chM wb h ((N ||| L) &&& (entOf wb h).o) &&& (L &&& (entOf wb h).o) = L &&& (entOf wb h).o) ↔ ∀ c, (mkt g).own (h : Int) c → c ∈ setL L → (mkt g).ch (h : Int) (fun d => d ∈ setL N ∨ d ∈ setL L) c := by
      rw [mask_eq (and_lt (and_lt (o_lt g h))) (and_lt (o_lt g h))]
      constructor
      · intro z c ho hL
        have y := (z c).mpr (setL_and.mpr ⟨hL, (ent_own g h c).mpr ho⟩)
        exact (e c).mp (setL_and.mp y).1
      · intro z c
        constructor
        · intro y
          exact (setL_and.mp y).2
        · intro y
          obtain ⟨y1, y2⟩ := setL_and.mp y
          exact setL_and.mpr ⟨(e c).mpr (z c ((ent_own g h c).mp y2) y1), y⟩
    rw [← e2]
    by_cases h0 : 0 < L &&& (entOf wb h).o
    · rw [decide_eq_true h0]
      simp
    · have h1 : L &&& (entOf wb h).o = 0 := by omega
      rw [h1]
      simp
  constructor
  · intro z f c ho hN
    obtain ⟨k, hk, rfl, hm⟩ := own_plan g ho
    exact (key k hk).mp (z _ hm) c ho hN
  · intro z e he
    obtain ⟨h, hh, rfl, _⟩ := plan_mem.mp he
    exact (key h hh).mpr fun c ho hN => z _ c ho hN
theorem lt12 (g : GoodW wb) {N : Nat} (h : N < 2 ^ wb.cs.length) : N < 2 ^ 12 := Nat.lt_of_lt_of_le h (Nat.pow_le_pow_right (by decide) (by have := g.n6; omega))
theorem set_lt {N n : Nat} (h : N < 2 ^ n) {c : Int} (hc : c ∈ setL N) : 0 ≤ c ∧ c < n := by
  obtain ⟨h0, _, h2⟩ := setL_mem.mp hc
  refine ⟨h0, Classical.byContradiction fun z => ?_⟩
  have := Nat.testBit_lt_two_pow (Nat.lt_of_lt_of_le h (Nat.pow_le_pow_right (by decide) (show n ≤ c.toNat by omega)))
  rw [this] at h2
  cases h2
theorem has_iff (g : GoodW wb) {N : Nat} (hN : N < 2 ^ wb.cs.length) : hasN (planUp wb wb.hs.length) N (2 ^ wb.cs.length - 1) = true ↔ ∃ L, (mkt g).Gains (· ∈ setL N) L := by
  have tb : ∀ i, (2 ^ wb.cs.length - 1 - N).testBit i = (decide (i < wb.cs.length) && !N.testBit i) := fun i => by
    rw [show 2 ^ wb.cs.length - 1 - N = 2 ^ wb.cs.length - (N + 1) by omega]
    exact Nat.testBit_two_pow_sub_succ hN i
  have h6 := g.n6
  have hp : 0 < 2 ^ wb.cs.length := Nat.pow_pos (by decide)
  unfold hasN
  rw [List.any_eq_true]
  constructor
  · rintro ⟨L, hL, hg⟩
    rw [Bool.and_eq_true] at hg
    obtain ⟨h0, hg⟩ := hg
    have h0 := of_decide_eq_true h0
    unfold withinN at hL
    obtain ⟨h1, h2⟩ := List.mem_filter.mp hL
    have h1 := List.mem_range.mp h1
    have h2 := of_decide_eq_true h2
    have hL2 : L < 2 ^ wb.cs.length := by omega
    refine ⟨(· ∈ setL L), (mask_pos (lt12 g hL2)).mp h0, fun c hc => ?_, (gains_iff g N L).mp hg⟩
    have hc' := set_lt hL2 hc
    refine ⟨hc', fun hcN => ?_⟩
    have a := (setL_mem.mp hc).2.2
    have b := (setL_mem.mp hcN).2.2
    rw [← h2, Nat.testBit_and, tb, b] at a
    simp at a
  · rintro ⟨L, ⟨c0, hc0⟩, hLU, hLg⟩
    classical
    have rnd : ((rangeI wb.cs.length).filter fun c => decide (L c)).Nodup := asc_nd ((range_asc _).sublist List.filter_sublist)
    have rin : ∀ c ∈ (rangeI wb.cs.length).filter fun c => decide (L c), 0 ≤ c ∧ c < wb.cs.length := fun c hc => range_mem.mp (List.mem_filter.mp hc).1
    generalize hr : ((rangeI wb.cs.length).filter fun c => decide (L c)) = r at rnd rin
    have rm : ∀ c, c ∈ r ↔ L c := fun c => by
      rw [← hr, List.mem_filter, range_mem, decide_eq_true_iff]
      exact ⟨fun z => z.2, fun z => ⟨(hLU c z).1, z⟩⟩
    have rs : ∀ c, c ∈ setL (bitsN r) ↔ L c := fun c => (bits_set rnd (fun c hc => by have := rin c hc; omega) c).trans (rm c)
    have rl : bitsN r < 2 ^ wb.cs.length := bits_lt rnd (fun c hc => (rin c hc).1) fun c hc => (rin c hc).2
    refine ⟨bitsN r, ?_, ?_⟩
    · unfold withinN
      have hand : bitsN r &&& (2 ^ wb.cs.length - 1 - N) = bitsN r := by
        apply Nat.eq_of_testBit_eq
        intro i
        rw [Nat.testBit_and, tb, bits_test rnd fun c hc => (rin c hc).1]
        by_cases hi : (i : Int) ∈ r
        · have h1 := rin _ hi
          have h2 := (hLU _ ((rm _).mp hi)).2
          have h3 : N.testBit i = false := Bool.eq_false_iff.mpr fun z => h2 (setL_mem.mpr ⟨by omega, by omega, by simpa using z⟩)
          rw [h3]
          simp [hi]
          omega
        · simp [hi]
      refine List.mem_filter.mpr ⟨List.mem_range.mpr ?_, decide_eq_true hand⟩
      have : bitsN r ≤ 2 ^ wb.cs.length - 1 - N := by
        rw [← hand]
        exact Nat.and_le_right
      omega
    · rw [Bool.and_eq_true]
      refine ⟨decide_eq_true ((mask_pos (lt12 g rl)).mpr ⟨c0, (rs c0).mpr hc0⟩), (gains_iff g N _).mpr fun f c ho hc => ?_⟩
      have e := (mkt g).ch_own (f := f) (Y := fun d => d ∈ setL N ∨ d ∈ setL (bitsN r)) (Z := fun d => d ∈ setL N ∨ L d) (fun d _ => by rw [rs]) c
      exact e.mpr (hLg f c ho ((rs c).mp hc))
theorem rest_iff (g : GoodW wb) {N : Nat} : N ∈ restN (planUp wb wb.hs.length) (2 ^ wb.cs.length - 1) ↔ N < 2 ^ wb.cs.length ∧ (mkt g).Rest (· ∈ setL N) := by
  have hp : 0 < 2 ^ wb.cs.length := Nat.pow_pos (by decide)
  unfold restN
  rw [List.mem_filter, List.mem_range, Bool.and_eq_true]
  constructor
  · rintro ⟨h1, h2, h3⟩
    have hN : N < 2 ^ wb.cs.length := by omega
    refine ⟨hN, (kept_iff g N).mp h2, fun L hL => ?_⟩
    rw [(has_iff g hN).mpr ⟨L, hL⟩] at h3
    cases h3
  · rintro ⟨hN, h2, h3⟩
    refine ⟨by omega, (kept_iff g N).mpr h2, ?_⟩
    have : ¬ hasN (planUp wb wb.hs.length) N (2 ^ wb.cs.length - 1) = true := fun z => by
      obtain ⟨L, hL⟩ := (has_iff g hN).mp z
      exact h3 L hL
    simpa using this
/-! ### what is liked -/
/-- what the law makes of the stand s: the network -/
def netL (s : List Int × List Int) : List Int := s.1.filter fun c => decide (c ∈ s.2)
theorem can_net {s : List Int × List Int} (h : Can wb s.1) : Can wb (netL s) := ⟨h.1.sublist List.filter_sublist, fun c hc => h.2 c (List.mem_filter.mp hc).1⟩
theorem net_mem {s : List Int × List Int} {c : Int} : c ∈ netL s ↔ c ∈ s.1 ∧ c ∈ s.2 := by
  unfold netL
  rw [List.mem_filter, decide_eq_true_iff]
theorem can_set {N : Nat} (h : N < 2 ^ wb.cs.length) : Can wb (setL N) := ⟨setL_sorted N, fun c hc => set_lt h hc⟩
theorem likes_of (g : GoodW wb) {h : Int} (hh : InH wb h) {xs ys : List Int} (hx : Can wb xs) (hM : ∀ c, (mkt g).ch h (fun d => d ∈ xs ∨ d ∈ ys) c ↔ ((mkt g).own h c ∧ c ∈ xs)) : lawLikes wb h xs ys = true ∧ proLikes wb h xs ys = true := by
  obtain ⟨k, rfl⟩ := Int.eq_ofNat_of_zero_le hh.1
  have hk : k < wb.hs.length := by
    have := hh.2
    omega
  have so : ∀ off, chooseW wb (k : Int) off = takesL wb (k : Int) off := fun off => by
    obtain ⟨x, hx, _, _, hc⟩ := inH_at hh
    rw [hc, takes_eq g (by simpa using hx)]
  have asc : ∀ off, (takesL wb (k : Int) off).Pairwise (· < ·) := fun off => by
    obtain ⟨x, hx, _, _, hc⟩ := inH_at hh
    have nd := takes_nodup g (h := k) (off := off)
    rw [takes_eq g (by simpa using hx)] at nd ⊢
    refine List.pairwise_iff_getElem.mpr fun i j hi hj hij => ?_
    have a := List.pairwise_iff_getElem.mp (sortI_sorted _) i j hi hj hij
    have b := List.pairwise_iff_getElem.mp nd i j hi hj hij
    omega
  have own : ∀ c, c ∈ (xs.filter fun c => decide (c ∈ ownOf wb.cs (k : Int))) ↔ ((mkt g).own (k : Int) c ∧ c ∈ xs) := fun c => by
    rw [List.mem_filter, decide_eq_true_iff]
    constructor
    · rintro ⟨h1, h2⟩
      exact ⟨⟨hx.2 c h1, (own_iff (hx.2 c h1)).mp h2⟩, h1⟩
    · rintro ⟨h1, h2⟩
      exact ⟨h2, (own_iff (hx.2 c h2)).mpr h1.2⟩
  have eq : ∀ off : Int → Bool, (∀ d, off d = true ↔ (d ∈ xs ∨ d ∈ ys)) → takesL wb (k : Int) off = xs.filter fun c => decide (c ∈ ownOf wb.cs (k : Int)) := fun off ho =>
    asc_uniq (asc off) (hx.1.sublist List.filter_sublist) fun c => by rw [takes_ch g hk ho, hM, own]
  constructor
  · unfold lawLikes
    exact decide_eq_true (eq _ fun d => by simp)
  · unfold proLikes
    rw [so]
    exact decide_eq_true (eq _ fun d => by simp)
/-- networks at rest are those of settled stands -/
theorem rest_set (g : GoodW wb) {N : Nat} (h : (mkt g).Rest (· ∈ setL N)) : ∃ O A : Int → Prop, (mkt g).Settled O A ∧ ∀ c, c ∈ setL N ↔ O c ∧ A c := by
  refine ⟨_, _, h.settled (fin_U g), fun c => ?_⟩
  have up : c ∈ setL N → (mkt g).offers (· ∈ setL N) c := fun z => by
    unfold Mkt.offers Mkt.told
    exact Or.inl z
  constructor
  · intro z
    exact ⟨up z, Or.inl z⟩
  · rintro ⟨h1, h2 | h2⟩
    · exact h2
    · exact absurd h1 h2
theorem buyer_likes (g : GoodW wb) {O A O' A' : Int → Prop} (s : (mkt g).Settled O A) (s' : (mkt g).Settled O' A') (le : ∀ c, InC wb.cs c → O c → O' c) {e : Int} (he : InH wb e) (hn : ∀ c, InC wb.cs c → selC wb c ≠ e)
    {xs ys : List Int} (hx : Can wb xs) (ex : ∀ c, c ∈ xs ↔ O' c ∧ A' c) (ey : ∀ c, c ∈ ys ↔ O c ∧ A c) : lawLikes wb e xs ys = true ∧ proLikes wb e xs ys = true := by
  refine likes_of g he hx fun c => ?_
  have := Mkt.likes_buyer s s' le hn c
  simp only [ex, ey]
  exact this
theorem seller_likes (g : GoodW wb) {O A O' A' : Int → Prop} (s : (mkt g).Settled O A) (s' : (mkt g).Settled O' A') (le : ∀ c, InC wb.cs c → A c → A' c) {e : Int} (he : InH wb e) (hn : ∀ c, InC wb.cs c → buyC wb c ≠ e)
    {xs ys : List Int} (hx : Can wb xs) (ex : ∀ c, c ∈ xs ↔ O' c ∧ A' c) (ey : ∀ c, c ∈ ys ↔ O c ∧ A c) : lawLikes wb e xs ys = true ∧ proLikes wb e xs ys = true := by
  refine likes_of g he hx fun c => ?_
  have := Mkt.likes_seller s s' le hn c
  simp only [ex, ey]
  exact this
/-- all networks at rest, as the law finds them -/
def restL (wb : Web PySem.Str) : List (List Int) := (restN (planUp wb wb.hs.length) (2 ^ wb.cs.length - 1)).map setL
theorem net_rest (g : GoodW wb) {s : List Int × List Int} (c1 : Can wb s.1) (h : step wb s = s) : netL s ∈ restL wb := by
  have cn := can_net (wb := wb) c1
  have h6 := g.n6
  have in12 : ∀ c ∈ netL s, 0 ≤ c ∧ c < 12 := fun c hc => by
    have := cn.2 c hc
    exact ⟨this.1, by have := this.2; omega⟩
  have e : ∀ c, c ∈ netL s ↔ c ∈ setL (bitsN (netL s)) := fun c => (bits_set (asc_nd cn.1) in12 c).symm
  unfold restL
  refine List.mem_map.mpr ⟨bitsN (netL s), (rest_iff g).mpr ⟨bits_lt (asc_nd cn.1) (fun c hc => (in12 c hc).1) fun c hc => (cn.2 c hc).2, ?_⟩, (eq_setL cn.1 e).symm⟩
  have r := (settled_of g h).rest
  have e2 : (fun c => c ∈ s.1 ∧ c ∈ s.2) = (· ∈ setL (bitsN (netL s))) := by
    funext c
    exact propext (net_mem.symm.trans (e c))
  rw [e2] at r
  exact r
theorem restL_can (g : GoodW wb) {r : List Int} (hr : r ∈ restL wb) : Can wb r := by
  unfold restL at hr
  obtain ⟨N, hN, rfl⟩ := List.mem_map.mp hr
  exact can_set ((rest_iff g).mp hN).1
/-- what the law asks of the ends -/
structure LawOk (wb : Web PySem.Str) (B S : List Int) : Prop where
  cb : Can wb B
  cs : Can wb S
  rb : B ∈ restL wb
  rs : S ∈ restL wb
  rc : ∀ r ∈ restL wb, Can wb r
  buyer : ∀ r ∈ restL wb, ∀ h : Int, InH wb h → (∀ c ∈ wb.cs, c.1 ≠ h) → (lawLikes wb h B r = true ∧ proLikes wb h B r = true) ∧ lawLikes wb h r S = true ∧ proLikes wb h r S = true
  seller : ∀ r ∈ restL wb, ∀ h : Int, InH wb h → (∀ c ∈ wb.cs, c.2.1 ≠ h) → (lawLikes wb h S r = true ∧ proLikes wb h S r = true) ∧ lawLikes wb h r B = true ∧ proLikes wb h r B = true
theorem law_ok (g : GoodW wb) {n m : Nat} (hn : iter (step wb) (n + 1) (rangeI wb.cs.length, []) = iter (step wb) n (rangeI wb.cs.length, [])) (hm : iter (step wb) (m + 1) ([], rangeI wb.cs.length) = iter (step wb) m ([], rangeI wb.cs.length)) :
    LawOk wb (netL (iter (step wb) n (rangeI wb.cs.length, []))) (netL (iter (step wb) m ([], rangeI wb.cs.length))) := by
  have cB := can_iter g (s := (rangeI wb.cs.length, [])) ⟨can_all wb, can_nil wb⟩ n
  have cS := can_iter g (s := ([], rangeI wb.cs.length)) ⟨can_nil wb, can_all wb⟩ m
  have sB := settled_of g hn
  have sS := settled_of g hm
  refine ⟨can_net cB.1, can_net cS.1, net_rest g cB.1 hn, net_rest g cS.1 hm, fun r hr => restL_can g hr, fun r hr h hh he => ?_, fun r hr h hh he => ?_⟩
  · have cr := restL_can g hr
    unfold restL at hr
    obtain ⟨N, hN, rfl⟩ := List.mem_map.mp hr
    obtain ⟨O, A, sO, eO⟩ := rest_set g ((rest_iff g).mp hN).2
    have hns : ∀ c, InC wb.cs c → selC wb c ≠ h := fun c hc => by
      obtain ⟨d, _, hd, e1, _⟩ := at_C hc
      rw [e1]
      exact he d hd
    exact ⟨buyer_likes g sO sB (fun c hU z => (below g sO n c hU).1 z) hh hns (can_net cB.1) (fun c => net_mem) eO, buyer_likes g sS sO (fun c hU z => (above g sO m c hU).1 z) hh hns cr eO fun c => net_mem⟩
  · have cr := restL_can g hr
    unfold restL at hr
    obtain ⟨N, hN, rfl⟩ := List.mem_map.mp hr
    obtain ⟨O, A, sO, eO⟩ := rest_set g ((rest_iff g).mp hN).2
    have hns : ∀ c, InC wb.cs c → buyC wb c ≠ h := fun c hc => by
      obtain ⟨d, _, hd, _, e1⟩ := at_C hc
      rw [e1]
      exact he d hd
    exact ⟨seller_likes g sO sS (fun c hU z => (above g sO m c hU).2 z) hh hns (can_net cS.1) (fun c => net_mem) eO, seller_likes g sB sO (fun c hU z => (below g sO n c hU).2 z) hh hns cr eO fun c => net_mem⟩
end Nc
set_option maxHeartbeats 4000000
/-! GM: the law. -/
namespace Nc
open PySem PySem.Spec PyProof.Rows L2
/-- what stands in K does not stand in the heap of the walk -/
def tKD (K : PySem.W.Frag) (te : TE) : TE := fun σ H Q => te σ H fun v H1 => (∀ a o, K.lookup a = some o → H1 a = none) → Q v H1
theorem pe_kd {X : Cx} {K : PySem.W.Frag} {e : Expr} {te : TE} (eK : X.K = K) (h : PE X e te) : PE X e (tKD K te) := by
  subst eK
  exact ⟨fun pins s σ H Q I hw => thn (h.run pins s σ H _ I hw) fun v s1 ⟨x, H1, I1, r1, q1⟩ => ⟨x, H1, I1, r1, q1 fun a o ea => (I1.bs a o (I1.mod.kin a o ea)).2⟩⟩
theorem r_kd {K : PySem.W.Frag} {te : TE} {σ : L2.St} {H : Hp} {Q : VK} (h : te σ H fun v H1 => (∀ a o, K.lookup a = some o → H1 a = none) → Q v H1) : tKD K te σ H Q := h
theorem sets_shaped (es : List (List Int)) : SeqAt.shaped (.list (es.map tI)) = true := by
  have lay : PyData.canLayAll0 (es.map tI) = true := by
    induction es with
    | nil => simp [PyData.canLayAll0]
    | cons r es ih => simp [PyData.canLayAll0, PyData.canLay0, lay_ints r, ih]
  have dep : PyData.depthAll (es.map tI) ≤ 2 := by
    clear lay
    induction es with
    | nil => simp [PyData.depthAll]
    | cons r es ih =>
      have := depth_ints r
      rw [List.map_cons, PyData.depthAll]
      simp only [PyData.depth]
      omega
  show (PyData.canLay0 (.list (es.map tI)) && decide (PyData.depth (.list (es.map tI)) ≤ 64)) = true
  rw [Bool.and_eq_true]
  refine ⟨by simp only [PyData.canLay0]; exact lay, decide_eq_true ?_⟩
  simp only [PyData.depth]
  omega
theorem any_set {e : List Int} : ∀ {es : List (List Int)}, ((es.map tI).any fun z => PyData.eqv z (tI e)) = decide (e ∈ es)
  | [] => by simp
  | r :: es => by
    rw [List.map_cons, List.any_cons, any_set, eqv_tI]
    by_cases h1 : r = e
    · subst h1
      simp
    · have h2 : ¬ e = r := fun z => h1 z.symm
      simp [h1, h2]
theorem q_notInSet {K : PySem.W.Frag} {H : Hp} {D : Addr} {vs : List V} {es : List (List Int)} {v : V} {e : List Int} {Q : VK} (h : H D = some (.lst vs)) (hd : TdAll K H vs (es.map tI)) (hv : Td K H v (tI e)) (q : Q (.bl (!decide (e ∈ es))) H) : rNotInD K v (.ref D) H Q := by
  refine ⟨tI e, es.map tI, hv.dp, .lst (SqL.of h) hd.dp, tI_shaped e, sets_shaped es, ?_⟩
  rw [any_set]
  exact q
/-- as Dn, the function object told -/
def DnF (P : Program) (w : World) (K : PySem.W.Frag) (mg : Str → Option Value) (base : Heap) (x : Str) (ps : List Str) (k : Nat) (sp : Sp) : Prop :=
  ∃ f fd, FnOk P w K mg base CX0 k f fd ps sp ∧ mg x = some (.ref f) ∧ ∃ oc od osl, K.lookup f = some ⟨oc, od, .func fd, osl⟩
theorem fn_lookup {K : PySem.W.Frag} {x : Str} {st : Stmt} {f : Addr} {fd : FuncData} (F : FnP K x st f fd) : ∃ oc od osl, K.lookup f = some ⟨oc, od, .func fd, osl⟩ := by
  obtain ⟨oc, od, dV, kV, doc, pm, an, cdv, ct, osl, e, lk, hcd, _, _⟩ := F.ex
  subst e
  exact ⟨_, _, _, lk⟩
theorem dn1F {P : Program} {w : World} {K : PySem.W.Frag} {mg : Str → Option Value} {base : Heap} {x : Str} {st : Stmt} {N : List Str} {k : Nat} {p1 : Str} {R : V → Hp → VK → Prop} (A0 : At K mg x st) (S : FnScope N [p1] (defScope st)) (hb : ∀ f fd, FnP K x st f fd → Binds K fd [p1] [])
    (body : ∀ (f : Addr) (cdv : Value) (A : Around) (outer : List Env) (s : Shared) (H : Hp) (a : V) (Q : VK) (E : XK), Room k (A.deeper (PyProof.Rows.envOfC x (defScope st) s.heap.objs.size f cdv)) → R a H Q →
      ∃ t, PSs (cxOf CX0 P w K mg base N x (defScope st) f cdv A outer s H E).nox (defBody st) t ∧ t { nx := fun _ H' => Q .non H', rt := Q } (start N [a]) H) : DnF P w K mg base x [p1] (k + 1) (Sp1 R) := by
  obtain ⟨f, fd, F, gf⟩ := A0
  refine ⟨f, fd, F.ok S (fun vs H Q E h => ?_) (fun cdv A outer s H vs Q E hr h => ?_), gf, fn_lookup F⟩
  · obtain ⟨_, rfl, _⟩ := h; rfl
  · obtain ⟨a, rfl, h⟩ := h
    obtain ⟨t, ht, hq⟩ := body f cdv A outer s H a Q E hr h
    exact ⟨t, ht.nox, hq⟩
local macro_rules | `(tactic| walk_at "st") => `(tactic| (repeat (first
  | ((with_reducible refine' r_var ?e ?_); (case e => exact rfl))
  | (with_reducible refine' r_op ?_)
  | (with_reducible refine' r_c ?_)
  | (with_reducible refine' r_cons ?_)
  | (with_reducible refine' r_nil ?_)
  | (with_reducible refine' r_cb ?_)
  | (with_reducible refine' r_call ?_)
  | (with_reducible refine' r_test ?_)
  | (with_reducible refine' r_lc ?_)
  | (with_reducible refine' r_lc2 ?_)
  | (with_reducible refine' r_sk ?_)
  | (with_reducible refine' r_iZ ?_)
  | (with_reducible refine' r_sl3 ?_)
  | (with_reducible refine' r_bmZ ?_)
  | (with_reducible refine' r_dg ?_)
  | (with_reducible refine' r_dpS ?_)
  | (with_reducible refine' r_dp1 ?_)
  | (with_reducible refine' r_dn ?_)
  | (with_reducible refine' r_iT ?_)
  | (with_reducible refine' r_iL ?_)
  | (with_reducible refine' r_iE ?_)
  | (with_reducible refine' r_iR ?_)
  | (with_reducible refine' r_ret ?_)
  | (with_reducible refine' r_asgS ?_)
  | (with_reducible refine' r_asg1 ?_)
  | (with_reducible refine' r_asgTS ?_)
  | (with_reducible refine' r_ifS ?_)
  | (with_reducible refine' r_if1 ?_)
  | (with_reducible refine' r_forS ?_)
  | (with_reducible refine' r_for1 ?_)
  | (with_reducible refine' r_dropS ?_)
  | (with_reducible refine' r_drop1 ?_)
  | (with_reducible refine' r_tup ?_)
  | (with_reducible refine' r_lst ?_)
  | (with_reducible refine' r_sl ?_)
  | (with_reducible refine' r_noP ?_)
  | (with_reducible refine' r_part ?_)
  | (with_reducible refine' r_bm ?_)
  | (with_reducible refine' r_bm0 ?_)
  | (with_reducible refine' r_un ?_)
  | (with_reducible refine' r_notV ?_)
  | (with_reducible refine' r_B ?_)
  | (with_reducible refine' r_and ?_)
  | (with_reducible refine' r_or ?_)
  | (with_reducible refine' r_not ?_)
  | (with_reducible refine' r_yes ?_)
  | (with_reducible refine' r_next ?_)
  | (with_reducible refine' r_break ?_)
  | (with_reducible refine' r_gn ?_)
  | (with_reducible refine' r_tupRg ?_)
  | (with_reducible refine' r_rg1 ?_)
  )))
local macro_rules | `(tactic| walk_at "no") => `(tactic| (refine q_eqS ⟨_, rfl, ite2 (fun e => absurd (of_decide_eq_true e) (by decide +kernel)) (fun _ => ?_)⟩; walk_at "st"; try dsimp only))
local macro_rules | `(tactic| walk_at "yes") => `(tactic| (refine q_eqS ⟨_, rfl, ite2 (fun _ => ?_) (fun e => absurd (decide_eq_true rfl) e)⟩; walk_at "st"))
local macro_rules | `(tactic| walk_at "sq") => `(tactic| (repeat (first
  | ((with_reducible refine' r_var ?e ?_); (case e => exact rfl))
  | (with_reducible refine' r_op ?_)
  | (with_reducible refine' r_c ?_)
  | (with_reducible refine' r_cons ?_)
  | (with_reducible refine' r_nil ?_)
  | (with_reducible refine' r_cb ?_)
  | (with_reducible refine' r_call ?_)
  | (with_reducible refine' r_test ?_)
  | (with_reducible refine' r_lc ?_)
  | (with_reducible refine' r_lc2 ?_)
  | (with_reducible refine' r_sk ?_)
  | (with_reducible refine' r_iZ ?_)
  | (with_reducible refine' r_sl3 ?_)
  | (with_reducible refine' r_bmZ ?_)
  | (with_reducible refine' r_dg ?_)
  | (with_reducible refine' r_dpS ?_)
  | (with_reducible refine' r_dp1 ?_)
  | (with_reducible refine' r_dn ?_)
  | (with_reducible refine' r_iT ?_)
  | (with_reducible refine' r_iL ?_)
  | (with_reducible refine' r_iE ?_)
  | (with_reducible refine' r_iR ?_)
  | (with_reducible refine' r_ret ?_)
  | (with_reducible refine' r_asgS ?_)
  | (with_reducible refine' r_asg1 ?_)
  | (with_reducible refine' r_asgTS ?_)
  | (with_reducible refine' r_ifS ?_)
  | (with_reducible refine' r_if1 ?_)
  | (with_reducible refine' r_forS ?_)
  | (with_reducible refine' r_for1 ?_)
  | (with_reducible refine' r_dropS ?_)
  | (with_reducible refine' r_drop1 ?_)
  | (with_reducible refine' r_tupQ ?_)
  | (with_reducible refine' r_lstQ ?_)
  | (with_reducible refine' r_sl ?_)
  | (with_reducible refine' r_noP ?_)
  | (with_reducible refine' r_part ?_)
  | (with_reducible refine' r_bm ?_)
  | (with_reducible refine' r_bm0 ?_)
  | (with_reducible refine' r_un ?_)
  | (with_reducible refine' r_notV ?_)
  | (with_reducible refine' r_B ?_)
  | (with_reducible refine' r_and ?_)
  | (with_reducible refine' r_or ?_)
  | (with_reducible refine' r_not ?_)
  | (with_reducible refine' r_yes ?_)
  | (with_reducible refine' r_next ?_)
  | (with_reducible refine' r_break ?_)
  | (with_reducible refine' r_gn ?_)
  | (with_reducible refine' r_tupRg ?_)
  | (with_reducible refine' r_rg1 ?_)
  )))
section
variable {P : Program} {w : World} {K : PySem.W.Frag} {mg : Str → Option Value} {base : Heap}
variable {T : List (Addr × Str)}
def sp_law (K : PySem.W.Frag) (T : List (Addr × Str)) : Sp := Sp1 fun a H Q => ∃ (s : Addr) (ns : List Int), a = .ref s ∧ SqL K H s (ns.map V.int) ∧ ns.length ≤ 1000 ∧ LamX.Tabs T H ∧ ∀ H', Q (.bl true) H'
/-! ### law -/
abbrev s_law : Stmt := topS 58
abbrev N_law : List Str := ["_law_script", "_law_draws_here", "_law_web_here", "_law_rest", "_law_buyers", "_law_sellers", "_law_sold", "_law_bought", "_law_network", "_law_house", "_law_mask", "_law_pair"]
theorem sc_law : FnScope N_law ["_law_script"] (defScope s_law) := ⟨rfl, rfl, rfl, by decide +kernel, rfl, by decide +kernel, by decide +kernel⟩
theorem d_law (B : B0 mg) (A0 : At K mg "law" s_law) (D_law_draws : Dn P w K mg base "_law_draws" ["_law_script", "_law_many"] 1 (sp_law_draws K T)) (D_law_web : Dn P w K mg base "_law_web" ["_law_script", "_law_draws_here", "_law_many", "_law_most"] 9 (sp_law_web K T)) (D_law_at_rest : Dn P w K mg base "_law_at_rest" ["_law_plan_here", "_law_every"] 3 (sp_law_at_rest K T)) (D_law_power : Dn P w K mg base "_law_power" ["_law_number"] 1 (sp_law_power K T)) (D_law_plan : Dn P w K mg base "_law_plan" ["_law_web_here"] 6 (sp_law_plan K T)) (D_law_set : Dn P w K mg base "_law_set" ["_law_mask"] 2 (sp_law_set K T)) (D_network_of : Dn P w K mg base "network_of" ["stand"] 2 (sp_network_of K T)) (D_best_for_buyers : Dn P w K mg base "best_for_buyers" ["web"] 10 (sp_best_for_buyers K T)) (D_best_for_sellers : Dn P w K mg base "best_for_sellers" ["web"] 10 (sp_best_for_sellers K T)) (D_law_are_liked : Dn P w K mg base "_law_are_liked" ["_law_web_here", "_law_house", "_law_row"] 9 (sp_law_are_liked K T)) : DnF P w K mg base "law" ["_law_script"] 11 (sp_law K T) := by
  obtain ⟨f_law_draws, fd_law_draws, G_law_draws, g_law_draws, k_law_draws, b_law_draws⟩ := D_law_draws
  obtain ⟨f_law_web, fd_law_web, G_law_web, g_law_web, k_law_web, b_law_web⟩ := D_law_web
  obtain ⟨f_law_at_rest, fd_law_at_rest, G_law_at_rest, g_law_at_rest, k_law_at_rest, b_law_at_rest⟩ := D_law_at_rest
  obtain ⟨f_law_power, fd_law_power, G_law_power, g_law_power, k_law_power, b_law_power⟩ := D_law_power
  obtain ⟨f_law_plan, fd_law_plan, G_law_plan, g_law_plan, k_law_plan, b_law_plan⟩ := D_law_plan
  obtain ⟨f_law_set, fd_law_set, G_law_set, g_law_set, k_law_set, b_law_set⟩ := D_law_set
  obtain ⟨f_network_of, fd_network_of, G_network_of, g_network_of, k_network_of, b_network_of⟩ := D_network_of
  obtain ⟨f_best_for_buyers, fd_best_for_buyers, G_best_for_buyers, g_best_for_buyers, k_best_for_buyers, b_best_for_buyers⟩ := D_best_for_buyers
  obtain ⟨f_best_for_sellers, fd_best_for_sellers, G_best_for_sellers, g_best_for_sellers, k_best_for_sellers, b_best_for_sellers⟩ := D_best_for_sellers
  obtain ⟨f_law_are_liked, fd_law_are_liked, G_law_are_liked, g_law_are_liked, k_law_are_liked, b_law_are_liked⟩ := D_law_are_liked
  refine dn1F A0 sc_law (fun _ _ F => F.bindsN fun _ _ _ _ _ _ us hl => match us, hl with | [_], _ => rfl) fun f cdv A outer s H a0 Q E hr h => ?_
  have hu := hr.units
  have hu5 := units5 hr
  have hu1 := units1 hr
  have nd := sc_law.nd
  refine ⟨_, (pss_cons
  (ps_set (i := 1) nd rfl (by first | exact Or.inl rfl | exact Or.inr rfl) (pe_kd (K := K) rfl (pe_call G_law_draws (hr.mono (by decide)) (by rfl) g_law_draws k_law_draws b_law_draws .nil pass0 (pa_cons (pv 0) (pa_cons pe_int pa_nil)))))
  (pss_cons
  (ps_set (i := 2) nd rfl (by first | exact Or.inl rfl | exact Or.inr rfl) (pe_call G_law_web (hr.mono (by decide)) (by rfl) g_law_web k_law_web b_law_web .nil pass0 (pa_cons (pv 0) (pa_cons (pv 1) (pa_cons pe_int (pa_cons pe_int pa_nil))))))
  (pss_cons
  (ps_setLc (i := 3) (own := [("_law_mask", 10)]) (g := (gName 10)) (by rfl) nd rfl rfl (sw_true rfl rfl rfl (by decide +kernel)) (kpList (K := K) rfl (pe_call G_law_at_rest (hr.mono (by decide)) (by rfl) g_law_at_rest k_law_at_rest b_law_at_rest .nil pass0 (pa_cons (pe_call G_law_plan (hr.mono (by decide)) (by rfl) g_law_plan k_law_plan b_law_plan .nil pass0 (pa_cons (pv 2) pa_nil)) (pa_cons (pe_op op_sub (pe_call G_law_power (hr.mono (by decide)) (by rfl) g_law_power k_law_power b_law_power .nil pass0 (pa_cons (pe_callB (kLen (K := K) rfl) (by rfl) B.len PySem.boot_len (pa_cons (pe_ix (kIxT (K := K) rfl) (pv 2) pe_int (fun _ _ => rfl)) pa_nil)) pa_nil)) pe_int) pa_nil)))) (blkOk_by (own := [("_law_mask", 10)]) (N := N_law) (sc := defScope s_law) (by decide +kernel)) (fun _ _ _ _ _ => (pg_name (i := 10) nd rfl (by first | exact Or.inl rfl | exact Or.inr rfl))) (fun _ _ _ _ _ => pts_nil) (fun _ _ _ _ _ => (pe_call G_law_set (hr.mono (by decide)) (by rfl) g_law_set k_law_set b_law_set .nil pass0 (pa_cons (pv 10) pa_nil))))
  (pss_cons
  (ps_set (i := 4) nd rfl (by first | exact Or.inl rfl | exact Or.inr rfl) (pe_call G_network_of (hr.mono (by decide)) (by rfl) g_network_of k_network_of b_network_of .nil pass0 (pa_cons (pe_call G_best_for_buyers (hr.mono (by decide)) (by rfl) g_best_for_buyers k_best_for_buyers b_best_for_buyers .nil pass0 (pa_cons (pv 2) pa_nil)) pa_nil)))
  (pss_cons
  (ps_set (i := 5) nd rfl (by first | exact Or.inl rfl | exact Or.inr rfl) (pe_call G_network_of (hr.mono (by decide)) (by rfl) g_network_of k_network_of b_network_of .nil pass0 (pa_cons (pe_call G_best_for_sellers (hr.mono (by decide)) (by rfl) g_best_for_sellers k_best_for_sellers b_best_for_sellers .nil pass0 (pa_cons (pv 2) pa_nil)) pa_nil)))
  (pss_cons
  (ps_if (PW.pt (pw_or (pt_cmpR (kNotInD (K := K) hu5 rfl) (pv 4) (pv 3) (by rfl)) (pw_or1 (pt_cmpR (kNotInD (K := K) hu5 rfl) (pv 5) (pv 3) (by rfl))))) (pss_one
  (ps_ret pe_bl)) pss_nil)
  (pss_cons
  (ps_setLc (i := 6) (own := [("_law_pair", 11)]) (g := (gName 11)) (by rfl) nd rfl rfl (sw_true rfl rfl rfl (by decide +kernel)) (kpTup (K := K) rfl (pe_ix (kIxT (K := K) rfl) (pv 2) pe_int (fun _ _ => rfl))) (blkOk_by (own := [("_law_pair", 11)]) (N := N_law) (sc := defScope s_law) (by decide +kernel)) (fun _ _ _ _ _ => (pg_name (i := 11) nd rfl (by first | exact Or.inl rfl | exact Or.inr rfl))) (fun _ _ _ _ _ => pts_nil) (fun _ _ _ _ _ => (pe_ix (kIxT (K := K) rfl) (pv 11) pe_int (fun _ _ => rfl))))
  (pss_cons
  (ps_setLc (i := 7) (own := [("_law_pair", 11)]) (g := (gName 11)) (by rfl) nd rfl rfl (sw_true rfl rfl rfl (by decide +kernel)) (kpTup (K := K) rfl (pe_ix (kIxT (K := K) rfl) (pv 2) pe_int (fun _ _ => rfl))) (blkOk_by (own := [("_law_pair", 11)]) (N := N_law) (sc := defScope s_law) (by decide +kernel)) (fun _ _ _ _ _ => (pg_name (i := 11) nd rfl (by first | exact Or.inl rfl | exact Or.inr rfl))) (fun _ _ _ _ _ => pts_nil) (fun _ _ _ _ _ => (pe_ix (kIxT (K := K) rfl) (pv 11) pe_int (fun _ _ => rfl))))
  (pss_cons
  (ps_for PassesOwn.never rfl (kpList (K := K) rfl (pv 3)) (pg_name (i := 8) nd rfl (by first | exact Or.inl rfl | exact Or.inr rfl)) (pss_one
  (ps_for PassesOwn.never rfl (pi_range1 (by rfl) B.range (pa_cons (pe_callB (kLen (K := K) rfl) (by rfl) B.len PySem.boot_len (pa_cons (pe_ix (kIxT (K := K) rfl) (pv 2) pe_int (fun _ _ => rfl)) pa_nil)) pa_nil)) (pg_name (i := 9) nd rfl (by first | exact Or.inl rfl | exact Or.inr rfl)) (pss_cons
  (ps_if (PW.pt (pw_and (pt_cmpR (kIn (K := K) rfl) (pv 9) (pv 7) (by rfl)) (pw_and (pt_cmpR (kNotIn (K := K) rfl) (pv 9) (pv 6) (by rfl)) (pw_and1 (pt_not (pt_val (pe_call G_law_are_liked (hr.mono (by decide)) (by rfl) g_law_are_liked k_law_are_liked b_law_are_liked .nil pass0 (pa_cons (pv 2) (pa_cons (pv 9) (pa_cons (pe_lst (pa_cons (pv 4) (pa_cons (pv 8) (pa_cons (pv 5) pa_nil)))) pa_nil)))))))))) (pss_one
  (ps_ret pe_bl)) pss_nil)
  (pss_one
  (ps_if (PW.pt (pw_and (pt_cmpR (kIn (K := K) rfl) (pv 9) (pv 6) (by rfl)) (pw_and (pt_cmpR (kNotIn (K := K) rfl) (pv 9) (pv 7) (by rfl)) (pw_and1 (pt_not (pt_val (pe_call G_law_are_liked (hr.mono (by decide)) (by rfl) g_law_are_liked k_law_are_liked b_law_are_liked .nil pass0 (pa_cons (pv 2) (pa_cons (pv 9) (pa_cons (pe_lst (pa_cons (pv 5) (pa_cons (pv 8) (pa_cons (pv 4) pa_nil)))) pa_nil)))))))))) (pss_one
  (ps_ret pe_bl)) pss_nil))))))
  (pss_one
  (ps_ret pe_bl))))))))))), ?_⟩
  obtain ⟨s, ns, rfl, hs, hl, hT, qq⟩ := h
  walk_at "sq"
  refine r_kd ?_
  walk_at "sq"
  refine ⟨_, _, rfl, s, ns, 323, rfl, hs, hl, rfl, by decide, fun p H1 hp f1 d1 hK => ?_⟩
  have hsp : s ≠ p := by
    rintro rfl
    obtain ⟨ds, e⟩ := d1
    rcases hs with (h | ⟨o, h⟩) | ⟨o, its, n, h, _⟩
    · obtain ⟨ps, z⟩ := hp _ h
      cases z
    · obtain ⟨ps, z⟩ := hp _ h
      cases z
    · have := hK s o h
      rw [e] at this
      cases this
  walk_at "sq"
  refine ⟨_, _, _, _, rfl, s, p, ns, rfl, f1.sqL (by simp) hs, hsp, rfl, d1, rfl, rfl, fun v2 H2 wb dw f2 d2 t2 => ?_⟩
  have gw := dw.good
  have h6 := gw.n6
  have hnh := gw.ok.nh
  have T2 : LamX.Tabs T H2 := f2.tabs (f1.tabs hT)
  walk_at "sq"
  refine ⟨_, rfl, wb, gw, t2, fun pa H3 fpa f3 pl3 => ?_⟩
  walk_at "sq"
  refine q_ixT (t2.mono f3) (d := .tuple (wb.cs.map eC)) rfl fun u4 t4 => ?_
  walk_at "sq"
  refine q_lenT t4 ?_
  rw [List.length_map]
  walk_at "sq"
  refine ⟨_, rfl, wb.cs.length, rfl, by omega, fun H4 f4 => ?_⟩
  walk_at "sq"
  refine q_I ?_
  have hpow : 0 < 2 ^ wb.cs.length := Nat.pow_pos (by decide)
  have hpow2 : 2 ^ wb.cs.length ≤ 64 := Nat.pow_le_pow_right (n := 2) (by decide) h6
  have e1 : (((2 ^ wb.cs.length : Nat) : Int) - 1) = ((2 ^ wb.cs.length - 1 : Nat) : Int) := by omega
  rw [e1]
  walk_at "sq"
  refine ⟨_, _, rfl, pa, planUp wb wb.hs.length, 2 ^ wb.cs.length - 1, rfl, pl3.mono f4, rfl, by omega, fun p5 H5 fp5 f5 hx5 => ?_⟩
  have hrl : (restN (planUp wb wb.hs.length) (2 ^ wb.cs.length - 1)).length ≤ 64 := by
    unfold restN
    refine Nat.le_trans (List.length_filter_le _ _) ?_
    rw [List.length_range]
    omega
  refine lc_I (T := T) (K := K) (as := (restN (planUp wb wb.hs.length) (2 ^ wb.cs.length - 1)).map fun (n : Nat) => (n : Int)) (SqL.of hx5) (line_of (by rw [List.length_map]; omega)) (fun _ => true) (fun c => tI (setL c.toNat)) (fun _ => rfl) ?_ ?_
  · intro c H6 hc f6 R1 R2 r1 r2
    obtain ⟨m, _, rfl⟩ := List.mem_map.mp hc
    refine r_yes (iteT ?_)
    walk_at "sq"
    refine ⟨_, rfl, m, rfl, fun v7 H7 f7 t7 => ?_⟩
    exact r1 rfl v7 H7 f7 t7
  intro D H6 xs6 hD f6 hx6 tx6
  have etx : (((restN (planUp wb wb.hs.length) (2 ^ wb.cs.length - 1)).map fun (n : Nat) => (n : Int)).filter fun _ => true).map (fun c => tI (setL c.toNat)) = (restL wb).map tI := by
    rw [filt_true]
    unfold restL
    rw [List.map_map, List.map_map]
    rfl
  rw [etx] at tx6
  have hrl2 : (restL wb).length ≤ 64 := by
    unfold restL
    rw [List.length_map]
    exact hrl
  have f26 := ((f3.trans f4).trans f5).trans f6
  walk_at "sq"
  refine ⟨_, rfl, wb, gw.ok, f26.tabs T2, t2.mono f26, ends_down gw, fun n v7 H7 hn f7 t7 => ?_⟩
  walk_at "sq"
  have cB := can_iter gw (s := (rangeI wb.cs.length, [])) ⟨can_all wb, can_nil wb⟩ n
  refine ⟨_, rfl, _, _, t7, Nat.le_trans cB.1.len (Nat.le_trans h6 (by decide)), fun v8 H8 f8 t8 => ?_⟩
  have f28 := (f26.trans f7).trans f8
  walk_at "sq"
  refine ⟨_, rfl, wb, gw.ok, f28.tabs T2, t2.mono f28, ends_up gw, fun m v9 H9 hm f9 t9 => ?_⟩
  walk_at "sq"
  have cS := can_iter gw (s := ([], rangeI wb.cs.length)) ⟨can_nil wb, can_all wb⟩ m
  refine ⟨_, rfl, _, _, t9, Nat.le_trans cS.1.len (Nat.le_trans h6 (by decide)), fun v10 H10 f10 t10 => ?_⟩
  have lo := law_ok gw hn hm
  have tB : Td K H10 v8 (tI (netL (iter (step wb) n (rangeI wb.cs.length, [])))) := (t8.mono f9).mono f10
  have tS : Td K H10 v10 (tI (netL (iter (step wb) m ([], rangeI wb.cs.length)))) := t10
  generalize netL (iter (step wb) n (rangeI wb.cs.length, [])) = B at lo tB
  generalize netL (iter (step wb) m ([], rangeI wb.cs.length)) = S at lo tS
  have f610 := ((f7.trans f8).trans f9).trans f10
  have hR := f610.lst0 hx6
  have tR := tx6.mono f610
  have f210 := f26.trans f610
  have tw := t2.mono f210
  have T10 := f210.tabs T2
  clear t7 t8 t9 t10 f7 f8 f9 f10 f26 f28 f610 hx6 tx6 etx
  walk_at "sq"
  refine q_notInSet hR tR tB ⟨_, rfl, ?_⟩
  rw [decide_eq_true lo.rb]
  refine iteF ?_
  walk_at "sq"
  refine q_notInSet hR tR tS ⟨_, rfl, ?_⟩
  rw [decide_eq_true lo.rs]
  refine iteF ?_
  walk_at "sq"
  refine q_ixT tw (d := .tuple (wb.cs.map eC)) rfl fun u11 t11 => ?_
  refine lc_T (T := T) (K := K) wb.cs eC t11 (line_of (by omega)) (fun _ => true) (fun c => .int c.1) (fun _ => rfl) ?_ ?_
  · intro c u Hx hc fx tu R1 R2 r1 r2
    refine r_yes (iteT ?_)
    walk_at "sq"
    refine q_ixT tu (d := .int c.1) rfl fun u12 t12 => ?_
    exact r1 rfl _ _ (Fr.refl _) t12
  intro D12 H12 xs12 hD12 f12 hx12 tx12
  have e12 : (wb.cs.filter fun _ => true).map (fun c => PyData.int c.1) = (wb.cs.map fun c => c.1).map PyData.int := by
    rw [filt_true, List.map_map]
    rfl
  rw [e12] at tx12
  rw [tx12.ints] at hx12
  walk_at "sq"
  refine q_ixT (tw.mono f12) (d := .tuple (wb.cs.map eC)) rfl fun u13 t13 => ?_
  refine lc_T (T := T) (K := K) wb.cs eC t13 (line_of (by omega)) (fun _ => true) (fun c => .int c.2.1) (fun _ => rfl) ?_ ?_
  · intro c u Hx hc fx tu R1 R2 r1 r2
    refine r_yes (iteT ?_)
    walk_at "sq"
    refine q_ixT tu (d := .int c.2.1) rfl fun u14 t14 => ?_
    exact r1 rfl _ _ (Fr.refl _) t14
  intro D14 H14 xs14 hD14 f14 hx14 tx14
  have e14 : (wb.cs.filter fun _ => true).map (fun c => PyData.int c.2.1) = (wb.cs.map fun c => c.2.1).map PyData.int := by
    rw [filt_true, List.map_map]
    rfl
  rw [e14] at tx14
  rw [tx14.ints] at hx14
  have f1014 := f12.trans f14
  have sqS : SqI K H14 (.ref D12) (wb.cs.map fun c => c.1) := SqI.of_l (f14.lst0 hx12)
  have sqB : SqI K H14 (.ref D14) (wb.cs.map fun c => c.2.1) := SqI.of_l hx14
  replace hR := f1014.lst0 hR
  replace tR := tR.mono f1014
  replace tw := tw.mono f1014
  replace tB := tB.mono f1014
  replace tS := tS.mono f1014
  replace T10 := f1014.tabs T10
  clear hx12 hx14 tx12 tx14 e12 e14 f12 f14 f1014 t11 t13
  walk_at "sq"
  refine for_L (T := T) (K := K) (M := []) (restL wb) tI hR tR (by simp) (fun i σ H' => ∃ x8 x9 x10 x11 : Option V, σ = [some (.ref s), some (.ref p), some v2, some (.ref D), some v8, some v10, some (.ref D12), some (.ref D14), x8, x9, x10, x11] ∧ Fr T [] H14 H') ⟨_, _, _, _, rfl, Fr.refl _⟩ (fun i σ H' q => by obtain ⟨_, _, _, _, _, f⟩ := q; exact f) ?_ ?_
  rotate_left
  · rintro σ' H15 ⟨x8, x9, x10, x11, rfl, f15⟩
    dsimp only
    walk_at "sq"
    exact qq _
  rintro i r v15 σ' H15 hi ⟨x8, x9, x10, x11, rfl, f15⟩ tr
  have hr : r ∈ restL wb := List.mem_of_getElem? hi
  walk_at "sq"
  refine q_ixT (tw.mono f15) (d := .tuple (wb.hs.map eH)) rfl fun u16 t16 => ?_
  walk_at "sq"
  refine q_lenT t16 ?_
  rw [List.length_map]
  walk_at "sq"
  refine ⟨_, rfl, by omega, by omega, ?_⟩
  rw [Int.toNat_natCast]
  refine for_R (fun i σ H' => ∃ x9 x10 x11 : Option V, σ = [some (.ref s), some (.ref p), some v2, some (.ref D), some v8, some v10, some (.ref D12), some (.ref D14), some v15, x9, x10, x11] ∧ Fr T [] H15 H') ⟨_, _, _, rfl, Fr.refl _⟩ ?_ ?_
  rotate_left
  · rintro σ' H16 ⟨x9, x10, x11, rfl, f16⟩
    exact ⟨_, _, _, _, rfl, f15.trans f16⟩
  rintro h σ' H16 hh ⟨x9, x10, x11, rfl, f16⟩
  have inh : InH wb (h : Int) := ⟨by omega, by omega⟩
  have canl : ∀ {l : List Int}, Can wb l → l.length ≤ 30 ∧ ∀ n ∈ l, InC wb.cs n := fun hc => ⟨by have := hc.len; omega, hc.2⟩
  have cr := lo.rc r hr
  have pairs : ∀ {a b c : List Int}, (lawLikes wb h a b = true ∧ proLikes wb h a b = true) → (lawLikes wb h b c = true ∧ proLikes wb h b c = true) → ∀ (k : Nat) x y, [a, b, c][k]? = some x → [a, b, c][k + 1]? = some y → lawLikes wb h x y = true ∧ proLikes wb h x y = true := by
    intro a b c h1 h2 k x y e1 e2
    match k with
    | 0 =>
      cases e1
      cases e2
      exact h1
    | 1 =>
      cases e1
      cases e2
      exact h2
    | k + 2 => simp at e2
  have f1416 := f15.trans f16
  refine r_ifJ (R := fun σ' H' => σ' = [some (.ref s), some (.ref p), some v2, some (.ref D), some v8, some v10, some (.ref D12), some (.ref D14), some v15, some (.int (h : Int)), x10, x11] ∧ Fr T [] H16 H') ?_ fun rest => ?_
  · rintro σ' H17 ⟨rfl, f17⟩
    have g17 := f1416.trans f17
    walk_at "sq"
    refine q_in (neg := false) (sqS.mono g17) ?_
    refine ⟨_, rfl, ?_⟩
    show if decide ((h : Int) ∈ wb.cs.map fun c => c.1) = true then _ else _
    refine ite2 (fun i1 => ?_) (fun _ => ?_)
    rotate_left
    · refine iteF ?_
      walk_at "sq"
      exact ⟨_, _, _, rfl, f16.trans f17⟩
    walk_at "sq"
    refine q_in (neg := true) (sqB.mono g17) ?_
    refine ⟨_, rfl, ?_⟩
    show if (!decide ((h : Int) ∈ wb.cs.map fun c => c.2.1)) = true then _ else _
    refine ite2 (fun i2 => ?_) (fun _ => ?_)
    rotate_left
    · refine iteF ?_
      walk_at "sq"
      exact ⟨_, _, _, rfl, f16.trans f17⟩
    have hend : ∀ c ∈ wb.cs, c.2.1 ≠ (h : Int) := fun c hc e => by
      rw [Bool.not_eq_true', decide_eq_false_iff_not] at i2
      exact i2 (List.mem_map.mpr ⟨c, hc, e⟩)
    obtain ⟨l1, l2⟩ := lo.seller r hr h inh hend
    walk_at "sq"
    refine ql (T := T) (K := K) (ds := [tI S, tI r, tI B]) (.cons (tS.mono g17) (.cons ((tr.mono f16).mono f17) (.cons (tB.mono g17) .nil))) fun l18 H18 hl18 f18 hx18 tx18 => ?_
    walk_at "sq"
    refine ⟨_, _, _, rfl, wb, (h : Int), l18, _, [S, r, B], gw.ok, (g17.trans f18).tabs T10, (tw.mono g17).mono f18, rfl, inh, rfl, hx18, tx18, by simp, by simp, ?_, pairs l1 l2, fun H19 f19 => ?_⟩
    · intro x hx
      simp only [List.mem_cons, List.not_mem_nil, or_false] at hx
      rcases hx with rfl | rfl | rfl
      · exact canl lo.cs
      · exact canl cr
      · exact canl lo.cb
    refine ⟨_, rfl, ?_⟩
    refine iteF ?_
    walk_at "sq"
    exact ⟨_, _, _, rfl, ((f16.trans f17).trans f18).trans f19⟩
  walk_at "sq"
  refine q_in (neg := false) (sqB.mono f1416) ?_
  refine ⟨_, rfl, ?_⟩
  show if decide ((h : Int) ∈ wb.cs.map fun c => c.2.1) = true then _ else _
  refine ite2 (fun i1 => ?_) (fun _ => ?_)
  rotate_left
  · refine iteF ?_
    exact rest _ _ ⟨rfl, Fr.refl _⟩
  walk_at "sq"
  refine q_in (neg := true) (sqS.mono f1416) ?_
  refine ⟨_, rfl, ?_⟩
  show if (!decide ((h : Int) ∈ wb.cs.map fun c => c.1)) = true then _ else _
  refine ite2 (fun i2 => ?_) (fun _ => ?_)
  rotate_left
  · refine iteF ?_
    exact rest _ _ ⟨rfl, Fr.refl _⟩
  have hend : ∀ c ∈ wb.cs, c.1 ≠ (h : Int) := fun c hc e => by
    rw [Bool.not_eq_true', decide_eq_false_iff_not] at i2
    exact i2 (List.mem_map.mpr ⟨c, hc, e⟩)
  obtain ⟨l1, l2⟩ := lo.buyer r hr h inh hend
  walk_at "sq"
  refine ql (T := T) (K := K) (ds := [tI B, tI r, tI S]) (.cons (tB.mono f1416) (.cons (tr.mono f16) (.cons (tS.mono f1416) .nil))) fun l18 H18 hl18 f18 hx18 tx18 => ?_
  walk_at "sq"
  refine ⟨_, _, _, rfl, wb, (h : Int), l18, _, [B, r, S], gw.ok, (f1416.trans f18).tabs T10, (tw.mono f1416).mono f18, rfl, inh, rfl, hx18, tx18, by simp, by simp, ?_, pairs l1 l2, fun H19 f19 => ?_⟩
  · intro x hx
    simp only [List.mem_cons, List.not_mem_nil, or_false] at hx
    rcases hx with rfl | rfl | rfl
    · exact canl lo.cb
    · exact canl cr
    · exact canl lo.cs
  refine ⟨_, rfl, ?_⟩
  refine iteF ?_
  exact rest _ _ ⟨rfl, f18.trans f19⟩
end
end Nc
set_option maxHeartbeats 0
/-! HB: all defs keep their promises; the law holds. -/
namespace Nc
open PySem PySem.Spec PyProof.Rows L2
section
variable {P : Program} {w : World} {K : PySem.W.Frag} {h : Heap} {mg : Str → Option Value} {base : Heap}
theorem at_of (X : K.In h) (G : h.Ns mainGlobals mg) (c : He.SaysX hfa hfn [] htf (fun _ => true) w h K) (x : Str) (i j k : Nat) (h1 : hfn[j]? = some (dfn x i)) (h2 : hfa[k]? = some (.glo x)) : At K mg x (topS i) := by
  obtain ⟨fd, F⟩ := c.t.d.def_ j h1
  exact ⟨_, fd, F, He.glo_ok X G (c.t.d.fact k h2)⟩
theorem free_of (X : K.In h) (G : h.Ns mainGlobals mg) (c : He.SaysX hfa hfn [] htf (fun _ => true) w h K) (x : Str) (k : Nat) (h2 : hfa[k]? = some (.free x)) : mg x = none := He.free_ok X G (c.t.d.fact k h2)
theorem law_dn (X : K.In h) (G : h.Ns mainGlobals mg) (c : He.SaysX hfa hfn [] htf (fun _ => true) w h K) {Pa : Addr} (TA : TabAt K mg base "traded" Pa) : DnF P w K mg base "law" ["_law_script"] 11 (sp_law K [(Pa, (("traded" : Str) ++ ".<locals>.") ++ "<lambda>")]) := by
  have B : B0 mg := ⟨free_of X G c "tuple" 53 rfl, free_of X G c "list" 54 rfl, free_of X G c "set" 55 rfl, free_of X G c "int" 56 rfl, free_of X G c "sorted" 57 rfl, free_of X G c "range" 58 rfl, free_of X G c "len" 59 rfl, free_of X G c "enumerate" 60 rfl, free_of X G c "zip" 61 rfl, free_of X G c "min" 62 rfl, free_of X G c "max" 63 rfl, free_of X G c "sum" 64 rfl, free_of X G c "all" 65 rfl, free_of X G c "abs" 66 rfl⟩
  generalize hT : [(Pa, (("traded" : Str) ++ ".<locals>.") ++ "<lambda>")] = T
  have D_buys_of : Dn P w K mg base "buys_of" ["web", "house"] 1 (sp_buys_of K T) := d_buys_of B (at_of X G c "buys_of" 1 0 0 rfl rfl) 
  have D_sells_of : Dn P w K mg base "sells_of" ["web", "house"] 1 (sp_sells_of K T) := d_sells_of B (at_of X G c "sells_of" 2 1 1 rfl rfl) 
  have D_own_contracts : Dn P w K mg base "own_contracts" ["web", "house"] 1 (sp_own_contracts K T) := d_own_contracts B (at_of X G c "own_contracts" 3 2 2 rfl rfl) 
  have D_offered_of : Dn P w K mg base "offered_of" ["row", "offered"] 1 (sp_offered_of K T) := d_offered_of B (at_of X G c "offered_of" 6 4 4 rfl rfl) 
  have D_chosen_row : Dn P w K mg base "chosen_row" ["rows", "offered"] 1 (sp_chosen_row K T) := d_chosen_row B (at_of X G c "chosen_row" 7 5 5 rfl rfl) 
  have D_within_caps : Dn P w K mg base "within_caps" ["row", "groups", "offered"] 2 (sp_within_caps K T) := d_within_caps B (at_of X G c "within_caps" 9 7 7 rfl rfl) D_offered_of
  have D_wishes_of : Dn P w K mg base "wishes_of" ["choice"] 1 (sp_wishes_of K T) := d_wishes_of B (at_of X G c "wishes_of" 4 3 3 rfl rfl) 
  have D_own_part : Dn P w K mg base "own_part" ["web", "house", "contracts"] 2 (sp_own_part K T) := d_own_part B (at_of X G c "own_part" 13 10 10 rfl rfl) D_own_contracts
  have D_joined_sets : Dn P w K mg base "joined_sets" ["one", "other"] 1 (sp_joined_sets K T) := d_joined_sets B (at_of X G c "joined_sets" 14 11 11 rfl rfl) 
  have D_offered_to : Dn P w K mg base "offered_to" ["web", "house", "offers", "asked"] 2 (sp_offered_to K T) := d_offered_to B (at_of X G c "offered_to" 17 13 13 rfl rfl) D_buys_of D_sells_of
  have D_common : Dn P w K mg base "common" ["one", "other"] 1 (sp_common K T) := d_common B (at_of X G c "common" 20 15 15 rfl rfl) 
  have D_network_of : Dn P w K mg base "network_of" ["stand"] 2 (sp_network_of K T) := d_network_of B (at_of X G c "network_of" 21 16 16 rfl rfl) D_common
  have D_all_contracts : Dn P w K mg base "all_contracts" ["web"] 1 (sp_all_contracts K T) := d_all_contracts B (at_of X G c "all_contracts" 23 18 18 rfl rfl) 
  have D_traded : Dn P w K mg base "traded" ["contracts", "choice", "offered"] 4 (sp_traded K T) := d_traded B TA (by rw [← hT]; exact List.mem_singleton.mpr rfl) (fun p hp _ => by rw [← hT] at hp; rw [List.mem_singleton.mp hp]) (at_of X G c "traded" 8 6 6 rfl rfl) D_offered_of
  have D0_chosen_by : Dn P w K mg base "chosen_by" ["contracts", "choice", "offered"] 4 (sp_chosen_by K T 0) := chosen_by0 (at_of X G c "chosen_by" 10 8 8 rfl rfl) fun _ _ F => F.bindsN fun _ _ _ _ _ _ us hl => match us, hl with | [_, _, _], _ => rfl
  have D1_chosen_by : Dn P w K mg base "chosen_by" ["contracts", "choice", "offered"] 5 (sp_chosen_by K T 1) := d_chosen_by (n := 0) (L := 4) (by decide) B (at_of X G c "chosen_by" 10 8 8 rfl rfl) D_chosen_row D_traded D_within_caps (D0_chosen_by) D_wishes_of D_offered_of
  have D_chosen_by : Dn P w K mg base "chosen_by" ["contracts", "choice", "offered"] 6 (sp_chosen_by K T 2) := d_chosen_by (n := 1) (L := 5) (by decide) B (at_of X G c "chosen_by" 10 8 8 rfl rfl) D_chosen_row D_traded D_within_caps (D1_chosen_by) D_wishes_of D_offered_of
  have D_choose : Dn P w K mg base "choose" ["web", "house", "offered"] 7 (sp_choose K T) := d_choose B (at_of X G c "choose" 11 9 9 rfl rfl) D_chosen_by
  have D_likes : Dn P w K mg base "likes" ["web", "house", "one", "other"] 8 (sp_likes K T) := d_likes B (at_of X G c "likes" 15 12 12 rfl rfl) D_choose D_joined_sets D_own_part
  have D_next_stand : Dn P w K mg base "next_stand" ["web", "stand"] 8 (sp_next_stand K T) := d_next_stand B (at_of X G c "next_stand" 19 14 14 rfl rfl) D_choose D_offered_to
  have D_settled_from : Dn P w K mg base "settled_from" ["web", "stand"] 9 (sp_settled_from K T) := d_settled_from B (at_of X G c "settled_from" 22 17 17 rfl rfl) D_next_stand
  have D_best_for_buyers : Dn P w K mg base "best_for_buyers" ["web"] 10 (sp_best_for_buyers K T) := d_best_for_buyers B (at_of X G c "best_for_buyers" 24 19 19 rfl rfl) D_settled_from D_all_contracts
  have D_best_for_sellers : Dn P w K mg base "best_for_sellers" ["web"] 10 (sp_best_for_sellers K T) := d_best_for_sellers B (at_of X G c "best_for_sellers" 25 20 20 rfl rfl) D_settled_from D_all_contracts
  have D_law_greedy : Dn P w K mg base "_law_greedy" ["_law_wishes", "_law_groups_here", "_law_offered"] 1 (sp_law_greedy K T) := d_law_greedy B (at_of X G c "_law_greedy" 31 25 25 rfl rfl) 
  have D_law_traded : Dn P w K mg base "_law_traded" ["_law_contracts", "_law_choice_here", "_law_offered"] 1 (sp_law_traded K T) := d_law_traded B (at_of X G c "_law_traded" 32 26 26 rfl rfl) 
  have D0_law_choose : Dn P w K mg base "_law_choose" ["_law_contracts", "_law_choice_here", "_law_offered"] 2 (sp_law_choose K T 0) := law_choose0 (at_of X G c "_law_choose" 33 27 27 rfl rfl) fun _ _ F => F.bindsN fun _ _ _ _ _ _ us hl => match us, hl with | [_, _, _], _ => rfl
  have D1_law_choose : Dn P w K mg base "_law_choose" ["_law_contracts", "_law_choice_here", "_law_offered"] 3 (sp_law_choose K T 1) := d_law_choose (n := 0) (L := 2) (by decide) B (at_of X G c "_law_choose" 33 27 27 rfl rfl) (D0_law_choose) D_law_greedy D_law_traded
  have D_law_choose : Dn P w K mg base "_law_choose" ["_law_contracts", "_law_choice_here", "_law_offered"] 4 (sp_law_choose K T 2) := d_law_choose (n := 1) (L := 3) (by decide) B (at_of X G c "_law_choose" 33 27 27 rfl rfl) (D1_law_choose) D_law_greedy D_law_traded
  have D_law_takes : Dn P w K mg base "_law_takes" ["_law_web_here", "_law_house", "_law_offered"] 5 (sp_law_takes K T) := d_law_takes B (at_of X G c "_law_takes" 46 40 40 rfl rfl) D_law_choose
  have D_law_own : Dn P w K mg base "_law_own" ["_law_web_here", "_law_house", "_law_contracts"] 1 (sp_law_own K T) := d_law_own B (at_of X G c "_law_own" 45 39 39 rfl rfl) 
  have D_law_likes : Dn P w K mg base "_law_likes" ["_law_web_here", "_law_house", "_law_one", "_law_other"] 6 (sp_law_likes K T) := d_law_likes B (at_of X G c "_law_likes" 56 50 50 rfl rfl) D_law_takes D_law_own
  have D_law_are_liked : Dn P w K mg base "_law_are_liked" ["_law_web_here", "_law_house", "_law_row"] 9 (sp_law_are_liked K T) := d_law_are_liked B (at_of X G c "_law_are_liked" 57 51 51 rfl rfl) D_likes D_law_likes
  have D_law_subsets : Dn P w K mg base "_law_subsets" ["_law_contracts"] 1 (sp_law_subsets K T) := d_law_subsets B (at_of X G c "_law_subsets" 34 28 28 rfl rfl) 
  have D_law_power : Dn P w K mg base "_law_power" ["_law_number"] 1 (sp_law_power K T) := d_law_power B (at_of X G c "_law_power" 47 41 41 rfl rfl) 
  have D_law_bits : Dn P w K mg base "_law_bits" ["_law_contracts"] 2 (sp_law_bits K T) := d_law_bits B (at_of X G c "_law_bits" 48 42 42 rfl rfl) D_law_power
  have D_law_set : Dn P w K mg base "_law_set" ["_law_mask"] 2 (sp_law_set K T) := d_law_set B (at_of X G c "_law_set" 49 43 43 rfl rfl) D_law_power
  have D_law_within : Dn P w K mg base "_law_within" ["_law_every"] 1 (sp_law_within K T) := d_law_within B (at_of X G c "_law_within" 51 45 45 rfl rfl) 
  have D_law_is_kept : Dn P w K mg base "_law_is_kept" ["_law_plan_here", "_law_network"] 1 (sp_law_is_kept K T) := d_law_is_kept B (at_of X G c "_law_is_kept" 52 46 46 rfl rfl) 
  have D_law_gains : Dn P w K mg base "_law_gains" ["_law_plan_here", "_law_network", "_law_lot"] 1 (sp_law_gains K T) := d_law_gains B (at_of X G c "_law_gains" 53 47 47 rfl rfl) 
  have D_law_has_gain : Dn P w K mg base "_law_has_gain" ["_law_plan_here", "_law_network", "_law_every"] 2 (sp_law_has_gain K T) := d_law_has_gain B (at_of X G c "_law_has_gain" 54 48 48 rfl rfl) D_law_within D_law_gains
  have D_law_at_rest : Dn P w K mg base "_law_at_rest" ["_law_plan_here", "_law_every"] 3 (sp_law_at_rest K T) := d_law_at_rest B (at_of X G c "_law_at_rest" 55 49 49 rfl rfl) D_law_has_gain D_law_is_kept
  have D_law_plan : Dn P w K mg base "_law_plan" ["_law_web_here"] 6 (sp_law_plan K T) := d_law_plan B (at_of X G c "_law_plan" 50 44 44 rfl rfl) D_law_bits D_law_subsets D_law_set D_law_takes
  have D_law_draws : Dn P w K mg base "_law_draws" ["_law_script", "_law_many"] 1 (sp_law_draws K T) := d_law_draws B (at_of X G c "_law_draws" 27 21 21 rfl rfl) 
  have D_law_take : Dn P w K mg base "_law_take" ["_law_draws_here", "_law_many"] 1 (sp_law_take K T) := d_law_take B (at_of X G c "_law_take" 28 22 22 rfl rfl) 
  have D_law_word : Dn P w K mg base "_law_word" ["_law_number"] 1 (sp_law_word K T) := d_law_word B (at_of X G c "_law_word" 29 23 23 rfl rfl) 
  have D_law_cell : Dn P w K mg base "_law_cell" ["_law_script", "_law_draws_here"] 2 (sp_law_cell K T) := d_law_cell B (at_of X G c "_law_cell" 30 24 24 rfl rfl) D_law_take
  have D_law_mixed : Dn P w K mg base "_law_mixed" ["_law_draws_here", "_law_contracts", "_law_share"] 2 (sp_law_mixed K T) := d_law_mixed B (at_of X G c "_law_mixed" 36 30 30 rfl rfl) D_law_take
  have D_law_groups : Dn P w K mg base "_law_groups" ["_law_draws_here", "_law_contracts"] 2 (sp_law_groups K T) := d_law_groups B (at_of X G c "_law_groups" 37 31 31 rfl rfl) D_law_take
  have D_law_pairs : Dn P w K mg base "_law_pairs" ["_law_script", "_law_draws_here", "_law_order", "_law_most", "_law_shape"] 3 (sp_law_pairs K T) := d_law_pairs B (at_of X G c "_law_pairs" 38 32 32 rfl rfl) D_law_take D_law_cell
  have D_law_table : Dn P w K mg base "_law_table" ["_law_choice_here"] 5 (sp_law_table K T) := d_law_table B (at_of X G c "_law_table" 35 29 29 rfl rfl) D_law_subsets D_law_choose
  have D_law_plain_choice : Dn P w K mg base "_law_plain_choice" ["_law_script", "_law_draws_here", "_law_buys", "_law_sells"] 6 (sp_law_plain_choice K T) := d_law_plain_choice B (at_of X G c "_law_plain_choice" 39 33 33 rfl rfl) D_law_take D_law_mixed D_law_cell D_law_groups D_law_table
  have D_law_choice : Dn P w K mg base "_law_choice" ["_law_script", "_law_draws_here", "_law_buys", "_law_sells"] 7 (sp_law_choice K T) := d_law_choice B (at_of X G c "_law_choice" 40 34 34 rfl rfl) D_law_take D_law_plain_choice
  have D_law_wild : Dn P w K mg base "_law_wild" ["_law_buys", "_law_sells"] 2 (sp_law_wild K T) := d_law_wild B (at_of X G c "_law_wild" 42 36 36 rfl rfl) 
  have D_law_unsteady_web : Dn P w K mg base "_law_unsteady_web" ["_law_draws_here"] 3 (sp_law_unsteady_web K T) := d_law_unsteady_web B (at_of X G c "_law_unsteady_web" 41 35 35 rfl rfl) D_law_mixed D_law_take D_law_word
  have D_law_steady_web : Dn P w K mg base "_law_steady_web" ["_law_script", "_law_draws_here", "_law_many", "_law_most"] 8 (sp_law_steady_web K T) := d_law_steady_web B (at_of X G c "_law_steady_web" 44 38 38 rfl rfl) D_law_take D_law_pairs D_law_word D_law_choice
  have D_law_web : Dn P w K mg base "_law_web" ["_law_script", "_law_draws_here", "_law_many", "_law_most"] 9 (sp_law_web K T) := d_law_web B (at_of X G c "_law_web" 43 37 37 rfl rfl) D_law_take D_law_unsteady_web D_law_steady_web D_law_wild
  exact d_law B (at_of X G c "law" 58 52 52 rfl rfl) D_law_draws D_law_web D_law_at_rest D_law_power D_law_plan D_law_set D_network_of D_best_for_buyers D_best_for_sellers D_law_are_liked
end
theorem law_at {w : World} {K : PySem.W.Frag} {h : Heap} {mg : Str → Option Value} {f : Addr} (X : K.In h) (G : h.Ns mainGlobals mg) (hfa' : mg ("law" : Str) = some (.ref f)) (c : He.SaysX hfa hfn [] htf (fun _ => true) w h K) : LamX.LawAtS PySem.Challenge.rw_nochaingains_k61_whole_best_for_the_ends w K CX0 11 63 "_law_script" mg f h := by
  have mt : (("traded", none) : He.Defn) ∈ htf := List.mem_singleton.mpr rfl
  have gt : mg "traded" = some (.ref (He.fAd K ("traded", none))) := He.glo_ok X G (c.t.d.fact 6 (f := .glo "traded") rfl)
  obtain ⟨fd, F⟩ := c.t.d.def_ 52 (d := dfn "law" 58) rfl
  have gl : mg "law" = some (.ref (He.fAd K ("law", none))) := He.glo_ok X G (c.t.d.fact 52 (f := .glo "law") rfl)
  have ef : f = He.fAd K ("law", none) := by
    have := hfa'.symm.trans gl
    cases this
    rfl
  subst ef
  refine ⟨fd, [He.cT K ("traded", none)], sp_law K [((He.cT K ("traded", none)).2, (("traded" : Str) ++ ".<locals>.") ++ "<lambda>")], ?_, ?_, ?_, ?_, ?_, ?_⟩
  · intro p hp
    rw [List.mem_singleton.mp hp]
    exact c.empty _ mt
  · intro p hp
    rw [List.mem_singleton.mp hp]
    exact c.out _ mt
  · intro p hp
    rw [List.mem_singleton.mp hp]
    exact PySem.W.codeHd_of_K X (c.hd _ mt)
  · have b := FunD.bindsA (ps := ["_law_script"]) F fun _ _ _ _ _ _ us hl => match us, hl with | [_], _ => rfl
    exact fun s u => b s [u] rfl
  · intro H a ns hl _ hH hS
    refine ⟨_, rfl, a, ns, rfl, hS, by omega, fun p hp => ?_, fun _ => rfl⟩
    rw [List.mem_singleton.mp hp]
    exact LamX.TabS.nil (hH _ (List.mem_singleton.mpr rfl))
  · intro base _ _ hTB
    have TA : TabAt K mg base "traded" (He.cT K ("traded", none)).2 := fun f' fd' c' g' lk ec => by
      have := g'.symm.trans gt
      cases this
      obtain ⟨oc, od, osl, lk⟩ := lk
      have e := He.codeOf_eq lk ec
      have := hTB _ (List.mem_singleton.mpr rfl)
      have e1 : (He.cT K ("traded", none)).1 = c' := e
      rw [e1] at this
      exact this
    obtain ⟨f', fd', OK, g', oc', od', osl', lk'⟩ := law_dn (P := (PySem.Challenge.rw_nochaingains_k61_whole_best_for_the_ends).prog) (w := w) (base := base) X G c TA
    have e2 := g'.symm.trans gl
    cases e2
    obtain ⟨oc, od, osl, lk⟩ := fn_lookup (x := "law") (st := topS 58) F
    have e3 := lk'.symm.trans lk
    cases e3
    exact OK
end Nc
set_option maxHeartbeats 0
open PySem PySem.W PySem.Calls PyProof.Rows
theorem PySem.Challenge.cw_nochaingains_k61_whole_best_for_the_ends_holds : PySem.Challenge.rw_nochaingains_k61_whole_best_for_the_ends.Holds := by
  refine Nc.holds_of (LamX.walk_ofTsE (l := PySem.Challenge.rw_nochaingains_k61_whole_best_for_the_ends) (n := 63) (k := 11) (x := "_law_script") (CX := fun _ => L2.CX0) rfl (by decide) Nc.law_plain ⟨rfl, by decide, by decide⟩ (fun w mg fa h Y G hmg0 => ?_) (fun _ _ _ _ _ z => z))
  obtain ⟨K, KX, c⟩ := Y
  rw [Nc.law_name] at hmg0
  exact ⟨K, KX, Nc.law_at KX G hmg0 c⟩
