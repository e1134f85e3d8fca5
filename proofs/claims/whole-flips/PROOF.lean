import PyProof.Rows.All
import Wide.All
import OpenK.AllK
import Wide.FinOn
import KE.GoesSet
import KE.GoesDict
import PyProof.DictMoreH
import HandS.ForMost
import HandS.ForExc
import HandS.Strs
import HandS.TupSets
import HandS.Zip
import HandS.Conv
import HandS.IsInst
import HandS.TupLe
import HandS.TupAny
import HandS.TupLen
import HandS.DictComp
import HandS.DictTup
import HandS.SetKeys
import HandS.SortOrd
import HandS.SortInts
import HandS.Star
import HandS.Small
import HandS.Deep
import HandS.Style
import HandS.Flow
import HandS.DictSubView
import KE.KDictDisplayH
import KE.KDictPairs
import KE.GoesEnum
import KE.KDictZip
import HandS.EndTab
import HandS.Property
import HandS.OwnEq
import HandS.Lambda
import HandS.ExcIs
import HandS.ListItems
import HandS.RaiseOp
import PySem.Challenge.RW_shapeholes_k54_whole_flips
set_option linter.all false
namespace Fl
abbrev Rel3 := Int → Int → Int → Prop

/-- a closed surface by its triangles, as a symmetric relation of three vertices -/
structure SR (M : Rel3) : Prop where
  s1 : ∀ x y z, M x y z → M y x z
  s2 : ∀ x y z, M x y z → M x z y
  ne : ∀ x y z, M x y z → x ≠ y
  two : ∀ x y z, M x y z → ∃ w, w ≠ z ∧ M x y w ∧ ∀ u, M x y u → u = z ∨ u = w
  conn : ∀ f : Int → Bool, (∀ x y z, M x y z → f x = f y) → ∀ x y, (∃ p q, M x p q) → (∃ p q, M y p q) → f x = f y
  link : ∀ v, ∀ f : Int → Bool, (∀ x y, M v x y → f x = f y) → ∀ x y, (∃ z, M v x z) → (∃ z, M v y z) → f x = f y

def P3 (x y z a b c : Int) : Prop := (x = a ∧ y = b ∧ z = c) ∨ (x = a ∧ y = c ∧ z = b) ∨ (x = b ∧ y = a ∧ z = c) ∨ (x = b ∧ y = c ∧ z = a) ∨ (x = c ∧ y = a ∧ z = b) ∨ (x = c ∧ y = b ∧ z = a)

def flipR (M : Rel3) (a b c d : Int) : Rel3 := fun x y z => (M x y z ∧ ¬ P3 x y z a b c ∧ ¬ P3 x y z a b d) ∨ P3 x y z a c d ∨ P3 x y z b c d

structure CanFlip (M : Rel3) (a b c d : Int) : Prop where
  mc : M a b c
  md : M a b d
  ne : c ≠ d
  no : ∀ z, ¬ M c d z

theorem flip_two {M : Rel3} (S : SR M) {a b c d : Int} (F : CanFlip M a b c d) : ∀ x y z, flipR M a b c d x y z → ∃ w, w ≠ z ∧ flipR M a b c d x y w ∧ ∀ u, flipR M a b c d x y u → u = z ∨ u = w := by
  have hs1 := S.s1; have hs2 := S.s2; have hne := S.ne; have htwo := S.two
  obtain ⟨mc, md, ncd, no⟩ := F
  have mab := hne _ _ _ mc
  have mac := hne _ _ _ (hs2 _ _ _ mc)
  have mbc := hne _ _ _ (hs2 _ _ _ (hs1 _ _ _ mc))
  have mad := hne _ _ _ (hs2 _ _ _ md)
  have mbd := hne _ _ _ (hs2 _ _ _ (hs1 _ _ _ md))
  have uab : ∀ u, M a b u → u = c ∨ u = d := by
    obtain ⟨w, nw, hw, hu⟩ := htwo a b c mc
    intro u hu'
    rcases hu u hu' with e | e
    · exact .inl e
    · rcases hu d md with e2 | e2
      · exact absurd e2.symm ncd
      · exact .inr (e.trans e2.symm)
  intro x y z h
  unfold flipR at h ⊢
  rcases h with ⟨h, h1, h2⟩ | h | h
  · obtain ⟨w, nw, hw, huq⟩ := htwo x y z h
    by_cases e1 : P3 x y w a b c
    · unfold P3 at *
      rcases e1 with ⟨rfl, rfl, rfl⟩ | ⟨rfl, rfl, rfl⟩ | ⟨rfl, rfl, rfl⟩ | ⟨rfl, rfl, rfl⟩ | ⟨rfl, rfl, rfl⟩ | ⟨rfl, rfl, rfl⟩
      · exfalso; grind (splits := 40)
      · exact ⟨d, by grind (splits := 40), by grind (splits := 40), by grind (splits := 40)⟩
      · exfalso; grind (splits := 40)
      · exact ⟨d, by grind (splits := 40), by grind (splits := 40), by grind (splits := 40)⟩
      · exact ⟨d, by grind (splits := 40), by grind (splits := 40), by grind (splits := 40)⟩
      · exact ⟨d, by grind (splits := 40), by grind (splits := 40), by grind (splits := 40)⟩
    · by_cases e2 : P3 x y w a b d
      · unfold P3 at *
        rcases e2 with ⟨rfl, rfl, rfl⟩ | ⟨rfl, rfl, rfl⟩ | ⟨rfl, rfl, rfl⟩ | ⟨rfl, rfl, rfl⟩ | ⟨rfl, rfl, rfl⟩ | ⟨rfl, rfl, rfl⟩
        · exfalso; grind (splits := 40)
        · exact ⟨c, by grind (splits := 40), by grind (splits := 40), by grind (splits := 40)⟩
        · exfalso; grind (splits := 40)
        · exact ⟨c, by grind (splits := 40), by grind (splits := 40), by grind (splits := 40)⟩
        · exact ⟨c, by grind (splits := 40), by grind (splits := 40), by grind (splits := 40)⟩
        · exact ⟨c, by grind (splits := 40), by grind (splits := 40), by grind (splits := 40)⟩
      · refine ⟨w, nw, .inl ⟨hw, e1, e2⟩, fun u hu => ?_⟩
        rcases hu with ⟨hu, _, _⟩ | hu | hu
        · exact huq u hu
        · exfalso
          unfold P3 at *
          rcases hu with ⟨rfl, rfl, rfl⟩ | ⟨rfl, rfl, rfl⟩ | ⟨rfl, rfl, rfl⟩ | ⟨rfl, rfl, rfl⟩ | ⟨rfl, rfl, rfl⟩ | ⟨rfl, rfl, rfl⟩ <;> grind (splits := 40)
        · exfalso
          unfold P3 at *
          rcases hu with ⟨rfl, rfl, rfl⟩ | ⟨rfl, rfl, rfl⟩ | ⟨rfl, rfl, rfl⟩ | ⟨rfl, rfl, rfl⟩ | ⟨rfl, rfl, rfl⟩ | ⟨rfl, rfl, rfl⟩ <;> grind (splits := 40)
  · obtain ⟨wac, na1, na2, na3⟩ := htwo a c b (hs2 _ _ _ mc)
    obtain ⟨wad, nb1, nb2, nb3⟩ := htwo a d b (hs2 _ _ _ md)
    unfold P3 at *
    rcases h with ⟨rfl, rfl, rfl⟩ | ⟨rfl, rfl, rfl⟩ | ⟨rfl, rfl, rfl⟩ | ⟨rfl, rfl, rfl⟩ | ⟨rfl, rfl, rfl⟩ | ⟨rfl, rfl, rfl⟩
    · exact ⟨wac, by grind (splits := 40), by grind (splits := 40), by grind (splits := 40)⟩
    · exact ⟨wad, by grind (splits := 40), by grind (splits := 40), by grind (splits := 40)⟩
    · exact ⟨wac, by grind (splits := 40), by grind (splits := 40), by grind (splits := 40)⟩
    · exact ⟨b, by grind (splits := 40), by grind (splits := 40), by grind (splits := 40)⟩
    · exact ⟨wad, by grind (splits := 40), by grind (splits := 40), by grind (splits := 40)⟩
    · exact ⟨b, by grind (splits := 40), by grind (splits := 40), by grind (splits := 40)⟩
  · obtain ⟨wbc, na1, na2, na3⟩ := htwo b c a (hs2 _ _ _ (hs1 _ _ _ mc))
    obtain ⟨wbd, nb1, nb2, nb3⟩ := htwo b d a (hs2 _ _ _ (hs1 _ _ _ md))
    unfold P3 at *
    rcases h with ⟨rfl, rfl, rfl⟩ | ⟨rfl, rfl, rfl⟩ | ⟨rfl, rfl, rfl⟩ | ⟨rfl, rfl, rfl⟩ | ⟨rfl, rfl, rfl⟩ | ⟨rfl, rfl, rfl⟩
    · exact ⟨wbc, by grind (splits := 40), by grind (splits := 40), by grind (splits := 40)⟩
    · exact ⟨wbd, by grind (splits := 40), by grind (splits := 40), by grind (splits := 40)⟩
    · exact ⟨wbc, by grind (splits := 40), by grind (splits := 40), by grind (splits := 40)⟩
    · exact ⟨a, by grind (splits := 40), by grind (splits := 40), by grind (splits := 40)⟩
    · exact ⟨wbd, by grind (splits := 40), by grind (splits := 40), by grind (splits := 40)⟩
    · exact ⟨a, by grind (splits := 40), by grind (splits := 40), by grind (splits := 40)⟩

theorem flip_s1 {M : Rel3} (S : SR M) {a b c d : Int} : ∀ x y z, flipR M a b c d x y z → flipR M a b c d y x z := by
  have hs1 := S.s1
  intro x y z h
  unfold flipR P3 at *
  grind (splits := 40)
theorem flip_s2 {M : Rel3} (S : SR M) {a b c d : Int} : ∀ x y z, flipR M a b c d x y z → flipR M a b c d x z y := by
  have hs2 := S.s2
  intro x y z h
  unfold flipR P3 at *
  grind (splits := 40)
theorem flip_ne {M : Rel3} (S : SR M) {a b c d : Int} (F : CanFlip M a b c d) : ∀ x y z, flipR M a b c d x y z → x ≠ y := by
  have hs1 := S.s1; have hs2 := S.s2; have hne := S.ne
  obtain ⟨mc, md, ncd, no⟩ := F
  intro x y z h
  unfold flipR P3 at *
  grind (splits := 40)
theorem flip_conn {M : Rel3} (S : SR M) {a b c d : Int} (F : CanFlip M a b c d) :
    ∀ f : Int → Bool, (∀ x y z, flipR M a b c d x y z → f x = f y) → ∀ x y, (∃ p q, flipR M a b c d x p q) → (∃ p q, flipR M a b c d y p q) → f x = f y := by
  have hs1 := S.s1; have hs2 := S.s2
  obtain ⟨mc, md, ncd, no⟩ := F
  intro f hf
  have key : ∀ x y z, M x y z → f x = f y := by
    intro x y z h
    have e1 : f a = f c := hf a c d (.inr (.inl (.inl ⟨rfl, rfl, rfl⟩)))
    have e2 : f b = f c := hf b c d (.inr (.inr (.inl ⟨rfl, rfl, rfl⟩)))
    have e3 : f c = f d := hf c d a (.inr (.inl (by unfold P3; grind (splits := 40))))
    by_cases q : P3 x y z a b c ∨ P3 x y z a b d
    · unfold P3 at q
      grind (splits := 40)
    · exact hf x y z (.inl ⟨h, fun z => q (.inl z), fun z => q (.inr z)⟩)
  have vx : ∀ x, (∃ p q, flipR M a b c d x p q) → ∃ p q, M x p q := by
    rintro x ⟨p, q, h⟩
    unfold flipR P3 at h
    grind (splits := 40)
  intro x y hx hy
  exact S.conn f key x y (vx x hx) (vx y hy)
theorem flip_link {M : Rel3} (S : SR M) {a b c d : Int} (F : CanFlip M a b c d) :
    ∀ v, ∀ f : Int → Bool, (∀ x y, flipR M a b c d v x y → f x = f y) → ∀ x y, (∃ z, flipR M a b c d v x z) → (∃ z, flipR M a b c d v y z) → f x = f y := by
  have hs1 := S.s1; have hs2 := S.s2; have hne := S.ne
  obtain ⟨mc, md, ncd, no⟩ := F
  have mab := hne _ _ _ mc
  have mac := hne _ _ _ (hs2 _ _ _ mc)
  have mbc := hne _ _ _ (hs2 _ _ _ (hs1 _ _ _ mc))
  have mad := hne _ _ _ (hs2 _ _ _ md)
  have mbd := hne _ _ _ (hs2 _ _ _ (hs1 _ _ _ md))
  intro v f hf
  by_cases va : v = a
  · subst va
    have e1 : f c = f d := hf c d (by unfold flipR P3; grind (splits := 40))
    let g : Int → Bool := fun x => if x = b then f c else f x
    have hg : ∀ x y, M v x y → g x = g y := by
      intro x y h
      show (if x = b then f c else f x) = (if y = b then f c else f y)
      by_cases q : P3 v x y v b c ∨ P3 v x y v b d
      · unfold P3 at q
        grind (splits := 40)
      · have := hf x y (.inl ⟨h, fun z => q (.inl z), fun z => q (.inr z)⟩)
        have n1 : x ≠ b := by
          rintro rfl
          obtain ⟨w, w1, w2, w3⟩ := S.two _ _ _ mc
          unfold P3 at q
          grind (splits := 40)
        have n2 : y ≠ b := by
          rintro rfl
          obtain ⟨w, w1, w2, w3⟩ := S.two _ _ _ mc
          unfold P3 at q
          grind (splits := 40)
        rw [if_neg n1, if_neg n2]
        exact this
    have vx : ∀ x, (∃ z, flipR M v b c d v x z) → (∃ z, M v x z) ∧ x ≠ b := by
      rintro x ⟨z, h⟩
      obtain ⟨w, w1, w2, w3⟩ := S.two _ _ _ mc
      unfold flipR P3 at h
      grind (splits := 40)
    intro x y hx hy
    have := S.link v g hg x y (vx x hx).1 (vx y hy).1
    show f x = f y
    have r1 : g x = f x := if_neg (vx x hx).2
    have r2 : g y = f y := if_neg (vx y hy).2
    rw [← r1, ← r2, this]
  · by_cases vb : v = b
    · subst vb
      have e1 : f c = f d := hf c d (by unfold flipR P3; grind (splits := 40))
      let g : Int → Bool := fun x => if x = a then f c else f x
      have hg : ∀ x y, M v x y → g x = g y := by
        intro x y h
        show (if x = a then f c else f x) = (if y = a then f c else f y)
        by_cases q : P3 v x y a v c ∨ P3 v x y a v d
        · unfold P3 at q
          grind (splits := 40)
        · have := hf x y (.inl ⟨h, fun z => q (.inl z), fun z => q (.inr z)⟩)
          have n1 : x ≠ a := by
            rintro rfl
            obtain ⟨w, w1, w2, w3⟩ := S.two _ _ _ mc
            unfold P3 at q
            grind (splits := 40)
          have n2 : y ≠ a := by
            rintro rfl
            obtain ⟨w, w1, w2, w3⟩ := S.two _ _ _ mc
            unfold P3 at q
            grind (splits := 40)
          rw [if_neg n1, if_neg n2]
          exact this
      have vx : ∀ x, (∃ z, flipR M a v c d v x z) → (∃ z, M v x z) ∧ x ≠ a := by
        rintro x ⟨z, h⟩
        obtain ⟨w, w1, w2, w3⟩ := S.two _ _ _ mc
        unfold flipR P3 at h
        grind (splits := 40)
      intro x y hx hy
      have := S.link v g hg x y (vx x hx).1 (vx y hy).1
      have r1 : g x = f x := if_neg (vx x hx).2
      have r2 : g y = f y := if_neg (vx y hy).2
      rw [← r1, ← r2, this]
    · have key : ∀ x y, M v x y → f x = f y := by
        intro x y h
        by_cases vc : v = c
        · subst vc
          have e1 : f a = f d := hf a d (by unfold flipR P3; grind (splits := 40))
          have e2 : f b = f d := hf b d (by unfold flipR P3; grind (splits := 40))
          by_cases q : P3 v x y a b v ∨ P3 v x y a b d
          · unfold P3 at q
            grind (splits := 40)
          · exact hf x y (.inl ⟨h, fun z => q (.inl z), fun z => q (.inr z)⟩)
        · by_cases vd : v = d
          · subst vd
            have e1 : f a = f c := hf a c (by unfold flipR P3; grind (splits := 40))
            have e2 : f b = f c := hf b c (by unfold flipR P3; grind (splits := 40))
            by_cases q : P3 v x y a b c ∨ P3 v x y a b v
            · unfold P3 at q
              grind (splits := 40)
            · exact hf x y (.inl ⟨h, fun z => q (.inl z), fun z => q (.inr z)⟩)
          · refine hf x y (.inl ⟨h, ?_, ?_⟩) <;> unfold P3 <;> grind (splits := 40)
      have vx : ∀ x, (∃ z, flipR M a b c d v x z) → (∃ y, (∃ z, M v y z) ∧ f x = f y) := by
        rintro x ⟨z, h⟩
        by_cases vc : v = c
        · subst vc
          by_cases xd : x = d
          · exact ⟨a, ⟨b, by grind (splits := 40)⟩, by subst xd; exact (hf a x (by unfold flipR P3; grind (splits := 40))).symm⟩
          · refine ⟨x, ?_, rfl⟩
            unfold flipR P3 at h
            grind (splits := 40)
        · by_cases vd : v = d
          · subst vd
            by_cases xc : x = c
            · exact ⟨a, ⟨b, by grind (splits := 40)⟩, by subst xc; exact (hf a x (by unfold flipR P3; grind (splits := 40))).symm⟩
            · refine ⟨x, ?_, rfl⟩
              unfold flipR P3 at h
              grind (splits := 40)
          · refine ⟨x, ?_, rfl⟩
            unfold flipR P3 at h
            grind (splits := 40)
      intro x y hx hy
      obtain ⟨x', hx', ex⟩ := vx x hx
      obtain ⟨y', hy', ey⟩ := vx y hy
      rw [ex, ey]
      exact S.link v f key x' y' hx' hy'
theorem flip_SR {M : Rel3} (S : SR M) {a b c d : Int} (F : CanFlip M a b c d) : SR (flipR M a b c d) :=
  ⟨flip_s1 S, flip_s2 S, flip_ne S F, flip_two S F, flip_conn S F, flip_link S F⟩

/-! ### orientations -/
structure Ori (M : Rel3) (s : Int → Int → Int → Bool) : Prop where
  a1 : ∀ x y z, M x y z → s y x z = !s x y z
  a2 : ∀ x y z, M x y z → s x z y = !s x y z
  co : ∀ x y z w, M x y z → M x y w → z ≠ w → s x y w = !s x y z
def Orble (M : Rel3) : Prop := ∃ s, Ori M s
def cyc (x y z a b c : Int) : Bool := decide ((x = a ∧ y = b ∧ z = c) ∨ (x = b ∧ y = c ∧ z = a) ∨ (x = c ∧ y = a ∧ z = b))
/-- v on (a, b, c) and its turns, its opposite on the others -/
def altB (a b c : Int) (v : Bool) (x y z : Int) : Bool := if cyc x y z a b c then v else !v
instance {x y z a b c : Int} : Decidable (P3 x y z a b c) := by unfold P3; infer_instance
theorem alt1 {a b c : Int} (n1 : a ≠ b) (n2 : a ≠ c) (n3 : b ≠ c) {v : Bool} {x y z : Int} (h : P3 x y z a b c) : altB a b c v y x z = !altB a b c v x y z := by
  unfold P3 at h
  unfold altB cyc
  grind (splits := 40)
theorem alt2 {a b c : Int} (n1 : a ≠ b) (n2 : a ≠ c) (n3 : b ≠ c) {v : Bool} {x y z : Int} (h : P3 x y z a b c) : altB a b c v x z y = !altB a b c v x y z := by
  unfold P3 at h
  unfold altB cyc
  grind (splits := 40)
theorem P3.s1 {x y z a b c : Int} (h : P3 x y z a b c) : P3 y x z a b c := by
  unfold P3 at *
  grind (splits := 40)
theorem P3.s2 {x y z a b c : Int} (h : P3 x y z a b c) : P3 x z y a b c := by
  unfold P3 at *
  grind (splits := 40)
def flipO (s : Int → Int → Int → Bool) (a b c d : Int) (x y z : Int) : Bool :=
  if P3 x y z a c d then altB a c d (s a c b) x y z else if P3 x y z b c d then altB b c d (s b c a) x y z else s x y z
theorem flip_ori {M : Rel3} (S : SR M) {a b c d : Int} (F : CanFlip M a b c d) {s : Int → Int → Int → Bool} (O : Ori M s) : Ori (flipR M a b c d) (flipO s a b c d) := by
  have hs1 := S.s1; have hs2 := S.s2; have hne := S.ne
  obtain ⟨mc, md, ncd, no⟩ := F
  have mab := hne _ _ _ mc
  have mac := hne _ _ _ (hs2 _ _ _ mc)
  have mbc := hne _ _ _ (hs2 _ _ _ (hs1 _ _ _ mc))
  have mad := hne _ _ _ (hs2 _ _ _ md)
  have mbd := hne _ _ _ (hs2 _ _ _ (hs1 _ _ _ md))
  have a1 := O.a1; have a2 := O.a2; have co := O.co
  have noP : ∀ x y z, M x y z → ¬ P3 x y z a c d ∧ ¬ P3 x y z b c d := by
    intro x y z h
    unfold P3
    constructor <;> grind (splits := 40)
  refine ⟨fun x y z h => ?_, fun x y z h => ?_, fun x y z w h h' ne => ?_⟩
  · unfold flipO
    by_cases h1 : P3 x y z a c d
    · rw [if_pos h1, if_pos h1.s1]
      exact alt1 mac mad ncd h1
    · rw [if_neg h1, if_neg (fun q => h1 q.s1)]
      by_cases h2 : P3 x y z b c d
      · rw [if_pos h2, if_pos h2.s1]
        exact alt1 mbc mbd ncd h2
      · rw [if_neg h2, if_neg (fun q => h2 q.s1)]
        rcases h with ⟨h, _⟩ | h | h
        · exact a1 x y z h
        · exact absurd h h1
        · exact absurd h h2
  · unfold flipO
    by_cases h1 : P3 x y z a c d
    · rw [if_pos h1, if_pos h1.s2]
      exact alt2 mac mad ncd h1
    · rw [if_neg h1, if_neg (fun q => h1 q.s2)]
      by_cases h2 : P3 x y z b c d
      · rw [if_pos h2, if_pos h2.s2]
        exact alt2 mbc mbd ncd h2
      · rw [if_neg h2, if_neg (fun q => h2 q.s2)]
        rcases h with ⟨h, _⟩ | h | h
        · exact a2 x y z h
        · exact absurd h h1
        · exact absurd h h2
  · -- coherence
    have coA : ∀ w, M a c w → w ≠ b → s a c w = !s a c b := fun w hw n => co a c b w (hs2 _ _ _ mc) hw (Ne.symm n)
    have coB : ∀ w, M b c w → w ≠ a → s b c w = !s b c a := fun w hw n => co b c a w (hs2 _ _ _ (hs1 _ _ _ mc)) hw (Ne.symm n)
    have coC : ∀ w, M a d w → w ≠ b → s a d w = !s a d b := fun w hw n => co a d b w (hs2 _ _ _ md) hw (Ne.symm n)
    have coD : ∀ w, M b d w → w ≠ a → s b d w = !s b d a := fun w hw n => co b d a w (hs2 _ _ _ (hs1 _ _ _ md)) hw (Ne.symm n)
    have e1 : s a b d = !s a b c := co a b c d mc md ncd
    have e2 : s a c b = !s a b c := a2 _ _ _ mc
    have e3 : s a d b = !s a b d := a2 _ _ _ md
    have e4 : s b a c = !s a b c := a1 _ _ _ mc
    have e5 : s b a d = !s a b d := a1 _ _ _ md
    have e6 : s b c a = !s b a c := a2 _ _ _ (hs1 _ _ _ mc)
    have e7 : s b d a = !s b a d := a2 _ _ _ (hs1 _ _ _ md)
    have uab : ∀ u, M a b u → u = c ∨ u = d := by
      obtain ⟨w, nw, hw, hu⟩ := S.two a b c mc
      grind (splits := 40)
    have vA : ∀ x y w, P3 x y w a c d → flipO s a b c d x y w = altB a c d (s a c b) x y w := fun x y w h => if_pos h
    have vB : ∀ x y w, P3 x y w b c d → flipO s a b c d x y w = altB b c d (s b c a) x y w := fun x y w h => by
      have n : ¬ P3 x y w a c d := by
        unfold P3 at *
        grind (splits := 40)
      unfold flipO
      rw [if_neg n, if_pos h]
    have vO : ∀ x y w, M x y w → flipO s a b c d x y w = s x y w := fun x y w h => by
      unfold flipO
      rw [if_neg (noP x y w h).1, if_neg (noP x y w h).2]
    have on : ∀ x y z w, M x y z → ¬ P3 x y z a b c → ¬ P3 x y z a b d → (P3 x y w a c d ∨ P3 x y w b c d) → flipO s a b c d x y w = !s x y z := by
      intro x y z w hm n1 n2 hw
      have k1 : s y x z = !s x y z := a1 _ _ _ hm
      rcases hw with hw | hw
      · rw [vA x y w hw]
        have nb : z ≠ b := by
          rintro rfl
          unfold P3 at *
          grind (splits := 40)
        unfold P3 at hw
        rcases hw with ⟨rfl, rfl, rfl⟩ | ⟨rfl, rfl, rfl⟩ | ⟨rfl, rfl, rfl⟩ | ⟨rfl, rfl, rfl⟩ | ⟨rfl, rfl, rfl⟩ | ⟨rfl, rfl, rfl⟩
        · have k2 := coA z hm nb
          unfold altB cyc
          grind (splits := 40)
        · have k2 := coC z hm nb
          unfold altB cyc
          grind (splits := 40)
        · have k2 := coA z (hs1 _ _ _ hm) nb
          unfold altB cyc
          grind (splits := 40)
        · exact absurd hm (no z)
        · have k2 := coC z (hs1 _ _ _ hm) nb
          unfold altB cyc
          grind (splits := 40)
        · exact absurd (hs1 _ _ _ hm) (no z)
      · rw [vB x y w hw]
        have nb : z ≠ a := by
          rintro rfl
          unfold P3 at *
          grind (splits := 40)
        unfold P3 at hw
        rcases hw with ⟨rfl, rfl, rfl⟩ | ⟨rfl, rfl, rfl⟩ | ⟨rfl, rfl, rfl⟩ | ⟨rfl, rfl, rfl⟩ | ⟨rfl, rfl, rfl⟩ | ⟨rfl, rfl, rfl⟩
        · have k2 := coB z hm nb
          unfold altB cyc
          grind (splits := 40)
        · have k2 := coD z hm nb
          unfold altB cyc
          grind (splits := 40)
        · have k2 := coB z (hs1 _ _ _ hm) nb
          unfold altB cyc
          grind (splits := 40)
        · exact absurd hm (no z)
        · have k2 := coD z (hs1 _ _ _ hm) nb
          unfold altB cyc
          grind (splits := 40)
        · exact absurd (hs1 _ _ _ hm) (no z)
    have nn : ∀ x y z w, P3 x y z a c d → P3 x y w b c d → flipO s a b c d x y w = !flipO s a b c d x y z := by
      intro x y z w hz hw
      rw [vA x y z hz, vB x y w hw]
      have k : s b c a = !s a c b := by grind (splits := 40)
      unfold P3 at hz hw
      rcases hz with ⟨rfl, rfl, rfl⟩ | ⟨rfl, rfl, rfl⟩ | ⟨rfl, rfl, rfl⟩ | ⟨rfl, rfl, rfl⟩ | ⟨rfl, rfl, rfl⟩ | ⟨rfl, rfl, rfl⟩
      · exfalso; grind (splits := 40)
      · exfalso; grind (splits := 40)
      · exfalso; grind (splits := 40)
      · have ew : w = b := by grind (splits := 40)
        subst ew
        unfold altB cyc
        grind (splits := 40)
      · exfalso; grind (splits := 40)
      · have ew : w = b := by grind (splits := 40)
        subst ew
        unfold altB cyc
        grind (splits := 40)
    have inj : ∀ p q r x y z w, P3 x y z p q r → P3 x y w p q r → p ≠ q → p ≠ r → q ≠ r → z = w := by
      intro p q r x y z w h h' n1 n2 n3
      unfold P3 at *
      grind (splits := 40)
    rcases h with ⟨h, h1, h2⟩ | h | h
    · rw [vO x y z h]
      rcases h' with ⟨h', _, _⟩ | h' | h'
      · rw [vO x y w h']
        exact co x y z w h h' ne
      · exact on x y z w h h1 h2 (.inl h')
      · exact on x y z w h h1 h2 (.inr h')
    · rcases h' with ⟨h', g1, g2⟩ | h' | h'
      · have k := on x y w z h' g1 g2 (.inl h)
        rw [vO x y w h', k, Bool.not_not]
      · exact absurd (inj _ _ _ _ _ _ _ h h' mac mad ncd) ne
      · exact nn x y z w h h'
    · rcases h' with ⟨h', g1, g2⟩ | h' | h'
      · have k := on x y w z h' g1 g2 (.inr h)
        rw [vO x y w h', k, Bool.not_not]
      · have k := nn x y w z h' h
        rw [k, Bool.not_not]
      · exact absurd (inj _ _ _ _ _ _ _ h h' mbc mbd ncd) ne
theorem flip_orble {M : Rel3} (S : SR M) {a b c d : Int} (F : CanFlip M a b c d) (O : Orble M) : Orble (flipR M a b c d) :=
  let ⟨_, h⟩ := O
  ⟨_, flip_ori S F h⟩
/-- the flip of the new edge undoes it -/
theorem flip_back {M : Rel3} (S : SR M) {a b c d : Int} (F : CanFlip M a b c d) : CanFlip (flipR M a b c d) c d a b ∧ ∀ x y z, flipR (flipR M a b c d) c d a b x y z ↔ M x y z := by
  have hs1 := S.s1; have hs2 := S.s2; have hne := S.ne
  obtain ⟨mc, md, ncd, no⟩ := F
  have mab := hne _ _ _ mc
  have mac := hne _ _ _ (hs2 _ _ _ mc)
  have mbc := hne _ _ _ (hs2 _ _ _ (hs1 _ _ _ mc))
  have mad := hne _ _ _ (hs2 _ _ _ md)
  have mbd := hne _ _ _ (hs2 _ _ _ (hs1 _ _ _ md))
  have uab : ∀ u, M a b u → u = c ∨ u = d := by
    obtain ⟨w, nw, hw, hu⟩ := S.two a b c mc
    grind (splits := 40)
  have noP : ∀ x y z, M x y z → ¬ P3 x y z a c d ∧ ¬ P3 x y z b c d := by
    intro x y z h
    unfold P3
    constructor <;> grind (splits := 40)
  have all6 : ∀ p q r x y z, M p q r → P3 x y z p q r → M x y z := by
    intro p q r x y z h h'
    unfold P3 at h'
    grind (splits := 40)
  have swap : ∀ p q r x y z, P3 x y z p q r ↔ P3 x y z q r p := by
    intro p q r x y z
    unfold P3
    constructor <;> (intro h; grind (splits := 40))
  refine ⟨⟨?_, ?_, mab, ?_⟩, fun x y z => ⟨fun h => ?_, fun h => ?_⟩⟩
  · exact .inr (.inl ((swap _ _ _ _ _ _).mpr (.inl ⟨rfl, rfl, rfl⟩)))
  · exact .inr (.inr ((swap _ _ _ _ _ _).mpr (.inl ⟨rfl, rfl, rfl⟩)))
  · intro z h
    rcases h with ⟨h, h1, h2⟩ | h | h
    · rcases uab z h with rfl | rfl
      · exact h1 (.inl ⟨rfl, rfl, rfl⟩)
      · exact h2 (.inl ⟨rfl, rfl, rfl⟩)
    · unfold P3 at h
      grind (splits := 40)
    · unfold P3 at h
      grind (splits := 40)
  · rcases h with ⟨h, h1, h2⟩ | h | h
    · rcases h with ⟨h, _⟩ | h | h
      · exact h
      · exact absurd ((swap _ _ _ _ _ _).mp h) h1
      · exact absurd ((swap _ _ _ _ _ _).mp h) h2
    · exact all6 _ _ _ _ _ _ mc ((swap _ _ _ _ _ _).mp h)
    · exact all6 _ _ _ _ _ _ md ((swap _ _ _ _ _ _).mp h)
  · by_cases q1 : P3 x y z a b c
    · exact .inr (.inl ((swap _ _ _ _ _ _).mpr q1))
    · by_cases q2 : P3 x y z a b d
      · exact .inr (.inr ((swap _ _ _ _ _ _).mpr q2))
      · exact .inl ⟨.inl ⟨h, q1, q2⟩, fun q => (noP x y z h).1 ((swap _ _ _ _ _ _).mpr q), fun q => (noP x y z h).2 ((swap _ _ _ _ _ _).mpr q)⟩
theorem orble_iff {M M' : Rel3} (e : ∀ x y z, M x y z ↔ M' x y z) (O : Orble M) : Orble M' := by
  obtain ⟨s, O⟩ := O
  exact ⟨s, fun x y z h => O.a1 x y z ((e _ _ _).mpr h), fun x y z h => O.a2 x y z ((e _ _ _).mpr h), fun x y z w h h' n => O.co x y z w ((e _ _ _).mpr h) ((e _ _ _).mpr h') n⟩
theorem SR.iff {M M' : Rel3} (e : ∀ x y z, M x y z ↔ M' x y z) (S : SR M) : SR M' := by
  have q : M = M' := by
    funext x y z
    exact propext (e x y z)
  rw [← q]
  exact S
theorem flip_orble_iff {M : Rel3} (S : SR M) {a b c d : Int} (F : CanFlip M a b c d) : Orble (flipR M a b c d) ↔ Orble M := by
  refine ⟨fun O => ?_, flip_orble S F⟩
  obtain ⟨F', e⟩ := flip_back S F
  exact orble_iff e (flip_orble (flip_SR S F) F' O)

/-! ### two surfaces put together along a triangle -/
/-- M2 hangs together around each corner of p q r without that triangle -/
def Opens (M2 : Rel3) (p q r : Int) : Prop := ∀ v x y, P3 v x y p q r → ∀ f : Int → Bool, (∀ u w, M2 v u w → ¬ P3 v u w p q r → f u = f w) → f x = f y
def sumR (M1 M2 : Rel3) (p q r : Int) : Rel3 := fun x y z => (M1 x y z ∨ M2 x y z) ∧ ¬ P3 x y z p q r
structure Meet2 (M1 M2 : Rel3) (p q r : Int) : Prop where
  m1 : M1 p q r
  m2 : M2 p q r
  only : ∀ x, (∃ y z, M1 x y z) → (∃ y z, M2 x y z) → x = p ∨ x = q ∨ x = r
  op : Opens M2 p q r
theorem sum_SR {M1 M2 : Rel3} (S1 : SR M1) (S2 : SR M2) {p q r : Int} (C : Meet2 M1 M2 p q r) : SR (sumR M1 M2 p q r) := by
  obtain ⟨m1, m2, only, op⟩ := C
  have npq := S1.ne _ _ _ m1
  have npr := S1.ne _ _ _ (S1.s2 _ _ _ m1)
  have nqr := S1.ne _ _ _ (S1.s2 _ _ _ (S1.s1 _ _ _ m1))
  have all6 : ∀ (M : Rel3), SR M → M p q r → ∀ x y z, P3 x y z p q r → M x y z := by
    intro M S h x y z h'
    have hs1 := S.s1; have hs2 := S.s2
    unfold P3 at h'
    grind (splits := 40)
  have inj : ∀ x y z w, P3 x y z p q r → P3 x y w p q r → z = w := by
    intro x y z w h h'
    unfold P3 at *
    grind (splits := 40)
  -- an edge of both is an edge of the triangle
  have third : ∀ x y, (∃ z, M1 x y z) → (∃ z, M2 x y z) → ∃ w, P3 x y w p q r := by
    rintro x y ⟨z, h⟩ ⟨z', h'⟩
    have nx := S1.ne _ _ _ h
    have e1 := only x ⟨y, z, h⟩ ⟨y, z', h'⟩
    have e2 := only y ⟨x, z, S1.s1 _ _ _ h⟩ ⟨x, z', S2.s1 _ _ _ h'⟩
    unfold P3
    rcases e1 with rfl | rfl | rfl <;> rcases e2 with rfl | rfl | rfl
    · exact absurd rfl nx
    · exact ⟨r, .inl ⟨rfl, rfl, rfl⟩⟩
    · exact ⟨q, .inr (.inl ⟨rfl, rfl, rfl⟩)⟩
    · exact ⟨r, .inr (.inr (.inl ⟨rfl, rfl, rfl⟩))⟩
    · exact absurd rfl nx
    · exact ⟨p, .inr (.inr (.inr (.inl ⟨rfl, rfl, rfl⟩)))⟩
    · exact ⟨q, .inr (.inr (.inr (.inr (.inl ⟨rfl, rfl, rfl⟩))))⟩
    · exact ⟨p, .inr (.inr (.inr (.inr (.inr ⟨rfl, rfl, rfl⟩))))⟩
    · exact absurd rfl nx
  -- the other third vertex of a side of the triangle
  have other : ∀ (M : Rel3), SR M → M p q r → ∀ x y w, P3 x y w p q r → ∃ u, u ≠ w ∧ M x y u ∧ ¬ P3 x y u p q r ∧ ∀ v, M x y v → ¬ P3 x y v p q r → v = u := by
    intro M S h x y w h'
    obtain ⟨u, n, hu, un⟩ := S.two x y w (all6 M S h x y w h')
    refine ⟨u, n, hu, fun q' => n (inj _ _ _ _ q' h'), fun v hv nv => ?_⟩
    rcases un v hv with e | e
    · rw [e] at nv
      exact absurd h' nv
    · exact e
  have side : ∀ (Ma Mb : Rel3), SR Ma → SR Mb → Ma p q r → Mb p q r → (∀ x, (∃ y z, Ma x y z) → (∃ y z, Mb x y z) → x = p ∨ x = q ∨ x = r) → (∀ x y, (∃ z, Ma x y z) → (∃ z, Mb x y z) → ∃ w, P3 x y w p q r) →
      ∀ x y z, Ma x y z → ¬ P3 x y z p q r → ∃ w, w ≠ z ∧ ((Ma x y w ∨ Mb x y w) ∧ ¬ P3 x y w p q r) ∧ ∀ u, (Ma x y u ∨ Mb x y u) ∧ ¬ P3 x y u p q r → u = z ∨ u = w := by
    intro Ma Mb Sa Sb ma mb on3 th x y z h n
    by_cases hb : ∃ z, Mb x y z
    · obtain ⟨w, hw⟩ := th x y ⟨z, h⟩ hb
      obtain ⟨u1, a1, a2, a3, a4⟩ := other Ma Sa ma x y w hw
      obtain ⟨u2, b1, b2, b3, b4⟩ := other Mb Sb mb x y w hw
      have ez : z = u1 := a4 z h n
      refine ⟨u2, fun e => ?_, ⟨.inr b2, b3⟩, fun u hu => ?_⟩
      · -- u2 = z lies in both
        have ha : ∃ y' z', Ma u2 y' z' := ⟨x, y, by rw [e]; exact Sa.s1 _ _ _ (Sa.s2 _ _ _ h)⟩
        have hb' : ∃ y' z', Mb u2 y' z' := ⟨x, y, Sb.s1 _ _ _ (Sb.s2 _ _ _ b2)⟩
        have k := on3 u2 ha hb'
        have nx : u2 ≠ x := fun q => Sb.ne _ _ _ (Sb.s2 _ _ _ b2) q.symm
        have ny : u2 ≠ y := fun q => Sb.ne _ _ _ (Sb.s2 _ _ _ (Sb.s1 _ _ _ b2)) q.symm
        unfold P3 at hw b3
        grind (splits := 40)
      · rcases hu with ⟨hu | hu, nu⟩
        · exact .inl ((a4 u hu nu).trans ez.symm)
        · exact .inr (b4 u hu nu)
    · obtain ⟨w, nw, hw, un⟩ := Sa.two x y z h
      have nP : ∀ u, ¬ P3 x y u p q r := fun u q => hb ⟨u, all6 Mb Sb mb _ _ _ q⟩
      refine ⟨w, nw, ⟨.inl hw, nP w⟩, fun u hu => ?_⟩
      rcases hu.1 with k | k
      · exact un u k
      · exact absurd ⟨u, k⟩ hb
  have cr : ∀ x y, (∃ z, M2 x y z) → (∃ z, M1 x y z) → ∃ w, P3 x y w p q r := fun x y a b => third x y b a
  have only' : ∀ x, (∃ y z, M2 x y z) → (∃ y z, M1 x y z) → x = p ∨ x = q ∨ x = r := fun x a b => only x b a
  -- a locally constant f of the sum is one of each part
  have ext : ∀ (Ma : Rel3), SR Ma → Ma p q r → ∀ f : Int → Bool, (∀ x y z, Ma x y z → ¬ P3 x y z p q r → f x = f y) → ∀ x y z, Ma x y z → f x = f y := by
    intro Ma Sa ma f hf x y z h
    by_cases q' : P3 x y z p q r
    · obtain ⟨u, _, hu, nu, _⟩ := other Ma Sa ma x y z q'
      exact hf x y u hu nu
    · exact hf x y z h q'
  refine ⟨fun x y z h => ?_, fun x y z h => ?_, fun x y z h => ?_, fun x y z h => ?_, fun f hf x y hx hy => ?_, fun v f hf x y hx hy => ?_⟩
  · exact ⟨h.1.elim (fun k => .inl (S1.s1 _ _ _ k)) (fun k => .inr (S2.s1 _ _ _ k)), fun k => h.2 k.s1⟩
  · exact ⟨h.1.elim (fun k => .inl (S1.s2 _ _ _ k)) (fun k => .inr (S2.s2 _ _ _ k)), fun k => h.2 k.s2⟩
  · exact h.1.elim (S1.ne _ _ _) (S2.ne _ _ _)
  · rcases h with ⟨h | h, n⟩
    · exact side M1 M2 S1 S2 m1 m2 only third x y z h n
    · obtain ⟨w, w1, w2, w3⟩ := side M2 M1 S2 S1 m2 m1 only' cr x y z h n
      exact ⟨w, w1, ⟨w2.1.symm, w2.2⟩, fun u hu => w3 u ⟨hu.1.symm, hu.2⟩⟩
  · have f1 := ext M1 S1 m1 f fun x y z h n => hf x y z ⟨.inl h, n⟩
    have f2 := ext M2 S2 m2 f fun x y z h n => hf x y z ⟨.inr h, n⟩
    have toP : ∀ x, (∃ u w, sumR M1 M2 p q r x u w) → f x = f p := by
      rintro x ⟨u, w, h | h, _⟩
      · exact S1.conn f f1 x p ⟨u, w, h⟩ ⟨q, r, m1⟩
      · exact S2.conn f f2 x p ⟨u, w, h⟩ ⟨q, r, m2⟩
    rw [toP x hx, toP y hy]
  · -- the link of v
    have opv : ∀ x y, P3 v x y p q r → f x = f y := fun x y h => op v x y h f fun u w hu nu => hf u w ⟨.inr hu, nu⟩
    have g1 : ∀ x y, M1 v x y → f x = f y := fun x y h => by
      by_cases k : P3 v x y p q r
      · exact opv x y k
      · exact hf x y ⟨.inl h, k⟩
    have g2 : ∀ x y, M2 v x y → f x = f y := fun x y h => by
      by_cases k : P3 v x y p q r
      · exact opv x y k
      · exact hf x y ⟨.inr h, k⟩
    have c1 := S1.link v f g1
    have c2 := S2.link v f g2
    obtain ⟨z, hz⟩ := hx
    obtain ⟨z', hz'⟩ := hy
    have mix : ∀ x y, (∃ z, M1 v x z) → (∃ z, M2 v y z) → f x = f y := by
      rintro x y ⟨z, h⟩ ⟨z', h'⟩
      have k := only v ⟨x, z, h⟩ ⟨y, z', h'⟩
      have : ∃ u w, P3 v u w p q r := by
        rcases k with rfl | rfl | rfl
        · exact ⟨q, r, .inl ⟨rfl, rfl, rfl⟩⟩
        · exact ⟨p, r, .inr (.inr (.inl ⟨rfl, rfl, rfl⟩))⟩
        · exact ⟨p, q, .inr (.inr (.inr (.inr (.inl ⟨rfl, rfl, rfl⟩))))⟩
      obtain ⟨u, w, k2⟩ := this
      rw [c1 x u ⟨z, h⟩ ⟨w, all6 M1 S1 m1 _ _ _ k2⟩, c2 y u ⟨z', h'⟩ ⟨w, all6 M2 S2 m2 _ _ _ k2⟩]
    rcases hz.1 with a | a <;> rcases hz'.1 with b | b
    · exact c1 x y ⟨z, a⟩ ⟨z', b⟩
    · exact mix x y ⟨z, a⟩ ⟨z', b⟩
    · exact (mix y x ⟨z', b⟩ ⟨z, a⟩).symm
    · exact c2 x y ⟨z, a⟩ ⟨z', b⟩

/-! ### renaming -/
def mapR (M : Rel3) (g : Int → Int) : Rel3 := fun x y z => ∃ a b c, M a b c ∧ g a = x ∧ g b = y ∧ g c = z
def InjOn (M : Rel3) (g : Int → Int) : Prop := ∀ a b, (∃ y z, M a y z) → (∃ y z, M b y z) → g a = g b → a = b
theorem map_SR {M : Rel3} (S : SR M) {g : Int → Int} (J : InjOn M g) : SR (mapR M g) := by
  have vx1 : ∀ a b c, M a b c → ∃ y z, M a y z := fun a b c h => ⟨b, c, h⟩
  have vx2 : ∀ a b c, M a b c → ∃ y z, M b y z := fun a b c h => ⟨a, c, S.s1 _ _ _ h⟩
  have vx3 : ∀ a b c, M a b c → ∃ y z, M c y z := fun a b c h => ⟨a, b, S.s1 _ _ _ (S.s2 _ _ _ h)⟩
  refine ⟨?_, ?_, ?_, ?_, ?_, ?_⟩
  · rintro x y z ⟨a, b, c, h, rfl, rfl, rfl⟩
    exact ⟨b, a, c, S.s1 _ _ _ h, rfl, rfl, rfl⟩
  · rintro x y z ⟨a, b, c, h, rfl, rfl, rfl⟩
    exact ⟨a, c, b, S.s2 _ _ _ h, rfl, rfl, rfl⟩
  · rintro x y z ⟨a, b, c, h, rfl, rfl, rfl⟩ e
    exact S.ne _ _ _ h (J a b (vx1 _ _ _ h) (vx2 _ _ _ h) e)
  · rintro x y z ⟨a, b, c, h, rfl, rfl, rfl⟩
    obtain ⟨w, nw, hw, un⟩ := S.two _ _ _ h
    refine ⟨g w, fun e => nw (J w c (vx3 _ _ _ hw) (vx3 _ _ _ h) e), ⟨a, b, w, hw, rfl, rfl, rfl⟩, ?_⟩
    rintro u ⟨a', b', u', h', e1, e2, rfl⟩
    have q1 := J a' a (vx1 _ _ _ h') (vx1 _ _ _ h) e1
    have q2 := J b' b (vx2 _ _ _ h') (vx2 _ _ _ h) e2
    subst q1 q2
    exact (un u' h').elim (fun k => .inl (congrArg g k)) (fun k => .inr (congrArg g k))
  · intro f hf x y hx hy
    obtain ⟨_, _, a, b, c, h, rfl, _, _⟩ := hx
    obtain ⟨_, _, a', b', c', h', rfl, _, _⟩ := hy
    exact S.conn (fun i => f (g i)) (fun x y z k => hf (g x) (g y) (g z) ⟨x, y, z, k, rfl, rfl, rfl⟩) a a' ⟨b, c, h⟩ ⟨b', c', h'⟩
  · intro v f hf x y hx hy
    obtain ⟨_, a, b, c, h, rfl, rfl, _⟩ := hx
    obtain ⟨_, a', b', c', h', e, rfl, _⟩ := hy
    have q := J a' a (vx1 _ _ _ h') (vx1 _ _ _ h) e
    subst q
    exact S.link a' (fun i => f (g i)) (fun x y k => hf (g x) (g y) ⟨a', x, y, k, rfl, rfl, rfl⟩) b b' ⟨c, h⟩ ⟨c', h'⟩
theorem map_opens {M : Rel3} (S : SR M) {g : Int → Int} (J : InjOn M g) {p q r : Int} (m : M p q r) (O : Opens M p q r) : Opens (mapR M g) (g p) (g q) (g r) := by
  intro v x y h f hf
  have ex : ∃ v' x' y', P3 v' x' y' p q r ∧ g v' = v ∧ g x' = x ∧ g y' = y := by
    unfold P3 at *
    rcases h with ⟨rfl, rfl, rfl⟩ | ⟨rfl, rfl, rfl⟩ | ⟨rfl, rfl, rfl⟩ | ⟨rfl, rfl, rfl⟩ | ⟨rfl, rfl, rfl⟩ | ⟨rfl, rfl, rfl⟩
    · exact ⟨p, q, r, by simp⟩
    · exact ⟨p, r, q, by simp⟩
    · exact ⟨q, p, r, by simp⟩
    · exact ⟨q, r, p, by simp⟩
    · exact ⟨r, p, q, by simp⟩
    · exact ⟨r, q, p, by simp⟩
  obtain ⟨v', x', y', h', rfl, rfl, rfl⟩ := ex
  refine O v' x' y' h' (fun i => f (g i)) fun u w hu nu => hf (g u) (g w) ⟨v', u, w, hu, rfl, rfl, rfl⟩ fun k => nu ?_
  have vp : ∃ y z, M p y z := ⟨q, r, m⟩
  have vq : ∃ y z, M q y z := ⟨p, r, S.s1 _ _ _ m⟩
  have vr : ∃ y z, M r y z := ⟨p, q, S.s1 _ _ _ (S.s2 _ _ _ m)⟩
  have vv : ∃ y z, M v' y z := ⟨u, w, hu⟩
  have vu : ∃ y z, M u y z := ⟨v', w, S.s1 _ _ _ hu⟩
  have vw : ∃ y z, M w y z := ⟨v', u, S.s1 _ _ _ (S.s2 _ _ _ hu)⟩
  unfold P3 at k ⊢
  rcases k with ⟨a, b, c⟩ | ⟨a, b, c⟩ | ⟨a, b, c⟩ | ⟨a, b, c⟩ | ⟨a, b, c⟩ | ⟨a, b, c⟩
  · exact .inl ⟨J _ _ vv vp a, J _ _ vu vq b, J _ _ vw vr c⟩
  · exact .inr (.inl ⟨J _ _ vv vp a, J _ _ vu vr b, J _ _ vw vq c⟩)
  · exact .inr (.inr (.inl ⟨J _ _ vv vq a, J _ _ vu vp b, J _ _ vw vr c⟩))
  · exact .inr (.inr (.inr (.inl ⟨J _ _ vv vq a, J _ _ vu vr b, J _ _ vw vp c⟩)))
  · exact .inr (.inr (.inr (.inr (.inl ⟨J _ _ vv vr a, J _ _ vu vp b, J _ _ vw vq c⟩))))
  · exact .inr (.inr (.inr (.inr (.inr ⟨J _ _ vv vr a, J _ _ vu vq b, J _ _ vw vp c⟩))))

/-! ### a function that is constant over neighboring triangles is constant -/
theorem SR.dual {M : Rel3} (S : SR M) (F : Int → Int → Int → Bool) (F1 : ∀ x y z, M x y z → F y x z = F x y z) (F2 : ∀ x y z, M x y z → F x z y = F x y z) (hF : ∀ x y z w, M x y z → M x y w → F x y z = F x y w) :
    ∀ x y z a b c, M x y z → M a b c → F x y z = F a b c := by
  classical
  -- around a vertex
  have around : ∀ v x y a b, M v x y → M v a b → F v x y = F v a b := by
    intro v x y a b h h'
    let g : Int → Bool := fun u => decide (∃ w, M v u w ∧ F v u w = true)
    have gv : ∀ u w, M v u w → g u = F v u w := by
      intro u w hw
      by_cases k : F v u w = true
      · rw [k]
        exact decide_eq_true ⟨w, hw, k⟩
      · have k' : F v u w = false := by simpa using k
        rw [k']
        refine decide_eq_false ?_
        rintro ⟨w', h1, h2⟩
        rw [hF v u w' w h1 hw] at h2
        exact k h2
    have loc : ∀ u w, M v u w → g u = g w := by
      intro u w hw
      rw [gv u w hw, gv w u (S.s2 _ _ _ hw), F2 _ _ _ hw]
    have e := S.link v g loc x a ⟨y, h⟩ ⟨b, h'⟩
    rw [← gv x y h, ← gv a b h', e]
  let g : Int → Bool := fun v => decide (∃ x y, M v x y ∧ F v x y = true)
  have gv : ∀ v x y, M v x y → g v = F v x y := by
    intro v x y h
    by_cases k : F v x y = true
    · rw [k]
      exact decide_eq_true ⟨x, y, h, k⟩
    · have k' : F v x y = false := by simpa using k
      rw [k']
      refine decide_eq_false ?_
      rintro ⟨x', y', h1, h2⟩
      rw [around v x' y' x y h1 h] at h2
      exact k h2
  have loc : ∀ x y z, M x y z → g x = g y := by
    intro x y z h
    rw [gv x y z h, gv y x z (S.s1 _ _ _ h), F1 _ _ _ h]
  intro x y z a b c h h'
  rw [← gv x y z h, ← gv a b c h']
  exact S.conn g loc x a ⟨y, z, h⟩ ⟨b, c, h'⟩
end Fl

set_option Elab.async false
set_option linter.all false
set_option maxRecDepth 100000
set_option maxHeartbeats 4000000
/-! own rules over the hand layer: what this program needs and the layer does not hold -/
namespace Fl
open PySem PySem.Spec PyProof.Rows L2

/-! ### {e for x in ..}: a set of ints -/
section
variable {X : Cx}
/-- D the new set -/
def tSc (w : World) (wi : TI) (g : TG) (tt : TT) (te : TE) (vs : List Nat) : TE := fun σ H Q => wi σ H fun J H1 => ∀ D, H1 D = none → ∃ W : Nat → Nat → Hp → Prop, (∃ m, W 0 m (upd H1 D (SetO w D (fun _ => false) 0))) ∧ ∀ i m H, W i m H →
  (J.stop i H ∧ Q (.ref D) H) ∨ (J.go i H ∧ ∃ Nx : Hp → Prop, (∀ H', Nx H' → ∃ m', m' < m ∧ W (i + 1) m' H') ∧ ∀ x H', J.yld i H x H' → g x (wipe σ vs) H' fun σ2 H2 => wipe σ2 vs = wipe σ vs ∧ tt σ2 H2 fun b H3 =>
    if b = true then te σ2 H3 fun y H4 => ∃ (S : Int → Bool) (n : Nat) (k : Int), y = .int k ∧ H4 D = some (SetO w D S n) ∧ n + 1 < scanBound ∧ Nx (upd H4 D (SetO w D (fun j => S j || decide (j = k)) (if S k = true then n else n + 1))) else Nx H3)

theorem set_add_inv {pins : List (Addr × Obj)} {σ : L2.St} {H : Hp} {s : Shared} {E : Value → Shared → Prop} {D : Addr} {S : Int → Bool} {n : Nat} {k : Int} {u : Value} {Q : Value → Shared → Prop} (I : Inv X pins σ H s) (hD : H D = some (SetO X.w D S n)) (hz : n + 1 < scanBound)
    (ry : RelV (.int k) u) (h : ∀ v s', Inv X pins σ (upd H D (SetO X.w D (fun j => S j || decide (j = k)) (if S k = true then n else n + 1))) s' → Q v s') : wpAny (model X.prog X.w) X.A (call (.builtin "set.add") [.ref D, u]) Q E s := by
  obtain ⟨tk, rfl⟩ := ry
  have R := setO_get I hD
  refine setR_add R hz fun h' sb new => ?_
  have he : ∃ u, h'.get? D = some u := by
    have ⟨o, _, _, _, ho, _⟩ := new
    exact ⟨o, ho⟩
  exact h _ _ (I.write (e := D) (t' := s.toks + 1) (by rw [hD]; trivial) (.inl rfl) (fun b u hb hu => (sb.2 b hb).trans hu) he (setO_new new))

theorem pe_sc {elt tg iter : Expr} {ifs : List Expr} {scope : Scope} {own : List (Str × Nat)} {pos : Pos} {wi : TI} {g : TG} {tt : TT} {te : TE} (hc : X.calm = true) (hN : X.N.Nodup) (hi : PI X tg iter wi) (ok : BlkOk X.N X.env.scope scope own)
    (hg : ∀ (s : Shared) (H : Hp) (C : Addr) (cl : List (Str × Addr)) (fp : List Addr), PG (X.blk s H scope (compEnvC scope cl C X.env) fp) tg g) (ht : ∀ (s : Shared) (H : Hp) (C : Addr) (cl : List (Str × Addr)) (fp : List Addr), PTs (X.blk s H scope (compEnvC scope cl C X.env) fp) ifs tt)
    (he : ∀ (s : Shared) (H : Hp) (C : Addr) (cl : List (Str × Addr)) (fp : List Addr), PE (X.blk s H scope (compEnvC scope cl C X.env) fp) elt te) (hs : ∀ x, foldedSetIterable iter X.env x = pure x := by intro _; rfl) :
    PE X (.SetComp elt [⟨tg, iter, ifs, 0⟩] scope pos) (tSc X.w wi g tt te (own.map (·.2))) := by
  refine ⟨fun pins s σ H Q I h => ?_⟩
  rw [arm_eval_SetComp]
  have hfree : ∀ y ∈ scope.names, y.2 = .free → ∃ c, X.env.cells.lookup y.1 = some c := fun y hy e => by
    rcases ok.free y hy e with k | k
    · exact I.ok.has _ (.inl k)
    · exact I.ok.has _ (.inr k)
  refine wpAny_comprehension_free (use := none) rfl hs (closure_ok hfree) ok.kind (fun y hy e => by rw [ok.uniq y hy, e])
    (thn (hi.run pins s σ H _ I h) fun xv s1 hx => thn hx fun itv s2 h2 => ?_)
  obtain ⟨it, fp, tn, J, H2, e, I2, T, st2, f2, q⟩ := h2
  subst e
  refine wpAny_newSet_raw fun led hled => newEnv_comp ?_
  subst hled
  generalize hD : s2.heap.objs.size = D
  have hDn : H2 D = none := I2.hok.fresh (Nat.le_of_eq hD)
  obtain ⟨W, ⟨m0, w0⟩, turn⟩ := q D hDn
  generalize hob : ({ cls := .type "set", dict := none, data := .set #[] 0 (.fresh 0 0 (!(X.w.params.followText "set-order"))) } : Obj) = ob
  generalize hs3 : ({ s2 with heap := s2.heap.push ob } : Shared) = s3
  have I3 : Inv X pins σ (upd H2 D (SetO X.w D (fun _ => false) 0)) s3 := by
    rw [← hs3]
    refine I2.laid (t' := s2.toks) (fun b o e => Heap.get?_push_of_some _ e) (Nat.le_of_eq hD) (setO_new ?_)
    rw [← hD, ← hob]
    exact setR_fresh X.w
  have h3 : s3.heap = s2.heap.push ob := by rw [← hs3]
  have sz : ∀ b ∈ fp, b < s2.heap.objs.size := fun b hb => by
    obtain ⟨o, e, _⟩ := T.obj _ _ st2 b hb
    exact Heap.lt_size e
  have f3 : ∀ b ∈ fp, FpOk X pins (upd H2 D (SetO X.w D (fun _ => false) 0)) b ∧ b < s3.heap.objs.size := fun b hb => by
    have hlt := sz b hb
    refine ⟨⟨?_, (f2 b hb).2⟩, by rw [h3, Heap.size_push]; exact Nat.lt_succ_of_lt hlt⟩
    rw [upd_ne (by rw [← hD]; exact Nat.ne_of_lt hlt)]
    exact (f2 b hb).1
  have st3 : tn 0 s3.heap := T.keep _ _ _ st2 fun b _ o e => by rw [h3]; exact Heap.get?_push_of_some _ e
  have I4 := block_start I3 ok hN f3
  have pg := hg s3 (upd H2 D (SetO X.w D (fun _ => false) 0)) s3.heap.objs.size (cellsFrom (s3.heap.objs.size + 1) scope.names (cloFrom X.env.cells scope.names [])) fp
  have pt := ht s3 (upd H2 D (SetO X.w D (fun _ => false) 0)) s3.heap.objs.size (cellsFrom (s3.heap.objs.size + 1) scope.names (cloFrom X.env.cells scope.names [])) fp
  have pe := he s3 (upd H2 D (SetO X.w D (fun _ => false) 0)) s3.heap.objs.size (cellsFrom (s3.heap.objs.size + 1) scope.names (cloFrom X.env.cells scope.names [])) fp
  show codeAny _ _ (.compStart (.SetComp elt [⟨tg, iter, ifs, 0⟩] scope pos) 0 (.ref it) (.ref D) (compEnvC scope (cellsFrom (s3.heap.objs.size + 1) scope.names (cloFrom X.env.cells scope.names [])) s3.heap.objs.size X.env)) (compPost (model X.prog X.w) X.A X.xe none (EP X pins σ Q) (.ref D) s3.heap.objs.size) { s3 with heap := pushCells (s3.heap.push { cls := .type "dict", data := .dict #[] }) scope.names }
  have nfp : ∀ b ∈ fp, (upd H2 D (SetO X.w D (fun _ => false) 0)) b = none := fun b hb => (f3 b hb).1.1
  generalize hce : compEnvC scope (cellsFrom (s3.heap.objs.size + 1) scope.names (cloFrom X.env.cells scope.names [])) s3.heap.objs.size X.env = ce at I4 pg pt pe ⊢
  have cL : ce.locals = s3.heap.objs.size := by subst hce; rfl
  generalize hH3 : upd H2 D (SetO X.w D (fun _ => false) 0) = H3 at I3 I4 pg pt pe w0 nfp f3
  generalize hs4 : ({ s3 with heap := pushCells (s3.heap.push { cls := .type "dict", data := .dict #[] }) scope.names } : Shared) = s4 at I4 ⊢
  have st4 : tn 0 s4.heap := T.keep _ _ _ st3 fun b _ o e => by rw [← hs4]; exact pushCells_keeps _ _ _ _ (Heap.get?_push_of_some _ e)
  have stat : ∀ {σ' : L2.St} {H' : Hp} {s' : Shared}, Inv (X.blk s3 H3 scope ce fp) [] σ' H' s' → (∀ b ∈ fp, H' b = none) → ∀ b ∈ fp, FpOk (X.blk s3 H3 scope ce fp) [] H' b := fun {σ' H' s'} I' hn b hb =>
    ⟨hn b hb, (I'.ok.exf b hb).1, I'.ok.exfs b hb, .inl hb, fun x c e => (I'.ok.exf b hb).2 x c e, fun p hp => absurd (show p ∈ ([] : List (Addr × Obj)) ++ [] from hp) (by simp)⟩
  have loop : codeAny (model X.prog X.w) X.A (.compLoop (.SetComp elt [⟨tg, iter, ifs, 0⟩] scope pos) 0 (.ref it) (.ref D) ce) (compPost (model X.prog X.w) X.A X.xe none (EP X pins σ Q) (.ref D) s3.heap.objs.size) s4 := by
    refine compLoop_set_any (fun n s' => ∃ i H', Inv (X.blk s3 H3 scope ce fp) [] (wipe σ (own.map (·.2))) H' s' ∧ tn i s'.heap ∧ (∀ b ∈ fp, H' b = none) ∧ W i n H') ?_ m0 ⟨0, H3, I4, st4, nfp, w0⟩
    rintro n s5 ⟨i, H5, I5, st5, n5, w5⟩
    rcases turn i n H5 w5 with ⟨stop, qq⟩ | ⟨go, Nx, hNx, step⟩
    · have td := T.done (X.blk s3 H3 scope ce fp) rfl rfl rfl hc i [] s5 _ H5 (fun _ _ => False) I5 (stat I5 n5) st5 stop
      refine thnF td fun r s6 ⟨hr, I6⟩ => ?_
      subst hr
      have I7 : Inv X pins σ H5 s6 := I3.call' (ch := fp) I6.os I6.base I6.hok I6.bare fun b hb => ⟨(f3 b hb).1.2.2.2.1, (f3 b hb).1.2.1, (f3 b hb).1.2.2.2.2.1, (f3 b hb).1.2.2.2.2.2⟩
      have nC : H5 s3.heap.objs.size = none := by
        have z : H5 ce.locals = none := I6.free
        rw [cL] at z
        exact z
      obtain ⟨m, hn, _⟩ := I6.loc
      have hn : s6.heap.Ns ce.locals m := hn
      rw [cL] at hn
      refine ⟨m, hn, fun h'' sb => ?_⟩
      obtain ⟨f0, f1, f2, f3, f4, f5⟩ := I3.fpOk (Nat.le_refl _) nC
      exact ⟨.ref D, H5, I7.turned (t' := s6.toks) (fun b o hb e => (sb.2 b hb).trans e) f0 f1 f3 f4 f5, rfl, qq⟩
    · have ti := T.item (X.blk s3 H3 scope ce fp) rfl rfl rfl hc i [] s5 _ H5 (fun _ _ => False) I5 (stat I5 n5) st5 go
      refine thnF ti fun r s6 ⟨u, hr, h6⟩ => ?_
      subst hr
      refine thnF h6 fun _ s7 ⟨x, H7, I7, r7, y7, st7, n7⟩ => ?_
      have I7' := I7.pinned (stat I7 n7) (T.obj _ _ st7)
      refine thnF (pg.run _ s7 _ H7 x u _ I7' r7 (step x H7 y7)) fun _ s8 ⟨σ8, H8, I8, hw8, q8⟩ => ?_
      refine thnF (pt.run _ s8 σ8 H8 _ I8 q8) fun b s9 ⟨H9, I9, q9⟩ => ?_
      have fin : ∀ {s' : Shared} {H' : Hp}, Inv (X.blk s3 H3 scope ce fp) ([] ++ pinsAt fp s7.heap) σ8 H' s' → Nx H' → ∃ m, m < n ∧ ∃ i H', Inv (X.blk s3 H3 scope ce fp) [] (wipe σ (own.map (·.2))) H' s' ∧ tn i s'.heap ∧ (∀ b ∈ fp, H' b = none) ∧ W i m H' := fun {s' H'} I' nx => by
        obtain ⟨m', hm, w'⟩ := hNx H' nx
        have pin' : ∀ b ∈ fp, ∀ o, s7.heap.get? b = some o → s'.heap.get? b = some o ∧ H' b = none := fun b hb o e =>
          let z := I'.pin (b, o) (List.mem_append_right _ (List.mem_append_right _ (mem_pinsAt hb e)))
          ⟨z.1, z.2.1⟩
        have hl : (wipe σ (own.map (·.2))).length = σ8.length := by rw [← hw8, wipe_length]
        refine ⟨m', hm, i + 1, H', (I'.unpinned (pins := [])).weak hl (fun j v e => ?_), T.keep _ _ _ st7 fun b hb o e => (pin' b hb o e).1, fun b hb => ?_, w'⟩
        · rw [← hw8] at e
          exact (wipe_some e).1
        · obtain ⟨o, e, _⟩ := T.obj _ _ st7 b hb
          exact (pin' b hb o e).2
      cases b with
      | false =>
        simp only [Bool.false_eq_true, if_false] at q9 ⊢
        exact fin I9 q9
      | true =>
        simp only [if_true] at q9 ⊢
        refine thnF (pe.run _ s9 σ8 H9 _ I9 q9) fun z s10 ⟨yk, H10, I10, r10, S, n1, k, ek, hD10, hz10, nx⟩ => ?_
        subst ek
        exact set_add_inv (X := X.blk s3 H3 scope ce fp) I10 hD10 hz10 r10 fun v s12 I12 => fin I12 nx
  exact codeAny_compStart_set loop (T.self X.A 0 _ _ _ st4 loop)
end
end Fl

set_option Elab.async false
set_option linter.all false
set_option maxRecDepth 100000
set_option maxHeartbeats 4000000
namespace Fl
open PySem PySem.Spec PyProof.Rows L2
section
variable {X : Cx}
/-! ### xs[i], by values (for xs[i] += e) -/
def gIx (K : PySem.W.Frag) : V → V → Hp → VK → Prop := fun o i H Q => ∃ p xs j v, o = .ref p ∧ i = .int ((j : Nat) : Int) ∧ SqL K H p xs ∧ xs[j]? = some v ∧ Q v H
theorem get_ix : PGet X (gIx X.K) := by
  intro pins s σ H o i ov iv Q I ro ri h
  obtain ⟨p, xs, j, v, rfl, rfl, hq, he, q⟩ := h
  cases ro
  obtain ⟨t, rfl⟩ := ri
  obtain ⟨its, r, pl, hz⟩ := I.list hq
  obtain ⟨w, ew, rw'⟩ := r.get he
  have hl := r.length
  have hn := line63
  have hj : j < xs.length := (List.getElem?_eq_some_iff.mp he).1
  exact wpAny_getItem_list pl.isList (by omega) (by omega) (by simpa using ew) ⟨v, H, I, rw', q⟩
/-! ### X(), X an own exception class without own __init__ -/
theorem pmk_own0 {C : Addr} {bmB : List Value} {B newId initId : String} {x : Str} {p pos : Pos} (F : ExcBaseFacts B newId initId bmB) (q : PySem.W.excIn X.K C bmB newId = true) (gC : X.mg x = some (.ref C))
    (kC : PySem.W.keepIn X.K (.ref C) = true) (r : Raises X (.ref C)) (hg : Gl X x) (hdb : (x == ("__debug__" : Str)) = false := by decide) : PMk X (.Call (.Name x p) [] [] pos) (fun _ H Q => Q (.ref C) none H) := by
  intro pins s σ H Q I h
  refine wpAny_Call_Name_kw (ld_glob I hg gC ?_ hdb)
  refine PySem.W.callWith_K0 I.kIn kC ?_
  show wpAny _ _ (call (.ref C) []) _ _ _
  obtain ⟨bm, N, nm, qn, bs, hdct, sn, sub, ab, col, dd, k0, k1, k2, k3, k5, mN, hC, hN, hni, T⟩ := exc_obj I.kIn q
  obtain ⟨hp1, g1, d1, tk1, os1⟩ := s
  refine wpAny_call_exc_subT F T hC hN hni (fun h' e hm => ?_) (Nat.zero_le _)
  exact mk_of I hm r h (I.hok.gone hm.new)
/-! ### d.setdefault(k, x), keys tuples -/
theorem d_setdT {pins : List (Addr × Obj)} {σ : L2.St} {H : Hp} {s : Shared} {a b : Addr} {k : List Key} {d : V} {r : Value} {kvs : List (List Key × V)} {A : Around} {E : Value → Shared → Prop} {Q : Value → Shared → Prop} (hu : A.units + 1 < cLine) (I : Inv X pins σ H s) (e : H a = some (.dT kvs)) (eb : H b = some (.tup (k.map kV)))
    (rd : RelV d r) (hl : kvs.length < sizeLine) (h1 : ∀ v, valV kvs k = some v → ∀ (w' : Value) (s' : Shared), Inv X pins σ H s' → RelV v w' → Q w' s') (h2 : valV kvs k = none → ∀ (w' : Value) (s' : Shared), Inv X pins σ (upd H a (.dT (putK kvs k d))) s' → RelV d w' → Q w' s') :
    wpAny (model X.prog X.w) A (call (.builtin "dict.setdefault") [.ref a, .ref b, r]) Q E s := by
  obtain ⟨z, hd, xs, rel, dd⟩ := dt_of I.hok e
  have hz : xs.length ≤ sizeLine := by
    rw [← Paired.length rel]
    exact z
  refine call_setdefault_heap (knd := tupleKind (mixKind X.prog X.w)) (hsz := hz) (tupleKind_room_in1 hu) (key_of I.hok eb) hd dd (fun p hp => ?_) (fun hn h' dd' hs => ?_)
  · have q := rel.val k
    rw [hp] at q
    cases q0 : valV kvs k with
    | none =>
      rw [q0] at q
      exact (show False from q).elim
    | some v0 =>
      rw [q0] at q
      exact h1 v0 q0 _ _ (I.tok _) q
  · have q := rel.val k
    rw [hn] at q
    cases q0 : valV kvs k with
    | some v0 =>
      rw [q0] at q
      exact (show False from q).elim
    | none =>
      have hl2 : (putK kvs k d).length ≤ sizeLine := by
        have := length_putK kvs k d
        omega
      obtain ⟨q1, es, ep, hq, g2, g3, g4, _, g5⟩ := dd'
      refine h2 q0 _ _ (d_write I (by rw [e]; exact True.intro) hs ⟨q1, hq⟩ ⟨hl2, hd, _, (rel.put k eb rd).keeps fun c ys ec => ?_, q1, es, ep, hq, g2, g3, g4, g5⟩) rd
      rw [upd_ne (ne_of ec e (fun z => nomatch z))]
      exact ec
def tSetdT (td ty tx : TE) : TE := fun σ H Q => td σ H fun x H1 => ∃ a, x = .ref a ∧ IsD H1 a ∧ ty σ H1 fun y H2 => tx σ H2 fun z H3 => ∃ (kvs : List (List Key × V)) (k : List Key) (b : Addr), y = .ref b ∧ H3 b = some (.tup (k.map kV)) ∧ H3 a = some (.dT kvs) ∧ kvs.length < sizeLine ∧
  (∀ v, valV kvs k = some v → Q v H3) ∧ (valV kvs k = none → Q z (upd H3 a (.dT (putK kvs k z))))
theorem pe_setdT {o e f : Expr} {td ty tx : TE} {apos cpos : Pos} (hu : X.A.units + 1 < cLine) (ho : PE X o td) (he : PE X e ty) (hf : PE X f tx) (m : M2 X o "setdefault" apos e f cpos) : PE X (.Call (.Attribute o "setdefault" apos) [e, f] [] cpos) (tSetdT td ty tx) := by
  refine ⟨fun pins s σ H Q I h => ?_⟩
  refine wpAny_Call_method m.base m.few m.line PySem.F.plainAttrs_dict PySem.F.slot_dict_setdefault PySem.F.type_dict_setdefault (thn (ho.run pins s σ H _ I h) fun u s1 ⟨x, H1, I1, rx, a, ex, d, q1⟩ => ?_)
  subst ex
  obtain rfl : u = Value.ref a := rx
  obtain ⟨t1, t2, _⟩ := isD_at I1 d
  refine ⟨t1, t2, ?_⟩
  rw [m.trees]
  refine Calls.callWith_builtin rfl (Calls.evalArgs_plain (Calls.spliced_cons (thn (he.run pins s1 σ H1 _ I1 q1) fun iv s2 ⟨y, H2, I2, ry, q2⟩ =>
    Calls.spliced_cons (thn (hf.run pins s2 σ H2 _ I2 q2) fun fv s3 ⟨z, H3, I3, rz, kvs, k, b, ey, eb, ea, hl, q3, q4⟩ => Calls.spliced_nil ?_))))
  subst ey
  cases ry
  exact d_setdT hu I3 ea eb rz hl (fun v hv w' s4 I4 rw' => ⟨v, _, I4, rw', q3 v hv⟩) fun hn w' s4 I4 rw' => ⟨z, _, I4, rw', q4 hn⟩
end
end Fl

set_option Elab.async false
set_option linter.all false
set_option maxRecDepth 100000
set_option maxHeartbeats 4000000
namespace Fl
open PySem PySem.Spec PyProof.Rows L2
/-! ### d.values(), d.items() of a dict whose keys are tuples -/
theorem frzTv {X : Cx} {pins : List (Addr × Obj)} {σ : L2.St} {H : Hp} {s : Shared} {d : Addr} {o : Obj} {kvs : List (List Key × V)} (I : Inv X pins σ H s) (h : H d = some (.frz o (.dT kvs))) :
    (d == sysModules) = false ∧ s.heap.get? d = some o ∧ o.ExactDict ∧ ∃ (es : Array DictEntry) (ep : Nat), o.data = .dict es ep ∧ es.size = kvs.length ∧
      ∀ (i : Nat) (k : List Key) (v : V), kvs[i]? = some (k, v) → ∃ (en : DictEntry) (q : Addr), es[i]? = some en ∧ en.key = .ref q ∧ H q = some (.tup (k.map kV)) ∧ RelV v en.val := by
  obtain ⟨hd, z, hs, xs, pr, o', es, ep, ho, hx, hdt, he, _⟩ := I.hok d _ h
  rw [hd] at ho
  cases ho
  refine ⟨hs, hd, hx, es, ep, hdt, ?_, fun i k v e => ?_⟩
  · have l1 : es.size = xs.length := size_of_entries he
    have l2 : kvs.length = xs.length := Paired.length pr
    omega
  · obtain ⟨b, hb, e1, e2, e3⟩ := paired_get pr e
    have q := entry_at he i
    rw [hb] at q
    exact ⟨_, b.2.1, q, rfl, e2, e3⟩
/-- the values -/
def Itvt (d : Addr) (o : Obj) (kvs : List (List Key × V)) : It :=
  ⟨fun i H => H d = some (.frz o (.dT kvs)) ∧ i < kvs.length, fun i H x H' => H' = H ∧ ∃ k, kvs[i]? = some (k, x), fun i H => H d = some (.frz o (.dT kvs)) ∧ kvs.length ≤ i⟩
/-- the pairs, each a new tuple of the key's own tuple and the value -/
def Itit (d : Addr) (o : Obj) (kvs : List (List Key × V)) : It :=
  ⟨fun i H => H d = some (.frz o (.dT kvs)) ∧ i < kvs.length, fun i H x H' => ∃ T k v q, kvs[i]? = some (k, v) ∧ H q = some (.tup (k.map kV)) ∧ x = .ref T ∧ H T = none ∧ H' = upd H T (.tup [.ref q, v]), fun i H => H d = some (.frz o (.dT kvs)) ∧ kvs.length ≤ i⟩
section
variable {P : Program} {w : World} {K : PySem.W.Frag} {tg : Expr} {d : Addr} {o : Obj} {es : Array DictEntry} {ep : Nat}
theorem turn_valsT {kvs : List (List Key × V)} (it : Addr) (hod : o.data = .dict es ep) : Turn P w K tg (Itvt d o kvs) [it] it (fun i h => h.get? it = some (DVw.valOb d i kvs.length ep)) where
  mem := by simp
  obj := fun i h st b hb => by
    have e : b = it := by simpa using hb
    subst e
    exact ⟨_, st, fun v z => nomatch z⟩
  keep := fun i h h' st k => k it (by simp) _ st
  item := by
    intro X hP hw hK hc i pins s σ H E I hf st hg
    subst hP hw hK
    obtain ⟨hd, hi⟩ := hg
    obtain ⟨f0, f1, f2, f3, f4, f5⟩ := hf it (by simp)
    obtain ⟨hs, hgd, hx, es', ep', hdt, hsz, ent⟩ := frzTv I hd
    obtain ⟨rfl, rfl⟩ := dict_ep hod hdt
    obtain ⟨⟨k, v⟩, hkv⟩ : ∃ p, kvs[i]? = some p := ⟨kvs[i], List.getElem?_eq_getElem hi⟩
    obtain ⟨en, q, hen, hkey, hq, rv⟩ := ent i k v hkv
    refine DVw.val_item st hgd hdt hsz hen fun h' st' sb => ?_
    have I1 : Inv X pins σ H { s with heap := h' } := I.turned (t' := s.toks) (fun b ob hb e => (sb.2 b hb).trans e) f0 f1 f3 f4 f5
    exact ⟨en.val, rfl, go_of (s := { s with heap := h' }) st' rfl rfl (by decide) ⟨v, H, I1, rv, ⟨rfl, k, hkv⟩, st', fun b hb => (hf b hb).1⟩⟩
  done := by
    intro X hP hw hK hc i pins s σ H E I hf st hg
    subst hP hw hK
    obtain ⟨hd, hi⟩ := hg
    obtain ⟨f0, f1, f2, f3, f4, f5⟩ := hf it (by simp)
    obtain ⟨hs, hgd, hx, es', ep', hdt, hsz, ent⟩ := frzTv I hd
    obtain ⟨rfl, rfl⟩ := dict_ep hod hdt
    exact DVw.val_end (I.ok.hd hc) st hgd hdt hsz (Array.getElem?_eq_none (by omega)) fun h' eb => ⟨rfl, I.turned (t' := s.toks) (fun b ob hb e => eb b ob hb e) f0 f1 f3 f4 f5⟩
  self := fun A i s Q E st h => wpAny_pyIter_valiter (i := i) (n := kvs.length) (ep := ep) (d := d) ⟨_, st, rfl, rfl⟩ h
theorem turn_itemsT {kvs : List (List Key × V)} {elts : List Expr} {kk : Nat} {tpos : Pos} (it : Addr) (hod : o.data = .dict es ep) :
    Turn P w K (.Tuple elts kk tpos) (Itit d o kvs) [it] it (fun i h => ∃ ok ov, IsItemIter h it d i kvs.length ep ok ov) where
  mem := by simp
  obj := fun i h st b hb => by
    have e : b = it := by simpa using hb
    subst e
    obtain ⟨ok, ov, e⟩ := st
    exact ⟨_, e, fun v z => nomatch z⟩
  keep := fun i h h' st k => let ⟨ok, ov, e⟩ := st; ⟨ok, ov, k it (by simp) _ e⟩
  item := by
    intro X hP hw hK hc i pins s σ H E I hf st hg
    subst hP hw hK
    obtain ⟨hd, hi⟩ := hg
    obtain ⟨hs, hgd, hx, es', ep', hdt, hsz, ent⟩ := frzTv I hd
    obtain ⟨rfl, rfl⟩ := dict_ep hod hdt
    obtain ⟨⟨k, v⟩, hkv⟩ : ∃ p, kvs[i]? = some p := ⟨kvs[i], List.getElem?_eq_getElem hi⟩
    obtain ⟨en, q, hen, hkey, hq, rv⟩ := ent i k v hkv
    obtain ⟨ok, ov, he⟩ := st
    rw [← hsz] at he
    have hlt : it < s.heap.objs.size := Heap.lt_size he
    have hi' : i < es'.size := by omega
    have een : es'[i] = en := by
      rw [Array.getElem?_eq_getElem hi'] at hen
      exact Option.some.inj hen
    refine DT.nextI he ⟨o, hgd, hx, hdt⟩ hi' fun h' ho hT hz hk => ?_
    refine ⟨_, rfl, wpAny_letOwnedTupleGo_items (s := { s with heap := h' }) ho fun h'' he' sb => ?_⟩
    rw [een] at hT he'
    have hT2 : h''.get? s.heap.objs.size = some { cls := .type "tuple", data := .seq #[en.key, en.val] } := (sb.2 _ (Nat.ne_of_gt hlt)).trans hT
    have new : ObjOk X.prog X.w (upd H s.heap.objs.size (.tup [.ref q, v])) h'' s.heap.objs.size (.tup [.ref q, v]) :=
      ⟨by show 2 ≤ sizeLine; decide, [en.key, en.val], .cons hkey (.cons rv .nil), ⟨_, hT2, rfl, _, rfl⟩⟩
    have I1 : Inv X pins σ (upd H s.heap.objs.size (.tup [.ref q, v])) { s with heap := h'' } :=
      I.turnedNew (t' := s.toks) (ch := [it]) (fun b ob hb e => (sb.2 b (by simpa using hb)).trans (hk b ob (by simpa using hb) e)) hf (Nat.le_refl _) new
    refine ⟨.ref s.heap.objs.size, _, I1, rfl, ⟨_, k, v, q, hkv, hq, rfl, I.hok.fresh (Nat.le_refl _), rfl⟩, ⟨en.key, en.val, ?_⟩, fun b hb => ?_⟩
    · rw [← hsz]; exact he'
    · have e : b = it := by simpa using hb
      rw [e, upd_ne (Nat.ne_of_lt hlt)]
      exact (hf it (by simp)).1
  done := by
    intro X hP hw hK hc i pins s σ H E I hf st hg
    subst hP hw hK
    obtain ⟨hd, hi⟩ := hg
    obtain ⟨f0, f1, f2, f3, f4, f5⟩ := hf it (by simp)
    obtain ⟨hs, hgd, hx, es', ep', hdt, hsz, ent⟩ := frzTv I hd
    obtain ⟨rfl, rfl⟩ := dict_ep hod hdt
    obtain ⟨ok, ov, he⟩ := st
    rw [← hsz] at he
    exact DT.endI (I.ok.hd hc) he ⟨o, hgd, hx, hdt⟩ (by omega) fun h' eb => ⟨rfl, I.turned (t' := s.toks) (fun b ob hb e => eb b ob hb e) f0 f1 f3 f4 f5⟩
  self := fun A i s Q E st h => let ⟨_, _, e⟩ := st; PySem.W.kcp_self e h
end
def iValsT (td : TE) : TI := fun σ H R => td σ H fun x H1 => ∃ d o kvs, x = .ref d ∧ H1 d = some (.frz o (.dT kvs)) ∧ R (Itvt d o kvs) H1
def iItemsT (td : TE) : TI := fun σ H R => td σ H fun x H1 => ∃ d o kvs, x = .ref d ∧ H1 d = some (.frz o (.dT kvs)) ∧ R (Itit d o kvs) H1
section
variable {X : Cx} {tg e : Expr} {td : TE} {apos cpos : Pos}
theorem meets_valuesR {prog : Program} {w : World} {d : Addr} {es : Array DictEntry} {ep : Nat} (hd : (d == sysModules) = false) :
    MeetsIn prog w (Builtin.«dict.values» ⟨[.ref d], []⟩) (fun _ R s => DT.Raw s.heap d es ep ∧
      R (.ok (.ret (.ref s.heap.objs.size))) { s with heap := s.heap.push { cls := .type "dict_values", data := .fields #[.ref d] } }) :=
  .of_wp fun A R s ⟨hm, h⟩ => by
    refine wpAny_bind ?_
    unfold Builtin.Dict.noArgs
    refine wpAny_bind (wpAny_notOrdered_dict hm.typeIs ?_)
    show wpAny _ _ (pure d) _ _ s
    refine wpAny_pure ?_
    show wpAny _ _ (Builtin.Dict.showsAll d >>= _) _ _ s
    unfold Builtin.Dict.showsAll
    rw [if_neg (by rw [hd]; exact Bool.false_ne_true)]
    refine wpAny_bind (wpAny_pure ?_)
    exact wpAny_bind (wpAny_newObj_type (wpAny_pure ⟨_, rfl, h⟩))
theorem exact_noDict {h : Heap} {d : Addr} {o : Obj} (hgd : h.get? d = some o) (hx : o.ExactDict) : ∀ b, Value.ref d = .ref b → ∃ ob, h.get? b = some ob ∧ ob.dict = none := fun b q => by
  cases q
  exact ⟨o, hgd, hx.2.1⟩
theorem pi_valuesT (he : PE X e td) (hbase : attributeBase e "values" X.env (eval e X.env) = eval e X.env := by rfl) (hline : (apos.endLine == cpos.line) = true := by rfl) : PI X tg (.Call (.Attribute e "values" apos) [] [] cpos) (iValsT td) := by
  refine ⟨fun pins s σ H R I h => ?_⟩
  refine wpAny_Call_method (T := "dict") (id := "dict.values") hbase rfl hline F.plainAttrs_dict F.slot_dict_values F.type_dict_values (thn (he.run pins s σ H _ I h) fun u s1 ⟨x, H1, I1, rx, d, o, kvs, ex, hd, q⟩ => ?_)
  subst ex
  obtain rfl : u = Value.ref d := rx
  obtain ⟨hs, hgd, hx, es, ep, hdt, hsz, ent⟩ := frzTv I1 hd
  have raw : DT.Raw s1.heap d es ep := ⟨o, hgd, hx, hdt⟩
  refine ⟨raw.typeIs, exact_noDict hgd hx, ?_⟩
  have I2 : Inv X pins σ H1 { s1 with heap := s1.heap.push { cls := .type "dict_values", data := .fields #[.ref d] } } := I1.kept (t' := s1.toks) fun b ob q => Heap.get?_push_of_some _ q
  have fin : wpAny (model X.prog X.w) X.A (pyIter (.ref s1.heap.objs.size)) (PIE X pins σ tg R) X.xe { s1 with heap := s1.heap.push { cls := .type "dict_values", data := .fields #[.ref d] } } := by
    refine DSub.iter_vals (a := d) (es := es) (ep := ep) (Heap.get?_push_size _ rfl) (Heap.get?_push_of_some _ hgd) hdt (pi_one (tk := s1.toks) I2 _ (turn_valsT _ hdt) ?_ q)
    rw [← hsz]
    exact Heap.get?_push_size _ rfl
  show wpAny _ _ (callWith cpos (.builtin "dict.values") [.ref d] [] []) _ X.xe s1
  exact method_meetsIn F.slot_dict_values F.entry_dict_values rfl (PySem.evalArgs_none ⟨rfl, raw.typeIs, F.args_dict_values_1 _, _, meets_valuesR (es := es) (ep := ep) hs, raw, fin⟩)
theorem pi_itemsT {elts : List Expr} {kk : Nat} {tpos : Pos} (he : PE X e td) (hbase : attributeBase e "items" X.env (eval e X.env) = eval e X.env := by rfl) (hline : (apos.endLine == cpos.line) = true := by rfl) :
    PI X (.Tuple elts kk tpos) (.Call (.Attribute e "items" apos) [] [] cpos) (iItemsT td) := by
  refine ⟨fun pins s σ H R I h => ?_⟩
  refine wpAny_Call_method (T := "dict") (id := "dict.items") hbase rfl hline F.plainAttrs_dict F.slot_dict_items F.type_dict_items (thn (he.run pins s σ H _ I h) fun u s1 ⟨x, H1, I1, rx, d, o, kvs, ex, hd, q⟩ => ?_)
  subst ex
  obtain rfl : u = Value.ref d := rx
  obtain ⟨hs, hgd, hx, es, ep, hdt, hsz, ent⟩ := frzTv I1 hd
  have raw : DT.Raw s1.heap d es ep := ⟨o, hgd, hx, hdt⟩
  refine ⟨raw.typeIs, exact_noDict hgd hx, ?_⟩
  have I2 : Inv X pins σ H1 { s1 with heap := s1.heap.push { cls := .type "dict_items", data := .fields #[.ref d] } } := I1.kept (t' := s1.toks) fun b ob q => Heap.get?_push_of_some _ q
  have fin : wpAny (model X.prog X.w) X.A (pyIter (.ref s1.heap.objs.size)) (PIE X pins σ (.Tuple elts kk tpos) R) X.xe { s1 with heap := s1.heap.push { cls := .type "dict_items", data := .fields #[.ref d] } } := by
    refine DT.iterI (d := d) ⟨_, Heap.get?_push_size _ rfl, rfl, rfl⟩ (raw.push _) (pi_one (tk := s1.toks) I2 _ (turn_itemsT _ hdt) ⟨.none, .none, ?_⟩ q)
    rw [← hsz]
    exact Heap.get?_push_size _ rfl
  show wpAny _ _ (callWith cpos (.builtin "dict.items") [.ref d] [] []) _ X.xe s1
  exact method_meetsIn F.slot_dict_items F.entry_dict_items rfl (PySem.evalArgs_none ⟨rfl, raw.typeIs, F.args_dict_items_1 _, _, DT.meetsItems (es := es) (ep := ep) hs, raw, fin⟩)
end
end Fl

set_option Elab.async false
set_option linter.all false
set_option maxRecDepth 100000
set_option maxHeartbeats 4000000
namespace Fl
open PySem PySem.Spec PyProof.Rows L2
section
variable {X : Cx}
/-! ### {k: v}, k a tuple -/
def tDisp1 (tk tv : TE) : TE := fun σ H Q => ∀ p, H p = none → tk σ (upd H p (.dT [])) fun x H1 => tv σ H1 fun y H2 => H2 p = some (.dT []) ∧ ∃ (k : List Key) (b : Addr), x = .ref b ∧ H2 b = some (.tup (k.map kV)) ∧ Q (.ref p) (upd H2 p (.dT [(k, y)]))
theorem pe_disp1 {ke ve : Expr} {tk tv : TE} {pos : Pos} (hu : X.A.units + 1 < cLine) (hk : PE X ke tk) (hv : PE X ve tv) : PE X (.Dict [some ke] [ve] pos) (tDisp1 tk tv) := by
  refine ⟨fun pins s σ H Q I q => ?_⟩
  have hn := I.hok.fresh (Nat.le_refl s.heap.objs.size)
  have I1 := I.laid (a := s.heap.objs.size) (o := .dT []) (h' := s.heap.push { cls := .type "dict", data := .dict #[] }) (t' := s.toks) (fun _ _ q => Heap.get?_push_of_some _ q) (Nat.le_refl _) (dt_empty s.heap I.big)
  rw [arm_eval_Dict, zip_pairTrees [some ke] [ve] X.env pos rfl rfl, dictDisplay_pairs (pairTrees [some ke] [ve] X.env pos) (by simp [pairTrees]) (by rw [pairTrees_length _ _ _ _ rfl rfl]; show 1 < 17; decide)]
  refine wpAny_bind (wpAny_standAt (wpAny_bind ?_))
  refine wpAny_subDictH (knd := tupleKind (mixKind X.prog X.w)) (Q := fun d s' => wpAny (model X.prog X.w) X.A (pure (Value.ref d)) (EP X pins σ Q) X.xe s') (show X.A.units < cLine by omega) (by rw [pairTrees_length _ _ _ _ rfl rfl]; show 1 ≤ 15; decide) ?_
  refine pairTrees_cons_walk (thn (hk.run pins _ σ _ _ I1 (q _ hn)) fun u s1 ⟨x, H1, J1, rx, q1⟩ => thn (hv.run pins s1 σ H1 _ J1 q1) fun w2 s2 ⟨y, H2, J2, ry, eD, k, b, ex, eb, q2⟩ => pairTrees_nil_walk ?_)
  subst ex
  obtain rfl : u = Value.ref b := rx
  obtain ⟨z, hd, xs, rel, dd⟩ := dt_of J2.hok eD
  cases rel
  refine ⟨[(k, b, w2)], ⟨rfl, rfl, key_of J2.hok eb, trivial⟩, dd, fun h' tk' dd' hs => wpAny_pure ⟨.ref s.heap.objs.size, _, ?_, rfl, q2⟩⟩
  obtain ⟨o1, es, ep, hq, g2, g3, g4, _, g5⟩ := dd'
  refine d_write J2 (by rw [eD]; exact True.intro) hs ⟨o1, hq⟩ ⟨by show 1 ≤ sizeLine; decide, hd, _, (KT.put .nil k eb ry).keeps fun c ys ec => ?_, o1, es, ep, hq, g2, g3, g4, g5⟩
  rw [upd_ne (ne_of ec eD (fun z => nomatch z))]
  exact ec
/-! ### tuple(xs): the new tuple known to the object -/
def rTupF (K : PySem.W.Frag) : List V → Hp → VK → Prop := fun xs H Q => ∃ p ys, xs = [V.ref p] ∧ SqL K H p ys ∧ ∀ l o, H l = none → o.cls = .type "tuple" → o.dict = none → Q (.ref l) (upd H l (.frz o (.tup ys)))
theorem call_tupF : CallR X (.type "tuple") (rTupF X.K) := by
  intro pins s σ H xs us Q I r h
  obtain ⟨p, ys, rfl, hq, q⟩ := h
  obtain ⟨u, rfl, rx⟩ := vals1 r
  cases rx
  obtain ⟨its, r', pl, hz⟩ := I.list hq
  have hlen := r'.length
  refine call_tuple_list pl.isList (fun h' kp => ?_) (by simp only [List.size_toArray] <;> omega)
  have I1 : Inv X pins σ H { s with heap := h' } := I.kept (t' := s.toks) kp
  have I2 : Inv X pins σ (upd H h'.objs.size (.frz { cls := .type "tuple", data := .seq its.toArray } (.tup ys))) { s with heap := h'.push { cls := .type "tuple", data := .seq its.toArray } } :=
    I1.laid (t' := s.toks) (fun b o e => Heap.get?_push_of_some _ e) (Nat.le_refl _) ⟨Heap.get?_push_size _ rfl, hz, its, r', IsTup.new _ _⟩
  exact ⟨.ref h'.objs.size, _, I2, rfl, q _ _ (I1.hok.fresh (Nat.le_refl _)) rfl rfl⟩
/-! ### dict(a tuple of pairs), the keys tuples -/
/-- the pair x of the key's tuple and the value -/
def PairKV (H : Hp) (x : V) (kv : List Key × V) : Prop := ∃ t b, x = .ref t ∧ H t = some (.tup [.ref b, kv.2]) ∧ H b = some (.tup (kv.1.map kV))
def rDictT : List V → Hp → VK → Prop := fun vs H Q => ∃ (a : Addr) (xs : List V) (o : Obj) (kvs : List (List Key × V)), vs = [V.ref a] ∧ H a = some (.frz o (.tup xs)) ∧ o.cls = .type "tuple" ∧ o.dict = none ∧ Paired (PairKV H) xs kvs ∧ (kvs.map (·.1)).Nodup ∧
  ∀ p, H p = none → Q (.ref p) (upd H p (.dT kvs))
theorem stored_nodup {κ : Type} [DecidableEq κ] : ∀ (ps acc : List (κ × Addr × Value)), ((acc ++ ps).map (·.1)).Nodup → storedAllH acc ps = acc ++ ps
  | [], acc, _ => by simp [storedAllH]
  | p :: ps, acc, h => by
    have e1 : atKey acc p.1 = none := by
      refine atKey_none_of_get fun j q hj => ?_
      have hm : (p.1, q) ∈ acc := List.mem_of_getElem? hj
      rw [List.map_append, List.nodup_append] at h
      exact h.2.2 p.1 (List.mem_map.mpr ⟨_, hm, rfl⟩) p.1 (by simp) rfl
    have e2 : storedH acc p.1 p.2.1 p.2.2 = acc ++ [p] := by
      unfold storedH
      rw [e1]
      simp
    show storedAllH (storedH acc p.1 p.2.1 p.2.2) ps = acc ++ p :: ps
    rw [e2, stored_nodup ps (acc ++ [p]) (by simpa using h)]
    simp
theorem kt_fst {H : Hp} : ∀ {kvs : List (List Key × V)} {ps : List (List Key × Addr × Value)}, KT H kvs ps → ps.map (·.1) = kvs.map (·.1)
  | _, _, .nil => rfl
  | _, _, .cons r t => by rw [List.map_cons, List.map_cons, r.1, kt_fst t]
theorem kt_keys {H : Hp} : ∀ {kvs : List (List Key × V)} {ps : List (List Key × Addr × Value)}, KT H kvs ps → ∀ y ∈ ps, H y.2.1 = some (.tup (y.1.map kV))
  | _, _, .nil, y, hy => by cases hy
  | _, _, .cons r t, y, hy => by
    rcases List.mem_cons.mp hy with rfl | hy
    · rw [← r.1]
      exact r.2.1
    · exact kt_keys t y hy
theorem pairs_raw {pins : List (Addr × Obj)} {σ : L2.St} {H : Hp} {s : Shared} (I : Inv X pins σ H s) : ∀ {xs : List V} {kvs : List (List Key × V)} {us : List Value}, Paired (PairKV H) xs kvs → Vals xs us →
    ∃ (ts : List Addr) (ps : List (List Key × Addr × Value)), us = ts.map Value.ref ∧ ts.length = kvs.length ∧ KT H kvs ps ∧ ∀ (j : Nat) (p : List Key × Addr × Value), ps[j]? = some p → ∃ t, ts[j]? = some t ∧ IsTup s.heap t #[.ref p.2.1, p.2.2]
  | _, _, _, .nil, .nil => ⟨[], [], rfl, rfl, .nil, fun j p e => by simp at e⟩
  | _, _, _, .cons (b := kv) h t, .cons ru rt => by
    obtain ⟨ta, b, rfl, h1, h2⟩ := h
    obtain ⟨ts, ps, e1, e2, e3, e4⟩ := pairs_raw I t rt
    obtain rfl := (show _ = Value.ref ta from ru)
    obtain ⟨its, rv, ht, _⟩ := I.tuple (a := ta) (.inl (.inl h1))
    obtain ⟨u, y, ei, ru', ry⟩ := vals2 rv
    subst ei
    obtain rfl : u = Value.ref b := ru'
    refine ⟨ta :: ts, (kv.1, b, y) :: ps, by rw [List.map_cons, e1], by rw [List.length_cons, List.length_cons, e2], .cons ⟨rfl, h2, ry⟩ e3, fun j p e => ?_⟩
    cases j with
    | zero =>
      have e' : (kv.1, b, y) = p := Option.some.inj e
      subst e'
      exact ⟨ta, rfl, ht⟩
    | succ j => exact e4 j p (by simpa using e)
theorem cr_dictT (hu : X.A.units + 2 < cLine) (hc : X.calm = true) : CallR X (.type "dict") rDictT := by
  intro pins s σ H vs us Q I r h
  obtain ⟨a, xs, o, kvs, rfl, ha, hcl, hdi, pr, nd, q⟩ := h
  obtain ⟨u, rfl, rx⟩ := vals1 r
  obtain rfl : u = Value.ref a := rx
  obtain ⟨hga, hz, its, rv, hT⟩ := I.hok a _ ha
  obtain ⟨o', ho', hc', n, hdat⟩ := hT
  rw [hga] at ho'
  cases ho'
  obtain ⟨ts, ps, e1, e2, e3, e4⟩ := pairs_raw I pr rv
  have hl : ps.length = kvs.length := (Paired.length e3).symm
  have hlx : xs.length = kvs.length := Paired.length pr
  let psv : List (Value × Value) := ps.map fun p => (Value.ref p.2.1, p.2.2)
  have P := PairArg.tuple (prog := X.prog) (w := X.w) a its.toArray (fun j => ts.getD j 0) psv
  have hpl : psv.length = ps.length := List.length_map ..
  have hlen := rv.length
  have hsz : its.length = ps.length := by rw [← hlen, hlx, hl]
  have ok : PlainSeq "tuple" s.heap a its.toArray ∧ PairItems s.heap its.toArray (fun j => ts.getD j 0) psv := by
    refine ⟨⟨o, n, hga, hcl, hdi, hdat⟩, by rw [hpl, List.size_toArray, hsz], fun j k v hj => ?_⟩
    rw [List.getElem?_map] at hj
    cases hp : ps[j]? with
    | none => rw [hp] at hj; cases hj
    | some p =>
      rw [hp] at hj
      obtain ⟨t, ht, hT⟩ := e4 j p hp
      have hj' : (Value.ref p.2.1, p.2.2) = (k, v) := Option.some.inj hj
      cases hj'
      have et : ts.getD j 0 = t := by rw [List.getD_eq_getElem?_getD, ht]; rfl
      refine ⟨?_, .inl ?_⟩
      · rw [List.getElem?_toArray, e1, List.getElem?_map, ht]
        show some (Value.ref t) = some (Value.ref (ts.getD j 0))
        rw [et]
      · show IsTup s.heap (ts.getD j 0) _
        rw [et]
        exact hT
  have nd' : (ps.map (·.1)).Nodup := by
    rw [kt_fst e3]
    exact nd
  have keyH := kt_keys e3
  refine PySem.call_dict_pairsH (knd := tupleKind (mixKind X.prog X.w)) (ps := ps) P (I.ok.hd hc) (show X.A.units + 1 + 1 < cLine by omega) ok ⟨by rw [hpl], fun i k v hr => ?_⟩ (fun h' hk y hy => ?_) (by rw [hpl, hl, ← hlx]; exact hz) fun h' tk dd hk => ?_
  · have hr' : psv[i]? = some (k, v) := hr
    rw [List.getElem?_map] at hr'
    cases hp : ps[i]? with
    | none => rw [hp] at hr'; cases hr'
    | some p =>
      rw [hp] at hr'
      have e' : (Value.ref p.2.1, p.2.2) = (k, v) := Option.some.inj hr'
      cases e'
      exact ⟨p.1, p.2.1, rfl, rfl⟩
  · obtain ⟨its2, r2, oo, hoo, cc, nn, dd⟩ := (I.hok _ _ (keyH y hy)).2
    have hlt : y.2.1 < s.heap.objs.size := Heap.lt_size hoo
    exact ⟨oo, its2.toArray, nn, hk _ _ (Nat.ne_of_lt hlt) (by simp) hoo, cc, dd, by simpa using items_are r2⟩
  · have hn : H s.heap.objs.size = none := I.hok.fresh (Nat.le_refl _)
    have kk : ∀ b o, s.heap.get? b = some o → h'.get? b = some o := fun b o e => hk b o (by simp) e
    rw [stored_nodup ps [] (by simpa using nd'), List.nil_append] at dd
    obtain ⟨o1, es, ep, hq, g2, g3, g4, _, g5⟩ := dd
    have hbig := I.big
    refine ⟨.ref s.heap.objs.size, upd H s.heap.objs.size (.dT kvs), I.laid (t' := tk) kk (Nat.le_refl _) ⟨by rw [← hlx]; exact hz, ?_, ps, KT.keeps e3 fun b ys e => ?_, o1, es, ep, hq, g2, g3, g4, g5⟩, rfl, q _ hn⟩
    · exact beq_eq_false_iff_ne.mpr (Nat.ne_of_gt hbig)
    · rw [upd_ne (ne_of_none e hn)]
      exact e
end
end Fl

set_option Elab.async false
set_option linter.all false
set_option maxRecDepth 100000
set_option maxHeartbeats 4000000
namespace Fl
open PySem PySem.Spec PyProof.Rows L2
/-! ### the order of lists of ints, Python's order of tuples -/
def lexB : List Int → List Int → Bool
  | [], [] => false
  | [], _ :: _ => true
  | _ :: _, [] => false
  | x :: xs, y :: ys => if x = y then lexB xs ys else decide (x < y)
theorem lexB_irr : ∀ xs : List Int, lexB xs xs = false
  | [] => rfl
  | x :: xs => by
    unfold lexB
    rw [if_pos rfl]
    exact lexB_irr xs
theorem lexB_asym : ∀ xs ys : List Int, lexB xs ys = true → lexB ys xs = false
  | [], [], h => by cases h
  | [], _ :: _, _ => rfl
  | _ :: _, [], h => by cases h
  | x :: xs, y :: ys, h => by
    unfold lexB at h ⊢
    by_cases e : x = y
    · rw [if_pos e] at h
      rw [if_pos e.symm]
      exact lexB_asym xs ys h
    · rw [if_neg e] at h
      rw [if_neg (Ne.symm e)]
      have := of_decide_eq_true h
      exact decide_eq_false (by omega)
/-- not greater, both ways: equal -/
theorem lexB_tot : ∀ xs ys : List Int, lexB xs ys = false → lexB ys xs = false → xs = ys
  | [], [], _, _ => rfl
  | [], _ :: _, h, _ => by cases h
  | _ :: _, [], _, h => by cases h
  | x :: xs, y :: ys, h, h' => by
    unfold lexB at h h'
    by_cases e : x = y
    · rw [if_pos e] at h
      rw [if_pos e.symm] at h'
      rw [e, lexB_tot xs ys h h']
    · rw [if_neg e] at h
      rw [if_neg (Ne.symm e)] at h'
      have h1 := of_decide_eq_false h
      have h2 := of_decide_eq_false h'
      omega
theorem lexB_tr : ∀ xs ys zs : List Int, lexB ys xs = false → lexB zs ys = false → lexB zs xs = false
  | _, _, [], h1, h2 => by
    rename_i xs ys
    cases ys with
    | nil => exact h1
    | cons y ys => cases h2
  | xs, [], _ :: _, h1, h2 => by
    cases xs with
    | nil => rfl
    | cons x xs => cases h1
  | [], y :: ys, z :: zs, _, _ => rfl
  | x :: xs, y :: ys, z :: zs, h1, h2 => by
    unfold lexB at h1 h2 ⊢
    by_cases e1 : y = x
    · rw [if_pos e1] at h1
      by_cases e2 : z = y
      · rw [if_pos e2] at h2
        rw [if_pos (e2.trans e1)]
        exact lexB_tr xs ys zs h1 h2
      · rw [if_neg e2] at h2
        have q := of_decide_eq_false h2
        rw [if_neg (fun e => e2 (e.trans e1.symm))]
        exact decide_eq_false (by omega)
    · rw [if_neg e1] at h1
      have q1 := of_decide_eq_false h1
      by_cases e2 : z = y
      · rw [if_neg (fun e => e1 (e2.symm.trans e))]
        exact decide_eq_false (by omega)
      · rw [if_neg e2] at h2
        have q2 := of_decide_eq_false h2
        rw [if_neg (by omega)]
        exact decide_eq_false (by omega)
/-- the order of pairs of such a list and an int -/
def lexP (p q : List Int × Int) : Bool := if p.1 = q.1 then decide (p.2 < q.2) else lexB p.1 q.1
theorem swo_lexB {α : Type} (k : α → List Int) : SrtO.Swo fun a b => lexB (k a) (k b) := ⟨fun x y h => lexB_asym _ _ h, fun x y z h1 h2 => lexB_tr _ _ _ h1 h2⟩
theorem swo_lexP {α : Type} (k : α → List Int × Int) : SrtO.Swo fun a b => lexP (k a) (k b) := by
  refine ⟨fun x y h => ?_, fun x y z h1 h2 => ?_⟩
  · unfold lexP at h ⊢
    by_cases e : (k x).1 = (k y).1
    · rw [if_pos e] at h
      rw [if_pos e.symm]
      have := of_decide_eq_true h
      exact decide_eq_false (by omega)
    · rw [if_neg e] at h
      rw [if_neg (Ne.symm e)]
      exact lexB_asym _ _ h
  · unfold lexP at h1 h2 ⊢
    by_cases e1 : (k y).1 = (k x).1
    · rw [if_pos e1] at h1
      by_cases e2 : (k z).1 = (k y).1
      · rw [if_pos e2] at h2
        rw [if_pos (e2.trans e1)]
        have := of_decide_eq_false h1
        have := of_decide_eq_false h2
        exact decide_eq_false (by omega)
      · rw [if_neg e2] at h2
        rw [if_neg (fun e => e2 (e.trans e1.symm)), ← e1]
        exact h2
    · rw [if_neg e1] at h1
      by_cases e2 : (k z).1 = (k y).1
      · rw [if_neg (fun e => e1 (e2.symm.trans e)), e2]
        exact h1
      · rw [if_neg e2] at h2
        have t := lexB_tr _ _ _ h1 h2
        by_cases e3 : (k z).1 = (k x).1
        · exact absurd (lexB_tot _ _ (by rw [← e3]; exact h2) h1).symm e1
        · rw [if_neg e3]
          exact t
/-! ### sorted(x), x a list or a tuple, of any length -/
section
variable {prog : Program} {w : World} {A : Around} {E : Value → Shared → Prop} {s : Shared}
theorem sorted_seq {l : Addr} {vs : List Value} {ltv : Value → Value → Bool} {Q : Value → Shared → Prop} {T : String} {o : Obj} {n : Nat} (O : SrtO.Swo ltv) (hT : T = "list" ∨ T = "tuple") (ho : s.heap.get? l = some o) (hc : o.cls = .type T) (hd : o.data = .seq vs.toArray n) (hz : vs.length ≤ sizeLine)
    (hS : 2 ≤ vs.length → ∀ (h₁ : Heap) (a : Addr), h₁.get? a = some (seqObj "list" vs.toArray 0) → (∀ b o, s.heap.get? b = some o → b ≠ a ∧ h₁.get? b = some o) → SrtO.SortableO prog w A.in1.in1 { s with heap := h₁ } a vs ltv)
    (h : ∀ (h1 h' : Heap) (out : List Value), SrtO.Srtd ltv out → SrtO.Stb ltv out vs → (∀ b o, s.heap.get? b = some o → h1.get? b = some o) → (∀ b o, h1.get? b = some o → h'.get? b = some o) → (∃ e, h'.get? h1.objs.size = some (seqObj "list" out.toArray e)) → Q (.ref h1.objs.size) { s with heap := h' }) :
    wpAny (model prog w) A (call (.builtin "sorted") [.ref l]) Q E s := by
  refine Calls.call_function_entry kind_sorted plain_sorted entry_sorted (args_sorted1 _) ?_
  unfold Builtin.«sorted»
  refine wpAny_bind (m := checkCount "sorted" 1 1 _) (wpAny_pure ?_)
  have hz' : vs.toArray.size ≤ sizeLine := by rw [List.size_toArray]; exact hz
  refine wpAny_bind (wpAny_collect_seq l hT ho hc hd (fun h1 k1 => ?_) hz')
  have et : vs.toArray.toList = vs := by simp
  rw [et]
  refine wpAny_bind (wpAny_newList ?_ hz)
  have hoL : (h1.push (seqObj "list" vs.toArray 0)).get? h1.objs.size = some (seqObj "list" vs.toArray 0) := Heap.get?_push_size _ rfl
  have keep : ∀ b o, s.heap.get? b = some o → b ≠ h1.objs.size ∧ (h1.push (seqObj "list" vs.toArray 0)).get? b = some o := fun b o q =>
    ⟨Nat.ne_of_lt (Heap.lt_size (k1 b o q)), Heap.get?_push_of_some _ (k1 b o q)⟩
  show wpAny _ _ _ _ _ { s with heap := h1.push (seqObj "list" vs.toArray 0) }
  refine wpAny_bind (wpAny_holding (wpAny_call_entry slot_list_sort ⟨_, hoL, rfl⟩ entry_list_sort (SrtO.list_sort_ord O hoL hz (fun h2 => hS h2 _ _ hoL keep) fun out hs hb => ⟨_, rfl, ?_⟩) (args_list_sort _)))
  refine wpAny_pure ⟨_, rfl, h h1 _ out hs hb k1 (fun b o e => ?_) (sortedHeap_at hoL)⟩
  have hlt : b < h1.objs.size := Heap.lt_size e
  rw [sortedHeap_old (Nat.ne_of_lt hlt) (by rw [size_push']; exact Nat.lt_succ_of_lt hlt)]
  exact Heap.get?_push_of_some _ e
/-! ### how tuples of ints, and pairs of such a tuple and an int, compare -/
/-- v is a tuple of the ints ns -/
def TupIs (h : Heap) (v : Value) (ns : List Int) : Prop := ∃ (t : Addr) (its : List Value), v = .ref t ∧ IsTup h t its.toArray ∧ IntsAre its ns
def PairIs (h : Heap) (v : Value) (p : List Int × Int) : Prop := ∃ (t : Addr) (x : Value) (tk : Tok), v = .ref t ∧ IsTup h t #[x, .int p.2 tk] ∧ TupIs h x p.1
theorem TupIs.keeps {h h' : Heap} {v : Value} {ns : List Int} (x : TupIs h v ns) (k : ∀ b o, h.get? b = some o → o.cls = .type "tuple" → h'.get? b = some o) : TupIs h' v ns := by
  obtain ⟨t, its, e, ⟨o, ho, hc, r⟩, hi⟩ := x
  exact ⟨t, its, e, ⟨o, k t o ho hc, hc, r⟩, hi⟩
theorem PairIs.keeps {h h' : Heap} {v : Value} {p : List Int × Int} (x : PairIs h v p) (k : ∀ b o, h.get? b = some o → o.cls = .type "tuple" → h'.get? b = some o) : PairIs h' v p := by
  obtain ⟨t, y, tk, e, ⟨o, ho, hc, r⟩, hi⟩ := x
  exact ⟨t, y, tk, e, ⟨o, k t o ho hc, hc, r⟩, hi.keeps k⟩
theorem lex_ints {b : Bool} {Q : Bool → Shared → Prop} : ∀ (xs ys : List Value) (ns ms : List Int) (i : Nat), IntsAre xs ns → IntsAre ys ms → Q (lexB ns ms) s → PySem.W.KatLex prog w A b (decide (ns.length < ms.length)) Q (xs.zip ys) i s
  | [], ys, ns, ms, i, hx, hy, q => by
    cases hx
    cases hy with
    | nil => exact PySem.W.kat_nil (by simpa [lexB] using q)
    | cons h t => exact PySem.W.kat_nil (by simpa [lexB] using q)
  | x :: xs, [], ns, ms, i, hx, hy, q => by
    cases hx with
    | cons n t hx =>
      cases hy
      exact PySem.W.kat_nil (by simpa [lexB] using q)
  | _ :: xs, _ :: ys, _, _, i, .cons (ns := ns) n t hx, .cons (ns := ms) m u hy, q => by
    rw [List.zip_cons_cons]
    have el : decide ((n :: ns).length < (m :: ms).length) = decide (ns.length < ms.length) := by
      by_cases h : ns.length < ms.length
      · rw [decide_eq_true h]
        exact decide_eq_true (by rw [List.length_cons, List.length_cons]; omega)
      · rw [decide_eq_false h]
        exact decide_eq_false (by rw [List.length_cons, List.length_cons]; omega)
    rw [el]
    refine PySem.W.kat_cons (SeqAt.EqAt.int_int n t m u prog w _ _ ?_)
    refine PySem.W.kat_go (fun e1 => ?_) (fun e1 => ?_)
    · have ex : n = m := by simpa using e1
      refine PySem.W.kat_yes (lex_ints xs ys ns ms (i + 1) hx hy ?_)
      unfold lexB at q
      rw [if_pos ex] at q
      exact q
    · have ex : ¬ n = m := by simpa using e1
      refine PySem.W.kat_no (TS.oneLt_ints _ ?_)
      unfold lexB at q
      rw [if_neg ex] at q
      exact q
theorem tup_lt {b : Bool} {v u : Value} {ns ms : List Int} {Q : Bool → Shared → Prop} (h1 : TupIs s.heap v ns) (h2 : TupIs s.heap u ms) (q : Q (lexB ns ms) s) : wpAny (model prog w) A (keyLt' (tuples' b) v u) Q E s := by
  obtain ⟨t, its, rfl, ⟨o, ho, hc, n, hd⟩, hi⟩ := h1
  obtain ⟨t', its', rfl, ⟨o', ho', hc', n', hd'⟩, hi'⟩ := h2
  refine PySem.W.kat_lt ho hd ho' hd' ?_
  have e1 : its.toArray.size = ns.length := by rw [List.size_toArray]; exact hi.length
  have e2 : its'.toArray.size = ms.length := by rw [List.size_toArray]; exact hi'.length
  rw [e1, e2]
  simpa using lex_ints (b := b) (prog := prog) (w := w) (A := A) its its' ns ms 0 hi hi' q

/-! data of ints -/
def dI (ns : List Int) : List PyData := ns.map PyData.int
theorem reads_ints {h : Heap} : ∀ {its : List Value} {ns : List Int}, IntsAre its ns → ReadsAll h its (dI ns) []
  | _, _, .nil => .nil
  | _, _, .cons n t r => ReadsAll.cons (as := []) (bs := []) (.int n t) (reads_ints r)
theorem eqvAll_ints : ∀ ns ms : List Int, PyData.eqvAll (dI ns) (dI ms) = decide (ns = ms)
  | [], [] => rfl
  | [], _ :: _ => rfl
  | _ :: _, [] => rfl
  | n :: ns, m :: ms => by
    show (PyData.eqv (.int n) (.int m) && PyData.eqvAll (dI ns) (dI ms)) = _
    rw [eqvAll_ints ns ms]
    have e : PyData.eqv (.int n) (.int m) = (n == m) := rfl
    rw [e]
    by_cases h1 : n = m
    · by_cases h2 : ns = ms
      · simp [h1, h2]
      · simp [h1, h2]
    · simp [h1]
theorem canLay_ints : ∀ ns : List Int, PyData.canLayAll0 (dI ns) = true
  | [] => rfl
  | n :: ns => by
    show (PyData.canLay0 (.int n) && PyData.canLayAll0 (dI ns)) = true
    rw [canLay_ints ns]
    rfl
theorem depth_ints : ∀ ns : List Int, PyData.depthAll (dI ns) = 0
  | [] => rfl
  | n :: ns => by
    show max (PyData.depth (.int n)) (PyData.depthAll (dI ns)) = 0
    rw [depth_ints ns]
    rfl
theorem tup_eq {v u : Value} {ns ms : List Int} (hu : A.units + 1 < cLine) (h1 : TupIs s.heap v ns) (h2 : TupIs s.heap u ms) : SeqAt.EqAt A s v u (decide (ns = ms)) := by
  obtain ⟨t, its, rfl, ⟨o, ho, hc, n, hd⟩, hi⟩ := h1
  obtain ⟨t', its', rfl, ⟨o', ho', hc', n', hd'⟩, hi'⟩ := h2
  have r1 : Reads s.heap (.ref t) (.tuple (dI ns)) [] := .tuple ho hc hd (by simpa using reads_ints hi)
  have r2 : Reads s.heap (.ref t') (.tuple (dI ms)) [] := .tuple ho' hc' hd' (by simpa using reads_ints hi')
  have e : PyData.eqv (.tuple (dI ns)) (.tuple (dI ms)) = decide (ns = ms) := eqvAll_ints ns ms
  rw [← e]
  refine SeqAt.eqAt_reads _ _ A s _ _ _ _ r1 r2 (canLay_ints ns) (canLay_ints ms) ?_
  have d1 : PyData.depth (.tuple (dI ns)) = 1 := by
    show PyData.depthAll (dI ns) + 1 = 1
    rw [depth_ints]
  rw [d1]
  have := Nat.min_le_left 1 (PyData.depth (.tuple (dI ms)))
  omega
theorem tup_ltc {v u : Value} {ns ms : List Int} (hu : A.units + 1 < cLine) {Q : Value → Shared → Prop} (h1 : TupIs s.heap v ns) (h2 : TupIs s.heap u ms) (q : Q (.bool (lexB ns ms)) s) : wpAny (model prog w) A (compareOp .Lt v u) Q E s := by
  obtain ⟨t, its, rfl, ht, hi⟩ := h1
  obtain ⟨t', its', rfl, ht', hi'⟩ := h2
  have e1 : its.toArray.size = ns.length := by rw [List.size_toArray]; exact hi.length
  have e2 : its'.toArray.size = ms.length := by rw [List.size_toArray]; exact hi'.length
  have at1 : ∀ j (h1 : j < its.toArray.size), ∃ t, its.toArray[j] = .int (ns.getD j 0) t := fun j h1 => PyProof.Rows.IntsAre.int_at hi _ _ (by simp at h1; simp [h1])
  have at2 : ∀ j (h1 : j < its'.toArray.size), ∃ t, its'.toArray[j] = .int (ms.getD j 0) t := fun j h1 => PyProof.Rows.IntsAre.int_at hi' _ _ (by simp at h1; simp [h1])
  have R := Ob.RcOp.tuples_lt (A := A) (s := s) (e := fun j => (ns.getD j 0 == ms.getD j 0)) (r := fun j => decide (ns.getD j 0 < ms.getD j 0)) ht ht' (by omega) (fun j h1 h2 => by
    obtain ⟨t, et⟩ := at1 j h1
    obtain ⟨t', et'⟩ := at2 j h2
    rw [et, et']
    exact SeqAt.EqAt.int_int _ _ _ _) (fun j h1 h2 _ => by
    obtain ⟨t, et⟩ := at1 j h1
    obtain ⟨t', et'⟩ := at2 j h2
    rw [et, et']
    exact Ob.RcOp.lt_int _ _ _ _)
  rw [e1, e2] at R
  have key : ∀ (ns ms : List Int), Ob.lexAt (fun j => (ns.getD j 0 == ms.getD j 0)) (fun j => decide (ns.getD j 0 < ms.getD j 0)) (decide (ns.length < ms.length)) 0 (min ns.length ms.length) = lexB ns ms := by
    have gen : ∀ (k i : Nat) (as bs : List Int), k = min as.length bs.length - i → i ≤ min as.length bs.length →
        Ob.lexAt (fun j => (as.getD j 0 == bs.getD j 0)) (fun j => decide (as.getD j 0 < bs.getD j 0)) (decide (as.length < bs.length)) i k = lexB (as.drop i) (bs.drop i) := by
      intro k
      induction k with
      | zero =>
        intro i as bs e hi
        rw [Ob.lexAt_zero]
        rcases Nat.le_total as.length bs.length with h | h
        · have ea : as.drop i = [] := List.drop_of_length_le (by omega)
          rw [ea]
          by_cases hl : as.length < bs.length
          · rw [decide_eq_true hl]
            have hb : bs.drop i ≠ [] := by
              intro z
              have := List.drop_eq_nil_iff.mp z
              omega
            cases hq : bs.drop i with
            | nil => exact absurd hq hb
            | cons x r => rfl
          · rw [decide_eq_false hl]
            have eb : bs.drop i = [] := List.drop_of_length_le (by omega)
            rw [eb]
            rfl
        · have eb : bs.drop i = [] := List.drop_of_length_le (by omega)
          rw [eb, decide_eq_false (by omega)]
          cases as.drop i <;> rfl
      | succ k ih =>
        intro i as bs e hi
        rw [Ob.lexAt_succ]
        have ha : i < as.length := by omega
        have hb : i < bs.length := by omega
        rw [List.drop_eq_getElem_cons ha, List.drop_eq_getElem_cons hb]
        have ga : as.getD i 0 = as[i] := by rw [List.getD_eq_getElem?_getD, List.getElem?_eq_getElem ha]; rfl
        have gb : bs.getD i 0 = bs[i] := by rw [List.getD_eq_getElem?_getD, List.getElem?_eq_getElem hb]; rfl
        rw [ga, gb]
        show _ = if as[i] = bs[i] then lexB (as.drop (i + 1)) (bs.drop (i + 1)) else decide (as[i] < bs[i])
        by_cases h : as[i] = bs[i]
        · rw [if_pos h, if_pos (by simpa using h)]
          exact ih (i + 1) as bs (by omega) (by omega)
        · rw [if_neg h, if_neg (by simpa using h)]
    intro ns ms
    have := gen (min ns.length ms.length) 0 ns ms (by omega) (Nat.zero_le _)
    simpa using this
  rw [key ns ms] at R
  exact R prog w E Q q
theorem firsts_tup {h : Heap} {k : Value → List Int} : ∀ vs : List Value, (∀ v ∈ vs, TupIs h v (k v) ∧ k v ≠ []) → ∃ fs : List Value, PySem.W.KatTups h vs fs ∧ fs.length = vs.length ∧ ∀ f ∈ fs, ∃ (x : Int) (t : Tok), f = Value.int x t
  | [], _ => ⟨[], PySem.W.KatTups.nil, rfl, fun f hf => by cases hf⟩
  | v :: vs, hv => by
    obtain ⟨fs, h1, h2, h3⟩ := firsts_tup vs fun u hu => hv u (List.mem_cons_of_mem _ hu)
    obtain ⟨⟨t, its, e, ⟨o, ho, hc, n, hd⟩, hi⟩, ne⟩ := hv v List.mem_cons_self
    subst e
    generalize k (.ref t) = ns at hi ne
    cases hi with
    | nil => exact absurd rfl ne
    | cons m tk r =>
      exact ⟨.int m tk :: fs, PySem.W.KatTups.cons ho hc hd (by simp) h1, by rw [List.length_cons, List.length_cons, h2], fun f hf => by
        rcases List.mem_cons.mp hf with rfl | hf
        · exact ⟨m, tk, rfl⟩
        · exact h3 f hf⟩
theorem firsts_pair {h : Heap} {k : Value → List Int × Int} : ∀ vs : List Value, (∀ v ∈ vs, PairIs h v (k v)) → ∃ fs : List Value, PySem.W.KatTups h vs fs ∧ fs.length = vs.length ∧ ∀ f ∈ fs, ∃ (q : Addr) (o : Obj), f = Value.ref q ∧ h.get? q = some o ∧ o.cls = .type "tuple"
  | [], _ => ⟨[], PySem.W.KatTups.nil, rfl, fun f hf => by cases hf⟩
  | v :: vs, hv => by
    obtain ⟨fs, h1, h2, h3⟩ := firsts_pair vs fun u hu => hv u (List.mem_cons_of_mem _ hu)
    obtain ⟨t, x, tk, e, ⟨o, ho, hc, n, hd⟩, ⟨t', its, e', ⟨o', ho', hc', r⟩, hi⟩⟩ := hv v List.mem_cons_self
    subst e
    exact ⟨x :: fs, PySem.W.KatTups.cons ho hc hd (by simp) h1, by rw [List.length_cons, List.length_cons, h2], fun f hf => by
      rcases List.mem_cons.mp hf with rfl | hf
      · exact ⟨t', o', e', ho', hc'⟩
      · exact h3 f hf⟩
theorem tups_sortable {a : Addr} {vs : List Value} {k : Value → List Int} (h0 : 0 < vs.length) (hp : ∀ v ∈ vs, TupIs s.heap v (k v) ∧ k v ≠ []) (ha : ∀ o, s.heap.get? a = some o → o.cls ≠ .type "tuple") : SrtO.SortableO prog w A s a vs fun v u => lexB (k v) (k u) := by
  intro h' keep
  have hp' : ∀ v ∈ vs, TupIs h' v (k v) ∧ k v ≠ [] := fun v hm => ⟨(hp v hm).1.keeps fun b o e c => keep b o (fun z => by subst z; exact ha o e c) e, (hp v hm).2⟩
  obtain ⟨fs, h1, h2, h3⟩ := firsts_tup vs hp'
  refine ⟨tuples' true, fun Q E hq => ?_, fun p q hm hm' => ?_⟩
  · refine PySem.W.kat_kind (T := .type "int") h1 (by omega) (fun f hm => ?_) (by rfl) ?_
    · obtain ⟨x, t, rfl⟩ := h3 f hm
      exact PySem.W.Looks.now
    · have e : (Value.type "int" != Value.type "tuple") = true := by first | decide +kernel | rfl | decide
      rw [e]
      exact hq
  · exact tup_lt (s := { s with heap := h' }) (hp' _ hm).1 (hp' _ hm').1 ⟨rfl, rfl⟩
theorem pairs_sortable {a : Addr} {vs : List Value} {k : Value → List Int × Int} (hu : A.units + 2 < cLine) (h0 : 0 < vs.length) (hp : ∀ v ∈ vs, PairIs s.heap v (k v)) (ha : ∀ o, s.heap.get? a = some o → o.cls ≠ .type "tuple") : SrtO.SortableO prog w A s a vs fun v u => lexP (k v) (k u) := by
  intro h' keep
  have hp' : ∀ v ∈ vs, PairIs h' v (k v) := fun v hm => (hp v hm).keeps fun b o e c => keep b o (fun z => by subst z; exact ha o e c) e
  obtain ⟨fs, h1, h2, h3⟩ := firsts_pair vs hp'
  refine ⟨tuples' false, fun Q E hq => ?_, fun p q hm hm' => ?_⟩
  · refine PySem.W.kat_kind (T := .type "tuple") h1 (by omega) (fun f hm => ?_) (by rfl) ?_
    · obtain ⟨q, o, rfl, ho, hc⟩ := h3 f hm
      have z : PySem.W.Looks (model prog w) h' (typeOf (.ref q)) o.cls := (PySem.W.Looks.ld ho).andThen .now
      rw [hc] at z
      exact z
    · have e : (Value.type "tuple" != Value.type "tuple") = false := by first | decide +kernel | rfl | decide
      rw [e]
      exact hq
  · have g1 := hp' _ hm
    have g2 := hp' _ hm'
    show wpAny (model prog w) A (keyLt' (tuples' false) p.1 q.1) (fun r s' => s' = { s with heap := h' } ∧ r = lexP (k p.1) (k q.1)) (fun _ _ => False) { s with heap := h' }
    generalize k p.1 = kp at g1 ⊢
    generalize k q.1 = kq at g2 ⊢
    obtain ⟨t, x, tk, e, ⟨o, ho, hc, n, hd⟩, hx⟩ := g1
    obtain ⟨t', x', tk', e', ⟨o', ho', hc', n', hd'⟩, hx'⟩ := g2
    rw [e, e']
    refine PySem.W.kat_lt (s := { s with heap := h' }) ho hd ho' hd' ?_
    show PySem.W.KatLex prog w A false (decide (2 < 2)) _ [(x, x'), (.int kp.2 tk, .int kq.2 tk')] 0 _
    refine PySem.W.kat_cons (tup_eq (s := { s with heap := h' }) (by omega) hx hx' prog w _ _ ?_)
    unfold lexP
    refine PySem.W.kat_go (fun e1 => ?_) (fun e1 => ?_)
    · have ex := of_decide_eq_true e1
      refine PySem.W.kat_yes (PySem.W.kat_cons (SeqAt.EqAt.int_int kp.2 tk kq.2 tk' prog w _ _ ?_))
      rw [if_pos ex]
      refine PySem.W.kat_go (fun e2 => ?_) (fun e2 => ?_)
      · have ey : kp.2 = kq.2 := by simpa using e2
        refine PySem.W.kat_yes (PySem.W.kat_nil ⟨rfl, ?_⟩)
        rw [ey]
        exact (decide_eq_false (by omega)).trans (decide_eq_false (by omega)).symm
      · exact PySem.W.kat_no (TS.oneLt_ints _ ⟨rfl, rfl⟩)
    · have ex := of_decide_eq_false e1
      rw [if_neg ex]
      refine PySem.W.kat_no (PySem.W.kat_one _ _ (tup_ltc (s := { s with heap := h' }) (by omega) hx hx' ?_))
      exact ⟨rfl, rfl⟩
end
/-! ### the rules -/
section
variable {X : Cx} {pins : List (Addr × Obj)} {σ : L2.St} {H : Hp} {s : Shared}
/-- a list or a tuple -/
def SqA (K : PySem.W.Frag) (H : Hp) (a : Addr) (xs : List V) : Prop := SqL K H a xs ∨ SqT K H a xs
theorem seq_raw (I : Inv X pins σ H s) {a : Addr} {xs : List V} (h : SqA X.K H a xs) : ∃ (its : List Value) (T : String) (o : Obj) (n : Nat), Vals xs its ∧ (T = "list" ∨ T = "tuple") ∧ s.heap.get? a = some o ∧ o.cls = .type T ∧ o.data = .seq its.toArray n ∧ its.length ≤ sizeLine := by
  rcases h with h | h
  · obtain ⟨its, r, pl, hz⟩ := I.list h
    obtain ⟨o, ho, hc, n, hd⟩ := pl.isList
    exact ⟨its, "list", o, n, r, .inl rfl, ho, hc, hd, by rw [← r.length]; exact hz⟩
  · obtain ⟨its, r, ⟨o, ho, hc, n, hd⟩, hz⟩ := I.tuple h
    exact ⟨its, "tuple", o, n, r, .inr rfl, ho, hc, hd, by rw [← r.length]; exact hz⟩
theorem vals_perm_back : ∀ {xs : List V} {us out : List Value}, Vals xs us → (∀ x ∈ xs, ∃ a, x = V.ref a) → out.Perm us → Vals (out.map bkV) out ∧ (out.map bkV).Perm xs := fun {xs us out} r h p => by
  obtain ⟨e1, e2⟩ := bkV_refs r h
  refine ⟨bkV_vals fun u hu => e2 u (p.mem_iff.mp hu), ?_⟩
  rw [e1]
  exact p.map _
/-- sorted(x), x a list or tuple of tuples of ints, k their ints -/
def rSortX (K : PySem.W.Frag) : List V → Hp → VK → Prop := fun vs H Q => ∃ (a : Addr) (xs : List V) (k : V → List Int), vs = [V.ref a] ∧ SqA K H a xs ∧ (∀ x ∈ xs, TupI K H x (k x) ∧ k x ≠ []) ∧
  ∀ (ys : List V) (p : Addr), ys.Perm xs → ys.Pairwise (fun x y => lexB (k y) (k x) = false) → H p = none → Q (.ref p) (upd H p (.lst ys))
theorem sorted_fin {a : Addr} {xs : List V} {us : List Value} {Q : VK} {h1 h' : Heap} {out : List Value} (I : Inv X pins σ H s) (r : Vals xs us) (hz : us.length ≤ sizeLine) (hr : ∀ x ∈ xs, ∃ a, x = V.ref a) (p : out.Perm us) (k1 : ∀ b o, s.heap.get? b = some o → h1.get? b = some o)
    (k2 : ∀ b o, h1.get? b = some o → h'.get? b = some o) (he : ∃ e, h'.get? h1.objs.size = some (seqObj "list" out.toArray e)) (q : ∀ pp, (out.map bkV).Perm xs → H pp = none → Q (.ref pp) (upd H pp (.lst (out.map bkV)))) : EP X pins σ Q (.ref h1.objs.size) { s with heap := h' } := by
  obtain ⟨e1, e2⟩ := vals_perm_back r hr p
  obtain ⟨e, he⟩ := he
  have I1 : Inv X pins σ H { s with heap := h1 } := I.kept (t' := s.toks) k1
  have hn : H h1.objs.size = none := I1.hok.fresh (Nat.le_refl _)
  refine ⟨.ref h1.objs.size, upd H h1.objs.size (.lst (out.map bkV)), I1.laid (t' := s.toks) k2 (Nat.le_refl _) ⟨?_, out, e, e1, he⟩, rfl, q _ e2 hn⟩
  rw [List.length_map, p.length_eq]
  exact hz
theorem cr_sortX : CallR X (.builtin "sorted") (rSortX X.K) := by
  intro pins s σ H vs us Q I r h
  obtain ⟨a, xs, k, rfl, hq, hk, q⟩ := h
  obtain ⟨u, rfl, rx⟩ := vals1 r
  obtain rfl : u = Value.ref a := rx
  obtain ⟨its, T, o, n, rv, hT, ho, hc, hd, hz⟩ := seq_raw I hq
  have hr : ∀ x ∈ xs, ∃ a, x = V.ref a := fun x hx => let ⟨t, e, _⟩ := (hk x hx).1; ⟨t, e⟩
  obtain ⟨b1, b2⟩ := bkV_refs rv hr
  have hT' : ∀ v ∈ its, TupIs s.heap v (k (bkV v)) ∧ k (bkV v) ≠ [] := fun v hv => by
    have hm : bkV v ∈ xs := by rw [b1]; exact List.mem_map_of_mem hv
    obtain ⟨⟨t, e, hst⟩, ne⟩ := hk _ hm
    have ev := bkV_ref e
    refine ⟨?_, ne⟩
    obtain ⟨its', rv', ht, _⟩ := I.tuple hst
    exact ⟨t, its', ev, ht, Vals.ints rv'⟩
  refine sorted_seq (swo_lexB fun v => k (bkV v)) hT ho hc hd hz (fun h2 h₁ a' ha' kk => ?_) fun h1 h' out hs hb k1 k2 he => ?_
  · refine tups_sortable (s := { s with heap := h₁ }) (by omega) (fun v hv => ⟨(hT' v hv).1.keeps fun b o e _ => (kk b o e).2, (hT' v hv).2⟩) fun o e => ?_
    have e' : some o = some (seqObj "list" its.toArray 0) := e.symm.trans ha'
    cases e'
    intro c
    exact absurd (Value.type.inj c) (by decide)
  · refine sorted_fin (a := a) I rv hz hr hb.perm k1 k2 he fun pp hp hn => q _ pp hp ?_ hn
    exact List.pairwise_map.mpr hs
/-- sorted(x), x a list of pairs (a tuple of ints, an int) -/
def rSortPX (K : PySem.W.Frag) : List V → Hp → VK → Prop := fun vs H Q => ∃ (a : Addr) (xs : List V) (k : V → List Int × Int), vs = [V.ref a] ∧ SqA K H a xs ∧ (∀ x ∈ xs, ∃ t b, x = .ref t ∧ SqT K H t [.ref b, .int (k x).2] ∧ SqT K H b ((k x).1.map V.int)) ∧
  ∀ (ys : List V) (p : Addr), ys.Perm xs → ys.Pairwise (fun x y => lexP (k y) (k x) = false) → H p = none → Q (.ref p) (upd H p (.lst ys))
theorem cr_sortPX (hu : X.A.units + 4 < cLine) : CallR X (.builtin "sorted") (rSortPX X.K) := by
  intro pins s σ H vs us Q I r h
  obtain ⟨a, xs, k, rfl, hq, hk, q⟩ := h
  obtain ⟨u, rfl, rx⟩ := vals1 r
  obtain rfl : u = Value.ref a := rx
  obtain ⟨its, T, o, n, rv, hT, ho, hc, hd, hz⟩ := seq_raw I hq
  have hr : ∀ x ∈ xs, ∃ a, x = V.ref a := fun x hx => let ⟨t, _, e, _⟩ := hk x hx; ⟨t, e⟩
  obtain ⟨b1, b2⟩ := bkV_refs rv hr
  have hT' : ∀ v ∈ its, PairIs s.heap v (k (bkV v)) := fun v hv => by
    have hm : bkV v ∈ xs := by rw [b1]; exact List.mem_map_of_mem hv
    obtain ⟨t, b, e, hst, hsb⟩ := hk _ hm
    have ev := bkV_ref e
    obtain ⟨its', rv', ht, _⟩ := I.tuple hst
    obtain ⟨its2, rv2, ht2, _⟩ := I.tuple hsb
    obtain ⟨x, y, ei, ru, ry⟩ := vals2 rv'
    subst ei
    obtain rfl : x = Value.ref b := ru
    obtain ⟨tk, rfl⟩ := ry
    exact ⟨t, .ref b, tk, ev, ht, b, its2, rfl, ht2, Vals.ints rv2⟩
  refine sorted_seq (swo_lexP fun v => k (bkV v)) hT ho hc hd hz (fun h2 h₁ a' ha' kk => ?_) fun h1 h' out hs hb k1 k2 he => ?_
  · refine pairs_sortable (s := { s with heap := h₁ }) (show X.A.units + 1 + 1 + 2 < cLine by omega) (by omega) (fun v hv => (hT' v hv).keeps fun b o e _ => (kk b o e).2) fun o e => ?_
    have e' : some o = some (seqObj "list" its.toArray 0) := e.symm.trans ha'
    cases e'
    intro c
    exact absurd (Value.type.inj c) (by decide)
  · refine sorted_fin (a := a) I rv hz hr hb.perm k1 k2 he fun pp hp hn => q _ pp hp ?_ hn
    exact List.pairwise_map.mpr hs
/-- sorted(x), x a list or tuple of ints -/
def rSortN (K : PySem.W.Frag) : List V → Hp → VK → Prop := fun vs H Q => ∃ (a : Addr) (ns : List Int), vs = [V.ref a] ∧ SqA K H a (ns.map V.int) ∧
  ∀ (ms : List Int) (p : Addr), ms.Perm ns → ms.Pairwise (· ≤ ·) → H p = none → Q (.ref p) (upd H p (.lst (ms.map V.int)))
theorem cr_sortN : CallR X (.builtin "sorted") (rSortN X.K) := by
  intro pins s σ H vs us Q I r h
  obtain ⟨a, ns, rfl, hq, q⟩ := h
  obtain ⟨u, rfl, rx⟩ := vals1 r
  obtain rfl : u = Value.ref a := rx
  obtain ⟨its, T, o, n, rv, hT, ho, hc, hd, hz⟩ := seq_raw I hq
  have hi : IntsAre its ns := Vals.ints rv
  refine sorted_seq SrtO.swo_int hT ho hc hd hz (fun h2 h₁ a' ha' kk => SrtO.ints_sortable hi h2) fun h1 h' out hs hb k1 k2 he => ?_
  obtain ⟨g1, g2, g3⟩ := SrtO.ints_out hi hs hb
  obtain ⟨e, he⟩ := he
  have I1 : Inv X pins σ H { s with heap := h1 } := I.kept (t' := s.toks) k1
  have hn : H h1.objs.size = none := I1.hok.fresh (Nat.le_refl _)
  refine ⟨.ref h1.objs.size, upd H h1.objs.size (.lst ((out.map SrtO.iv).map V.int)), I1.laid (t' := s.toks) k2 (Nat.le_refl _) ⟨?_, out, e, vals_of_ints g1, he⟩, rfl, q _ _ g2 g3 hn⟩
  rw [List.length_map, List.length_map, hb.perm.length_eq]
  exact hz
end
end Fl

set_option Elab.async false
set_option linter.all false
set_option maxRecDepth 100000
set_option maxHeartbeats 4000000
namespace Fl
open PySem PySem.Spec PyProof.Rows L2
/-! ### for i, x in enumerate(t), t a tuple -/
theorem meets_enum_new1 (t : Addr) (items : Array Value) :
    Meets (Builtin.«enumerate.__new__» ⟨[.type "enumerate", .ref t], []⟩) (fun _ R s => s.heap.IsTuple t items ∧
      R (.ok (.ret (.ref (s.heap.push { cls := .type "tuple_iterator", data := .fields #[.ref t, .int 0 0] }).objs.size))) { s with heap := (s.heap.push { cls := .type "tuple_iterator", data := .fields #[.ref t, .int 0 0] }).push { cls := .type "enumerate", data := .fields #[.none, .bool false, .ref s.heap.objs.size, rawInt 0, .none, .none] } }) :=
  .of_wp fun prog w A R s h => by
    obtain ⟨hp, g, d, tk, os⟩ := s; obtain ⟨h1, h⟩ := h
    have hsub := sub_enumerate
    have q1 : ∀ {A' : Around} {E : Value → Shared → Prop} {Q : Value → Shared → Prop}, Q (.ref hp.objs.size) ⟨hp.push { cls := .type "tuple_iterator", data := .fields #[.ref t, .int 0 0] }, g, d, tk, os⟩ → wpAny (model prog w) A' (pyIter (.ref t)) Q E ⟨hp, g, d, tk, os⟩ :=
      fun q => (begins_tuple t items).iter prog w _ _ ⟨hp, g, d, tk, os⟩ _ h1 q
    wp_walk using q1
    refine wpAny_stack_any fun st => wpAny_pure ?_
    split
    · rename_i c _ _ _ _ _
      cases (c == Value.type "enumerate")
      · wp_walk using q1
        exact ⟨_, rfl, h⟩
      · wp_walk using q1
        exact ⟨_, rfl, h⟩
    · wp_walk using q1
      exact ⟨_, rfl, h⟩
section
variable {prog : Program} {w : World} {A : Around} {E : Value → Shared → Prop} {s : Shared}
theorem call_enum_tuple {t : Addr} {items : Array Value} {Q : Value → Shared → Prop} (h1 : s.heap.IsTuple t items)
    (h : ∀ h', IsEnum h' (s.heap.objs.size + 1) s.heap.objs.size 0 .none → h'.IsTupleIter s.heap.objs.size t 0 → h'.objs.size = s.heap.objs.size + 2 →
      (∀ b o, s.heap.get? b = some o → h'.get? b = some o) → Q (.ref (s.heap.objs.size + 1)) { s with heap := h' }) :
    wpAny (model prog w) A (call (.type "enumerate") [.ref t]) Q E s := by
  refine callType_new F.called_enumerate (by decide) (F.typeCall_enumerate_1 _) (F.newCall_enumerate_1 _) (fun obj => F.args_object_init_2 obj _) F.entry_enumerate_new
    (meets_enum_new1 t items) ⟨h1, ?_⟩
  have hz : (s.heap.push { cls := .type "tuple_iterator", data := .fields #[.ref t, .int 0 0] }).objs.size = s.heap.objs.size + 1 := Heap.size_push ..
  show _ ∧ _
  rw [hz]
  have he : IsEnum ((s.heap.push { cls := .type "tuple_iterator", data := .fields #[.ref t, .int 0 0] }).push { cls := .type "enumerate", data := .fields #[.none, .bool false, .ref s.heap.objs.size, rawInt 0, .none, .none] }) (s.heap.objs.size + 1) s.heap.objs.size 0 .none := by
    have := Heap.get?_push_size (s.heap.push { cls := .type "tuple_iterator", data := .fields #[.ref t, .int 0 0] }) (o := { cls := .type "enumerate", data := .fields #[.none, .bool false, .ref s.heap.objs.size, rawInt 0, .none, .none] }) rfl
    rw [hz] at this; exact this
  refine ⟨⟨_, he, rfl⟩, h _ he ⟨_, Heap.get?_push_of_some _ (Heap.get?_push_size _ rfl), rfl, rfl⟩ (by rw [Heap.size_push, hz]) fun b o x => Heap.get?_push_of_some _ (Heap.get?_push_of_some _ x)⟩
end
/-- the tuple at a, each item in a new pair with its place -/
def Iett (K : PySem.W.Frag) (a : Addr) : It :=
  ⟨fun i H => ∃ (xs : List V) (x : V), SqT K H a xs ∧ xs[i]? = some x, fun i H v H' => ∃ T x, v = .ref T ∧ H T = none ∧ H' = upd H T (.tup [.int (i : Nat), x]) ∧ ∀ xs, SqT K H a xs → xs[i]? = some x, fun i H => ∃ xs : List V, SqT K H a xs ∧ xs.length = i⟩
theorem turn_enumT {P : Program} {w : World} {K : PySem.W.Frag} {elts : List Expr} {kk : Nat} {tpos : Pos} (a e it : Addr) :
    Turn P w K (.Tuple elts kk tpos) (Iett K a) [e, it] e (fun i h => (∃ old, IsEnum h e it ((i : Nat) : Int) old) ∧ h.IsTupleIter it a i ∧ e ≠ it) where
  mem := by simp
  obj := fun i h st b hb => by
    obtain ⟨⟨old, he⟩, ⟨o, ho, hc, hd⟩, _⟩ := st
    have e' : b = e ∨ b = it := by simpa using hb
    rcases e' with z | z
    · rw [z]; exact ⟨_, he, fun v q => nomatch q⟩
    · rw [z]; exact ⟨o, ho, fun v q => by rw [hd] at q; cases q⟩
  keep := fun i h h' st k => let ⟨⟨old, he⟩, hi, hne⟩ := st; ⟨⟨old, k e (by simp) _ he⟩, hi.at fun o q => k it (by simp) o q, hne⟩
  item := by
    intro X hP hw hK hc i pins s σ H E I hf st hg
    subst hP hw hK
    obtain ⟨⟨old, he⟩, hit, hne⟩ := st
    obtain ⟨xs, x, hq, hx⟩ := hg
    obtain ⟨its, rv, p, hz⟩ := I.tuple hq
    obtain ⟨u, hu, ru⟩ := rv.get hx
    have hel : e < s.heap.objs.size := Heap.lt_size he
    have hil : it < s.heap.objs.size := by obtain ⟨_, q, _⟩ := hit; exact Heap.lt_size q
    have hx' : i < xs.length := (List.getElem?_eq_some_iff.mp hx).1
    have hne2 : a ≠ it := by
      rintro rfl
      obtain ⟨o1, g1, c1, _⟩ := hit
      obtain ⟨o2, g2, c2, _⟩ := p
      rw [g1] at g2
      cases g2
      rw [c1] at c2
      exact absurd (Value.type.inj c2) (by decide)
    have hea : e ≠ a := by
      rintro rfl
      obtain ⟨o2, g2, c2, _⟩ := p
      rw [he] at g2
      cases g2
      exact absurd (Value.type.inj c2) (by decide)
    have D := Draws.tuple (prog := X.prog) (w := X.w) (A := X.A.in1) (I.ok.hd hc) it a hne2 its.toArray
    refine wpAny_pyNext_enum_itemD D he ⟨hit, p⟩ (by rw [List.size_toArray, ← rv.length]; exact hx') hne (by simp [hne, hea]) fun y h' tk hP ho hit' hT hsz hk => ?_
    have ey : y = u := by
      have hP' : its.toArray[i]? = some y := hP
      rw [List.getElem?_toArray, hu] at hP'
      exact (Option.some.inj hP').symm
    subst ey
    refine ⟨_, rfl, wpAny_letOwnedTupleGo_enum (s := { s with heap := h', toks := tk + 1 }) ho fun h'' he' sb => ?_⟩
    have hT2 : h''.get? s.heap.objs.size = some { cls := .type "tuple", data := .seq #[.int i tk, y] } := (sb.2 _ (Nat.ne_of_gt hel)).trans hT
    have new : ObjOk X.prog X.w (upd H s.heap.objs.size (.tup [.int (i : Nat), x])) h'' s.heap.objs.size (.tup [.int (i : Nat), x]) :=
      ⟨by show 2 ≤ sizeLine; decide, [.int i tk, y], .cons ⟨_, rfl⟩ (.cons ru .nil), ⟨_, hT2, rfl, _, rfl⟩⟩
    have I1 : Inv X pins σ (upd H s.heap.objs.size (.tup [.int (i : Nat), x])) { s with heap := h'', toks := tk + 1 } :=
      I.turnedNew (ch := [e, it]) (fun b ob hb q => (sb.2 b (fun z => hb (by simp [z]))).trans (hk b ob (fun z => hb (by simp [z])) (fun z => hb (by simp [z])) q)) hf (Nat.le_refl _) new
    refine ⟨.ref s.heap.objs.size, _, I1, rfl, ⟨_, x, rfl, I.hok.fresh (Nat.le_refl _), rfl, fun ys hy => by rw [I.tuple_inj hy hq]; exact hx⟩, ⟨⟨y, ?_⟩, hit'.1.at fun o q => (sb.2 it (Ne.symm hne)).trans q, hne⟩, fun b hb => ?_⟩
    · have e1 : ((i + 1 : Nat) : Int) = (i : Int) + 1 := by omega
      rw [e1]; exact he'
    · have hb' : b < s.heap.objs.size := by
        have e' : b = e ∨ b = it := by simpa using hb
        rcases e' with z | z
        · rw [z]; exact hel
        · rw [z]; exact hil
      rw [upd_ne (Nat.ne_of_lt hb')]
      exact (hf b hb).1
  done := by
    intro X hP hw hK hc i pins s σ H E I hf st hg
    subst hP hw hK
    obtain ⟨⟨old, he⟩, hit, hne⟩ := st
    obtain ⟨xs, hq, hx⟩ := hg
    obtain ⟨its, rv, p, hz⟩ := I.tuple hq
    obtain ⟨f0, f1, f2, f3, f4, f5⟩ := hf it (by simp)
    have hl := rv.length
    have hne2 : a ≠ it := by
      rintro rfl
      obtain ⟨o1, g1, c1, _⟩ := hit
      obtain ⟨o2, g2, c2, _⟩ := p
      rw [g1] at g2
      cases g2
      rw [c1] at c2
      exact absurd (Value.type.inj c2) (by decide)
    have D := Draws.tuple (prog := X.prog) (w := X.w) (A := X.A.in1) (I.ok.hd hc) it a hne2 its.toArray
    refine wpAny_pyNext_enum_endD D he ⟨?_, p⟩ fun h' eb => ⟨rfl, I.turned (t' := s.toks) (fun b o hb q => eb b o hb q) f0 f1 f3 f4 f5⟩
    have e2 : its.toArray.size = i := by
      rw [List.size_toArray]
      omega
    rw [e2]
    exact hit
  self := fun A i s Q E st h => let ⟨⟨_, he⟩, _⟩ := st; wpAny_pyIter_enum he h
def iEnumT (K : PySem.W.Frag) (ta : TA) : TI := fun σ H R => ta σ H fun vs H1 => ∃ a xs, vs = [.ref a] ∧ SqT K H1 a xs ∧ R (Iett K a) H1
theorem pi_enumT {X : Cx} {e : Expr} {ta : TA} {p pos tpos : Pos} {elts : List Expr} {kk : Nat} (hg : Gl X "enumerate") (hm : X.mg "enumerate" = none) (ha : PA X [e] ta) (hs : starEach [e] X.env = [(false, eval e X.env)] := by rfl) :
    PI X (.Tuple elts kk tpos) (.Call (.Name "enumerate" p) [e] [] pos) (iEnumT X.K ta) := by
  refine ⟨fun pins s σ H R I h => ?_⟩
  refine Call_ (ld_blt I hg hm boot_enumerate (PyProof.Rows.callWith_type1 (thn (ha.run pos pins s σ H _ I h) fun us s1 ⟨vs, H1, I1, r1, q1⟩ => ?_) hs rfl))
  obtain ⟨a, xs, ex, hq, q⟩ := q1
  subst ex
  cases r1 with
  | cons r rr =>
    cases rr
    cases r
    obtain ⟨its, rv, p', hz⟩ := I1.tuple hq
    refine call_enum_tuple p' fun h' he hit hsz hk => wpAny_pyIter_enum he ?_
    have I2 : Inv X pins σ H1 { s1 with heap := h' } := I1.kept (t' := s1.toks) hk
    refine ⟨s1.heap.objs.size + 1, [s1.heap.objs.size + 1, s1.heap.objs.size], _, _, H1, rfl, I2, turn_enumT a (s1.heap.objs.size + 1) s1.heap.objs.size, ⟨⟨.none, he⟩, hit, Nat.succ_ne_self _⟩, fun b hb => ?_, q⟩
    have e' : b = s1.heap.objs.size + 1 ∨ b = s1.heap.objs.size := by simpa using hb
    have hle : s1.heap.objs.size ≤ b := by
      rcases e' with z | z
      · rw [z]; exact Nat.le_add_right _ _
      · rw [z]; exact Nat.le_refl _
    exact I1.fpOk hle (I1.hok.fresh hle)
end Fl

set_option Elab.async false
set_option linter.all false
set_option maxRecDepth 100000
set_option maxHeartbeats 4000000
namespace Fl
open PySem PySem.Spec PyProof.Rows L2
/-! ### dict(zip(t, u)), t and u tuples -/
section
variable {prog : Program} {w : World} {A : Around} {E : Value → Shared → Prop} {s : Shared}
theorem zt_next_item_held {z TI TO T i1 i2 l1 l2 : Addr} {f : Bool} {oT : Obj} {k1 k2 : Nat} {xs ys : Array Value} {x y : Value} {Q : Value → Shared → Prop} (D : ZipApart z TI TO i1 i2 l1 l2)
    (hz : IsZipHeld s.heap z TI TO T f) (hT : s.heap.get? T = some oT) (hTI : IsPair s.heap TI (.ref i1) (.ref i2))
    (h1 : s.heap.IsTupleIter i1 l1 k1) (h2 : s.heap.IsTupleIter i2 l2 k2) (hl1 : s.heap.IsTuple l1 xs) (hl2 : s.heap.IsTuple l2 ys) (hx : xs[k1]? = some x) (hy : ys[k2]? = some y)
    (hQ : ∀ h', IsZipHeld h' z TI TO T true → h'.IsTupleIter i1 l1 (k1 + 1) → h'.IsTupleIter i2 l2 (k2 + 1) → IsPair h' s.heap.objs.size x y → h'.objs.size = s.heap.objs.size + 1 →
      (∀ c o, c ≠ z → c ≠ i1 → c ≠ i2 → s.heap.get? c = some o → h'.get? c = some o) → Q (.ref s.heap.objs.size) { s with heap := h' }) :
    wpAny (model prog w) A (Builtin.«zip.__next__» ⟨[.ref z], []⟩) (fun fin s' => ∃ v, fin = .done (.ret v) ∧ Q v s') E s := by
  show wpAny _ _ (field (.ref z) 2 >>= _) _ _ _
  refine wpAny_bind (wpAny_field hz rfl (x := .bool false) rfl ?_)
  show wpAny _ _ (field (.ref z) 3 >>= _) _ _ _
  refine wpAny_bind (wpAny_field hz rfl (x := .ref TI) rfl ?_)
  refine wpAny_bind (wpAny_seqItems hTI rfl ?_)
  show wpAny _ _ (Builtin.SmallTypes.ownedTupleIsFree (.ref z) >>= _) _ _ _
  refine wpAny_bind (wpAny_tupleHeld_zip hz hT fun h₁ hz₁ hs₁ => ?_)
  simp only [Bool.false_eq_true, if_false]
  refine wpAny_bind ?_
  rw [← Array.forIn_toList]
  simp only [List.forIn_cons, List.forIn_nil]
  refine wpAny_bind (wpAny_bind (wpAny_holding ?_))
  show wpAny _ _ (Builtin.SmallTypes.nextOf (.ref i1) >>= _) _ _ _
  refine wpAny_bind (RZ.nextOf_tuple_item (s := { s with heap := h₁ }) (h1.extBut hs₁.extBut D.i1z) (hl1.extBut hs₁.extBut D.l1z) hx fun h₂ h1₂ hs₂ => wpAny_pure ?_)
  refine wpAny_pure ?_
  refine wpAny_bind (wpAny_bind (wpAny_holding ?_))
  show wpAny _ _ (Builtin.SmallTypes.nextOf (.ref i2) >>= _) _ _ _
  refine wpAny_bind (RZ.nextOf_tuple_item (s := { s with heap := h₂ }) ((h2.extBut hs₁.extBut D.i2z).extBut hs₂.extBut D.i12.symm) ((hl2.extBut hs₁.extBut D.l2z).extBut hs₂.extBut D.l2i1) hy fun h₃ h2₃ hs₃ => wpAny_pure ?_)
  refine wpAny_pure (wpAny_pure ?_)
  show wpAny _ _ (newTuple [x, y] >>= _) _ _ _
  refine wpAny_bind (wpAny_newTuple ?_)
  have hsz : h₃.objs.size = s.heap.objs.size := by rw [hs₃.1, hs₂.1, hs₁.1]
  have hz₃ : IsZipHeld h₃ z TI TO T true := hs₃.extBut _ _ D.i2z.symm (hs₂.extBut _ _ D.i1z.symm hz₁)
  have hk : ∀ c o, c ≠ z → c ≠ i1 → c ≠ i2 → s.heap.get? c = some o → h₃.get? c = some o := fun c o c1 c2 c3 e => hs₃.extBut _ _ c3 (hs₂.extBut _ _ c2 (hs₁.extBut _ _ c1 e))
  have h1₃ : h₃.IsTupleIter i1 l1 (k1 + 1) := h1₂.extBut hs₃.extBut D.i12
  refine wpAny_pure ⟨_, rfl, ?_⟩
  show Q (.ref h₃.objs.size) _
  have hp : IsPair (h₃.push { cls := .type "tuple", data := .seq #[x, y] }) h₃.objs.size x y := Heap.get?_push_size _ rfl
  have hz4 : (h₃.push { cls := .type "tuple", data := .seq #[x, y] }).objs.size = h₃.objs.size + 1 := Heap.size_push ..
  rw [hsz] at hp hz4 ⊢
  exact hQ _ (Heap.get?_push_of_some _ hz₃) (h1₃.at fun o e => Heap.get?_push_of_some _ e) (h2₃.at fun o e => Heap.get?_push_of_some _ e) hp hz4 fun c o c1 c2 c3 e => Heap.get?_push_of_some _ (hk c o c1 c2 c3 e)

theorem zt_next_end_held {z TI TO T i1 i2 l1 l2 : Addr} {f : Bool} {oT : Obj} {k1 k2 : Nat} {xs ys : Array Value} {Q : Fin → Shared → Prop} (hh : A.handled = none) (D : ZipApart z TI TO i1 i2 l1 l2)
    (hz : IsZipHeld s.heap z TI TO T f) (hT : s.heap.get? T = some oT) (hTI : IsPair s.heap TI (.ref i1) (.ref i2))
    (h1 : s.heap.IsTupleIter i1 l1 k1) (h2 : s.heap.IsTupleIter i2 l2 k2) (hl1 : s.heap.IsTuple l1 xs) (hl2 : s.heap.IsTuple l2 ys) (hend : xs[k1]? = none ∨ ys[k2]? = none)
    (hE : ∀ h' e, (∀ c o, c ≠ z → c ≠ i1 → c ≠ i2 → s.heap.get? c = some o → h'.get? c = some o) → (∃ o, h'.get? e = some o ∧ o.cls = .type "StopIteration") → E (.ref e) { s with heap := h' }) :
    wpAny (model prog w) A (Builtin.«zip.__next__» ⟨[.ref z], []⟩) Q E s := by
  show wpAny _ _ (field (.ref z) 2 >>= _) _ _ _
  refine wpAny_bind (wpAny_field hz rfl (x := .bool false) rfl ?_)
  show wpAny _ _ (field (.ref z) 3 >>= _) _ _ _
  refine wpAny_bind (wpAny_field hz rfl (x := .ref TI) rfl ?_)
  refine wpAny_bind (wpAny_seqItems hTI rfl ?_)
  show wpAny _ _ (Builtin.SmallTypes.ownedTupleIsFree (.ref z) >>= _) _ _ _
  refine wpAny_bind (wpAny_tupleHeld_zip hz hT fun h₁ hz₁ hs₁ => ?_)
  simp only [Bool.false_eq_true, if_false]
  refine wpAny_bind ?_
  rw [← Array.forIn_toList]
  simp only [List.forIn_cons, List.forIn_nil]
  refine wpAny_bind (wpAny_bind (wpAny_holding ?_))
  show wpAny _ _ (Builtin.SmallTypes.nextOf (.ref i1) >>= _) _ _ _
  cases hx : xs[k1]? with
  | none =>
    refine wpAny_bind (RZ.nextOf_tuple_end (s := { s with heap := h₁ }) hh (h1.extBut hs₁.extBut D.i1z) (hl1.extBut hs₁.extBut D.l1z) hx fun h₂ e hs₂ he => ?_)
    exact hE h₂ e (fun c o c1 c2 _ x => hs₂ _ _ c2 (hs₁.extBut _ _ c1 x)) he
  | some x =>
    have hy : ys[k2]? = none := by rcases hend with h | h; rw [hx] at h; cases h; exact h
    refine wpAny_bind (RZ.nextOf_tuple_item (s := { s with heap := h₁ }) (h1.extBut hs₁.extBut D.i1z) (hl1.extBut hs₁.extBut D.l1z) hx fun h₂ h1₂ hs₂ => wpAny_pure ?_)
    refine wpAny_pure ?_
    refine wpAny_bind (wpAny_bind (wpAny_holding ?_))
    show wpAny _ _ (Builtin.SmallTypes.nextOf (.ref i2) >>= _) _ _ _
    refine wpAny_bind (RZ.nextOf_tuple_end (s := { s with heap := h₂ }) hh ((h2.extBut hs₁.extBut D.i2z).extBut hs₂.extBut D.i12.symm) ((hl2.extBut hs₁.extBut D.l2z).extBut hs₂.extBut D.l2i1) hy fun h₃ e hs₃ he => ?_)
    exact hE h₃ e (fun c o c1 c2 c3 x => hs₃ _ _ c3 (hs₂.extBut _ _ c2 (hs₁.extBut _ _ c1 x))) he

theorem zt_item_held {z TI TO T i1 i2 l1 l2 : Addr} {f : Bool} {oT : Obj} {k1 k2 : Nat} {xs ys : Array Value} {x y : Value} {Q : Option Value → Shared → Prop} (D : ZipApart z TI TO i1 i2 l1 l2)
    (hz : IsZipHeld s.heap z TI TO T f) (hT : s.heap.get? T = some oT) (hTI : IsPair s.heap TI (.ref i1) (.ref i2))
    (h1 : s.heap.IsTupleIter i1 l1 k1) (h2 : s.heap.IsTupleIter i2 l2 k2) (hl1 : s.heap.IsTuple l1 xs) (hl2 : s.heap.IsTuple l2 ys) (hx : xs[k1]? = some x) (hy : ys[k2]? = some y)
    (hQ : ∀ h', IsZipHeld h' z TI TO T true → h'.IsTupleIter i1 l1 (k1 + 1) → h'.IsTupleIter i2 l2 (k2 + 1) → IsPair h' s.heap.objs.size x y → h'.objs.size = s.heap.objs.size + 1 →
      (∀ c o, c ≠ z → c ≠ i1 → c ≠ i2 → s.heap.get? c = some o → h'.get? c = some o) → Q (some (.ref s.heap.objs.size)) { s with heap := h' }) :
    wpAny (model prog w) A (pyNext (.ref z)) Q E s := by
  have hTy : s.TypeIs (.ref z) "zip" := ⟨_, hz, rfl⟩
  unfold pyNext
  exact wpAny_bind (wpAny_attempt (wpAny_callSpecial?_slot (name := Str.ofString "__next__") hTy F.slot_zip_next
    (wpAny_call_entry F.slot_zip_next hTy F.entry_zip_next
      (zt_next_item_held D hz hT hTI h1 h2 hl1 hl2 hx hy fun h' a1 a3 a4 a5 a6 a7 => wpAny_pure (hQ h' a1 a3 a4 a5 a6 a7)) (F.args_zip_next_1 _))))
theorem zt_end_held {z TI TO T i1 i2 l1 l2 : Addr} {f : Bool} {oT : Obj} {k1 k2 : Nat} {xs ys : Array Value} {Q : Option Value → Shared → Prop} (hh : A.handled = none) (D : ZipApart z TI TO i1 i2 l1 l2)
    (hz : IsZipHeld s.heap z TI TO T f) (hT : s.heap.get? T = some oT) (hTI : IsPair s.heap TI (.ref i1) (.ref i2))
    (h1 : s.heap.IsTupleIter i1 l1 k1) (h2 : s.heap.IsTupleIter i2 l2 k2) (hl1 : s.heap.IsTuple l1 xs) (hl2 : s.heap.IsTuple l2 ys) (hend : xs[k1]? = none ∨ ys[k2]? = none)
    (hQ : ∀ h', (∀ c o, c ≠ z → c ≠ i1 → c ≠ i2 → s.heap.get? c = some o → h'.get? c = some o) → Q none { s with heap := h' }) : wpAny (model prog w) A (pyNext (.ref z)) Q E s := by
  have hTy : s.TypeIs (.ref z) "zip" := ⟨_, hz, rfl⟩
  unfold pyNext
  refine wpAny_bind (wpAny_attempt (wpAny_callSpecial?_slot (name := Str.ofString "__next__") hTy F.slot_zip_next
    (wpAny_call_entry F.slot_zip_next hTy F.entry_zip_next (zt_next_end_held hh D hz hT hTI h1 h2 hl1 hl2 hend fun h' e hk he => ?_) (F.args_zip_next_1 _))))
  obtain ⟨o, ho, hc⟩ := he
  refine wpAny_bind (wpAny_isInstance (T := "StopIteration") (b := true) ⟨o, ho, hc⟩ isSubtype_stop ?_)
  exact wpAny_pure (hQ _ hk)

end
section
variable {prog : Program} {w : World}
theorem pairArg_zipT (z TI TO i1 i2 l1 l2 : Addr) (D : ZipApart z TI TO i1 i2 l1 l2) (xs ys : Array Value) :
    PairArg prog w "zip" z [z, TI, TO, i1, i2, l1, l2] [z, TO, i1, i2] (min xs.size ys.size) (fun i k v => xs[i]? = some k ∧ ys[i]? = some v)
      (fun h => IsZip h z TI TO .none ∧ IsPair h TI (.ref i1) (.ref i2) ∧ (∃ a b, IsPair h TO a b) ∧ h.IsTupleIter i1 l1 0 ∧ h.IsTupleIter i2 l2 0 ∧ h.IsTuple l1 xs ∧ h.IsTuple l2 ys) where
  type := fun s ok => ⟨_, ok.1, rfl⟩
  notDict := by decide
  keep := fun h h' ok hk => by
    obtain ⟨hz, hTI, ⟨a, b, hTO⟩, h1, h2, hl1, hl2⟩ := ok
    exact ⟨hk _ _ hz, hk _ _ hTI, ⟨a, b, hk _ _ hTO⟩, h1.at fun o e => hk _ o e, h2.at fun o e => hk _ o e, hl1.at fun o e => hk _ o e, hl2.at fun o e => hk _ o e⟩
  there := fun h ok b hb => by
    obtain ⟨hz, hTI, ⟨a, c, hTO⟩, ⟨o1, h1, _⟩, ⟨o2, h2, _⟩, ⟨o3, hl1, _⟩, ⟨o4, hl2, _⟩⟩ := ok
    simp only [List.mem_cons, List.not_mem_nil, or_false] at hb
    rcases hb with rfl | rfl | rfl | rfl | rfl | rfl | rfl
    all_goals first | exact ⟨_, hz⟩ | exact ⟨_, hTI⟩ | exact ⟨_, hTO⟩ | exact ⟨_, h1⟩ | exact ⟨_, h2⟩ | exact ⟨_, hl1⟩ | exact ⟨_, hl2⟩
  sub := fun b hb => by simp at hb ⊢; rcases hb with rfl | rfl | rfl | rfl <;> simp
  noKeys := fun A s Q E hA ok h => getAttrOr_miss_zip ok.1 rfl rfl rfl zip_no_keys (by decide +kernel) hA h
  iter := fun A s d Q E hA ok hd hdf h => by
    obtain ⟨hz, hTI, ⟨a, b, hTO⟩, h1, h2, hl1, hl2⟩ := ok
    simp only [List.mem_cons, List.not_mem_nil, or_false, not_or] at hdf
    obtain ⟨dz, dTI, dTO, di1, di2, dl1, dl2⟩ := hdf
    refine wpAny_pyIter_zip hz (h z [z, TO, i1, i2] (fun i h => IsPair h TI (.ref i1) (.ref i2) ∧ h.IsTupleIter i1 l1 i ∧ h.IsTupleIter i2 l2 i ∧ h.IsTuple l1 xs ∧ h.IsTuple l2 ys ∧
      ((IsZip h z TI TO .none ∧ ∃ a b, IsPair h TO a b) ∨ ∃ T f oT, IsZipHeld h z TI TO T f ∧ h.get? T = some oT ∧ T ≠ z ∧ T ≠ i1 ∧ T ≠ i2 ∧ T ≠ d)) s.heap s.toks ?_
      ⟨hTI, h1, h2, hl1, hl2, .inl ⟨hz, a, b, hTO⟩⟩ (fun _ _ e => e) fun b hb => .inl hb)
    exact {
      off := fun hm => by
        simp only [List.mem_cons, List.not_mem_nil, or_false] at hm
        rcases hm with e | e | e | e
        · exact dz e
        · exact dTO e
        · exact di1 e
        · exact di2 e
      frame := fun i h₁ h₂ st hk => by
        obtain ⟨hTI, h1, h2, hl1, hl2, hz⟩ := st
        refine ⟨hk _ _ (Ne.symm dTI) hTI, h1.at fun o e => hk _ o (Ne.symm di1) e, h2.at fun o e => hk _ o (Ne.symm di2) e, hl1.at fun o e => hk _ o (Ne.symm dl1) e, hl2.at fun o e => hk _ o (Ne.symm dl2) e, ?_⟩
        rcases hz with ⟨hz, a, b, hTO⟩ | ⟨T, f, oT, hz, hT, r1, r2, r3, r4⟩
        · exact .inl ⟨hk _ _ (Ne.symm dz) hz, a, b, hk _ _ (Ne.symm dTO) hTO⟩
        · exact .inr ⟨T, f, oT, hk _ _ (Ne.symm dz) hz, hk _ _ r4 hT, r1, r2, r3, r4⟩
      item := fun i s₁ Q₁ E₁ hi st hds hQ => by
        obtain ⟨hTI, h1, h2, hl1, hl2, hz⟩ := st
        have hix : i < xs.size := Nat.lt_of_lt_of_le hi (Nat.min_le_left ..)
        have hiy : i < ys.size := Nat.lt_of_lt_of_le hi (Nat.min_le_right ..)
        have ex := Array.getElem?_eq_getElem hix
        have ey := Array.getElem?_eq_getElem hiy
        have lt : ∀ {c o}, s₁.heap.get? c = some o → s₁.heap.objs.size ≠ c := fun e => Nat.ne_of_gt (Heap.lt_size e)
        have n1 : s₁.heap.objs.size ≠ i1 := let ⟨_, e, _⟩ := h1; lt e
        have n2 : s₁.heap.objs.size ≠ i2 := let ⟨_, e, _⟩ := h2; lt e
        rcases hz with ⟨hz, a, b, hTO⟩ | ⟨T, f, oT, hz, hT, r1, r2, r3, r4⟩
        · refine RZ.pyNext_zipT_item D hz hTI hTO h1 h2 hl1 hl2 ex ey fun h' a1 a2 a3 a4 a5 a6 hk => ?_
          exact hQ s₁.heap.objs.size _ _ h' s₁.toks ⟨ex, ey⟩ (.inl ⟨_, a5, rfl, _, rfl⟩)
            ⟨hk _ _ D.TIz D.TITO D.TIi1 D.TIi2 hTI, a3, a4, hl1.at fun o e => hk _ o D.l1z D.l1TO D.l1i1 D.l1i2 e, hl2.at fun o e => hk _ o D.l2z D.l2TO D.l2i1 D.l2i2 e,
              .inr ⟨s₁.heap.objs.size, false, _, a1, a5, lt hz, n1, n2, Nat.ne_of_gt hds⟩⟩
            fun c o hc e => hk c o (fun x => hc (by simp [x])) (fun x => hc (by simp [x])) (fun x => hc (by simp [x])) (fun x => hc (by simp [x])) e
        · refine zt_item_held D hz hT hTI h1 h2 hl1 hl2 ex ey fun h' a1 a3 a4 a5 a6 hk => ?_
          exact hQ s₁.heap.objs.size _ _ h' s₁.toks ⟨ex, ey⟩ (.inl ⟨_, a5, rfl, _, rfl⟩)
            ⟨hk _ _ D.TIz D.TIi1 D.TIi2 hTI, a3, a4, hl1.at fun o e => hk _ o D.l1z D.l1i1 D.l1i2 e, hl2.at fun o e => hk _ o D.l2z D.l2i1 D.l2i2 e,
              .inr ⟨T, true, oT, a1, hk _ _ r1 r2 r3 hT, r1, r2, r3, r4⟩⟩
            fun c o hc e => hk c o (fun x => hc (by simp [x])) (fun x => hc (by simp [x])) (fun x => hc (by simp [x])) e
      done := fun s₁ Q₁ E₁ st hQ => by
        obtain ⟨hTI, h1, h2, hl1, hl2, hz⟩ := st
        have hend : xs[min xs.size ys.size]? = none ∨ ys[min xs.size ys.size]? = none := by
          rcases Nat.le_total xs.size ys.size with h | h
          · exact .inl (Array.getElem?_eq_none (by rw [Nat.min_eq_left h]; exact Nat.le_refl _))
          · exact .inr (Array.getElem?_eq_none (by rw [Nat.min_eq_right h]; exact Nat.le_refl _))
        rcases hz with ⟨hz, a, b, hTO⟩ | ⟨T, f, oT, hz, hT, r1, r2, r3, r4⟩
        · exact RZ.pyNext_zipT_end hA D hz hTI hTO h1 h2 hl1 hl2 hend fun h' hk => hQ h' s₁.toks fun c o hc e => hk c o (fun x => hc (by simp [x])) (fun x => hc (by simp [x])) (fun x => hc (by simp [x])) (fun x => hc (by simp [x])) e
        · exact zt_end_held hA D hz hT hTI h1 h2 hl1 hl2 hend fun h' hk => hQ h' s₁.toks fun c o hc e => hk c o (fun x => hc (by simp [x])) (fun x => hc (by simp [x])) (fun x => hc (by simp [x])) e }

end

theorem merge_nodup : ∀ (more kvs : List (Key × V)), ((kvs ++ more).map (·.1)).Nodup → mergeK kvs more = kvs ++ more
  | [], kvs, _ => by simp [mergeK]
  | p :: r, kvs, h => by
    have e1 : valV kvs p.1 = none := by
      cases q : valV kvs p.1 with
      | none => rfl
      | some v =>
        have hm := valV_in q
        rw [List.map_append, List.nodup_append] at h
        exact absurd rfl (h.2.2 p.1 hm p.1 (by simp))
    show mergeK (putK kvs p.1 p.2) r = kvs ++ p :: r
    rw [putK_new _ e1]
    have := merge_nodup r (kvs ++ [(p.1, p.2)]) (by simpa using h)
    rw [this]
    simp
theorem zip_kv : ∀ {ks : List Key} {ys : List V} {us ws : List Value}, Vals (ks.map kV) us → Vals ys ws → ks.length = ys.length → KV (ks.zip ys) (ks.zip ws)
  | [], [], _, _, _, .nil, _ => .nil
  | [], _ :: _, _, _, _, _, h => by simp at h
  | _ :: _, [], _, _, _, _, h => by simp at h
  | k :: ks, y :: ys, _, _, .cons r1 t1, .cons r2 t2, h => .cons ⟨rfl, r2⟩ (zip_kv t1 t2 (by simpa using h))
theorem zip_is {P : Program} {w : World} : ∀ {ks : List Key} {us ws : List Value}, Vals (ks.map kV) us → ks.length = ws.length → ∀ (i : Nat) (key v : Value), us[i]? = some key → ws[i]? = some v → ∃ k, (ks.zip ws)[i]? = some (k, v) ∧ (mixKind P w).is k key = true
  | [], _, [], .nil, _, i, key, v, h, _ => by simp at h
  | [], _, _ :: _, _, h, _, _, _, _, _ => by simp at h
  | _ :: _, _, [], _, h, _, _, _, _, _ => by simp at h
  | k :: ks, _, w1 :: ws, .cons r1 t1, hl, 0, key, v, h, h2 => by
    have e1 : _ = key := Option.some.inj h
    have e2 : w1 = v := Option.some.inj h2
    subst e1 e2
    exact ⟨k, rfl, kV_is r1⟩
  | k :: ks, _, w1 :: ws, .cons r1 t1, hl, i + 1, key, v, h, h2 => by
    obtain ⟨k', e, hk⟩ := zip_is (P := P) (w := w) t1 (by simpa using hl) i key v (by simpa using h) (by simpa using h2)
    exact ⟨k', by simpa using e, hk⟩
def tDictZip (K : PySem.W.Frag) (t : TA) : TE := fun σ H Q => t σ H fun vs H1 => ∃ (a b : Addr) (ks : List Key) (ys : List V), vs = [.ref a, .ref b] ∧ SqT K H1 a (ks.map kV) ∧ SqT K H1 b ys ∧ ks.length = ys.length ∧ ks.Nodup ∧ ∀ p, H1 p = none → Q (.ref p) (upd H1 p (.dK (ks.zip ys)))
theorem pe_dictZip {X : Cx} {e e2 : Expr} {t : TA} {p p2 pz pos : Pos} (hc : X.calm = true) (hgd : Gl X "dict") (hmd : X.mg "dict" = none) (hg : Gl X "zip") (hm : X.mg "zip" = none) (ha : PA X [e, e2] t)
    (hs : starEach [e, e2] X.env = (false, eval e X.env) :: starEach [e2] X.env := by rfl) (hpl : (backTo pz (starEach [e2] X.env)).any (·.1) = false := by rfl) :
    PE X (.Call (.Name "dict" p) [.Call (.Name "zip" p2) [e, e2] [] pz] [] pos) (tDictZip X.K t) := by
  refine ⟨fun pins s σ H Q I h => ?_⟩
  refine Call_ (ld_blt I hgd hmd PyProof.Rows.boot_dict (PyProof.Rows.callWith_type1 ?_ (by rfl) rfl))
  show wpAny _ _ (spliced ((false, eval (.Call (.Name "zip" p2) [e, e2] [] pz) X.env) :: backTo pos (starEach [] X.env))) _ _ s
  refine Calls.spliced_cons ?_
  refine Call_ (ld_blt I hg hm PyProof.Rows.boot_zip (PyProof.Rows.callWith_type1 (thn (ha.run pz pins s σ H _ I h) fun us s1 ⟨vs, H1, I1, r1, q1⟩ => ?_) hs hpl))
  obtain ⟨a, b, ks, ys, ex, hqx, hqy, hlen, nd, q⟩ := q1
  subst ex
  cases r1 with
  | cons r rr =>
    cases rr with
    | cons r' rr =>
      cases rr
      cases r
      cases r'
      obtain ⟨its, rv, p1, hz1⟩ := I1.tuple hqx
      obtain ⟨its2, rv2, p2', hz2⟩ := I1.tuple hqy
      obtain ⟨o1, ho1, _⟩ := id p1
      obtain ⟨o2, ho2, _⟩ := id p2'
      refine RZ.call_zipT (show s1.heap.IsTuple a its.toArray from p1) (show s1.heap.IsTuple b its2.toArray from p2') fun h' hz hTI hTO h1 h2 hsz hk => ?_
      refine Calls.spliced_nil ?_
      have P := pairArg_zipT (prog := X.prog) (w := X.w) _ _ _ _ _ a b (PySem.W.ktu_apart s1.heap.objs.size a b (Heap.lt_size ho1) (Heap.lt_size ho2)) its.toArray its2.toArray
      have l1 : its.length = ks.length := by rw [← rv.length, List.length_map]
      have l2 : its2.length = ks.length := by rw [← rv2.length, hlen]
      have hn : min its.toArray.size its2.toArray.size = ks.length := by rw [List.size_toArray, List.size_toArray, l1, l2, Nat.min_self]
      rw [hn] at P
      refine PySem.call_dict_pairs (s := { s1 with heap := h' }) (knd := mixKind X.prog X.w) (kvs := ks.zip its2) P (I1.ok.hd hc) ⟨hz, hTI, ⟨_, _, hTO⟩, h1, h2, (show s1.heap.IsTuple a its.toArray from p1).at fun o e => hk _ _ e, (show s1.heap.IsTuple b its2.toArray from p2').at fun o e => hk _ _ e⟩ ⟨?_, fun i key v hr => ?_⟩ ?_ fun h'' tk dd kk => ?_
      · rw [List.length_zip, l2, Nat.min_self]
      · refine zip_is rv (by rw [l2]) i key v ?_ ?_
        · simpa using hr.1
        · simpa using hr.2
      · rw [hlen]
        exact hz2
      · have k2 : ∀ b o, s1.heap.get? b = some o → h''.get? b = some o := fun b o e => by
          have hlt : b < s1.heap.objs.size := Heap.lt_size e
          refine kk b o ?_ (hk b o e)
          simp only [List.mem_cons, List.not_mem_nil, or_false, not_or]
          have q : ∀ j : Nat, b ≠ s1.heap.objs.size + j := fun j => Nat.ne_of_lt (Nat.lt_of_lt_of_le hlt (Nat.le_add_right _ _))
          exact ⟨q 4, q 3, q 0, q 1⟩
        have kv : KV (ks.zip ys) (ks.zip its2) := zip_kv rv rv2 hlen
        have nd' : ((ks.zip ys).map (·.1)).Nodup := by
          rw [List.map_fst_zip (by omega)]
          exact nd
        have km : KV (mergeK [] (ks.zip ys)) (merged [] (ks.zip its2)) := kv.merge .nil
        rw [merge_nodup _ [] (by simpa using nd'), List.nil_append] at km
        have hbig := I1.big
        have hle : s1.heap.objs.size ≤ h'.objs.size := by rw [hsz]; exact Nat.le_add_right _ _
        have hn1 : H1 h'.objs.size = none := I1.hok.fresh hle
        refine ⟨.ref h'.objs.size, upd H1 h'.objs.size (.dK (ks.zip ys)), I1.laid (t' := tk) k2 hle (dk_new ?_ ?_ km dd), rfl, q _ hn1⟩
        · rw [List.length_zip]
          have := Nat.min_le_right ks.length ys.length
          omega
        · exact beq_eq_false_iff_ne.mpr (Nat.ne_of_gt (Nat.lt_of_lt_of_le hbig hle))
end Fl

set_option Elab.async false
set_option linter.all false
set_option maxRecDepth 100000
set_option maxHeartbeats 2000000
namespace Fl
open PySem PySem.Spec PyProof.Rows L2
def topS (i : Nat) : Stmt := PySem.Challenge.pw_shapeholes_k54_whole_flips.main.body.getD i (.Pass ⟨0, 0, 0, 0⟩)
abbrev s_is_integer : Stmt := topS 1
abbrev N_is_integer : List Str := ["value"]
theorem sc_is_integer : FnScope N_is_integer ["value"] (defScope s_is_integer) := ⟨rfl, rfl, rfl, by decide +kernel, rfl, by decide +kernel, by decide +kernel⟩
abbrev s_is_in : Stmt := topS 2
abbrev N_is_in : List Str := ["value", "least", "most"]
theorem sc_is_in : FnScope N_is_in ["value", "least", "most"] (defScope s_is_in) := ⟨rfl, rfl, rfl, by decide +kernel, rfl, by decide +kernel, by decide +kernel⟩
abbrev s_is_list : Stmt := topS 3
abbrev N_is_list : List Str := ["value", "least", "most"]
theorem sc_is_list : FnScope N_is_list ["value", "least", "most"] (defScope s_is_list) := ⟨rfl, rfl, rfl, by decide +kernel, rfl, by decide +kernel, by decide +kernel⟩
abbrev s_is_ascending : Stmt := topS 15
abbrev N_is_ascending : List Str := ["value", "least", "most", "one", "other", "vertex"]
theorem sc_is_ascending : FnScope N_is_ascending ["value", "least", "most"] (defScope s_is_ascending) := ⟨rfl, rfl, rfl, by decide +kernel, rfl, by decide +kernel, by decide +kernel⟩
abbrev s_is_simplex : Stmt := topS 16
abbrev N_is_simplex : List Str := ["value"]
theorem sc_is_simplex : FnScope N_is_simplex ["value"] (defScope s_is_simplex) := ⟨rfl, rfl, rfl, by decide +kernel, rfl, by decide +kernel, by decide +kernel⟩
abbrev s_parts_of : Stmt := topS 17
abbrev N_parts_of : List Str := ["simplex", "found", "vertex", "part"]
theorem sc_parts_of : FnScope N_parts_of ["simplex"] (defScope s_parts_of) := ⟨rfl, rfl, rfl, by decide +kernel, rfl, by decide +kernel, by decide +kernel⟩
abbrev s_generated : Stmt := topS 18
abbrev N_generated : List Str := ["simplices", "found", "simplex", "part"]
theorem sc_generated : FnScope N_generated ["simplices"] (defScope s_generated) := ⟨rfl, rfl, rfl, by decide +kernel, rfl, by decide +kernel, by decide +kernel⟩
abbrev s_maximal : Stmt := topS 19
abbrev N_maximal : List Str := ["faces", "inner", "simplex", "at"]
theorem sc_maximal : FnScope N_maximal ["faces"] (defScope s_maximal) := ⟨rfl, rfl, rfl, by decide +kernel, rfl, by decide +kernel, by decide +kernel⟩
abbrev s_init : Stmt := inClass (topS 20) 0
abbrev N_init : List Str := ["self", "simplices", "index", "simplex"]
theorem sc_init : FnScope N_init ["self", "simplices"] (defScope s_init) := ⟨rfl, rfl, rfl, by decide +kernel, rfl, by decide +kernel, by decide +kernel⟩
abbrev s_facets : Stmt := inClass (topS 20) 1
abbrev N_facets : List Str := ["self"]
theorem sc_facets : FnScope N_facets ["self"] (defScope s_facets) := ⟨rfl, rfl, rfl, by decide +kernel, rfl, by decide +kernel, by decide +kernel⟩
abbrev s_eq : Stmt := inClass (topS 20) 2
abbrev N_eq : List Str := ["self", "other"]
theorem sc_eq : FnScope N_eq ["self", "other"] (defScope s_eq) := ⟨rfl, rfl, rfl, by decide +kernel, rfl, by decide +kernel, by decide +kernel⟩
abbrev s_need_complex : Stmt := topS 21
abbrev N_need_complex : List Str := ["value"]
theorem sc_need_complex : FnScope N_need_complex ["value"] (defScope s_need_complex) := ⟨rfl, rfl, rfl, by decide +kernel, rfl, by decide +kernel, by decide +kernel⟩
abbrev s_made : Stmt := topS 22
abbrev N_made : List Str := ["simplices"]
theorem sc_made : FnScope N_made ["simplices"] (defScope s_made) := ⟨rfl, rfl, rfl, by decide +kernel, rfl, by decide +kernel, by decide +kernel⟩
abbrev s_vertices_in : Stmt := topS 23
abbrev N_vertices_in : List Str := ["shape", "simplex"]
theorem sc_vertices_in : FnScope N_vertices_in ["shape"] (defScope s_vertices_in) := ⟨rfl, rfl, rfl, by decide +kernel, rfl, by decide +kernel, by decide +kernel⟩
abbrev s_counts_in : Stmt := topS 24
abbrev N_counts_in : List Str := ["shape", "simplex", "most", "found"]
theorem sc_counts_in : FnScope N_counts_in ["shape"] (defScope s_counts_in) := ⟨rfl, rfl, rfl, by decide +kernel, rfl, by decide +kernel, by decide +kernel⟩
abbrev s_counts_of : Stmt := topS 25
abbrev N_counts_of : List Str := ["shape"]
theorem sc_counts_of : FnScope N_counts_of ["shape"] (defScope s_counts_of) := ⟨rfl, rfl, rfl, by decide +kernel, rfl, by decide +kernel, by decide +kernel⟩
abbrev s_tidy : Stmt := topS 27
abbrev N_tidy : List Str := ["numbers", "simplex", "number"]
theorem sc_tidy : FnScope N_tidy ["numbers"] (defScope s_tidy) := ⟨rfl, rfl, rfl, by decide +kernel, rfl, by decide +kernel, by decide +kernel⟩
abbrev s_boundary_in : Stmt := topS 28
abbrev N_boundary_in : List Str := ["chain", "found", "simplex", "number", "at", "part"]
theorem sc_boundary_in : FnScope N_boundary_in ["chain"] (defScope s_boundary_in) := ⟨rfl, rfl, rfl, by decide +kernel, rfl, by decide +kernel, by decide +kernel⟩
abbrev s_walls_of : Stmt := topS 30
abbrev N_walls_of : List Str := ["shape", "found", "one", "at"]
theorem sc_walls_of : FnScope N_walls_of ["shape"] (defScope s_walls_of) := ⟨rfl, rfl, rfl, by decide +kernel, rfl, by decide +kernel, by decide +kernel⟩
abbrev s_orient : Stmt := topS 31
abbrev N_orient : List Str := ["shape", "tops", "walls", "one", "signs", "queue", "at", "wall", "number", "other", "due", "some"]
theorem sc_orient : FnScope N_orient ["shape"] (defScope s_orient) := ⟨rfl, rfl, rfl, by decide +kernel, rfl, by decide +kernel, by decide +kernel⟩
abbrev s_link_in : Stmt := topS 33
abbrev N_link_in : List Str := ["shape", "simplex", "found", "other", "rest", "vertex"]
theorem sc_link_in : FnScope N_link_in ["shape", "simplex"] (defScope s_link_in) := ⟨rfl, rfl, rfl, by decide +kernel, rfl, by decide +kernel, by decide +kernel⟩
abbrev s_components : Stmt := topS 34
abbrev N_components : List Str := ["shape", "marks", "turn", "simplex", "least", "found", "vertex", "mark"]
theorem sc_components : FnScope N_components ["shape"] (defScope s_components) := ⟨rfl, rfl, rfl, by decide +kernel, rfl, by decide +kernel, by decide +kernel⟩
abbrev s_is_surface_in : Stmt := topS 36
abbrev N_is_surface_in : List Str := ["shape", "some", "vertex", "one"]
theorem sc_is_surface_in : FnScope N_is_surface_in ["shape"] (defScope s_is_surface_in) := ⟨rfl, rfl, rfl, by decide +kernel, rfl, by decide +kernel, by decide +kernel⟩
abbrev s_need_surface : Stmt := topS 37
abbrev N_need_surface : List Str := ["shape"]
theorem sc_need_surface : FnScope N_need_surface ["shape"] (defScope s_need_surface) := ⟨rfl, rfl, rfl, by decide +kernel, rfl, by decide +kernel, by decide +kernel⟩
abbrev s_kind_of : Stmt := topS 38
abbrev N_kind_of : List Str := ["is_oriented", "euler"]
theorem sc_kind_of : FnScope N_kind_of ["is_oriented", "euler"] (defScope s_kind_of) := ⟨rfl, rfl, rfl, by decide +kernel, rfl, by decide +kernel, by decide +kernel⟩
abbrev s_kind : Stmt := topS 39
abbrev N_kind : List Str := ["shape", "counts"]
theorem sc_kind : FnScope N_kind ["shape"] (defScope s_kind) := ⟨rfl, rfl, rfl, by decide +kernel, rfl, by decide +kernel, by decide +kernel⟩
abbrev s_tips_of : Stmt := topS 41
abbrev N_tips_of : List Str := ["walls", "edge", "one", "vertex"]
theorem sc_tips_of : FnScope N_tips_of ["walls", "edge"] (defScope s_tips_of) := ⟨rfl, rfl, rfl, by decide +kernel, rfl, by decide +kernel, by decide +kernel⟩
abbrev s_flips_in : Stmt := topS 42
abbrev N_flips_in : List Str := ["shape", "walls", "edge"]
theorem sc_flips_in : FnScope N_flips_in ["shape"] (defScope s_flips_in) := ⟨rfl, rfl, rfl, by decide +kernel, rfl, by decide +kernel, by decide +kernel⟩
abbrev s_flips : Stmt := topS 43
abbrev N_flips : List Str := ["shape"]
theorem sc_flips : FnScope N_flips ["shape"] (defScope s_flips) := ⟨rfl, rfl, rfl, by decide +kernel, rfl, by decide +kernel, by decide +kernel⟩
abbrev s_flipped_in : Stmt := topS 44
abbrev N_flipped_in : List Str := ["shape", "edge", "walls", "tips", "found", "one", "end"]
theorem sc_flipped_in : FnScope N_flipped_in ["shape", "edge"] (defScope s_flipped_in) := ⟨rfl, rfl, rfl, by decide +kernel, rfl, by decide +kernel, by decide +kernel⟩
abbrev s_flipped : Stmt := topS 45
abbrev N_flipped : List Str := ["shape", "edge"]
theorem sc_flipped : FnScope N_flipped ["shape", "edge"] (defScope s_flipped) := ⟨rfl, rfl, rfl, by decide +kernel, rfl, by decide +kernel, by decide +kernel⟩
abbrev s__law_taken : Stmt := topS 47
abbrev N__law_taken : List Str := ["_law_row", "_law_many", "_law_found", "_law_cell"]
theorem sc__law_taken : FnScope N__law_taken ["_law_row", "_law_many"] (defScope s__law_taken) := ⟨rfl, rfl, rfl, by decide +kernel, rfl, by decide +kernel, by decide +kernel⟩
abbrev s__law_pick : Stmt := topS 48
abbrev N__law_pick : List Str := ["_law_row", "_law_things"]
theorem sc__law_pick : FnScope N__law_pick ["_law_row", "_law_things"] (defScope s__law_pick) := ⟨rfl, rfl, rfl, by decide +kernel, rfl, by decide +kernel, by decide +kernel⟩
abbrev s__law_alike : Stmt := topS 49
abbrev N__law_alike : List Str := ["_law_found", "_law_due", "_law_k"]
theorem sc__law_alike : FnScope N__law_alike ["_law_found", "_law_due"] (defScope s__law_alike) := ⟨rfl, rfl, rfl, by decide +kernel, rfl, by decide +kernel, by decide +kernel⟩
abbrev s__law_within : Stmt := topS 50
abbrev N__law_within : List Str := ["_law_one", "_law_other", "_law_vertex"]
theorem sc__law_within : FnScope N__law_within ["_law_one", "_law_other"] (defScope s__law_within) := ⟨rfl, rfl, rfl, by decide +kernel, rfl, by decide +kernel, by decide +kernel⟩
abbrev s__law_surface : Stmt := topS 51
abbrev N__law_surface : List Str := ["_law_row", "_law_base", "_law_plane", "_law_torus", "_law_at", "_law_menu", "_law_found", "_law_turn", "_law_other", "_law_most", "_law_spot", "_law_names", "_law_vertex", "_law_one", "_law_two", "_law_three", "_law_top"]
theorem sc__law_surface : FnScope N__law_surface ["_law_row"] (defScope s__law_surface) := ⟨rfl, rfl, rfl, by decide +kernel, rfl, by decide +kernel, by decide +kernel⟩
abbrev s__law_rims : Stmt := topS 52
abbrev N__law_rims : List Str := ["_law_tops", "_law_found", "_law_top", "_law_at", "_law_shut"]
theorem sc__law_rims : FnScope N__law_rims ["_law_tops"] (defScope s__law_rims) := ⟨rfl, rfl, rfl, by decide +kernel, rfl, by decide +kernel, by decide +kernel⟩
abbrev s__law_sphere : Stmt := topS 53
abbrev N__law_sphere : List Str := ["_law_row", "_law_many", "_law_found", "_law_vertex", "_law_one", "_law_two", "_law_three", "_law_turn", "_law_shuts", "_law_edge"]
theorem sc__law_sphere : FnScope N__law_sphere ["_law_row", "_law_many"] (defScope s__law_sphere) := ⟨rfl, rfl, rfl, by decide +kernel, rfl, by decide +kernel, by decide +kernel⟩
abbrev s__law_flipped : Stmt := topS 54
abbrev N__law_flipped : List Str := ["_law_tops", "_law_edge", "_law_top", "_law_some", "_law_tips", "_law_rest", "_law_vertex", "_law_end"]
theorem sc__law_flipped : FnScope N__law_flipped ["_law_tops", "_law_edge"] (defScope s__law_flipped) := ⟨rfl, rfl, rfl, by decide +kernel, rfl, by decide +kernel, by decide +kernel⟩
abbrev s__law_error : Stmt := topS 55
abbrev N__law_error : List Str := ["_law_work", "e"]
theorem sc__law_error : FnScope N__law_error ["_law_work"] (defScope s__law_error) := ⟨rfl, rfl, rfl, by decide +kernel, rfl, by decide +kernel, by decide +kernel⟩
abbrev s_law : Stmt := topS 56
abbrev N_law : List Str := ["_law_script", "_law_row", "_law_tops", "_law_edges", "_law_edge", "_law_due", "_law_turn", "_law_found", "_law_fresh", "_law_flat", "_law_odd", "_law_shape", "_law_other"]
theorem sc_law : FnScope N_law ["_law_script"] (defScope s_law) := ⟨rfl, rfl, rfl, by decide +kernel, rfl, by decide +kernel, by decide +kernel⟩
/-- where the top has written things -/
structure Ad where
  f_is_integer : Addr
  fd_is_integer : FuncData
  f_is_in : Addr
  fd_is_in : FuncData
  f_is_list : Addr
  fd_is_list : FuncData
  f_is_ascending : Addr
  fd_is_ascending : FuncData
  f_is_simplex : Addr
  fd_is_simplex : FuncData
  f_parts_of : Addr
  fd_parts_of : FuncData
  f_generated : Addr
  fd_generated : FuncData
  f_maximal : Addr
  fd_maximal : FuncData
  f_init : Addr
  fd_init : FuncData
  f_facets : Addr
  fd_facets : FuncData
  f_eq : Addr
  fd_eq : FuncData
  f_need_complex : Addr
  fd_need_complex : FuncData
  f_made : Addr
  fd_made : FuncData
  f_vertices_in : Addr
  fd_vertices_in : FuncData
  f_counts_in : Addr
  fd_counts_in : FuncData
  f_counts_of : Addr
  fd_counts_of : FuncData
  f_tidy : Addr
  fd_tidy : FuncData
  f_boundary_in : Addr
  fd_boundary_in : FuncData
  f_walls_of : Addr
  fd_walls_of : FuncData
  f_orient : Addr
  fd_orient : FuncData
  f_link_in : Addr
  fd_link_in : FuncData
  f_components : Addr
  fd_components : FuncData
  f_is_surface_in : Addr
  fd_is_surface_in : FuncData
  f_need_surface : Addr
  fd_need_surface : FuncData
  f_kind_of : Addr
  fd_kind_of : FuncData
  f_kind : Addr
  fd_kind : FuncData
  f_tips_of : Addr
  fd_tips_of : FuncData
  f_flips_in : Addr
  fd_flips_in : FuncData
  f_flips : Addr
  fd_flips : FuncData
  f_flipped_in : Addr
  fd_flipped_in : FuncData
  f_flipped : Addr
  fd_flipped : FuncData
  f__law_taken : Addr
  fd__law_taken : FuncData
  f__law_pick : Addr
  fd__law_pick : FuncData
  f__law_alike : Addr
  fd__law_alike : FuncData
  f__law_within : Addr
  fd__law_within : FuncData
  f__law_surface : Addr
  fd__law_surface : FuncData
  f__law_rims : Addr
  fd__law_rims : FuncData
  f__law_sphere : Addr
  fd__law_sphere : FuncData
  f__law_flipped : Addr
  fd__law_flipped : FuncData
  f__law_error : Addr
  fd__law_error : FuncData
  f_law : Addr
  fd_law : FuncData
  C : Addr
  pf : Addr
  cS : Addr
  cNC : Addr
  cNS : Addr
  cNF : Addr
  cBS : Addr
  cTM : Addr
abbrev blts : List Str := ["len", "sorted", "tuple", "list", "dict", "max", "min", "all", "any", "int", "isinstance", "range", "zip", "enumerate", "bool", "str"]
/-- what the written part says -/
structure Tx (K : PySem.W.Frag) (mg : Str → Option Value) (A : Ad) : Prop where
  nb : ∀ x ∈ blts, mg x = none
  F_is_integer : Fun K "is_integer" "is_integer" s_is_integer A.f_is_integer A.fd_is_integer
  g_is_integer : mg "is_integer" = some (.ref A.f_is_integer)
  F_is_in : Fun K "is_in" "is_in" s_is_in A.f_is_in A.fd_is_in
  g_is_in : mg "is_in" = some (.ref A.f_is_in)
  F_is_list : Fun K "is_list" "is_list" s_is_list A.f_is_list A.fd_is_list
  g_is_list : mg "is_list" = some (.ref A.f_is_list)
  F_is_ascending : Fun K "is_ascending" "is_ascending" s_is_ascending A.f_is_ascending A.fd_is_ascending
  g_is_ascending : mg "is_ascending" = some (.ref A.f_is_ascending)
  F_is_simplex : Fun K "is_simplex" "is_simplex" s_is_simplex A.f_is_simplex A.fd_is_simplex
  g_is_simplex : mg "is_simplex" = some (.ref A.f_is_simplex)
  F_parts_of : Fun K "parts_of" "parts_of" s_parts_of A.f_parts_of A.fd_parts_of
  g_parts_of : mg "parts_of" = some (.ref A.f_parts_of)
  F_generated : Fun K "generated" "generated" s_generated A.f_generated A.fd_generated
  g_generated : mg "generated" = some (.ref A.f_generated)
  F_maximal : Fun K "maximal" "maximal" s_maximal A.f_maximal A.fd_maximal
  g_maximal : mg "maximal" = some (.ref A.f_maximal)
  F_init : Fun K "__init__" "Complex.__init__" s_init A.f_init A.fd_init
  F_facets : Fun K "facets" "Complex.facets" s_facets A.f_facets A.fd_facets
  F_eq : Fun K "__eq__" "Complex.__eq__" s_eq A.f_eq A.fd_eq
  F_need_complex : Fun K "need_complex" "need_complex" s_need_complex A.f_need_complex A.fd_need_complex
  g_need_complex : mg "need_complex" = some (.ref A.f_need_complex)
  F_made : Fun K "made" "made" s_made A.f_made A.fd_made
  g_made : mg "made" = some (.ref A.f_made)
  F_vertices_in : Fun K "vertices_in" "vertices_in" s_vertices_in A.f_vertices_in A.fd_vertices_in
  g_vertices_in : mg "vertices_in" = some (.ref A.f_vertices_in)
  F_counts_in : Fun K "counts_in" "counts_in" s_counts_in A.f_counts_in A.fd_counts_in
  g_counts_in : mg "counts_in" = some (.ref A.f_counts_in)
  F_counts_of : Fun K "counts_of" "counts_of" s_counts_of A.f_counts_of A.fd_counts_of
  g_counts_of : mg "counts_of" = some (.ref A.f_counts_of)
  F_tidy : Fun K "tidy" "tidy" s_tidy A.f_tidy A.fd_tidy
  g_tidy : mg "tidy" = some (.ref A.f_tidy)
  F_boundary_in : Fun K "boundary_in" "boundary_in" s_boundary_in A.f_boundary_in A.fd_boundary_in
  g_boundary_in : mg "boundary_in" = some (.ref A.f_boundary_in)
  F_walls_of : Fun K "walls_of" "walls_of" s_walls_of A.f_walls_of A.fd_walls_of
  g_walls_of : mg "walls_of" = some (.ref A.f_walls_of)
  F_orient : Fun K "orient" "orient" s_orient A.f_orient A.fd_orient
  g_orient : mg "orient" = some (.ref A.f_orient)
  F_link_in : Fun K "link_in" "link_in" s_link_in A.f_link_in A.fd_link_in
  g_link_in : mg "link_in" = some (.ref A.f_link_in)
  F_components : Fun K "components" "components" s_components A.f_components A.fd_components
  g_components : mg "components" = some (.ref A.f_components)
  F_is_surface_in : Fun K "is_surface_in" "is_surface_in" s_is_surface_in A.f_is_surface_in A.fd_is_surface_in
  g_is_surface_in : mg "is_surface_in" = some (.ref A.f_is_surface_in)
  F_need_surface : Fun K "need_surface" "need_surface" s_need_surface A.f_need_surface A.fd_need_surface
  g_need_surface : mg "need_surface" = some (.ref A.f_need_surface)
  F_kind_of : Fun K "kind_of" "kind_of" s_kind_of A.f_kind_of A.fd_kind_of
  g_kind_of : mg "kind_of" = some (.ref A.f_kind_of)
  F_kind : Fun K "kind" "kind" s_kind A.f_kind A.fd_kind
  g_kind : mg "kind" = some (.ref A.f_kind)
  F_tips_of : Fun K "tips_of" "tips_of" s_tips_of A.f_tips_of A.fd_tips_of
  g_tips_of : mg "tips_of" = some (.ref A.f_tips_of)
  F_flips_in : Fun K "flips_in" "flips_in" s_flips_in A.f_flips_in A.fd_flips_in
  g_flips_in : mg "flips_in" = some (.ref A.f_flips_in)
  F_flips : Fun K "flips" "flips" s_flips A.f_flips A.fd_flips
  g_flips : mg "flips" = some (.ref A.f_flips)
  F_flipped_in : Fun K "flipped_in" "flipped_in" s_flipped_in A.f_flipped_in A.fd_flipped_in
  g_flipped_in : mg "flipped_in" = some (.ref A.f_flipped_in)
  F_flipped : Fun K "flipped" "flipped" s_flipped A.f_flipped A.fd_flipped
  g_flipped : mg "flipped" = some (.ref A.f_flipped)
  F__law_taken : Fun K "_law_taken" "_law_taken" s__law_taken A.f__law_taken A.fd__law_taken
  g__law_taken : mg "_law_taken" = some (.ref A.f__law_taken)
  F__law_pick : Fun K "_law_pick" "_law_pick" s__law_pick A.f__law_pick A.fd__law_pick
  g__law_pick : mg "_law_pick" = some (.ref A.f__law_pick)
  F__law_alike : Fun K "_law_alike" "_law_alike" s__law_alike A.f__law_alike A.fd__law_alike
  g__law_alike : mg "_law_alike" = some (.ref A.f__law_alike)
  F__law_within : Fun K "_law_within" "_law_within" s__law_within A.f__law_within A.fd__law_within
  g__law_within : mg "_law_within" = some (.ref A.f__law_within)
  F__law_surface : Fun K "_law_surface" "_law_surface" s__law_surface A.f__law_surface A.fd__law_surface
  g__law_surface : mg "_law_surface" = some (.ref A.f__law_surface)
  F__law_rims : Fun K "_law_rims" "_law_rims" s__law_rims A.f__law_rims A.fd__law_rims
  g__law_rims : mg "_law_rims" = some (.ref A.f__law_rims)
  F__law_sphere : Fun K "_law_sphere" "_law_sphere" s__law_sphere A.f__law_sphere A.fd__law_sphere
  g__law_sphere : mg "_law_sphere" = some (.ref A.f__law_sphere)
  F__law_flipped : Fun K "_law_flipped" "_law_flipped" s__law_flipped A.f__law_flipped A.fd__law_flipped
  g__law_flipped : mg "_law_flipped" = some (.ref A.f__law_flipped)
  F__law_error : Fun K "_law_error" "_law_error" s__law_error A.f__law_error A.fd__law_error
  g__law_error : mg "_law_error" = some (.ref A.f__law_error)
  F_law : Fun K "law" "law" s_law A.f_law A.fd_law
  g_law : mg "law" = some (.ref A.f_law)
  e_MOST_VERTEX : ∃ t, mg "MOST_VERTEX" = some (.int 30 t)
  e_MOST_LENGTH : ∃ t, mg "MOST_LENGTH" = some (.int 8 t)
  e_MOST_FACES : ∃ t, mg "MOST_FACES" = some (.int 400 t)
  g_Complex : mg "Complex" = some (.ref A.C)
  clC : Cls K A.C
  mkC : Mk K A.C A.f_init
  nF : NoAttr K A.C "faces"
  nT : NoAttr K A.C "tops"
  pfC : PropOf K A.C "facets" A.pf A.f_facets
  isC : PySem.W.kitOne K (.ref A.C) (.ref A.C) = some true
  inC1 : PySem.W.findIn K (.ref A.C) "__class__" = some (some (.builtin "object.__class__"))
  inC2 : PySem.W.specialIn K (.builtin "object.__class__") "__get__" = some (some (.builtin "getset_descriptor.__get__"))
  inC3 : PySem.W.takesIn K (.builtin "object.__class__") = some true
  inC4 : PySem.W.mroIn K A.C (.type "object") = some true
  eqC : PySem.W.findIn K (.ref A.C) "__eq__" = some (some (.ref A.f_eq))
  eqF : PySem.W.isFn K (.ref A.f_eq) = true
  g_NotSurface : mg "NotSurface" = some (.ref A.cNS)
  x_NS : PySem.W.excIn K A.cNS [.type "ValueError", .type "Exception", .type "BaseException", .type "object"] "ValueError.__new__" = true
  kp_NS : PySem.W.keepIn K (.ref A.cNS) = true
  b_NS : PySem.W.subIn K (.ref A.cNS) (.type "BaseException") = some true
  t_NS : PySem.W.typeIn K (.ref A.cNS) = some (.type "type")
  g_NotFlip : mg "NotFlip" = some (.ref A.cNF)
  x_NF : PySem.W.excIn K A.cNF [.type "ValueError", .type "Exception", .type "BaseException", .type "object"] "ValueError.__new__" = true
  kp_NF : PySem.W.keepIn K (.ref A.cNF) = true
  b_NF : PySem.W.subIn K (.ref A.cNF) (.type "BaseException") = some true
  t_NF : PySem.W.typeIn K (.ref A.cNF) = some (.type "type")
  g_ShapeError : mg "ShapeError" = some (.ref A.cS)
  xs_NS : PySem.W.exmOne K (.ref A.cNS) (.ref A.cS) = some true
  xs_NF : PySem.W.exmOne K (.ref A.cNF) (.ref A.cS) = some true
  ec_NS : ExcC K A.cNS
  ec_NF : ExcC K A.cNF
  k_FF : PySem.W.kitOne K (.ref A.cNF) (.ref A.cNF) = some true
  k_FS : PySem.W.kitOne K (.ref A.cNF) (.ref A.cNS) = some false
  k_SF : PySem.W.kitOne K (.ref A.cNS) (.ref A.cNF) = some false
  k_SS : PySem.W.kitOne K (.ref A.cNS) (.ref A.cNS) = some true
section
variable {K : PySem.W.Frag} {mg : Str → Option Value} {A : Ad}
theorem Tx.bd_is_integer (T : Tx K mg A) : Binds K A.fd_is_integer ["value"] [] := T.F_is_integer.binds (fun _ _ _ _ _ _ us hl => match us, hl with | [_], _ => rfl)
theorem Tx.k_is_integer (T : Tx K mg A) : PySem.W.keepIn K (.ref A.f_is_integer) = true := T.F_is_integer.kp
theorem Tx.bd_is_in (T : Tx K mg A) : Binds K A.fd_is_in ["value", "least", "most"] [] := T.F_is_in.binds (fun _ _ _ _ _ _ us hl => match us, hl with | [_, _, _], _ => rfl)
theorem Tx.k_is_in (T : Tx K mg A) : PySem.W.keepIn K (.ref A.f_is_in) = true := T.F_is_in.kp
theorem Tx.bd_is_list (T : Tx K mg A) : Binds K A.fd_is_list ["value", "least", "most"] [] := T.F_is_list.binds (fun _ _ _ _ _ _ us hl => match us, hl with | [_, _, _], _ => rfl)
theorem Tx.k_is_list (T : Tx K mg A) : PySem.W.keepIn K (.ref A.f_is_list) = true := T.F_is_list.kp
theorem Tx.bd_is_ascending (T : Tx K mg A) : Binds K A.fd_is_ascending ["value", "least", "most"] [] := T.F_is_ascending.binds (fun _ _ _ _ _ _ us hl => match us, hl with | [_, _, _], _ => rfl)
theorem Tx.k_is_ascending (T : Tx K mg A) : PySem.W.keepIn K (.ref A.f_is_ascending) = true := T.F_is_ascending.kp
theorem Tx.bd_is_simplex (T : Tx K mg A) : Binds K A.fd_is_simplex ["value"] [] := T.F_is_simplex.binds (fun _ _ _ _ _ _ us hl => match us, hl with | [_], _ => rfl)
theorem Tx.k_is_simplex (T : Tx K mg A) : PySem.W.keepIn K (.ref A.f_is_simplex) = true := T.F_is_simplex.kp
theorem Tx.bd_parts_of (T : Tx K mg A) : Binds K A.fd_parts_of ["simplex"] [] := T.F_parts_of.binds (fun _ _ _ _ _ _ us hl => match us, hl with | [_], _ => rfl)
theorem Tx.k_parts_of (T : Tx K mg A) : PySem.W.keepIn K (.ref A.f_parts_of) = true := T.F_parts_of.kp
theorem Tx.bd_generated (T : Tx K mg A) : Binds K A.fd_generated ["simplices"] [] := T.F_generated.binds (fun _ _ _ _ _ _ us hl => match us, hl with | [_], _ => rfl)
theorem Tx.k_generated (T : Tx K mg A) : PySem.W.keepIn K (.ref A.f_generated) = true := T.F_generated.kp
theorem Tx.bd_maximal (T : Tx K mg A) : Binds K A.fd_maximal ["faces"] [] := T.F_maximal.binds (fun _ _ _ _ _ _ us hl => match us, hl with | [_], _ => rfl)
theorem Tx.k_maximal (T : Tx K mg A) : PySem.W.keepIn K (.ref A.f_maximal) = true := T.F_maximal.kp
theorem Tx.bd_init (T : Tx K mg A) : Binds K A.fd_init ["self", "simplices"] [] := T.F_init.binds (fun _ _ _ _ _ _ us hl => match us, hl with | [_, _], _ => rfl)
theorem Tx.k_init (T : Tx K mg A) : PySem.W.keepIn K (.ref A.f_init) = true := T.F_init.kp
theorem Tx.bd_facets (T : Tx K mg A) : Binds K A.fd_facets ["self"] [] := T.F_facets.binds (fun _ _ _ _ _ _ us hl => match us, hl with | [_], _ => rfl)
theorem Tx.k_facets (T : Tx K mg A) : PySem.W.keepIn K (.ref A.f_facets) = true := T.F_facets.kp
theorem Tx.bd_eq (T : Tx K mg A) : Binds K A.fd_eq ["self", "other"] [] := T.F_eq.binds (fun _ _ _ _ _ _ us hl => match us, hl with | [_, _], _ => rfl)
theorem Tx.k_eq (T : Tx K mg A) : PySem.W.keepIn K (.ref A.f_eq) = true := T.F_eq.kp
theorem Tx.bd_need_complex (T : Tx K mg A) : Binds K A.fd_need_complex ["value"] [] := T.F_need_complex.binds (fun _ _ _ _ _ _ us hl => match us, hl with | [_], _ => rfl)
theorem Tx.k_need_complex (T : Tx K mg A) : PySem.W.keepIn K (.ref A.f_need_complex) = true := T.F_need_complex.kp
theorem Tx.bd_made (T : Tx K mg A) : Binds K A.fd_made ["simplices"] [] := T.F_made.binds (fun _ _ _ _ _ _ us hl => match us, hl with | [_], _ => rfl)
theorem Tx.k_made (T : Tx K mg A) : PySem.W.keepIn K (.ref A.f_made) = true := T.F_made.kp
theorem Tx.bd_vertices_in (T : Tx K mg A) : Binds K A.fd_vertices_in ["shape"] [] := T.F_vertices_in.binds (fun _ _ _ _ _ _ us hl => match us, hl with | [_], _ => rfl)
theorem Tx.k_vertices_in (T : Tx K mg A) : PySem.W.keepIn K (.ref A.f_vertices_in) = true := T.F_vertices_in.kp
theorem Tx.bd_counts_in (T : Tx K mg A) : Binds K A.fd_counts_in ["shape"] [] := T.F_counts_in.binds (fun _ _ _ _ _ _ us hl => match us, hl with | [_], _ => rfl)
theorem Tx.k_counts_in (T : Tx K mg A) : PySem.W.keepIn K (.ref A.f_counts_in) = true := T.F_counts_in.kp
theorem Tx.bd_counts_of (T : Tx K mg A) : Binds K A.fd_counts_of ["shape"] [] := T.F_counts_of.binds (fun _ _ _ _ _ _ us hl => match us, hl with | [_], _ => rfl)
theorem Tx.k_counts_of (T : Tx K mg A) : PySem.W.keepIn K (.ref A.f_counts_of) = true := T.F_counts_of.kp
theorem Tx.bd_tidy (T : Tx K mg A) : Binds K A.fd_tidy ["numbers"] [] := T.F_tidy.binds (fun _ _ _ _ _ _ us hl => match us, hl with | [_], _ => rfl)
theorem Tx.k_tidy (T : Tx K mg A) : PySem.W.keepIn K (.ref A.f_tidy) = true := T.F_tidy.kp
theorem Tx.bd_boundary_in (T : Tx K mg A) : Binds K A.fd_boundary_in ["chain"] [] := T.F_boundary_in.binds (fun _ _ _ _ _ _ us hl => match us, hl with | [_], _ => rfl)
theorem Tx.k_boundary_in (T : Tx K mg A) : PySem.W.keepIn K (.ref A.f_boundary_in) = true := T.F_boundary_in.kp
theorem Tx.bd_walls_of (T : Tx K mg A) : Binds K A.fd_walls_of ["shape"] [] := T.F_walls_of.binds (fun _ _ _ _ _ _ us hl => match us, hl with | [_], _ => rfl)
theorem Tx.k_walls_of (T : Tx K mg A) : PySem.W.keepIn K (.ref A.f_walls_of) = true := T.F_walls_of.kp
theorem Tx.bd_orient (T : Tx K mg A) : Binds K A.fd_orient ["shape"] [] := T.F_orient.binds (fun _ _ _ _ _ _ us hl => match us, hl with | [_], _ => rfl)
theorem Tx.k_orient (T : Tx K mg A) : PySem.W.keepIn K (.ref A.f_orient) = true := T.F_orient.kp
theorem Tx.bd_link_in (T : Tx K mg A) : Binds K A.fd_link_in ["shape", "simplex"] [] := T.F_link_in.binds (fun _ _ _ _ _ _ us hl => match us, hl with | [_, _], _ => rfl)
theorem Tx.k_link_in (T : Tx K mg A) : PySem.W.keepIn K (.ref A.f_link_in) = true := T.F_link_in.kp
theorem Tx.bd_components (T : Tx K mg A) : Binds K A.fd_components ["shape"] [] := T.F_components.binds (fun _ _ _ _ _ _ us hl => match us, hl with | [_], _ => rfl)
theorem Tx.k_components (T : Tx K mg A) : PySem.W.keepIn K (.ref A.f_components) = true := T.F_components.kp
theorem Tx.bd_is_surface_in (T : Tx K mg A) : Binds K A.fd_is_surface_in ["shape"] [] := T.F_is_surface_in.binds (fun _ _ _ _ _ _ us hl => match us, hl with | [_], _ => rfl)
theorem Tx.k_is_surface_in (T : Tx K mg A) : PySem.W.keepIn K (.ref A.f_is_surface_in) = true := T.F_is_surface_in.kp
theorem Tx.bd_need_surface (T : Tx K mg A) : Binds K A.fd_need_surface ["shape"] [] := T.F_need_surface.binds (fun _ _ _ _ _ _ us hl => match us, hl with | [_], _ => rfl)
theorem Tx.k_need_surface (T : Tx K mg A) : PySem.W.keepIn K (.ref A.f_need_surface) = true := T.F_need_surface.kp
theorem Tx.bd_kind_of (T : Tx K mg A) : Binds K A.fd_kind_of ["is_oriented", "euler"] [] := T.F_kind_of.binds (fun _ _ _ _ _ _ us hl => match us, hl with | [_, _], _ => rfl)
theorem Tx.k_kind_of (T : Tx K mg A) : PySem.W.keepIn K (.ref A.f_kind_of) = true := T.F_kind_of.kp
theorem Tx.bd_kind (T : Tx K mg A) : Binds K A.fd_kind ["shape"] [] := T.F_kind.binds (fun _ _ _ _ _ _ us hl => match us, hl with | [_], _ => rfl)
theorem Tx.k_kind (T : Tx K mg A) : PySem.W.keepIn K (.ref A.f_kind) = true := T.F_kind.kp
theorem Tx.bd_tips_of (T : Tx K mg A) : Binds K A.fd_tips_of ["walls", "edge"] [] := T.F_tips_of.binds (fun _ _ _ _ _ _ us hl => match us, hl with | [_, _], _ => rfl)
theorem Tx.k_tips_of (T : Tx K mg A) : PySem.W.keepIn K (.ref A.f_tips_of) = true := T.F_tips_of.kp
theorem Tx.bd_flips_in (T : Tx K mg A) : Binds K A.fd_flips_in ["shape"] [] := T.F_flips_in.binds (fun _ _ _ _ _ _ us hl => match us, hl with | [_], _ => rfl)
theorem Tx.k_flips_in (T : Tx K mg A) : PySem.W.keepIn K (.ref A.f_flips_in) = true := T.F_flips_in.kp
theorem Tx.bd_flips (T : Tx K mg A) : Binds K A.fd_flips ["shape"] [] := T.F_flips.binds (fun _ _ _ _ _ _ us hl => match us, hl with | [_], _ => rfl)
theorem Tx.k_flips (T : Tx K mg A) : PySem.W.keepIn K (.ref A.f_flips) = true := T.F_flips.kp
theorem Tx.bd_flipped_in (T : Tx K mg A) : Binds K A.fd_flipped_in ["shape", "edge"] [] := T.F_flipped_in.binds (fun _ _ _ _ _ _ us hl => match us, hl with | [_, _], _ => rfl)
theorem Tx.k_flipped_in (T : Tx K mg A) : PySem.W.keepIn K (.ref A.f_flipped_in) = true := T.F_flipped_in.kp
theorem Tx.bd_flipped (T : Tx K mg A) : Binds K A.fd_flipped ["shape", "edge"] [] := T.F_flipped.binds (fun _ _ _ _ _ _ us hl => match us, hl with | [_, _], _ => rfl)
theorem Tx.k_flipped (T : Tx K mg A) : PySem.W.keepIn K (.ref A.f_flipped) = true := T.F_flipped.kp
theorem Tx.bd__law_taken (T : Tx K mg A) : Binds K A.fd__law_taken ["_law_row", "_law_many"] [] := T.F__law_taken.binds (fun _ _ _ _ _ _ us hl => match us, hl with | [_, _], _ => rfl)
theorem Tx.k__law_taken (T : Tx K mg A) : PySem.W.keepIn K (.ref A.f__law_taken) = true := T.F__law_taken.kp
theorem Tx.bd__law_pick (T : Tx K mg A) : Binds K A.fd__law_pick ["_law_row", "_law_things"] [] := T.F__law_pick.binds (fun _ _ _ _ _ _ us hl => match us, hl with | [_, _], _ => rfl)
theorem Tx.k__law_pick (T : Tx K mg A) : PySem.W.keepIn K (.ref A.f__law_pick) = true := T.F__law_pick.kp
theorem Tx.bd__law_alike (T : Tx K mg A) : Binds K A.fd__law_alike ["_law_found", "_law_due"] [] := T.F__law_alike.binds (fun _ _ _ _ _ _ us hl => match us, hl with | [_, _], _ => rfl)
theorem Tx.k__law_alike (T : Tx K mg A) : PySem.W.keepIn K (.ref A.f__law_alike) = true := T.F__law_alike.kp
theorem Tx.bd__law_within (T : Tx K mg A) : Binds K A.fd__law_within ["_law_one", "_law_other"] [] := T.F__law_within.binds (fun _ _ _ _ _ _ us hl => match us, hl with | [_, _], _ => rfl)
theorem Tx.k__law_within (T : Tx K mg A) : PySem.W.keepIn K (.ref A.f__law_within) = true := T.F__law_within.kp
theorem Tx.bd__law_surface (T : Tx K mg A) : Binds K A.fd__law_surface ["_law_row"] [] := T.F__law_surface.binds (fun _ _ _ _ _ _ us hl => match us, hl with | [_], _ => rfl)
theorem Tx.k__law_surface (T : Tx K mg A) : PySem.W.keepIn K (.ref A.f__law_surface) = true := T.F__law_surface.kp
theorem Tx.bd__law_rims (T : Tx K mg A) : Binds K A.fd__law_rims ["_law_tops"] [] := T.F__law_rims.binds (fun _ _ _ _ _ _ us hl => match us, hl with | [_], _ => rfl)
theorem Tx.k__law_rims (T : Tx K mg A) : PySem.W.keepIn K (.ref A.f__law_rims) = true := T.F__law_rims.kp
theorem Tx.bd__law_sphere (T : Tx K mg A) : Binds K A.fd__law_sphere ["_law_row", "_law_many"] [] := T.F__law_sphere.binds (fun _ _ _ _ _ _ us hl => match us, hl with | [_, _], _ => rfl)
theorem Tx.k__law_sphere (T : Tx K mg A) : PySem.W.keepIn K (.ref A.f__law_sphere) = true := T.F__law_sphere.kp
theorem Tx.bd__law_flipped (T : Tx K mg A) : Binds K A.fd__law_flipped ["_law_tops", "_law_edge"] [] := T.F__law_flipped.binds (fun _ _ _ _ _ _ us hl => match us, hl with | [_, _], _ => rfl)
theorem Tx.k__law_flipped (T : Tx K mg A) : PySem.W.keepIn K (.ref A.f__law_flipped) = true := T.F__law_flipped.kp
theorem Tx.bd__law_error (T : Tx K mg A) : Binds K A.fd__law_error ["_law_work"] [] := T.F__law_error.binds (fun _ _ _ _ _ _ us hl => match us, hl with | [_], _ => rfl)
theorem Tx.k__law_error (T : Tx K mg A) : PySem.W.keepIn K (.ref A.f__law_error) = true := T.F__law_error.kp
theorem Tx.bd_law (T : Tx K mg A) : Binds K A.fd_law ["_law_script"] [] := T.F_law.binds (fun _ _ _ _ _ _ us hl => match us, hl with | [_], _ => rfl)
theorem Tx.k_law (T : Tx K mg A) : PySem.W.keepIn K (.ref A.f_law) = true := T.F_law.kp
end
def E_true (K : PySem.W.Frag) : True := trivial
end Fl

set_option Elab.async false
set_option linter.all false
set_option maxRecDepth 100000
set_option maxHeartbeats 2000000
namespace Fl
open PySem PySem.Spec PyProof.Rows L2
/-! ### heaps -/
/-- the tuples stand -/
def Keep (H H' : Hp) : Prop := ∀ a xs, H a = some (.tup xs) → H' a = some (.tup xs)
theorem Keep.refl (H : Hp) : Keep H H := fun _ _ h => h
theorem Keep.trans {H H1 H2 : Hp} (a : Keep H H1) (b : Keep H1 H2) : Keep H H2 := fun c o h => b c o (a c o h)
theorem _root_.L2.Same.keep {H H' : Hp} (e : Same H H') : Keep H H' := fun a xs h => e a _ h
theorem same_new {H : Hp} {p : Addr} {o : HO} (h : H p = none) : Same H (upd H p o) := fun b u e => by
  rw [upd_ne (ne_of_none e h)]
  exact e
theorem _root_.L2.Same.new {H H1 : Hp} {p : Addr} {o : HO} (s : Same H H1) (h : H1 p = none) : Same H (upd H1 p o) := s.trans (same_new h)
theorem keep_upd {H : Hp} {p : Addr} {o : HO} (h : ∀ xs, H p ≠ some (.tup xs)) : Keep H (upd H p o) := fun a xs e => by
  have : a ≠ p := fun z => h xs (z ▸ e)
  rw [upd_ne this]
  exact e
theorem keep_lst {H : Hp} {p : Addr} {o : HO} {xs : List V} (h : H p = some (.lst xs)) : Keep H (upd H p o) := keep_upd fun ys e => by rw [h] at e; cases e
theorem keep_dT {H : Hp} {p : Addr} {o : HO} {kvs : List (List Key × V)} (h : H p = some (.dT kvs)) : Keep H (upd H p o) := keep_upd fun ys e => by rw [h] at e; cases e
theorem keep_dK {H : Hp} {p : Addr} {o : HO} {kvs : List (Key × V)} (h : H p = some (.dK kvs)) : Keep H (upd H p o) := keep_upd fun ys e => by rw [h] at e; cases e
theorem keep_new {H : Hp} {p : Addr} {o : HO} (h : H p = none) : Keep H (upd H p o) := (same_new h).keep
/-- all but l stands -/
def But (l : Addr) (H H' : Hp) : Prop := ∀ b o, b ≠ l → H b = some o → H' b = some o
theorem But.refl (l : Addr) (H : Hp) : But l H H := fun _ _ _ h => h
theorem But.trans {l : Addr} {H H1 H2 : Hp} (a : But l H H1) (b : But l H1 H2) : But l H H2 := fun c o n h => b c o n (a c o n h)
theorem _root_.L2.Same.but {l : Addr} {H H' : Hp} (e : Same H H') : But l H H' := fun b o _ h => e b o h
theorem but_upd {l : Addr} {H : Hp} {o : HO} : But l H (upd H l o) := fun b u n h => by rw [upd_ne n]; exact h
theorem But.upd {l : Addr} {H H1 : Hp} {o : HO} (a : But l H H1) : But l H (L2.upd H1 l o) := a.trans but_upd
theorem But.new {l : Addr} {H H1 : Hp} {p : Addr} {o : HO} (a : But l H H1) (h : H1 p = none) : But l H (L2.upd H1 p o) := a.trans (same_new h).but
theorem But.same {l : Addr} {H H1 : Hp} (a : But l H H1) (h : H l = none) : Same H H1 := fun b o e => a b o (fun z => by rw [z, h] at e; cases e) e
theorem upd_back {H H' : Hp} {d : Addr} {u f : HO} (hd : H d = some u) (s : Same (upd H d f) H') : Same H (upd H' d u) := fun b o e => by
  by_cases z : b = d
  · subst z
    rw [upd_same, ← hd, e]
  · rw [upd_ne z]
    exact s b o (by rw [upd_ne z]; exact e)
/-! ### pairs of lists -/
section
variable {α β γ : Type} {R S : α → β → Prop}
theorem pl {as : List α} {bs : List β} (h : Paired R as bs) : as.length = bs.length := by
  induction h with
  | nil => rfl
  | cons _ _ ih => rw [List.length_cons, List.length_cons, ih]
theorem pget {as : List α} {bs : List β} (h : Paired R as bs) : ∀ {i : Nat} {a : α}, as[i]? = some a → ∃ b, bs[i]? = some b ∧ R a b := by
  induction h with
  | nil => intro i a e; simp at e
  | cons r _ ih =>
    intro i a e
    cases i with
    | zero => simp at e; subst e; exact ⟨_, rfl, r⟩
    | succ i => simp at e; simpa using ih e
theorem pget2 {as : List α} {bs : List β} (h : Paired R as bs) : ∀ {i : Nat} {b : β}, bs[i]? = some b → ∃ a, as[i]? = some a ∧ R a b := by
  induction h with
  | nil => intro i a e; simp at e
  | cons r _ ih =>
    intro i a e
    cases i with
    | zero => simp at e; subst e; exact ⟨_, rfl, r⟩
    | succ i => simp at e; simpa using ih e
theorem papp {as as' : List α} {bs bs' : List β} (h : Paired R as bs) (h' : Paired R as' bs') : Paired R (as ++ as') (bs ++ bs') := by
  induction h with
  | nil => exact h'
  | cons r _ ih => exact .cons r ih
theorem psnoc {as : List α} {bs : List β} {a : α} {b : β} (h : Paired R as bs) (r : R a b) : Paired R (as ++ [a]) (bs ++ [b]) := papp h (.cons r .nil)
theorem ptake {as : List α} {bs : List β} (h : Paired R as bs) : ∀ n, Paired R (as.take n) (bs.take n) := by
  induction h with
  | nil => intro n; simp; exact .nil
  | cons r _ ih =>
    intro n
    cases n with
    | zero => simp; exact .nil
    | succ n => simp; exact .cons r (ih n)
theorem pdrop {as : List α} {bs : List β} (h : Paired R as bs) : ∀ n, Paired R (as.drop n) (bs.drop n) := by
  induction h with
  | nil => intro n; simp; exact .nil
  | cons r t ih =>
    intro n
    cases n with
    | zero => simp; exact .cons r t
    | succ n => simp; exact ih n
theorem pmem {as : List α} {bs : List β} (h : Paired R as bs) {a : α} (ha : a ∈ as) : ∃ b, b ∈ bs ∧ R a b := by
  induction h with
  | nil => cases ha
  | cons r _ ih =>
    rcases List.mem_cons.mp ha with rfl | ha
    · exact ⟨_, by simp, r⟩
    · obtain ⟨b, hb, rb⟩ := ih ha
      exact ⟨b, by simp [hb], rb⟩
theorem pmem2 {as : List α} {bs : List β} (h : Paired R as bs) {b : β} (hb : b ∈ bs) : ∃ a, a ∈ as ∧ R a b := by
  induction h with
  | nil => cases hb
  | cons r _ ih =>
    rcases List.mem_cons.mp hb with rfl | hb
    · exact ⟨_, by simp, r⟩
    · obtain ⟨a, ha, ra⟩ := ih hb
      exact ⟨a, by simp [ha], ra⟩
theorem perase {as : List α} {bs : List β} (h : Paired R as bs) (n : Nat) : Paired R (as.eraseIdx n) (bs.eraseIdx n) := by
  rw [List.eraseIdx_eq_take_drop_succ, List.eraseIdx_eq_take_drop_succ]
  exact papp (ptake h _) (pdrop h _)
theorem pmk {f : β → α} : ∀ {bs : List β}, (∀ b ∈ bs, R (f b) b) → Paired R (bs.map f) bs
  | [], _ => .nil
  | b :: bs, h => .cons (h b (by simp)) (pmk fun c hc => h c (by simp [hc]))
theorem pfun {g : α → β} : ∀ {as : List α}, (∀ a ∈ as, R a (g a)) → Paired R as (as.map g)
  | [], _ => .nil
  | b :: bs, h => .cons (h b (by simp)) (pfun fun c hc => h c (by simp [hc]))
theorem pfun_eq {g : α → β} {as : List α} {bs : List β} (h : Paired R as bs) (hg : ∀ a b, R a b → g a = b) : as.map g = bs := by
  induction h with
  | nil => rfl
  | cons r _ ih => rw [List.map_cons, hg _ _ r, ih]
end
/-! ### tuples of ints -/
/-- v is the tuple t -/
def Ti (H : Hp) (v : V) (t : List Int) : Prop := ∃ a, v = .ref a ∧ H a = some (.tup (t.map V.int))
/-- vs are the tuples T -/
def TL (H : Hp) (vs : List V) (T : List (List Int)) : Prop := Paired (Ti H) vs T
/-- v is the tuple of the tuples T -/
def TT' (H : Hp) (v : V) (T : List (List Int)) : Prop := ∃ a vs, v = .ref a ∧ H a = some (.tup vs) ∧ TL H vs T
/-- v is a list of the tuples T, untouched by what only adds -/
def LL (H : Hp) (v : V) (T : List (List Int)) : Prop := ∃ a vs, v = .ref a ∧ H a = some (.lst vs) ∧ TL H vs T
theorem Ti.mono {H H' : Hp} {v : V} {t : List Int} (h : Ti H v t) (k : Keep H H') : Ti H' v t := let ⟨a, e, q⟩ := h; ⟨a, e, k _ _ q⟩
theorem TL.mono {H H' : Hp} {v : List V} {t : List (List Int)} (h : TL H v t) (k : Keep H H') : TL H' v t := Paired.mapP h fun _ _ q => q.mono k
theorem TT'.mono {H H' : Hp} {v : V} {t : List (List Int)} (h : TT' H v t) (k : Keep H H') : TT' H' v t := let ⟨a, vs, e, q, r⟩ := h; ⟨a, vs, e, k _ _ q, r.mono k⟩
theorem LL.mono {H H' : Hp} {v : V} {t : List (List Int)} (h : LL H v t) (k : Same H H') : LL H' v t := let ⟨a, vs, e, q, r⟩ := h; ⟨a, vs, e, k _ _ q, r.mono k.keep⟩
theorem vint_inj {a b : List Int} (h : a.map V.int = b.map V.int) : a = b := (List.map_inj_right (f := V.int) (fun x y e => by cases e; rfl)).mp h
theorem Ti.inj {H : Hp} {v : V} {t u : List Int} (h : Ti H v t) (k : Ti H v u) : t = u := by
  obtain ⟨a, rfl, h⟩ := h
  obtain ⟨b, e, k⟩ := k
  cases e
  rw [h] at k
  injection k with k
  injection k with k
  exact vint_inj k
open Classical in
noncomputable def dec (H : Hp) (v : V) : List Int := if h : ∃ t, Ti H v t then h.choose else []
theorem Ti.dec {H : Hp} {v : V} {t : List Int} (h : Ti H v t) : dec H v = t := by
  have e : ∃ t, Ti H v t := ⟨t, h⟩
  unfold Fl.dec
  rw [dif_pos e]
  exact e.choose_spec.inj h
theorem TL.dec {H : Hp} {vs : List V} {T : List (List Int)} (h : TL H vs T) : vs.map (dec H) = T := pfun_eq h fun _ _ q => q.dec
theorem TL.perm {H : Hp} {vs ys : List V} {T : List (List Int)} (h : TL H vs T) (p : ys.Perm vs) : TL H ys (ys.map (Fl.dec H)) ∧ (ys.map (Fl.dec H)).Perm T := by
  refine ⟨pfun fun y hy => ?_, ?_⟩
  · obtain ⟨t, _, q⟩ := pmem h (p.mem_iff.mp hy)
    rw [q.dec]
    exact q
  · rw [← h.dec]
    exact p.map _
/-- the order of sorted -/
def Wk (T : List (List Int)) : Prop := T.Pairwise fun x y => lexB y x = false
def Srt (T : List (List Int)) : Prop := T.Pairwise fun x y => lexB x y = true
theorem Wk.srt {T : List (List Int)} (h : Wk T) (n : T.Nodup) : Srt T := by
  unfold Wk at h
  unfold Srt
  refine (List.pairwise_iff_getElem.mpr fun i j hi hj hij => ?_)
  have h1 := List.pairwise_iff_getElem.mp h i j hi hj hij
  have h2 := List.pairwise_iff_getElem.mp n i j hi hj hij
  cases q : lexB T[i] T[j] with
  | true => rfl
  | false => exact absurd (lexB_tot _ _ q h1) h2
theorem Srt.nodup {T : List (List Int)} (h : Srt T) : T.Nodup := List.Pairwise.imp (fun {a b} q z => by subst z; rw [lexB_irr] at q; cases q) h
theorem Srt.wk {T : List (List Int)} (h : Srt T) : Wk T := List.Pairwise.imp (fun {a b} q => lexB_asym _ _ q) h
theorem Wk.perm {S T : List (List Int)} (hs : Wk S) (ht : Wk T) (p : S.Perm T) : S = T := by
  induction S generalizing T with
  | nil => exact p.nil_eq
  | cons x S ih =>
    cases T with
    | nil => exact absurd p.length_eq (by simp)
    | cons y T =>
      have hs' := List.pairwise_cons.mp hs
      have ht' := List.pairwise_cons.mp ht
      have e : x = y := by
        have hx : x ∈ y :: T := p.mem_iff.mp (by simp)
        have hy : y ∈ x :: S := p.mem_iff.mpr (by simp)
        rcases List.mem_cons.mp hx with h | h
        · exact h
        rcases List.mem_cons.mp hy with h' | h'
        · exact h'.symm
        exact lexB_tot _ _ (ht'.1 x h) (hs'.1 y h')
      subst e
      rw [ih hs'.2 ht'.2 (List.Perm.cons_inv p)]
theorem Srt.ext {S T : List (List Int)} (hs : Srt S) (ht : Srt T) (e : ∀ x, x ∈ S ↔ x ∈ T) : S = T :=
  hs.wk.perm ht.wk ((List.perm_ext_iff_of_nodup hs.nodup ht.nodup).mpr e)
theorem Srt.filter {T : List (List Int)} (h : Srt T) (p : List Int → Bool) : Srt (T.filter p) := List.Pairwise.filter p h
theorem sorted_TL {H : Hp} {vs ys : List V} {T : List (List Int)} (h : TL H vs T) (p : ys.Perm vs) (w : ys.Pairwise fun x y => lexB (Fl.dec H y) (Fl.dec H x) = false) :
    ∃ T', TL H ys T' ∧ T'.Perm T ∧ Wk T' := by
  obtain ⟨h1, h2⟩ := h.perm p
  exact ⟨_, h1, h2, List.pairwise_map.mpr w⟩
theorem tupI_of {K : PySem.W.Frag} {H : Hp} {vs : List V} {T : List (List Int)} (h : TL H vs T) (n : ∀ t ∈ T, t ≠ []) : ∀ x ∈ vs, TupI K H x (Fl.dec H x) ∧ Fl.dec H x ≠ [] := fun x hx => by
  obtain ⟨t, ht, q⟩ := pmem h hx
  rw [q.dec]
  obtain ⟨a, rfl, q⟩ := q
  exact ⟨⟨a, rfl, .of q⟩, n t ht⟩
/-! ### a list comprehension whose turns only add -/
/-- the iterator gives what stands for as, as long as what is tracked stands -/
def Src (J : It) (H1 : Hp) {α : Type} (as : List α) (R : Hp → V → α → Prop) : Prop :=
  ∀ H, Same H1 H → (J.stop as.length H) ∧ ∀ i a, as[i]? = some a → J.go i H ∧ ∀ x H', J.yld i H x H' → Same H H' ∧ R H' x a
theorem lc_gen {J : It} {g : TG} {tt : TT} {te : TE} {vs : List Nat} {σ : L2.St} {H1 : Hp} {D : Addr} {Qd : Hp → Prop} {α β : Type} (as : List α) (R : Hp → V → α → Prop) (S : Hp → V → β → Prop) (p : α → Bool) (f : α → β)
    (hD : H1 D = none) (hJ : Src J H1 as R) (hS : ∀ H H' y b, Keep H H' → S H y b → S H' y b) (hn : as.length < sizeLine)
    (hs : ∀ (i : Nat) x a H (Ny : V → Hp → Prop) (Nn : Hp → Prop), as[i]? = some a → R H x a → Same H1 H → (p a = true → ∀ y H4, Same H H4 → S H4 y (f a) → Ny y H4) → (p a = false → ∀ H3, Same H H3 → Nn H3) →
      g x (wipe σ vs) H fun σ2 H2 => wipe σ2 vs = wipe σ vs ∧ tt σ2 H2 fun b H3 => if b = true then te σ2 H3 Ny else Nn H3)
    (hd : ∀ H ys, Same H1 H → H D = some (.lst ys) → Paired (S H) ys ((as.filter p).map f) → Qd H) :
    ∃ W : Nat → Nat → Hp → Prop, (∃ m, W 0 m (upd H1 D (.lst []))) ∧ ∀ i m H, W i m H →
      (J.stop i H ∧ Qd H) ∨ (J.go i H ∧ ∃ Nx : Hp → Prop, (∀ H', Nx H' → ∃ m', m' < m ∧ W (i + 1) m' H') ∧ ∀ x H', J.yld i H x H' → g x (wipe σ vs) H' fun σ2 H2 => wipe σ2 vs = wipe σ vs ∧ tt σ2 H2 fun b H3 =>
        if b = true then te σ2 H3 fun y H4 => ∃ acc, H4 D = some (.lst acc) ∧ acc.length < sizeLine ∧ Nx (upd H4 D (.lst (acc ++ [y]))) else Nx H3) := by
  let Pv : Nat → Hp → Prop := fun i H => Same H1 H ∧ ∃ ys, H D = some (.lst ys) ∧ Paired (S H) ys (((as.take i).filter p).map f)
  refine ⟨fun i m H => m = as.length - i ∧ i ≤ as.length ∧ Pv i H, ⟨as.length, by simp, Nat.zero_le _, same_new hD, [], upd_same, by simp; exact .nil⟩, ?_⟩
  rintro i m H ⟨rfl, hi, sm, ys, hy, hp⟩
  obtain ⟨hstop, hgo⟩ := hJ H sm
  by_cases hlt : i < as.length
  · have ha : as[i]? = some as[i] := by simp [hlt]
    obtain ⟨g1, g2⟩ := hgo i _ ha
    have tk : as.take (i + 1) = as.take i ++ [as[i]] := by rw [List.take_add_one, ha]; rfl
    have hl : ys.length < sizeLine := by
      have := pl hp
      rw [List.length_map] at this
      have h2 := List.length_filter_le p (as.take i)
      rw [List.length_take] at h2
      omega
    refine .inr ⟨g1, Pv (i + 1), fun H' p' => ⟨as.length - (i + 1), by omega, rfl, hlt, p'⟩, fun x H' y => ?_⟩
    obtain ⟨s1, r⟩ := g2 x H' y
    refine hs i x _ H' _ _ ha r (sm.trans s1) (fun hpa y H4 s4 h4 => ?_) fun hpa H3 s3 => ?_
    · have hy4 := s4 _ _ (s1 _ _ hy)
      refine ⟨ys, hy4, hl, (fun b o e => ?_), ys ++ [y], upd_same, ?_⟩
      · rw [upd_ne (ne_of_none e hD)]
        exact s4 _ _ (s1 _ _ (sm _ _ e))
      · rw [tk, List.filter_append, List.map_append]
        have e1 : [as[i]].filter p = [as[i]] := by simp [hpa]
        rw [e1]
        have k4 : Keep H4 (upd H4 D (.lst (ys ++ [y]))) := keep_lst hy4
        exact psnoc (Paired.mapP hp fun a b q => hS _ _ _ _ ((s1.trans s4).keep.trans k4) q) (hS _ _ _ _ k4 h4)
    · refine ⟨sm.trans (s1.trans s3), ys, s3 _ _ (s1 _ _ hy), ?_⟩
      rw [tk, List.filter_append, List.map_append]
      have e1 : [as[i]].filter p = [] := by simp [hpa]
      rw [e1, List.map_nil, List.append_nil]
      exact Paired.mapP hp fun a b q => hS _ _ _ _ (s1.trans s3).keep q
  · have e : i = as.length := by omega
    subst e
    rw [List.take_length] at hp
    exact .inl ⟨hstop, hd H ys sm hy hp⟩
theorem yesI {σ : L2.St} {H : Hp} {A B : Hp → Prop} (h : A H) : tYes σ H fun b H3 => if b = true then A H3 else B H3 := by
  show if true = true then A H else B H
  rw [if_pos rfl]
  exact h
theorem filter_tt {α : Type} (l : List α) : (l.filter fun _ => true) = l := by simp
theorem lc_map {J : It} {g : TG} {te : TE} {vs : List Nat} {σ : L2.St} {H1 : Hp} {D : Addr} {Qd : Hp → Prop} {α β : Type} (as : List α) (R : Hp → V → α → Prop) (S : Hp → V → β → Prop) (f : α → β)
    (hD : H1 D = none) (hJ : Src J H1 as R) (hS : ∀ H H' y b, Keep H H' → S H y b → S H' y b) (hn : as.length < sizeLine)
    (hs : ∀ (i : Nat) x a H (Ny : V → Hp → Prop), as[i]? = some a → R H x a → Same H1 H → (∀ y H4, Same H H4 → S H4 y (f a) → Ny y H4) →
      g x (wipe σ vs) H fun σ2 H2 => wipe σ2 vs = wipe σ vs ∧ te σ2 H2 Ny)
    (gm : ∀ x σ' H' (Q Q' : L2.St → Hp → Prop), (∀ σ2 H2, Q σ2 H2 → Q' σ2 H2) → g x σ' H' Q → g x σ' H' Q')
    (hd : ∀ H ys, Same H1 H → H D = some (.lst ys) → Paired (S H) ys (as.map f) → Qd H) :
    ∃ W : Nat → Nat → Hp → Prop, (∃ m, W 0 m (upd H1 D (.lst []))) ∧ ∀ i m H, W i m H →
      (J.stop i H ∧ Qd H) ∨ (J.go i H ∧ ∃ Nx : Hp → Prop, (∀ H', Nx H' → ∃ m', m' < m ∧ W (i + 1) m' H') ∧ ∀ x H', J.yld i H x H' → g x (wipe σ vs) H' fun σ2 H2 => wipe σ2 vs = wipe σ vs ∧ tYes σ2 H2 fun b H3 =>
        if b = true then te σ2 H3 fun y H4 => ∃ acc, H4 D = some (.lst acc) ∧ acc.length < sizeLine ∧ Nx (upd H4 D (.lst (acc ++ [y]))) else Nx H3) :=
  lc_gen as R S (fun _ => true) f hD hJ hS hn (fun i x a H Ny Nn e r s hy _ => gm _ _ _ _ _ (fun σ2 H2 q => ⟨q.1, yesI (A := fun H3 => te σ2 H3 Ny) (B := Nn) q.2⟩) (hs i x a H Ny e r s (hy rfl)))
    (fun H ys s hD p => hd H ys s hD (by rw [filter_tt] at p; exact p))
theorem gm_name {i : Nat} : ∀ x σ' H' (Q Q' : L2.St → Hp → Prop), (∀ σ2 H2, Q σ2 H2 → Q' σ2 H2) → gName i x σ' H' Q → gName i x σ' H' Q' := fun _ _ _ _ _ h q => h _ _ q
theorem gm_pair {K : PySem.W.Frag} {i j : Nat} : ∀ x σ' H' (Q Q' : L2.St → Hp → Prop), (∀ σ2 H2, Q σ2 H2 → Q' σ2 H2) → gTup K 2 (gCons (gName i) (gCons (gName j) gNil)) x σ' H' Q → gTup K 2 (gCons (gName i) (gCons (gName j) gNil)) x σ' H' Q' :=
  fun _ _ _ _ _ h ⟨a, xs, e, hx, hl, v, r, e1, v2, r2, e2, e3, q⟩ => ⟨a, xs, e, hx, hl, v, r, e1, v2, r2, e2, e3, h _ _ q⟩
/-! ### the iterators -/
theorem _root_.L2.Same.seqT {K : PySem.W.Frag} {H H' : Hp} {a : Addr} {xs : List V} (e : Same H H') (h : SqT K H a xs) : SqT K H' a xs := by
  rcases h with (h | ⟨o, h⟩) | h
  · exact .inl (.inl (e _ _ h))
  · exact .inl (.inr ⟨o, e _ _ h⟩)
  · exact .inr h
theorem src_list {K : PySem.W.Frag} {H1 : Hp} {a : Addr} {xs : List V} {α : Type} {as : List α} {R : Hp → V → α → Prop} (h : SqL K H1 a xs) (hp : ∀ H, Same H1 H → Paired (R H) xs as) : Src (Itl K a) H1 as R := fun H sm => by
  have q := sm.seq h
  have pp := hp H sm
  refine ⟨⟨xs, q, by rw [pl pp]; exact Nat.le_refl _⟩, fun i b hb => ?_⟩
  obtain ⟨x, hx, r⟩ := pget2 pp hb
  refine ⟨⟨xs, x, q, hx⟩, fun y H' e => ?_⟩
  obtain ⟨rfl, e⟩ := e
  have := e xs q
  rw [hx] at this
  cases this
  exact ⟨Same.refl _, r⟩
theorem src_tup {K : PySem.W.Frag} {H1 : Hp} {a : Addr} {xs : List V} {α : Type} {as : List α} {R : Hp → V → α → Prop} (h : SqT K H1 a xs) (hp : ∀ H, Same H1 H → Paired (R H) xs as) : Src (Itt K a) H1 as R := fun H sm => by
  have q := sm.seqT h
  have pp := hp H sm
  refine ⟨⟨xs, q, by rw [pl pp]; exact Nat.le_refl _⟩, fun i b hb => ?_⟩
  obtain ⟨x, hx, r⟩ := pget2 pp hb
  refine ⟨⟨xs, x, q, hx⟩, fun y H' e => ?_⟩
  obtain ⟨rfl, e⟩ := e
  have := e xs q
  rw [hx] at this
  cases this
  exact ⟨Same.refl _, r⟩
theorem paired_eq (as : List V) : Paired (fun (x y : V) => x = y) as as := by
  induction as with
  | nil => exact .nil
  | cons a as ih => exact .cons rfl ih
theorem paired_int (ns : List Int) : Paired (fun (x : V) (n : Int) => x = .int n) (ns.map V.int) ns := pmk fun _ _ => rfl
theorem src_listI {K : PySem.W.Frag} {H1 : Hp} {a : Addr} {ns : List Int} (h : SqL K H1 a (ns.map V.int)) : Src (Itl K a) H1 ns (fun _ x n => x = V.int n) := src_list h fun _ _ => paired_int ns
theorem src_tupI {K : PySem.W.Frag} {H1 : Hp} {a : Addr} {ns : List Int} (h : SqT K H1 a (ns.map V.int)) : Src (Itt K a) H1 ns (fun _ x n => x = V.int n) := src_tup h fun _ _ => paired_int ns
theorem src_listT {K : PySem.W.Frag} {H1 : Hp} {a : Addr} {xs : List V} {T : List (List Int)} (h : SqL K H1 a xs) (t : TL H1 xs T) : Src (Itl K a) H1 T Ti := src_list h fun _ s => t.mono s.keep
theorem src_tupT {K : PySem.W.Frag} {H1 : Hp} {a : Addr} {xs : List V} {T : List (List Int)} (h : SqT K H1 a xs) (t : TL H1 xs T) : Src (Itt K a) H1 T Ti := src_tup h fun _ s => t.mono s.keep
theorem src_rng {H1 : Hp} {lo : Int} {n : Nat} : Src (Itr lo n) H1 (List.range n) (fun _ x i => x = V.int (lo + (i : Nat))) := fun H sm => by
  refine ⟨by show n ≤ _; simp, fun i b hb => ?_⟩
  have e : i < n ∧ i = b := by simpa [List.getElem?_range] using (List.getElem?_eq_some_iff.mp hb)
  obtain ⟨h, rfl⟩ := e
  exact ⟨h, fun x H' y => by obtain ⟨rfl, rfl⟩ := y; exact ⟨Same.refl _, rfl⟩⟩
theorem src_zipI {K : PySem.W.Frag} {H1 : Hp} {a b : Addr} {ns ms : List Int} (h : SqT K H1 a (ns.map V.int)) (h2 : SqT K H1 b (ms.map V.int)) :
    Src (RZ.ItzT K a b) H1 (ns.zip ms) (fun H x n => ∃ t, x = V.ref t ∧ H t = some (.tup [V.int n.1, V.int n.2])) := fun H sm => by
  have q := sm.seqT h
  have q2 := sm.seqT h2
  refine ⟨⟨_, _, q, q2, ?_⟩, fun i n hn => ?_⟩
  · rw [List.length_zip, List.length_map, List.length_map]; omega
  · obtain ⟨x, y⟩ := n
    have hn' := List.getElem?_zip_eq_some.mp hn
    have ex : (ns.map V.int)[i]? = some (.int x) := by rw [List.getElem?_map, hn'.1]; rfl
    have ey : (ms.map V.int)[i]? = some (.int y) := by rw [List.getElem?_map, hn'.2]; rfl
    refine ⟨⟨_, _, _, _, q, q2, ex, ey⟩, fun v H' hy => ?_⟩
    obtain ⟨T, x', y', rfl, hT, rfl, h1, h2⟩ := hy
    have e1 := h1 _ q
    have e2 := h2 _ q2
    rw [ex] at e1
    rw [ey] at e2
    cases e1
    cases e2
    exact ⟨same_new hT, T, rfl, upd_same⟩
/-! ### dicts whose keys are tuples of ints -/
def kI (t : List Int) : List Key := t.map Sum.inl
theorem kI_kV (t : List Int) : (kI t).map kV = t.map V.int := by unfold kI; rw [List.map_map]; rfl
theorem kI_inj {a b : List Int} (h : kI a = kI b) : a = b := (List.map_inj_right (f := Sum.inl) (fun x y e => by cases e; rfl)).mp h
/-- the keys are F, in order -/
def KF (kvs : List (List Key × V)) (F : List (List Int)) : Prop := kvs.map (·.1) = F.map kI
def addI (F : List (List Int)) (t : List Int) : List (List Int) := if t ∈ F then F else F ++ [t]
theorem mem_addI {F : List (List Int)} {t x : List Int} : x ∈ addI F t ↔ x ∈ F ∨ x = t := by
  unfold addI
  split
  · exact ⟨fun h => .inl h, fun h => h.elim id fun e => by subst e; assumption⟩
  · simp
theorem nodup_addI {F : List (List Int)} {t : List Int} (h : F.Nodup) : (addI F t).Nodup := by
  unfold addI
  split
  · exact h
  · rename_i q
    rw [List.nodup_append]
    refine ⟨h, by simp, fun a ha b hb => ?_⟩
    have : b = t := by simpa using hb
    subst this
    intro e
    subst e
    exact q ha
theorem addI_len {F : List (List Int)} {t : List Int} : (addI F t).length ≤ F.length + 1 := by
  unfold addI
  split
  · omega
  · simp
theorem KF.nil : KF [] [] := rfl
theorem KF.len {kvs : List (List Key × V)} {F : List (List Int)} (h : KF kvs F) : kvs.length = F.length := by
  have := congrArg List.length h
  simpa using this
theorem KF.val {kvs : List (List Key × V)} {F : List (List Int)} (h : KF kvs F) (t : List Int) : (valV kvs (kI t)).isSome = decide (t ∈ F) := by
  rw [← valV_any]
  rw [Bool.eq_iff_iff]
  simp only [List.any_eq_true, decide_eq_true_eq]
  constructor
  · rintro ⟨p, hp, e⟩
    have : kI t ∈ F.map kI := by rw [← h]; exact List.mem_map.mpr ⟨p, hp, e⟩
    obtain ⟨u, hu, e⟩ := List.mem_map.mp this
    rw [kI_inj e] at hu
    exact hu
  · intro ht
    have : kI t ∈ kvs.map (·.1) := by rw [h]; exact List.mem_map.mpr ⟨t, ht, rfl⟩
    obtain ⟨p, hp, e⟩ := List.mem_map.mp this
    exact ⟨p, hp, e⟩
theorem KF.some {kvs : List (List Key × V)} {F : List (List Int)} (h : KF kvs F) {t : List Int} (ht : t ∈ F) : ∃ v, valV kvs (kI t) = some v := by
  have := h.val t
  rw [decide_eq_true ht] at this
  exact Option.isSome_iff_exists.mp this
theorem KF.none {kvs : List (List Key × V)} {F : List (List Int)} (h : KF kvs F) {t : List Int} (ht : t ∉ F) : valV kvs (kI t) = none := by
  have := h.val t
  rw [decide_eq_false ht] at this
  simpa using this
theorem KF.put {kvs : List (List Key × V)} {F : List (List Int)} (h : KF kvs F) (t : List Int) (v : V) : KF (putK kvs (kI t) v) (addI F t) := by
  unfold addI
  by_cases ht : t ∈ F
  · rw [if_pos ht]
    obtain ⟨u, hu⟩ := h.some ht
    unfold putK
    rw [valV_any, hu]
    simp only [Option.isSome_some, if_pos]
    unfold KF
    rw [List.map_map, ← h]
    apply List.map_congr_left
    intro p hp
    by_cases e : p.1 = kI t
    · simp [e]
    · simp [e]
  · rw [if_neg ht, putK_new _ (h.none ht)]
    unfold KF at h ⊢
    rw [List.map_append, List.map_append, h]
    rfl
theorem KF.get {kvs : List (List Key × V)} {F : List (List Int)} (h : KF kvs F) {i : Nat} {k : List Key} {v : V} (e : kvs[i]? = Option.some (k, v)) : ∃ t, F[i]? = Option.some t ∧ k = kI t := by
  have e2 : (kvs.map (·.1))[i]? = Option.some k := by rw [List.getElem?_map, e]; rfl
  rw [h, List.getElem?_map] at e2
  cases q : F[i]? with
  | none => rw [q] at e2; cases e2
  | some t => rw [q] at e2; exact ⟨t, rfl, (Option.some.inj e2).symm⟩
theorem KF.get2 {kvs : List (List Key × V)} {F : List (List Int)} (h : KF kvs F) {i : Nat} {t : List Int} (e : F[i]? = Option.some t) : ∃ v, kvs[i]? = Option.some (kI t, v) := by
  have e2 : (F.map kI)[i]? = Option.some (kI t) := by rw [List.getElem?_map, e]; rfl
  rw [← h, List.getElem?_map] at e2
  cases q : kvs[i]? with
  | none => rw [q] at e2; cases e2
  | some p => rw [q] at e2; obtain ⟨a, b⟩ := p; cases Option.some.inj e2; exact ⟨b, rfl⟩
/-- the keys of a dict that is locked -/
theorem src_keysT {H1 : Hp} {d : Addr} {o : Obj} {kvs : List (List Key × V)} {F : List (List Int)} (h : H1 d = some (.frz o (.dT kvs))) (k : KF kvs F) : Src (Itkt d o kvs) H1 F Ti := fun H sm => by
  have q := sm _ _ h
  refine ⟨⟨q, by rw [k.len]; exact Nat.le_refl _⟩, fun i t ht => ?_⟩
  obtain ⟨v, e⟩ := k.get2 ht
  refine ⟨⟨q, (List.getElem?_eq_some_iff.mp e).1⟩, fun x H' y => ?_⟩
  obtain ⟨rfl, k', v', b, e', rfl, hb⟩ := y
  rw [e] at e'
  cases e'
  exact ⟨Same.refl _, b, rfl, by rw [hb, kI_kV]⟩
theorem nodup_le {α : Type} [DecidableEq α] : ∀ {F G : List α}, F.Nodup → (∀ x ∈ F, x ∈ G) → F.length ≤ G.length
  | [], _, _, _ => by simp
  | x :: F, G, nd, h => by
    obtain ⟨n1, n2⟩ := List.nodup_cons.mp nd
    have hx := h x (by simp)
    have := nodup_le (F := F) (G := G.erase x) n2 fun y hy => by
      have hne : y ≠ x := fun z => n1 (z ▸ hy)
      exact (List.mem_erase_of_ne hne).mpr (h y (by simp [hy]))
    rw [List.length_erase_of_mem hx] at this
    have hp : 0 < G.length := List.length_pos_of_mem hx
    rw [List.length_cons]
    omega
/-- how a key is asked for -/
theorem dget_I {H : Hp} {a : Addr} {y : V} {t : List Int} {kvs : List (List Key × V)} (e : H a = some (.dT kvs)) (h : Ti H y t) : DGet H a y (valV kvs (kI t)) := by
  obtain ⟨b, rfl, hb⟩ := h
  exact DGet.t e (by rw [hb, kI_kV])
theorem dget_If {H : Hp} {a : Addr} {y : V} {t : List Int} {o : Obj} {kvs : List (List Key × V)} (e : H a = some (.frz o (.dT kvs))) (h : Ti H y t) : DGet H a y (valV kvs (kI t)) := by
  obtain ⟨b, rfl, hb⟩ := h
  exact .inr ⟨kvs, kI t, b, .inr ⟨o, e⟩, rfl, by rw [hb, kI_kV], rfl⟩
theorem dput_I {H : Hp} {a : Addr} {y v : V} {t : List Int} {kvs : List (List Key × V)} (e : H a = some (.dT kvs)) (h : Ti H y t) (hl : kvs.length < sizeLine) : DPut H a y v (upd H a (.dT (putK kvs (kI t) v))) := by
  obtain ⟨b, rfl, hb⟩ := h
  exact DPut.t e (by rw [hb, kI_kV]) hl
end Fl

set_option Elab.async false
set_option linter.all false
set_option maxRecDepth 100000
set_option maxHeartbeats 2000000
namespace Fl
open PySem PySem.Spec PyProof.Rows L2
/-! the rules with the written part said by its own name: inside a comprehension the reading must not speak of the block -/
section
variable {X : Cx} (K : PySem.W.Frag)
theorem ix_listK (h : X.K = K := by rfl) : IxR X (rIxL K) := h ▸ ix_list
theorem ix_tupK (h : X.K = K := by rfl) : IxR X (rIxT K) := h ▸ ix_tup
theorem ix_seqK (h : X.K = K := by rfl) : IxR X (rIx K) := h ▸ ix_seq
theorem sl_listK (h : X.K = K := by rfl) : SlR X (rSlL K) := h ▸ sl_list
theorem sl_tupAK (h : X.K = K := by rfl) : SlR X (rSlA K) := h ▸ sl_tupA
theorem op_catAK (h : X.K = K := by rfl) : OpR X (binaryOp .Add) (rCatA K) := h ▸ op_catA
theorem op_eqDK (hu : X.A.units + 64 < cLine) (h : X.K = K := by rfl) : OpR X (compareOp .Eq) (rEqD K) := h ▸ op_eqD hu
theorem op_neDK (hu : X.A.units + 64 < cLine) (h : X.K = K := by rfl) : OpR X (compareOp .NotEq) (rNeD K) := h ▸ op_neD hu
theorem op_inDK (hu : X.A.units + 65 < cLine) (h : X.K = K := by rfl) : OpR X (compareOp .In) (rInD K) := h ▸ op_inD hu
theorem op_notInDK (hu : X.A.units + 65 < cLine) (h : X.K = K := by rfl) : OpR X (compareOp .NotIn) (rNotInD K) := h ▸ op_notInD hu
def rLenS (K : PySem.W.Frag) : List V → Hp → VK → Prop := fun xs H Q => ∃ p ys, xs = [.ref p] ∧ (SqL K H p ys ∨ SqT K H p ys) ∧ Q (.int ys.length) H
theorem call_len_seqK (h : X.K = K := by rfl) : CallR X (.builtin "len") (rLenS K) := h ▸ call_len_seq
def rListOf (K : PySem.W.Frag) : List V → Hp → VK → Prop := fun xs H Q => ∃ p ys, xs = [.ref p] ∧ (SqL K H p ys ∨ SqT K H p ys) ∧ ∀ l, H l = none → Q (.ref l) (upd H l (.lst ys))
theorem call_list_ofK (h : X.K = K := by rfl) : CallR X (.type "list") (rListOf K) := h ▸ call_list_of
def rTupleOf (K : PySem.W.Frag) : List V → Hp → VK → Prop := fun xs H Q => ∃ p ys, xs = [.ref p] ∧ ((SqL K H p ys ∧ ∀ l, H l = none → Q (.ref l) (upd H l (.tup ys))) ∨ (SqT K H p ys ∧ Q (.ref p) H))
theorem call_tuple_ofK (h : X.K = K := by rfl) : CallR X (.type "tuple") (rTupleOf K) := h ▸ call_tuple_of
theorem call_isiK (h : X.K = K := by rfl) : CallR X (.builtin "isinstance") (rIsi K) := h ▸ call_isi
theorem call_isiTK (h : X.K = K := by rfl) : CallR X (.builtin "isinstance") (rIsiT K) := h ▸ call_isiT
theorem cr_anyK (hc : X.calm = true) (h : X.K = K := by rfl) : CallR X (.builtin "any") (rAny K) := h ▸ cr_any hc
theorem cr_allK (hc : X.calm = true) (h : X.K = K := by rfl) : CallR X (.builtin "all") (rAll K) := h ▸ cr_all hc
theorem cr_maxK (hc : X.calm = true) (h : X.K = K := by rfl) : CallR X (.builtin "max") (rMax K) := h ▸ cr_max hc
theorem cr_sortXK (h : X.K = K := by rfl) : CallR X (.builtin "sorted") (rSortX K) := h ▸ cr_sortX
theorem cr_sortNK (h : X.K = K := by rfl) : CallR X (.builtin "sorted") (rSortN K) := h ▸ cr_sortN
theorem cr_sortPXK (hu : X.A.units + 4 < cLine) (h : X.K = K := by rfl) : CallR X (.builtin "sorted") (rSortPX K) := h ▸ cr_sortPX hu
theorem call_tupFK (h : X.K = K := by rfl) : CallR X (.type "tuple") (rTupF K) := h ▸ call_tupF
theorem op_inK (h : X.K = K := by rfl) : OpR X (compareOp .In) (rIn K false) := h ▸ op_in_seq
theorem op_notInK (h : X.K = K := by rfl) : OpR X (compareOp .NotIn) (rIn K true) := h ▸ op_notIn_seq
theorem pi_listK {tg l : Expr} {tl : TE} (hl : PE X l tl) (h : X.K = K := by rfl) : PI X tg l (iList K tl) := h ▸ pi_list hl
theorem pi_tupK {tg l : Expr} {tl : TE} (hl : PE X l tl) (h : X.K = K := by rfl) : PI X tg l (iTup K tl) := h ▸ pi_tup hl
/-- a list or a tuple that is walked -/
def iSeq (K : PySem.W.Frag) (tl : TE) : TI := fun σ H R => iList K tl σ H R ∨ iTup K tl σ H R
theorem pi_seqK {tg l : Expr} {tl : TE} (hl : PE X l tl) (h : X.K = K := by rfl) : PI X tg l (iSeq K tl) := by
  subst h
  refine ⟨fun pins s σ H R I hw => ?_⟩
  rcases hw with hw | hw
  · exact (pi_list hl).run pins s σ H R I hw
  · exact (pi_tup hl).run pins s σ H R I hw
theorem pg_tupK {pos : Pos} {es : List Expr} {k : Nat} {t : TGs} {n : Nat} (hc : X.calm = true) (hp : PGs X es t) (hn : (assignEach es X.env).length = n := by rfl) (hst : (assignEach es X.env).findIdx? (·.1) = none := by rfl)
    (h : X.K = K := by rfl) : PG X (.Tuple es k pos) (gTup K n t) := h ▸ pg_tup hc hp hn hst
theorem pa_starK {e : Expr} {es : List Expr} {te : TE} {t : TA} {p : Pos} (he : PE X e te) (hr : PA X es t) (hs : starEach (.Starred e p :: es) X.env = (true, eval e X.env) :: starEach es X.env := by rfl)
    (h : X.K = K := by rfl) : PA X (.Starred e p :: es) (StX.tStar K te t) := h ▸ StX.pa_star he hr hs
theorem pe_fldK {e : Expr} {f : Str} {pos : Pos} {ta : TE} (he : PE X e ta) (hb : attributeBase e f X.env (eval e X.env) = eval e X.env := by rfl) (h : X.K = K := by rfl) : PE X (.Attribute e f pos) (tFld K ta f) := h ▸ pe_fld he hb
theorem peq {β : Type} {f : β → V} : ∀ {ys : List V} {bs : List β}, Paired (fun y b => y = f b) ys bs → ys = bs.map f
  | _, _, .nil => rfl
  | _, _, .cons r t => by rw [List.map_cons, ← peq t, r]
theorem cut_from (xs : List V) (k : Nat) : cutV xs (some (k : Int)) none = xs.drop k := by
  unfold cutV
  rw [HT.sIx_nat, HT.sIx_none]
  by_cases h : k ≤ xs.length
  · rw [Nat.min_eq_left h]
    exact List.take_of_length_le (by simp)
  · rw [Nat.min_eq_right (by omega)]
    rw [List.drop_of_length_le (by omega), List.drop_of_length_le (by omega)]
    simp
theorem cut_to (xs : List V) (k : Nat) : cutV xs none (some (k : Int)) = xs.take k := by
  unfold cutV
  rw [HT.sIx_nat, HT.sIx_none]
  show (xs.drop 0).take (min k xs.length - 0) = xs.take k
  rw [List.drop_zero, Nat.sub_zero]
  by_cases h : k ≤ xs.length
  · rw [Nat.min_eq_left h]
  · rw [Nat.min_eq_right (by omega), List.take_of_length_le (by omega), List.take_of_length_le (by omega)]
/-- a tuple's slice: itself or a new one, the same items -/
theorem slT {H : Hp} {K : PySem.W.Frag} {a : Addr} {xs : List V} {lo hi : Option Int} {Q : VK} (h : SqT K H a xs) (q : ∀ H' p, Same H H' → SqT K H' p (cutV xs lo hi) → (H a = some (.tup xs) → H' p = some (.tup (cutV xs lo hi))) → Q (.ref p) H') : rSlA K (.ref a) lo hi H Q := by
  refine ⟨a, xs, rfl, h, fun e => ?_, fun _ p hp => ?_⟩
  · have : cutV xs lo hi = xs := by
      unfold cutV
      rw [e.1, e.2]
      simp
    exact q H a (Same.refl _) (by rw [this]; exact h) (fun z => by rw [this]; exact z)
  · exact q _ p (same_new hp) (.of upd_same) (fun _ => upd_same)
theorem tslT {K : PySem.W.Frag} {H : Hp} {σ : L2.St} {i : Nat} {a : Addr} {xs : List V} {tl th : TO} {lo hi : Option Int} {Q : VK} (hv : σ[i]? = some (some (.ref a))) (hl : ∀ Q' : Option Int → Hp → Prop, Q' lo H → tl σ H Q') (hh : ∀ Q' : Option Int → Hp → Prop, Q' hi H → th σ H Q') (h : SqT K H a xs)
    (q : ∀ H' p, Same H H' → SqT K H' p (cutV xs lo hi) → (H a = some (.tup xs) → H' p = some (.tup (cutV xs lo hi))) → Q (.ref p) H') : tSl (rSlA K) (tVar i) tl th σ H Q :=
  ⟨_, hv, hl _ (hh _ (slT h q))⟩
theorem hu65 {A : Around} {k : Nat} (hr : Room k A) : A.units + 65 < cLine := by have := hr.un; omega
theorem hu4 {A : Around} {k : Nat} (hr : Room k A) : A.units + 4 < cLine := by have := hr.un; omega
theorem hu2 {A : Around} {k : Nat} (hr : Room k A) : A.units + 2 < cLine := by have := hr.un; omega
theorem if_true_of {c : Bool} {A B : Prop} (hc : c = true) (h : A) : if c = true then A else B := by
  rw [if_pos hc]
  exact h
theorem if_false_of {c : Bool} {A B : Prop} (hc : c = false) (h : B) : if c = true then A else B := by
  rw [hc, if_neg Bool.false_ne_true]
  exact h
end
end Fl

set_option Elab.async false
set_option linter.all false
set_option maxRecDepth 100000
set_option maxHeartbeats 2000000
namespace Fl
open PySem PySem.Spec PyProof.Rows L2
/-! loops and comprehensions over the keys of a dict, sorted tuples -/
theorem for_keysT {d : Addr} {o : Obj} {kvs : List (List Key × V)} {F : List (List Int)} {g : TG} {tb : TS} {D : Ends} {σ : L2.St} {H : Hp} (hk : KF kvs F) (Pv : Nat → L2.St → Hp → Prop) (h0 : Pv 0 σ H) (hl : ∀ i σ H, i ≤ F.length → Pv i σ H → H d = some (.frz o (.dT kvs)))
    (hs : ∀ i x t σ H, F[i]? = some t → Ti H x t → Pv i σ H → g x σ H fun σ2 H2 => tb { D with nx := Pv (i + 1), ct := Pv (i + 1), bk := D.nx } σ2 H2) (hd : ∀ σ H, Pv F.length σ H → D.nx σ H) :
    ∃ W : Nat → Nat → L2.St → Hp → Prop, (∃ m, W 0 m σ H) ∧ ∀ i m σ H, W i m σ H →
      ((Itkt d o kvs).stop i H ∧ D.nx σ H) ∨ ((Itkt d o kvs).go i H ∧ ∃ N : L2.St → Hp → Prop, (∀ σ' H', N σ' H' → ∃ m', m' < m ∧ W (i + 1) m' σ' H') ∧ ∀ x H', (Itkt d o kvs).yld i H x H' → g x σ H' fun σ2 H2 => tb { D with nx := N, ct := N, bk := D.nx } σ2 H2) := by
  refine ⟨fun i m σ H => m = F.length - i ∧ i ≤ F.length ∧ Pv i σ H, ⟨F.length, by simp, Nat.zero_le _, h0⟩, ?_⟩
  rintro i m σ H ⟨rfl, hi, p⟩
  have q := hl i σ H hi p
  by_cases hlt : i < F.length
  · have ht : F[i]? = some F[i] := by simp [hlt]
    obtain ⟨v, e⟩ := hk.get2 ht
    refine .inr ⟨⟨q, (List.getElem?_eq_some_iff.mp e).1⟩, Pv (i + 1), fun σ' H' p' => ⟨F.length - (i + 1), by omega, rfl, hlt, p'⟩, fun x H' y => ?_⟩
    obtain ⟨rfl, k', v', b, e', rfl, hb⟩ := y
    rw [e] at e'
    cases e'
    exact hs i _ _ σ _ ht ⟨b, rfl, by rw [hb, kI_kV]⟩ p
  · have e : i = F.length := by omega
    subst e
    exact .inl ⟨⟨q, by rw [hk.len]; exact Nat.le_refl _⟩, hd σ H p⟩
theorem lock_keys {te : TE} {g : TG} {tb : TS} {D : Ends} {σ : L2.St} {H : Hp} {d : Addr} {kvs : List (List Key × V)} {F : List (List Int)} (hd0 : H d = some (.dT kvs)) (hte : ∀ od, ∀ Q : VK, Q (.ref d) (upd H d (.frz od (.dT kvs))) → te σ (upd H d (.frz od (.dT kvs))) Q) (hk : KF kvs F)
    (Pv : Obj → Nat → L2.St → Hp → Prop) (h0 : ∀ od, Pv od 0 σ (upd H d (.frz od (.dT kvs)))) (hl : ∀ od i σ H', i ≤ F.length → Pv od i σ H' → H' d = some (.frz od (.dT kvs)))
    (hs : ∀ od i x t σ H', F[i]? = some t → Ti H' x t → Pv od i σ H' → g x σ H' fun σ2 H2 => tb ⟨Pv od (i + 1), fun v H'' => H'' d = some (.frz od (.dT kvs)) ∧ D.rt v (upd H'' d (.dT kvs)), fun σ' H'' => H'' d = some (.frz od (.dT kvs)) ∧ D.nx σ' (upd H'' d (.dT kvs)), Pv od (i + 1)⟩ σ2 H2)
    (hdone : ∀ od σ H', Pv od F.length σ H' → D.nx σ (upd H' d (.dT kvs))) : tLock (tFor (iKeys te) g tb) D σ H :=
  ⟨d, _, hd0, trivial, fun od => hte od _ ⟨d, od, rfl, .inr ⟨kvs, upd_same, for_keysT hk (Pv od) (h0 od) (hl od) (hs od) (fun σ' H' p => ⟨hl od _ σ' H' (Nat.le_refl _) p, hdone od σ' H' p⟩)⟩⟩⟩
theorem lc_keys {te : TE} {g : TG} {tt : TT} {el : TE} {vs : List Nat} {σ : L2.St} {H : Hp} {Q : VK} {d : Addr} {kvs : List (List Key × V)} {F : List (List Int)} {β : Type} (hd0 : H d = some (.dT kvs)) (hte : ∀ od, ∀ Q : VK, Q (.ref d) (upd H d (.frz od (.dT kvs))) → te σ (upd H d (.frz od (.dT kvs))) Q) (hk : KF kvs F)
    (S : Hp → V → β → Prop) (p : List Int → Bool) (f : List Int → β) (hS : ∀ H H' y b, Keep H H' → S H y b → S H' y b) (hn : F.length < sizeLine)
    (hs : ∀ (od : Obj) (i : Nat) x t H2 (Ny : V → Hp → Prop) (Nn : Hp → Prop), F[i]? = some t → Ti H2 x t → Same (upd H d (.frz od (.dT kvs))) H2 → (p t = true → ∀ y H4, Same H2 H4 → S H4 y (f t) → Ny y H4) → (p t = false → ∀ H3, Same H2 H3 → Nn H3) →
      g x (wipe σ vs) H2 fun σ2 H2 => wipe σ2 vs = wipe σ vs ∧ tt σ2 H2 fun b H3 => if b = true then el σ2 H3 Ny else Nn H3)
    (hq : ∀ H' D ys, Same H H' → H D = none → H' D = some (.lst ys) → Paired (S H') ys ((F.filter p).map f) → Q (.ref D) H') : tLockE (tLc (iKeys te) g tt el vs) σ H Q := by
  refine ⟨d, _, hd0, trivial, fun od => hte od _ ⟨d, od, rfl, .inr ⟨kvs, upd_same, fun D hD => ?_⟩⟩⟩
  have nDd : D ≠ d := fun z => by rw [z, upd_same] at hD; cases hD
  refine lc_gen F Ti S p f hD (src_keysT upd_same hk) hS hn (hs od) fun H' ys sm hD' hp => ?_
  have hfd := sm _ _ (upd_same (H := H) (a := d) (o := .frz od (.dT kvs)))
  refine ⟨hfd, hq _ D ys (upd_back hd0 sm) (by rw [upd_ne nDd] at hD; exact hD) (by rw [upd_ne nDd]; exact hD') (Paired.mapP hp fun a b q => hS _ _ _ _ (keep_upd fun xs e => by rw [hfd] at e; cases e) q)⟩
/-- what comes out is locked for good -/
def tLockR (t : TE) : TE := fun σ H Q => t σ H fun v H1 => ∃ d u, H1 d = some u ∧ Mut (some u) ∧ ∀ od, Q v (upd H1 d (.frz od u))
theorem pe_lockR {X : Cx} {e : Expr} {t : TE} (h : PE X e t) : PE X e (tLockR t) := by
  refine ⟨fun pins s σ H Q I hw => ?_⟩
  refine thn (h.run pins s σ _ _ I hw) fun v s1 ⟨x, H1, I2, r, d, u, hd, mu, q⟩ => ?_
  obtain ⟨od, I3⟩ := I2.lock hd mu
  exact ⟨x, _, I3, r, q od⟩
/-- sorted of a list of tuples -/
theorem sortT {K : PySem.W.Frag} {H : Hp} {D : Addr} {ys : List V} {T : List (List Int)} {Q : VK} (hD : SqA K H D ys) (ht : TL H ys T) (hn : ∀ t ∈ T, t ≠ []) (q : ∀ p zs T', H p = none → TL (upd H p (.lst zs)) zs T' → T'.Perm T → Wk T' → Q (.ref p) (upd H p (.lst zs))) : rSortX K [.ref D] H Q := by
  refine ⟨D, ys, dec H, rfl, hD, tupI_of ht hn, fun zs p hp hw hnew => ?_⟩
  obtain ⟨T', h1, h2, h3⟩ := sorted_TL ht hp hw
  exact q p zs T' hnew (h1.mono (keep_new hnew)) h2 h3
theorem tupleL {K : PySem.W.Frag} {H : Hp} {p : Addr} {xs : List V} {Q : VK} (h : H p = some (.lst xs)) (q : ∀ l, H l = none → Q (.ref l) (upd H l (.tup xs))) : rTupleOf K [.ref p] H Q := ⟨p, xs, rfl, .inl ⟨.of h, q⟩⟩
theorem for_rng {n : Nat} {g : TG} {tb : TS} {D : Ends} {σ : L2.St} {H : Hp} (Pv : Nat → L2.St → Hp → Prop) (h0 : Pv 0 σ H)
    (hs : ∀ i σ H, i < n → Pv i σ H → g (.int (i : Nat)) σ H fun σ2 H2 => tb { D with nx := Pv (i + 1), ct := Pv (i + 1), bk := D.nx } σ2 H2) (hd : ∀ σ H, Pv n σ H → D.nx σ H) :
    ∃ W : Nat → Nat → L2.St → Hp → Prop, (∃ m, W 0 m σ H) ∧ ∀ i m σ H, W i m σ H →
      ((Itr 0 n).stop i H ∧ D.nx σ H) ∨ ((Itr 0 n).go i H ∧ ∃ N : L2.St → Hp → Prop, (∀ σ' H', N σ' H' → ∃ m', m' < m ∧ W (i + 1) m' σ' H') ∧ ∀ x H', (Itr 0 n).yld i H x H' → g x σ H' fun σ2 H2 => tb { D with nx := N, ct := N, bk := D.nx } σ2 H2) :=
  for_range (lo := 0) Pv h0 (fun i σ H hi p => by rw [Int.zero_add]; exact hs i σ H hi p) hd
theorem for_enumT {K : PySem.W.Frag} {a : Addr} {xs : List V} {g : TG} {tb : TS} {D : Ends} {σ : L2.St} {H : Hp} (Pv : Nat → L2.St → Hp → Prop) (h0 : Pv 0 σ H) (hl : ∀ i σ H, i ≤ xs.length → Pv i σ H → SqT K H a xs)
    (hs : ∀ i x σ H T, xs[i]? = some x → Pv i σ H → H T = none → g (.ref T) σ (upd H T (.tup [.int (i : Nat), x])) fun σ2 H2 => tb { D with nx := Pv (i + 1), ct := Pv (i + 1), bk := D.nx } σ2 H2) (hd : ∀ σ H, Pv xs.length σ H → D.nx σ H) :
    ∃ W : Nat → Nat → L2.St → Hp → Prop, (∃ m, W 0 m σ H) ∧ ∀ i m σ H, W i m σ H →
      ((Iett K a).stop i H ∧ D.nx σ H) ∨ ((Iett K a).go i H ∧ ∃ N : L2.St → Hp → Prop, (∀ σ' H', N σ' H' → ∃ m', m' < m ∧ W (i + 1) m' σ' H') ∧ ∀ x H', (Iett K a).yld i H x H' → g x σ H' fun σ2 H2 => tb { D with nx := N, ct := N, bk := D.nx } σ2 H2) := by
  refine ⟨fun i m σ H => m = xs.length - i ∧ i ≤ xs.length ∧ Pv i σ H, ⟨xs.length, by simp, Nat.zero_le _, h0⟩, ?_⟩
  rintro i m σ H ⟨rfl, hi, p⟩
  have q := hl i σ H hi p
  by_cases hlt : i < xs.length
  · have ht : xs[i]? = some xs[i] := by simp [hlt]
    refine .inr ⟨⟨xs, _, q, ht⟩, Pv (i + 1), fun σ' H' p' => ⟨xs.length - (i + 1), by omega, rfl, hlt, p'⟩, fun x H' y => ?_⟩
    obtain ⟨T, z, rfl, hT, rfl, h1⟩ := y
    have e := h1 xs q
    rw [ht] at e
    cases e
    exact hs i _ σ H T ht p hT
  · have e : i = xs.length := by omega
    subst e
    exact .inl ⟨⟨xs, q, rfl⟩, hd σ H p⟩
theorem take_more' {α : Type} {l : List α} {i : Nat} {x : α} (h : l[i]? = some x) : l.take (i + 1) = l.take i ++ [x] := by rw [List.take_add_one, h]; rfl
theorem lc_raw {J : It} {B : V → Hp → (Hp → Prop) → Prop} {H1 : Hp} {Qd : Hp → Prop} (Pv : Nat → Hp → Prop) (h0 : Pv 0 H1) (n : Nat) (hs : ∀ i H, i < n → Pv i H → J.go i H ∧ ∀ x H', J.yld i H x H' → B x H' (Pv (i + 1))) (hd : ∀ H, Pv n H → J.stop n H ∧ Qd H) :
    ∃ W : Nat → Nat → Hp → Prop, (∃ m, W 0 m H1) ∧ ∀ i m H, W i m H → (J.stop i H ∧ Qd H) ∨ (J.go i H ∧ ∃ Nx : Hp → Prop, (∀ H', Nx H' → ∃ m', m' < m ∧ W (i + 1) m' H') ∧ ∀ x H', J.yld i H x H' → B x H' Nx) := by
  refine ⟨fun i m H => m = n - i ∧ i ≤ n ∧ Pv i H, ⟨n, by simp, Nat.zero_le _, h0⟩, ?_⟩
  rintro i m H ⟨rfl, hi, p⟩
  by_cases hlt : i < n
  · obtain ⟨h1, h2⟩ := hs i H hlt p
    exact .inr ⟨h1, Pv (i + 1), fun H' p' => ⟨n - (i + 1), by omega, rfl, hlt, p'⟩, h2⟩
  · have e : i = n := by omega
    subst e
    exact .inl (hd H p)
/-- [n for t in T for n in t if p n] -/
theorem lc2_ints {K : PySem.W.Frag} {a D : Addr} {xs : List V} {T : List (List Int)} {i j : Nat} {vs vs1 : List Nat} {tt1 : TT} {te : TE} {σ : L2.St} {H1 : Hp} {Qd : Hp → Prop} (p : Int → Bool) (hD : H1 D = none) (ha : SqL K H1 a xs) (ht : TL H1 xs T) (hn : T.flatten.length < sizeLine)
    (h1 : ∀ x, wipe ((wipe σ vs).set i (some x)) vs = wipe σ vs) (h2 : ∀ x n, wipe ((wipe ((wipe σ vs).set i (some x)) vs1).set j (some n)) vs1 = wipe ((wipe σ vs).set i (some x)) vs1) (hv : ∀ x, ((wipe σ vs).set i (some x))[i]? = some (some x))
    (hs : ∀ x t n H (Ny : V → Hp → Prop) (Nn : Hp → Prop), Ti H x t → t ∈ T → n ∈ t → Same H1 H → (p n = true → ∀ H4, Same H H4 → Ny (.int n) H4) → (p n = false → ∀ H3, Same H H3 → Nn H3) →
      tt1 ((wipe ((wipe σ vs).set i (some x)) vs1).set j (some (.int n))) H fun b H6 => if b = true then te ((wipe ((wipe σ vs).set i (some x)) vs1).set j (some (.int n))) H6 Ny else Nn H6)
    (hd : ∀ H, Same H1 H → H D = some (.lst ((T.flatten.filter p).map V.int)) → Qd H) :
    ∃ W : Nat → Nat → Hp → Prop, (∃ m, W 0 m (upd H1 D (.lst []))) ∧ ∀ i0 m H, W i0 m H →
      ((Itl K a).stop i0 H ∧ Qd H) ∨ ((Itl K a).go i0 H ∧ ∃ Nx : Hp → Prop, (∀ H', Nx H' → ∃ m', m' < m ∧ W (i0 + 1) m' H') ∧ ∀ x H', (Itl K a).yld i0 H x H' → gName i x (wipe σ vs) H' fun σ2 H2 => wipe σ2 vs = wipe σ vs ∧ tYes σ2 H2 fun b H3 =>
        if b = true then (iTup K (tVar i)) σ2 H3 fun J1 H4 => ∃ W1 : Nat → Nat → Hp → Prop, (∃ m, W1 0 m H4) ∧ ∀ j0 k H, W1 j0 k H →
          (J1.stop j0 H ∧ Nx H) ∨ (J1.go j0 H ∧ ∃ Nx1 : Hp → Prop, (∀ H', Nx1 H' → ∃ k', k' < k ∧ W1 (j0 + 1) k' H') ∧ ∀ x H', J1.yld j0 H x H' → gName j x (wipe σ2 vs1) H' fun σ3 H5 => wipe σ3 vs1 = wipe σ2 vs1 ∧ tt1 σ3 H5 fun b H6 =>
            if b = true then te σ3 H6 fun y H7 => ∃ acc, H7 D = some (.lst acc) ∧ acc.length < sizeLine ∧ Nx1 (upd H7 D (.lst (acc ++ [y]))) else Nx1 H6)
        else Nx H3) := by
  have sub : ∀ (L : List Int) (k : Nat), (L.take k).length ≤ L.length := fun L k => by rw [List.length_take]; omega
  refine lc_raw (fun i0 H => Same H1 H ∧ H D = some (.lst ((((T.take i0).flatten).filter p).map V.int))) ⟨same_new hD, by rw [upd_same]; rfl⟩ xs.length (fun i0 H hi ⟨sm, hH⟩ => ?_) fun H ⟨sm, hH⟩ => ?_
  · obtain ⟨x, hx⟩ : ∃ x, xs[i0]? = some x := ⟨xs[i0], by simp [hi]⟩
    obtain ⟨t, hti, tx⟩ := pget ht hx
    have q := sm.seq ha
    refine ⟨⟨xs, x, q, hx⟩, fun x' H' y => ?_⟩
    obtain ⟨rfl, y⟩ := y
    have e := y xs q
    rw [hx] at e
    cases e
    obtain ⟨b, rfl, hb⟩ := tx.mono sm.keep
    have tk := take_more' hti
    have key : ∀ k, ((T.take i0).flatten ++ t.take k).length < sizeLine := fun k => by
      have e1 : T = T.take i0 ++ t :: T.drop (i0 + 1) := (List.take_append_drop (i0 + 1) T).symm.trans (by rw [tk]; simp)
      have e2 : T.flatten.length = (T.take i0).flatten.length + (t.length + (T.drop (i0 + 1)).flatten.length) := by
        conv => lhs; rw [e1]
        rw [List.flatten_append, List.flatten_cons, List.length_append, List.length_append]
      rw [List.length_append]
      have := sub t k
      omega
    refine ⟨h1 _, yesI (A := fun H3 => _) (B := fun H3 => _) ⟨_, hv _, b, rfl, ⟨_, .of hb⟩, ?_⟩⟩
    refine lc_raw (fun k H => Same H1 H ∧ H b = some (.tup (t.map V.int)) ∧ H D = some (.lst ((((T.take i0).flatten ++ t.take k).filter p).map V.int))) ⟨sm, hb, by rw [List.take_zero, List.append_nil]; exact hH⟩ t.length (fun k H2 hk ⟨sm2, hb2, hH2⟩ => ?_) fun H2 ⟨sm2, hb2, hH2⟩ => ?_
    · obtain ⟨n, hn'⟩ : ∃ n, t[k]? = some n := ⟨t[k], by simp [hk]⟩
      have hnv : (t.map V.int)[k]? = some (.int n) := by rw [List.getElem?_map, hn']; rfl
      refine ⟨⟨_, _, .of hb2, hnv⟩, fun x' H' y => ?_⟩
      obtain ⟨rfl, y⟩ := y
      have e := y _ (.of hb2)
      rw [hnv] at e
      cases e
      have tk2 := take_more' hn'
      refine ⟨h2 _ _, hs _ t n _ _ _ ⟨b, rfl, hb2⟩ (List.mem_of_getElem? hti) (List.mem_of_getElem? hn') sm2 (fun hp H4 s4 => ?_) fun hp H3 s3 => ?_⟩
      · refine ⟨_, s4 _ _ hH2, ?_, ((sm2.trans s4).but.upd).same hD, ?_, ?_⟩
        · rw [List.length_map]
          exact Nat.lt_of_le_of_lt (List.length_filter_le _ _) (key k)
        · have hb4 := s4 _ _ hb2
          have nbD : b ≠ D := fun z => by rw [z, s4 _ _ hH2] at hb4; cases hb4
          rw [upd_ne nbD]
          exact hb4
        · rw [upd_same, tk2, ← List.append_assoc, List.filter_append, List.map_append]
          congr 2
          simp [hp]
      · refine ⟨sm2.trans s3, s3 _ _ hb2, ?_⟩
        rw [tk2, ← List.append_assoc, List.filter_append]
        have e1 : [n].filter p = [] := by simp [hp]
        rw [e1, List.append_nil]
        exact s3 _ _ hH2
    · refine ⟨⟨_, .of hb2, by rw [List.length_map]; exact Nat.le_refl _⟩, sm2, ?_⟩
      rw [tk, List.flatten_append]
      rw [List.take_length] at hH2
      simpa using hH2
  · refine ⟨⟨xs, sm.seq ha, Nat.le_refl _⟩, hd H sm ?_⟩
    rw [pl ht, List.take_length] at hH
    exact hH
def cutAt (t : List Int) (m : Nat) : List Int := t.take m ++ t.drop (m + 1)
theorem cutAt_len {t : List Int} {m : Nat} (h : m < t.length) : (cutAt t m).length = t.length - 1 := by
  unfold cutAt
  rw [List.length_append, List.length_take, List.length_drop]
  omega
/-- t[:at] + t[at + 1:] -/
theorem cut_out {K : PySem.W.Frag} {σ : L2.St} {H : Hp} {i j : Nat} {a : Addr} {t : List Int} {m : Nat} {Q : VK} (hi : σ[i]? = some (some (.ref a))) (hj : σ[j]? = some (some (.int (m : Nat)))) (ha : H a = some (.tup (t.map V.int))) (hl : t.length ≤ 1000)
    (q : ∀ H' y, Same H H' → Ti H' y (cutAt t m) → Q y H') : tOp (rCatA K) (tSl (rSlA K) (tVar i) tNoPart (tPart (tVar j))) (tSl (rSlA K) (tVar i) (tPart (tOp (rI0 fun i j => V.int (i + j)) (tVar j) (tC (V.int 1)))) tNoPart) σ H Q := by
  refine tslT (lo := none) (hi := some (m : Nat)) hi (fun _ q => q) (fun _ q => ⟨_, hj, _, rfl, q⟩) (.of ha) fun H1 p1 s1 _ h1 => ?_
  refine tslT (lo := some ((m + 1 : Nat) : Int)) (hi := none) hi (fun _ q => ⟨_, hj, _, _, rfl, rfl, _, rfl, by simpa using q⟩) (fun _ q => q) (.of (s1 _ _ ha)) fun H2 p2 s2 _ h2 => ?_
  have h1 := s2 _ _ (h1 ha)
  have h2 := h2 (s1 _ _ ha)
  rw [cut_to, ← List.map_take] at h1
  rw [cut_from, ← List.map_drop] at h2
  have s12 := s1.trans s2
  refine ⟨p1, p2, _, _, rfl, rfl, .of h1, .of h2, ?_, fun e => ?_, fun _ e => ?_, fun _ _ p hp => ?_⟩
  · rw [List.length_map, List.length_map, List.length_take, List.length_drop]
    exact Nat.le_trans (by omega : _ ≤ 2000) (by decide)
  · refine q _ _ s12 ⟨p2, rfl, ?_⟩
    have e : t.take m = [] := by simpa using e
    unfold cutAt
    rw [e, List.nil_append]
    exact h2
  · refine q _ _ s12 ⟨p1, rfl, ?_⟩
    have e : t.drop (m + 1) = [] := List.map_eq_nil_iff.mp e
    unfold cutAt
    rw [e, List.append_nil]
    exact h1
  · refine q _ _ (s12.new hp) ⟨p, rfl, ?_⟩
    rw [upd_same]
    unfold cutAt
    rw [List.map_append]
end Fl

set_option Elab.async false
set_option linter.all false
set_option maxRecDepth 100000
set_option maxHeartbeats 2000000
namespace Fl
open PySem PySem.Spec PyProof.Rows L2
/-! == and in over tuples of ints and sequences of such -/
def dTs (T : List (List Int)) : List PyData := T.map fun t => .tuple (dI t)
section
variable {K : PySem.W.Frag} {H : Hp}
theorem dpAll_ints : ∀ t : List Int, DpAll K H (t.map V.int) (dI t)
  | [] => .nil
  | x :: t => .cons (.int x) (dpAll_ints t)
theorem dp_ti {v : V} {t : List Int} (h : Ti H v t) : Dp K H v (.tuple (dI t)) := by
  obtain ⟨a, rfl, h⟩ := h
  exact .tup (.of h) (dpAll_ints t)
theorem dp_tl {vs : List V} {T : List (List Int)} (h : TL H vs T) : DpAll K H vs (dTs T) := by
  unfold TL at h
  induction h with
  | nil => exact .nil
  | cons r _ ih => exact .cons (dp_ti r) ih
theorem eqv_ti (a b : List Int) : PyData.eqv (.tuple (dI a)) (.tuple (dI b)) = decide (a = b) := eqvAll_ints a b
theorem eqvAll_tl : ∀ T U : List (List Int), PyData.eqvAll (dTs T) (dTs U) = decide (T = U)
  | [], [] => rfl
  | [], _ :: _ => rfl
  | _ :: _, [] => rfl
  | a :: T, b :: U => by
    show (PyData.eqv (.tuple (dI a)) (.tuple (dI b)) && PyData.eqvAll (dTs T) (dTs U)) = _
    rw [eqv_ti, eqvAll_tl T U]
    by_cases h1 : a = b <;> by_cases h2 : T = U <;> simp [h1, h2]
theorem lay_ti (a : List Int) : PyData.canLay0 (.tuple (dI a)) = true := canLay_ints a
theorem lay_tl : ∀ T : List (List Int), PyData.canLayAll0 (dTs T) = true
  | [] => rfl
  | a :: T => by
    show (PyData.canLay0 (.tuple (dI a)) && PyData.canLayAll0 (dTs T)) = true
    rw [lay_ti, lay_tl T]
    rfl
theorem depth_ti (a : List Int) : PyData.depth (.tuple (dI a)) = 1 := by
  show PyData.depthAll (dI a) + 1 = 1
  rw [depth_ints]
theorem depth_tl : ∀ T : List (List Int), PyData.depthAll (dTs T) ≤ 1
  | [] => by decide
  | a :: T => by
    show max (PyData.depth (.tuple (dI a))) (PyData.depthAll (dTs T)) ≤ 1
    rw [depth_ti]
    have := depth_tl T
    omega
theorem shaped_ti (a : List Int) : SeqAt.shaped (.tuple (dI a)) = true := by
  unfold SeqAt.shaped
  rw [lay_ti, depth_ti]
  rfl
theorem shaped_tt (T : List (List Int)) : SeqAt.shaped (.tuple (dTs T)) = true := by
  unfold SeqAt.shaped
  have h1 : PyData.canLay0 (.tuple (dTs T)) = true := lay_tl T
  have h2 : PyData.depth (.tuple (dTs T)) ≤ 2 := Nat.succ_le_succ (depth_tl T)
  rw [h1, decide_eq_true (by omega)]
  rfl
theorem shaped_lt (T : List (List Int)) : SeqAt.shaped (.list (dTs T)) = true := by
  unfold SeqAt.shaped
  have h1 : PyData.canLay0 (.list (dTs T)) = true := lay_tl T
  have h2 : PyData.depth (.list (dTs T)) ≤ 2 := Nat.succ_le_succ (depth_tl T)
  rw [h1, decide_eq_true (by omega)]
  rfl
theorem eqTT {x y : V} {T U : List (List Int)} {Q : VK} (hx : TT' H x T) (hy : TT' H y U) (q : Q (.bl (decide (T = U))) H) : rEqD K x y H Q := by
  obtain ⟨a, vs, rfl, ha, ta⟩ := hx
  obtain ⟨b, us, rfl, hb, tb⟩ := hy
  refine ⟨.tuple (dTs T), .tuple (dTs U), .tup (.of ha) (dp_tl ta), .tup (.of hb) (dp_tl tb), shaped_tt T, shaped_tt U, ?_⟩
  have e : PyData.eqv (.tuple (dTs T)) (.tuple (dTs U)) = decide (T = U) := eqvAll_tl T U
  rw [e]
  exact q
theorem neTT {x y : V} {T U : List (List Int)} {Q : VK} (hx : TT' H x T) (hy : TT' H y U) (q : Q (.bl (!decide (T = U))) H) : rNeD K x y H Q := by
  obtain ⟨a, vs, rfl, ha, ta⟩ := hx
  obtain ⟨b, us, rfl, hb, tb⟩ := hy
  refine ⟨.tuple (dTs T), .tuple (dTs U), .tup (.of ha) (dp_tl ta), .tup (.of hb) (dp_tl tb), shaped_tt T, shaped_tt U, ?_⟩
  have e : PyData.eqv (.tuple (dTs T)) (.tuple (dTs U)) = decide (T = U) := eqvAll_tl T U
  rw [e]
  exact q
theorem eqTi {x y : V} {T U : List Int} {Q : VK} (hx : Ti H x T) (hy : Ti H y U) (q : Q (.bl (decide (T = U))) H) : rEqD K x y H Q :=
  ⟨_, _, dp_ti hx, dp_ti hy, shaped_ti T, shaped_ti U, by rw [eqv_ti]; exact q⟩
theorem neTi {x y : V} {T U : List Int} {Q : VK} (hx : Ti H x T) (hy : Ti H y U) (q : Q (.bl (!decide (T = U))) H) : rNeD K x y H Q :=
  ⟨_, _, dp_ti hx, dp_ti hy, shaped_ti T, shaped_ti U, by rw [eqv_ti]; exact q⟩
theorem any_tl (t : List Int) (T : List (List Int)) : ((dTs T).any fun z => PyData.eqv z (.tuple (dI t))) = decide (t ∈ T) := by
  unfold dTs
  rw [List.any_map, Bool.eq_iff_iff]
  simp only [List.any_eq_true, Function.comp, eqv_ti, decide_eq_true_eq]
  constructor
  · rintro ⟨x, hx, rfl⟩; exact hx
  · intro h; exact ⟨t, h, rfl⟩
theorem inTi {x : V} {a : Addr} {ys : List V} {t : List Int} {T : List (List Int)} {Q : VK} (hx : Ti H x t) (ha : H a = some (.lst ys)) (ty : TL H ys T) (q : Q (.bl (decide (t ∈ T))) H) : rInD K x (.ref a) H Q :=
  ⟨_, dTs T, dp_ti hx, .lst (.of ha) (dp_tl ty), shaped_ti t, shaped_lt T, by rw [any_tl]; exact q⟩
theorem notInTi {x : V} {a : Addr} {ys : List V} {t : List Int} {T : List (List Int)} {Q : VK} (hx : Ti H x t) (ha : H a = some (.lst ys)) (ty : TL H ys T) (q : Q (.bl (!decide (t ∈ T))) H) : rNotInD K x (.ref a) H Q :=
  ⟨_, dTs T, dp_ti hx, .lst (.of ha) (dp_tl ty), shaped_ti t, shaped_lt T, by rw [any_tl]; exact q⟩
theorem inV_ints (n : Int) (t : List Int) : inV (.int n) (t.map V.int) = decide (n ∈ t) := by
  induction t with
  | nil => rfl
  | cons m t ih =>
    have e : inV (V.int n) (List.map V.int (m :: t)) = (eqV (V.int m) (V.int n) || inV (V.int n) (t.map V.int)) := rfl
    rw [e, ih]
    have e2 : eqV (V.int m) (V.int n) = decide (m = n) := by
      rw [show eqV (V.int m) (V.int n) = (m == n) from rfl]
      rw [Bool.eq_iff_iff]; simp
    rw [e2]
    by_cases h : m = n
    · subst h; simp
    · have h' : ¬ n = m := fun z => h z.symm
      simp [h, h']
theorem flat_ints (t : List Int) : (t.map V.int).all flatV = true := by
  rw [List.all_map, List.all_eq_true]
  intro x _
  rfl
theorem inInt {n : Int} {y : V} {t : List Int} {Q : VK} (h : Ti H y t) (q : Q (.bl (decide (n ∈ t))) H) : rIn K false (.int n) y H Q := by
  obtain ⟨a, rfl, ha⟩ := h
  refine ⟨a, _, rfl, .inr (.of ha), rfl, flat_ints t, ?_⟩
  rw [inV_ints]
  exact q
theorem notInInt {n : Int} {y : V} {t : List Int} {Q : VK} (h : Ti H y t) (q : Q (.bl (!decide (n ∈ t))) H) : rIn K true (.int n) y H Q := by
  obtain ⟨a, rfl, ha⟩ := h
  refine ⟨a, _, rfl, .inr (.of ha), rfl, flat_ints t, ?_⟩
  rw [inV_ints]
  exact q
end
end Fl

set_option linter.all false
set_option maxHeartbeats 1000000
namespace Fl
/-! label propagation along the edges of a graph: after as many rounds as vertices all that hangs together has one label -/
def stepF (m : Int → Int) (t : List Int) : Int → Int := match t with
  | [a, b] => fun v => if v = b then min (m a) (m b) else if v = a then min (m a) (m b) else m v
  | _ => m
def roundF (F : List (List Int)) (m : Int → Int) : Int → Int := F.foldl stepF m
def roundsF (F : List (List Int)) : Nat → (Int → Int) → Int → Int
  | 0, m => m
  | k + 1, m => roundsF F k (roundF F m)
theorem roundsF_succ (F : List (List Int)) : ∀ (k : Nat) (m : Int → Int), roundsF F (k + 1) m = roundF F (roundsF F k m)
  | 0, m => rfl
  | k + 1, m => roundsF_succ F k (roundF F m)
section
variable {F : List (List Int)} {Vs : List Int} {v0 : Int}
/-- all labels are of v0 on, v0's own label is v0 -/
def LabOk (Vs : List Int) (v0 : Int) (m : Int → Int) : Prop := ∀ v ∈ Vs, v0 ≤ m v
theorem step_ok {m : Int → Int} (h : LabOk Vs v0 m) {t : List Int} (ht : ∀ a b, t = [a, b] → a ∈ Vs ∧ b ∈ Vs) : LabOk Vs v0 (stepF m t) := by
  intro v hv
  unfold stepF
  split
  · rename_i a b
    obtain ⟨ha, hb⟩ := ht a b rfl
    have h1 := h a ha
    have h2 := h b hb
    have h3 := h v hv
    show v0 ≤ if v = b then min (m a) (m b) else if v = a then min (m a) (m b) else m v
    split
    · omega
    · split
      · omega
      · exact h3
  · exact h v hv
theorem step_zero {m : Int → Int} (h : LabOk Vs v0 m) {t : List Int} (ht : ∀ a b, t = [a, b] → a ∈ Vs ∧ b ∈ Vs) {v : Int} (hz : m v = v0) : stepF m t v = v0 := by
  unfold stepF
  split
  · rename_i a b
    obtain ⟨ha, hb⟩ := ht a b rfl
    have h1 := h a ha
    have h2 := h b hb
    show (if v = b then min (m a) (m b) else if v = a then min (m a) (m b) else m v) = v0
    split
    · rename_i e; subst e; omega
    · split
      · rename_i e; subst e; omega
      · exact hz
  · exact hz
theorem step_edge {m : Int → Int} (h : LabOk Vs v0 m) {a b : Int} (ha : a ∈ Vs) (hb : b ∈ Vs) (hz : m a = v0 ∨ m b = v0) : stepF m [a, b] a = v0 ∧ stepF m [a, b] b = v0 := by
  have h1 := h a ha
  have h2 := h b hb
  constructor
  · show (if a = b then min (m a) (m b) else if a = a then min (m a) (m b) else m a) = v0
    split
    · omega
    · rw [if_pos rfl]; omega
  · show (if b = b then min (m a) (m b) else _) = v0
    rw [if_pos rfl]; omega
theorem fold_ok : ∀ (F : List (List Int)) {m : Int → Int}, LabOk Vs v0 m → (∀ a b, [a, b] ∈ F → a ∈ Vs ∧ b ∈ Vs) → LabOk Vs v0 (roundF F m)
  | [], m, h, _ => h
  | t :: F, m, h, hF => fold_ok F (m := stepF m t) (step_ok h fun a b e => hF a b (by rw [← e]; simp)) fun a b e => hF a b (by simp [e])
theorem fold_zero : ∀ (F : List (List Int)) {m : Int → Int}, LabOk Vs v0 m → (∀ a b, [a, b] ∈ F → a ∈ Vs ∧ b ∈ Vs) → ∀ {v : Int}, m v = v0 → roundF F m v = v0
  | [], m, h, _, v, hz => hz
  | t :: F, m, h, hF, v, hz => fold_zero F (m := stepF m t) (step_ok h fun a b e => hF a b (by rw [← e]; simp)) (fun a b e => hF a b (by simp [e])) (step_zero h (fun a b e => hF a b (by rw [← e]; simp)) hz)
theorem fold_edge : ∀ (F : List (List Int)) {m : Int → Int}, LabOk Vs v0 m → (∀ a b, [a, b] ∈ F → a ∈ Vs ∧ b ∈ Vs) → ∀ {a b : Int}, [a, b] ∈ F → (m a = v0 ∨ m b = v0) → roundF F m a = v0 ∧ roundF F m b = v0
  | [], m, h, _, a, b, hm, hz => by cases hm
  | t :: F, m, h, hF, a, b, hm, hz => by
    have ht : ∀ a b, t = [a, b] → a ∈ Vs ∧ b ∈ Vs := fun a b e => hF a b (by rw [← e]; simp)
    have hF' : ∀ a b, [a, b] ∈ F → a ∈ Vs ∧ b ∈ Vs := fun a b e => hF a b (by simp [e])
    rcases List.mem_cons.mp hm with e | hm
    · subst e
      obtain ⟨ha, hb⟩ := ht a b rfl
      obtain ⟨z1, z2⟩ := step_edge h ha hb hz
      exact ⟨fold_zero F (step_ok h ht) hF' z1, fold_zero F (step_ok h ht) hF' z2⟩
    · refine fold_edge F (m := stepF m t) (step_ok h ht) hF' hm ?_
      rcases hz with hz | hz
      · exact .inl (step_zero h ht hz)
      · exact .inr (step_zero h ht hz)
theorem filter_mono {p q : Int → Bool} (h : ∀ v, p v = true → q v = true) : ∀ Vs : List Int, (Vs.filter p).length ≤ (Vs.filter q).length
  | [] => by simp
  | v :: Vs => by
    have ih := filter_mono h Vs
    by_cases hp : p v = true
    · rw [List.filter_cons_of_pos hp, List.filter_cons_of_pos (h v hp)]
      simp; exact ih
    · rw [List.filter_cons_of_neg hp]
      by_cases hq : q v = true
      · rw [List.filter_cons_of_pos hq]; simp; omega
      · rw [List.filter_cons_of_neg hq]; exact ih
theorem filter_more {p q : Int → Bool} (h : ∀ v, p v = true → q v = true) : ∀ {Vs : List Int} {x : Int}, x ∈ Vs → p x = false → q x = true → (Vs.filter p).length + 1 ≤ (Vs.filter q).length
  | [], x, hx, _, _ => by cases hx
  | v :: Vs, x, hx, hp, hq => by
    rcases List.mem_cons.mp hx with e | hx
    · subst e
      rw [List.filter_cons_of_neg (by simp [hp]), List.filter_cons_of_pos hq]
      simp
      exact filter_mono h Vs
    · have ih := filter_more h hx hp hq
      by_cases hv : p v = true
      · rw [List.filter_cons_of_pos hv, List.filter_cons_of_pos (h v hv)]
        simp; omega
      · rw [List.filter_cons_of_neg hv]
        by_cases hqv : q v = true
        · rw [List.filter_cons_of_pos hqv]; simp; omega
        · rw [List.filter_cons_of_neg hqv]; exact ih
/-- in one piece -/
def ConnF (F : List (List Int)) (Vs : List Int) : Prop := ∀ f : Int → Bool, (∀ a b, [a, b] ∈ F → f a = f b) → ∀ x ∈ Vs, ∀ y ∈ Vs, f x = f y
theorem rounds_all (hF : ∀ a b, [a, b] ∈ F → a ∈ Vs ∧ b ∈ Vs) (hc : ConnF F Vs) (h0 : v0 ∈ Vs) {m : Int → Int} (hm : LabOk Vs v0 m) (hz : m v0 = v0) : ∀ k, LabOk Vs v0 (roundsF F k m) ∧ roundsF F k m v0 = v0 ∧
    ((∀ v ∈ Vs, roundsF F k m v = v0) ∨ k + 1 ≤ (Vs.filter fun v => decide (roundsF F k m v = v0)).length) := by
  intro k
  induction k with
  | zero =>
    refine ⟨hm, hz, .inr ?_⟩
    show 0 + 1 ≤ (Vs.filter fun v => decide (m v = v0)).length
    have : v0 ∈ Vs.filter fun v => decide (m v = v0) := List.mem_filter.mpr ⟨h0, by simp [hz]⟩
    exact List.length_pos_of_mem this
  | succ k ih =>
    obtain ⟨h1, h2, h3⟩ := ih
    rw [roundsF_succ]
    generalize roundsF F k m = m1 at h1 h2 h3
    refine ⟨fold_ok F h1 hF, fold_zero F h1 hF h2, ?_⟩
    rcases h3 with h3 | h3
    · exact .inl fun v hv => fold_zero F h1 hF (h3 v hv)
    · by_cases hall : ∀ v ∈ Vs, m1 v = v0
      · exact .inl fun v hv => fold_zero F h1 hF (hall v hv)
      · refine .inr ?_
        obtain ⟨x, hx⟩ := Classical.not_forall.mp hall
        obtain ⟨hxV, hxn⟩ := Classical.not_imp.mp hx
        have hne : ¬ ∀ a b, [a, b] ∈ F → decide (m1 a = v0) = decide (m1 b = v0) := fun hall' => by
          have := hc (fun v => decide (m1 v = v0)) hall' x hxV v0 h0
          simp [hxn, h2] at this
        obtain ⟨a, ha⟩ := Classical.not_forall.mp hne
        obtain ⟨b, hb⟩ := Classical.not_forall.mp ha
        obtain ⟨hab, hd⟩ := Classical.not_imp.mp hb
        obtain ⟨haV, hbV⟩ := hF a b hab
        have mono : ∀ v, decide (m1 v = v0) = true → decide (roundF F m1 v = v0) = true := fun v hv => by
          rw [decide_eq_true_eq] at hv ⊢
          exact fold_zero F h1 hF hv
        by_cases qa : m1 a = v0
        · have qb : m1 b ≠ v0 := fun qb => hd (by rw [qa, qb])
          have z := (fold_edge F h1 hF hab (.inl qa)).2
          have := filter_more mono hbV (by simp [qb]) (by simp [z])
          omega
        · have qb : m1 b = v0 := by
            by_cases qb : m1 b = v0
            · exact qb
            · exact absurd (by simp [qa, qb]) hd
          have z := (fold_edge F h1 hF hab (.inr qb)).1
          have := filter_more mono haV (by simp [qa]) (by simp [z])
          omega
theorem min_of : ∀ {Vs : List Int}, Vs ≠ [] → ∃ v0 ∈ Vs, ∀ v ∈ Vs, v0 ≤ v
  | [], h => absurd rfl h
  | [x], _ => ⟨x, by simp, by simp⟩
  | x :: y :: r, _ => by
    obtain ⟨v, hv, hl⟩ := min_of (Vs := y :: r) (by simp)
    by_cases h : x ≤ v
    · exact ⟨x, by simp, fun u hu => by
        rcases List.mem_cons.mp hu with rfl | hu
        · omega
        · have := hl u hu; omega⟩
    · exact ⟨v, by simp [List.mem_cons.mp hv], fun u hu => by
        rcases List.mem_cons.mp hu with rfl | hu
        · omega
        · exact hl u hu⟩
/-- after so many rounds as vertices all labels are the same -/
theorem rounds_one (hF : ∀ a b, [a, b] ∈ F → a ∈ Vs ∧ b ∈ Vs) (hc : ConnF F Vs) (hne : Vs ≠ []) : ∃ v0, v0 ∈ Vs ∧ ∀ v ∈ Vs, roundsF F Vs.length id v = v0 := by
  obtain ⟨v0, h0, hl⟩ := min_of hne
  obtain ⟨_, _, h | h⟩ := rounds_all hF hc h0 (m := id) hl rfl Vs.length
  · exact ⟨v0, h0, h⟩
  · have := List.length_filter_le (fun v => decide (roundsF F Vs.length id v = v0)) Vs
    omega
end
end Fl

set_option Elab.async false
set_option linter.all false
set_option maxRecDepth 100000
set_option maxHeartbeats 4000000
namespace Fl
open PySem PySem.Spec PyProof.Rows L2
section
variable {P : Program} {w : World} {K : PySem.W.Frag} {mg : Str → Option Value} {base : Heap} {A : Ad}
def NoTup (H : Hp) (v : V) : Prop := v = .non ∨ (∃ i, v = .int i) ∨ ∃ p xs, v = .ref p ∧ H p = some (.lst xs)
def spIs_integer : Sp := fun vs H Q _ => ∃ i, vs = [.int i] ∧ Q (.bl true) H
theorem ok_is_integer (T : Tx K mg A) : FnOk P w K mg base CX0 1 A.f_is_integer A.fd_is_integer ["value"] spIs_integer := by
  refine T.F_is_integer.ok sc_is_integer (fun vs H Q E h => ?_) (fun cdv Ar outer s H vs Q E hr h => ⟨_, (pss_one (ps_ret (pe_and (pe_callB (call_isiK K) (by rfl) (T.nb "isinstance" (by decide)) (by decide +kernel) (pa_cons (pv 0) (pa_cons (pe_bltn (v := .ty "int") (u := .type "int") (by rfl) (T.nb "int" (by decide)) (by decide +kernel) rfl) pa_nil))) (pe_one (pe_not (pe_callB (call_isiK K) (by rfl) (T.nb "isinstance" (by decide)) (by decide +kernel) (pa_cons (pv 0) (pa_cons (pe_bltn (v := .ty "bool") (u := .type "bool") (by rfl) (T.nb "bool" (by decide)) (by decide +kernel) rfl) pa_nil)))))))), ?_⟩)
  · obtain ⟨i, rfl, _⟩ := h; rfl
  · obtain ⟨i, rfl, q⟩ := h
    refine ⟨_, rfl, _, _, _, _, _, rfl, .ty "int", .base (.int i), kit_ty (r := true) (by decide +kernel), true, rfl, iteT ?_⟩
    exact ⟨_, rfl, _, _, _, _, _, rfl, .ty "bool", .base (.int i), kit_ty (r := false) (by decide +kernel), false, rfl, q⟩
def spIs_in : Sp := fun vs H Q _ => ∃ i a b, vs = [.int i, .int a, .int b] ∧ Q (.bl (decide (a ≤ i ∧ i ≤ b))) H
theorem ok_is_in (T : Tx K mg A) (G_is_integer : FnOk P w K mg base CX0 1 A.f_is_integer A.fd_is_integer ["value"] spIs_integer) : FnOk P w K mg base CX0 2 A.f_is_in A.fd_is_in ["value", "least", "most"] spIs_in := by
  refine T.F_is_in.ok sc_is_in (fun vs H Q E h => ?_) (fun cdv Ar outer s H vs Q E hr h => ⟨_, (pss_one (ps_ret (pe_and (pe_call G_is_integer (hr.mono (by decide)) (by rfl) T.g_is_integer T.k_is_integer T.bd_is_integer .nil pass0 (pa_cons (pv 0) pa_nil)) (pe_one (pe_chain op_le op_le (pv 1) (pv 0) (pv 2)))))), ?_⟩)
  · obtain ⟨i, a, b, rfl, _⟩ := h; rfl
  · obtain ⟨i, a, b, rfl, q⟩ := h
    refine ⟨_, rfl, i, rfl, true, rfl, iteT ?_⟩
    refine ⟨_, rfl, _, rfl, _, _, rfl, rfl, _, rfl, ?_⟩
    by_cases h1 : a ≤ i
    · rw [decide_eq_true h1]
      refine iteT ⟨_, rfl, _, _, rfl, rfl, ?_⟩
      have e : decide (a ≤ i ∧ i ≤ b) = decide (i ≤ b) := by simp [h1]
      rw [e] at q
      exact q
    · rw [decide_eq_false h1]
      have e : decide (a ≤ i ∧ i ≤ b) = false := by simp [h1]
      rw [e] at q
      exact iteF q
def spIs_list : Sp := fun vs H Q _ => ∃ v lo hi, vs = [v, .int lo, .int hi] ∧ ((∃ p xs, v = .ref p ∧ H p = some (.tup xs) ∧ Q (.bl (decide (lo ≤ xs.length ∧ xs.length ≤ hi))) H) ∨ NoTup H v ∧ Q (.bl false) H)
theorem ok_is_list (T : Tx K mg A) : FnOk P w K mg base CX0 1 A.f_is_list A.fd_is_list ["value", "least", "most"] spIs_list := by
  refine T.F_is_list.ok sc_is_list (fun vs H Q E h => ?_) (fun cdv Ar outer s H vs Q E hr h => ⟨_, (pss_one (ps_ret (pe_and (pe_callB (call_isiK K) (by rfl) (T.nb "isinstance" (by decide)) (by decide +kernel) (pa_cons (pv 0) (pa_cons (pe_bltn (v := .ty "tuple") (u := .type "tuple") (by rfl) (T.nb "tuple" (by decide)) (by decide +kernel) rfl) pa_nil))) (pe_one (pe_chain op_le op_le (pv 1) (pe_callB (call_len_seqK K) (by rfl) (T.nb "len" (by decide)) PySem.boot_len (pa_cons (pv 0) pa_nil)) (pv 2)))))), ?_⟩)
  · obtain ⟨v, a, b, rfl, _⟩ := h; rfl
  · obtain ⟨v, a, b, rfl, q⟩ := h
    refine ⟨_, rfl, ?_⟩
    rcases q with ⟨p, xs, rfl, hp, q⟩ | ⟨hn, q⟩
    · refine ⟨_, _, _, _, _, rfl, .ty "tuple", .base (.tup hp), kit_ty (r := true) (by decide +kernel), true, rfl, iteT ?_⟩
      refine ⟨_, rfl, _, rfl, p, xs, rfl, .inr (.of hp), _, _, rfl, rfl, _, rfl, ?_⟩
      by_cases h1 : a ≤ xs.length
      · rw [decide_eq_true h1]
        refine iteT ⟨_, rfl, _, _, rfl, rfl, ?_⟩
        have e : decide (a ≤ xs.length ∧ xs.length ≤ b) = decide ((xs.length : Int) ≤ b) := by simp [h1]
        rw [e] at q
        exact q
      · rw [decide_eq_false h1]
        have e : decide (a ≤ xs.length ∧ xs.length ≤ b) = false := by simp [h1]
        rw [e] at q
        exact iteF q
    · rcases hn with rfl | ⟨i, rfl⟩ | ⟨p, xs, rfl, hp⟩
      · exact ⟨_, _, _, _, _, rfl, .ty "tuple", .base .non, kit_ty (r := false) (by decide +kernel), false, rfl, iteF q⟩
      · exact ⟨_, _, _, _, _, rfl, .ty "tuple", .base (.int i), kit_ty (r := false) (by decide +kernel), false, rfl, iteF q⟩
      · exact ⟨_, _, _, _, _, rfl, .ty "tuple", .base (.lst hp), kit_ty (r := false) (by decide +kernel), false, rfl, iteF q⟩
/-- ascending vertices, so many of them -/
def ascB (ns : List Int) (lo hi : Int) : Bool := decide (lo ≤ ns.length ∧ (ns.length : Int) ≤ hi) && ns.all (fun i => decide (0 ≤ i ∧ i ≤ 30)) && (ns.zip (ns.drop 1)).all (fun p => decide (p.1 < p.2))
def spIs_ascending : Sp := fun vs H Q _ => ∃ v lo hi, vs = [v, .int lo, .int hi] ∧ ((∃ ns, Ti H v ns ∧ ns.length < 1000 ∧ ∀ H', Same H H' → Q (.bl (ascB ns lo hi)) H') ∨ NoTup H v ∧ Q (.bl false) H)
theorem ok_is_ascending (T : Tx K mg A) (G_is_list : FnOk P w K mg base CX0 1 A.f_is_list A.fd_is_list ["value", "least", "most"] spIs_list) (G_is_in : FnOk P w K mg base CX0 2 A.f_is_in A.fd_is_in ["value", "least", "most"] spIs_in) :
    FnOk P w K mg base CX0 3 A.f_is_ascending A.fd_is_ascending ["value", "least", "most"] spIs_ascending := by
  refine T.F_is_ascending.ok sc_is_ascending (fun vs H Q E h => ?_) (fun cdv Ar outer s H vs Q E hr h => ⟨_, (pss_cons (ps_if (PW.pt (pw_or (pt_not (pt_val (pe_call G_is_list (hr.mono (by decide)) (by rfl) T.g_is_list T.k_is_list T.bd_is_list .nil pass0 (pa_cons (pv 0) (pa_cons (pv 1) (pa_cons (pv 2) pa_nil)))))) (pw_or1 (pt_not (pt_val (pe_callB (cr_allK K rfl) (by rfl) (T.nb "all" (by decide)) (by decide +kernel) (pa_cons (pe_lc (own := [("vertex", 5)]) (g := (gName 5)) rfl sc_is_ascending.nd (pi_tupK K (pv 0)) (blkOk_by (N := N_is_ascending) (sc := defScope s_is_ascending) (by decide +kernel)) (fun _ _ _ _ _ => (pg_name (i := 5) sc_is_ascending.nd rfl (by first | exact Or.inl rfl | exact Or.inr rfl))) (fun _ _ _ _ _ => pts_nil) (fun _ _ _ _ _ => (pe_call G_is_in (hr.mono (by decide)) (by rfl) T.g_is_in T.k_is_in T.bd_is_in .nil pass0 (pa_cons (pv 5) (pa_cons pe_int (pa_cons (pe_glob (v := .int 30) rfl T.e_MOST_VERTEX.choose_spec ⟨_, rfl⟩) pa_nil)))))) pa_nil))))))) (pss_one (ps_ret pe_bl)) pss_nil)
    (pss_one (ps_ret (pe_callB (cr_allK K rfl) (by rfl) (T.nb "all" (by decide)) (by decide +kernel) (pa_cons (pe_lc (own := [("one", 3), ("other", 4)]) (g := (gTup K 2 (gCons (gName 3) (gCons (gName 4) gNil)))) rfl sc_is_ascending.nd (RZ.pi_zipA (by rfl) (T.nb "zip" (by decide)) (pa_cons (pv 0) (pa_cons (pe_slice (sl_tupAK K) (pv 0) (po_some pe_int) po_none) pa_nil))) (blkOk_by (N := N_is_ascending) (sc := defScope s_is_ascending) (by decide +kernel)) (fun _ _ _ _ _ => (pg_tupK K rfl (pgs_cons (pg_name (i := 3) sc_is_ascending.nd rfl (by first | exact Or.inl rfl | exact Or.inr rfl)) (pgs_cons (pg_name (i := 4) sc_is_ascending.nd rfl (by first | exact Or.inl rfl | exact Or.inr rfl)) pgs_nil)))) (fun _ _ _ _ _ => pts_nil) (fun _ _ _ _ _ => (pe_cmpR op_lt (pv 3) (pv 4) (nomark _)))) pa_nil))))), ?_⟩)
  · obtain ⟨v, a, b, rfl, _⟩ := h; rfl
  · obtain ⟨v, a, b, rfl, q⟩ := h
    rcases q with ⟨ns, ⟨p, rfl, hp⟩, hl, q⟩ | ⟨hn, q⟩
    · have hl' : ns.length < sizeLine := Nat.lt_trans hl (by decide)
      refine ⟨_, rfl, _, rfl, _, rfl, _, _, _, rfl, .inl ⟨p, _, rfl, hp, ?_⟩⟩
      rw [List.length_map]
      refine ⟨_, rfl, ?_⟩
      by_cases h1 : a ≤ ns.length ∧ (ns.length : Int) ≤ b
      · rw [decide_eq_true h1]
        refine iteF ?_
        refine ⟨_, rfl, p, rfl, ⟨_, .of hp⟩, fun D hD => lc_map ns (fun _ x n => x = V.int n) (fun _ y b => y = V.bl b) (fun i => decide (0 ≤ i ∧ i ≤ 30)) hD (src_tupI (.of hp)) (fun _ _ _ _ _ h => h) hl' ?_ gm_name ?_⟩
        · intro i x n H2 Ny _ hx sm hy
          subst hx
          exact ⟨rfl, _, rfl, n, 0, 30, rfl, hy _ _ (Same.refl _) rfl⟩
        · intro H2 ys sm hD2 hp2
          rw [peq hp2] at hD2
          refine ⟨D, _, rfl, .of hD2, _, rfl, ?_⟩
          have e1 : (List.map (fun i : Int => decide (0 ≤ i ∧ i ≤ 30)) ns).all id = ns.all (fun i => decide (0 ≤ i ∧ i ≤ 30)) := by
            rw [List.all_map]
            rfl
          rw [e1]
          by_cases h2 : ns.all (fun i => decide (0 ≤ i ∧ i ≤ 30)) = true
          · rw [h2]
            refine iteF ?_
            have hp3 := sm _ _ hp
            refine ⟨_, rfl, ?_⟩
            unfold tCons tNil
            refine tslT (lo := some 1) (hi := none) rfl (fun _ q => ⟨1, rfl, q⟩) (fun _ q => q) (.of hp3) fun H3 p2 s3 _ hp4 => ?_
            have hp4 := hp4 hp3
            have hp5 := s3 _ _ hp3
            rw [show cutV (ns.map V.int) (some 1) none = (ns.map V.int).drop 1 from cut_from _ 1, ← List.map_drop] at hp4
            refine ⟨p, p2, _, _, rfl, .inr ⟨.of hp5, .of hp4, fun D2 hD3 => lc_map (ns.zip (ns.drop 1)) (fun H x n => ∃ t, x = V.ref t ∧ H t = some (.tup [V.int n.1, V.int n.2])) (fun _ y b => y = V.bl b) (fun n => decide (n.1 < n.2)) hD3 ?_ (fun _ _ _ _ _ h => h) ?_ ?_ gm_pair ?_⟩⟩
            · exact src_zipI (.of hp5) (.of hp4)
            · rw [List.length_zip]; omega
            · intro i x n H2 Ny _ hx sm hy
              obtain ⟨t, rfl, ht⟩ := hx
              exact ⟨t, _, rfl, .of ht, rfl, _, _, rfl, _, _, rfl, rfl, rfl, _, rfl, _, rfl, _, _, rfl, rfl, hy _ _ (Same.refl _) rfl⟩
            · intro H5 ys2 s5 hD5 hp6
              rw [peq hp6] at hD5
              refine ⟨D2, _, rfl, .of hD5, ?_⟩
              have := q H5 (sm.trans (s3.trans s5))
              unfold ascB at this
              rw [decide_eq_true h1, h2] at this
              rw [List.all_map]
              exact this
          · have h2 : ns.all (fun i => decide (0 ≤ i ∧ i ≤ 30)) = false := by simpa using h2
            rw [h2]
            refine iteT ?_
            have := q H2 sm
            unfold ascB at this
            rw [h2, Bool.and_false, Bool.false_and] at this
            exact this
      · rw [decide_eq_false h1]
        refine iteT ?_
        have := q H (Same.refl _)
        unfold ascB at this
        rw [decide_eq_false h1, Bool.false_and, Bool.false_and] at this
        exact this
    · refine ⟨_, rfl, _, rfl, _, rfl, _, _, _, rfl, .inr ⟨hn, _, rfl, ?_⟩⟩
      exact q
end
end Fl

set_option Elab.async false
set_option linter.all false
set_option maxRecDepth 100000
set_option maxHeartbeats 4000000
namespace Fl
open PySem PySem.Spec PyProof.Rows L2
section
variable {P : Program} {w : World} {K : PySem.W.Frag} {mg : Str → Option Value} {base : Heap} {A : Ad}
def simpB (ns : List Int) : Bool := ascB ns 1 8
def spIs_simplex : Sp := fun vs H Q _ => ∃ v, vs = [v] ∧ ((∃ ns, Ti H v ns ∧ ns.length < 1000 ∧ ∀ H', Same H H' → Q (.bl (simpB ns)) H') ∨ NoTup H v ∧ Q (.bl false) H)
theorem ok_is_simplex (T : Tx K mg A) (G_is_ascending : FnOk P w K mg base CX0 3 A.f_is_ascending A.fd_is_ascending ["value", "least", "most"] spIs_ascending) : FnOk P w K mg base CX0 4 A.f_is_simplex A.fd_is_simplex ["value"] spIs_simplex := by
  refine T.F_is_simplex.ok sc_is_simplex (fun vs H Q E h => ?_) (fun cdv Ar outer s H vs Q E hr h => ⟨_, (pss_one (ps_ret (pe_call G_is_ascending (hr.mono (by decide)) (by rfl) T.g_is_ascending T.k_is_ascending T.bd_is_ascending .nil pass0 (pa_cons (pv 0) (pa_cons pe_int (pa_cons (pe_glob (v := .int 8) rfl T.e_MOST_LENGTH.choose_spec ⟨_, rfl⟩) pa_nil)))))), ?_⟩)
  · obtain ⟨v, rfl, _⟩ := h; rfl
  · obtain ⟨v, rfl, q⟩ := h
    exact ⟨_, rfl, _, _, _, rfl, q⟩
/-! ### the parts of a simplex -/
def grow (F : List (List Int)) (v : Int) : List (List Int) := F ++ F.map (· ++ [v])
def parts0 (ns : List Int) : List (List Int) := ns.foldl grow [[]]
def partsOf (ns : List Int) : List (List Int) := (parts0 ns).drop 1
theorem parts0_len (ns : List Int) : (parts0 ns).length = 2 ^ ns.length := by
  unfold parts0
  have : ∀ (ns : List Int) (F : List (List Int)), (ns.foldl grow F).length = F.length * 2 ^ ns.length := by
    intro ns
    induction ns with
    | nil => intro F; simp
    | cons v ns ih =>
      intro F
      rw [List.foldl_cons, ih, List.length_cons, Nat.pow_succ]
      unfold grow
      rw [List.length_append, List.length_map]
      have : F.length + F.length = F.length * 2 := by omega
      rw [this, Nat.mul_assoc, Nat.mul_comm 2]
  rw [this]
  simp
theorem parts0_snoc (ns : List Int) (v : Int) : parts0 (ns ++ [v]) = grow (parts0 ns) v := by
  unfold parts0
  rw [List.foldl_append]
  rfl
theorem mem_grows : ∀ (ns : List Int) (F : List (List Int)) (x : List Int), x ∈ ns.foldl grow F ↔ ∃ y ∈ F, ∃ z, z.Sublist ns ∧ x = y ++ z
  | [], F, x => by
    constructor
    · intro h; exact ⟨x, h, [], List.Sublist.slnil, by simp⟩
    · rintro ⟨y, hy, z, hz, rfl⟩
      rw [List.sublist_nil.mp hz, List.append_nil]
      exact hy
  | v :: ns, F, x => by
    rw [List.foldl_cons, mem_grows ns]
    constructor
    · rintro ⟨y, hy, z, hz, rfl⟩
      rcases List.mem_append.mp hy with hy | hy
      · exact ⟨y, hy, z, hz.cons v, rfl⟩
      · obtain ⟨y', hy', rfl⟩ := List.mem_map.mp hy
        exact ⟨y', hy', v :: z, hz.cons₂ v, by simp⟩
    · rintro ⟨y, hy, z, hz, rfl⟩
      rcases List.sublist_cons_iff.mp hz with hz | ⟨r, rfl, hr⟩
      · exact ⟨y, List.mem_append.mpr (.inl hy), z, hz, rfl⟩
      · exact ⟨y ++ [v], List.mem_append.mpr (.inr (List.mem_map.mpr ⟨y, hy, rfl⟩)), r, hr, by simp⟩
theorem mem_parts0 {ns x : List Int} : x ∈ parts0 ns ↔ x.Sublist ns := by
  unfold parts0
  rw [mem_grows]
  constructor
  · rintro ⟨y, hy, z, hz, rfl⟩
    have : y = [] := by simpa using hy
    subst this
    exact hz
  · intro h
    exact ⟨[], by simp, x, h, rfl⟩
theorem take_more {α : Type} {l : List α} {i : Nat} {x : α} (h : l[i]? = some x) : l.take (i + 1) = l.take i ++ [x] := by rw [List.take_add_one, h]; rfl
theorem parts0_head : ∀ (ns : List Int) (R : List (List Int)), (∀ x ∈ R, x ≠ []) → ∃ R', ns.foldl grow ([] :: R) = [] :: R' ∧ ∀ x ∈ R', x ≠ []
  | [], R, h => ⟨R, rfl, h⟩
  | v :: ns, R, h => by
    rw [List.foldl_cons]
    have e : grow ([] :: R) v = [] :: (R ++ ([] :: R).map (· ++ [v])) := rfl
    rw [e]
    refine parts0_head ns _ fun x hx => ?_
    rcases List.mem_append.mp hx with hx | hx
    · exact h x hx
    · obtain ⟨y, _, rfl⟩ := List.mem_map.mp hx
      simp
/-- x is a face of s -/
def Part (x s : List Int) : Prop := x ≠ [] ∧ x.Sublist s
theorem mem_partsOf {ns x : List Int} : x ∈ partsOf ns ↔ Part x ns := by
  obtain ⟨R', e, h⟩ := parts0_head ns [] (by simp)
  have e0 : parts0 ns = [] :: R' := e
  have e1 : partsOf ns = R' := by unfold partsOf; rw [e0]; rfl
  unfold Part
  rw [e1]
  constructor
  · intro hx
    exact ⟨h x hx, mem_parts0.mp (by rw [e0]; simp [hx])⟩
  · rintro ⟨h1, h2⟩
    have := mem_parts0.mpr h2
    rw [e0] at this
    rcases List.mem_cons.mp this with h3 | h3
    · exact absurd h3 h1
    · exact h3
def spParts_of : Sp := fun vs H Q _ => ∃ v ns, vs = [v] ∧ Ti H v ns ∧ ns.length ≤ 8 ∧ ∀ H' p, Same H H' → LL H' (.ref p) (partsOf ns) → Q (.ref p) H'
theorem ok_parts_of (T : Tx K mg A) : FnOk P w K mg base CX0 1 A.f_parts_of A.fd_parts_of ["simplex"] spParts_of := by
  refine T.F_parts_of.ok sc_parts_of (fun vs H Q E h => ?_) (fun cdv Ar outer s H vs Q E hr h => ⟨_, (pss_cons (ps_set (i := 1) sc_parts_of.nd rfl (by first | exact Or.inl rfl | exact Or.inr rfl) (pe_lst (pa_cons (pe_tup pa_nil) pa_nil)))
    (pss_cons (ps_for PassesOwn.never rfl (pi_tupK K (pv 0)) (pg_name (i := 2) sc_parts_of.nd rfl (by first | exact Or.inl rfl | exact Or.inr rfl))
    (pss_one (ps_expr (pe_bm PySem.F.plainAttrs_list PySem.F.slot_list_extend PySem.F.type_list_extend mt_extend (pv 1) (pa_cons (pe_lc (own := [("part", 3)]) (g := (gName 3)) rfl sc_parts_of.nd (pi_listK K (pv 1)) (blkOk_by (N := N_parts_of) (sc := defScope s_parts_of) (by decide +kernel)) (fun _ _ _ _ _ => (pg_name (i := 3) sc_parts_of.nd rfl (by first | exact Or.inl rfl | exact Or.inr rfl))) (fun _ _ _ _ _ => pts_nil) (fun _ _ _ _ _ => (pe_tup (pa_starK K (pv 3) (pa_cons (pv 2) pa_nil))))) pa_nil)))))
    (pss_one (ps_ret (pe_slice (sl_listK K) (pv 1) (po_some pe_int) po_none))))), ?_⟩)
  · obtain ⟨v, ns, rfl, _⟩ := h; rfl
  · obtain ⟨v, ns, rfl, ⟨a, rfl, ha⟩, h8, q⟩ := h
    refine ⟨(by show 0 ≤ sizeLine; decide), fun e he => ⟨(by show 1 ≤ sizeLine; decide), fun l hl => ?_⟩⟩
    refine ⟨_, rfl, a, rfl, ⟨_, .of ((same_new he).new hl _ _ ha)⟩, for_tup (fun i σ H' => ∃ vs vv, σ = [some (.ref a), some (.ref l), vv, none] ∧ Same H H' ∧ H' l = some (.lst vs) ∧ TL H' vs (parts0 (ns.take i)) ∧ H l = none)
      ⟨[.ref e], none, rfl, (same_new he).new hl, upd_same, .cons ⟨e, rfl, (by rw [upd_ne (ne_of_none upd_same hl)]; exact upd_same)⟩ .nil, (same_new he).free hl⟩ (fun i σ H' _ ⟨_, _, _, s5, _⟩ => .of (s5 _ _ ha)) ?_ ?_⟩
    · rintro i y σ H' hi ⟨vs, vv, rfl, s5, hl', ht, hl0⟩
      obtain ⟨z, hz, rfl⟩ : ∃ z, ns[i]? = some z ∧ y = V.int z := by
        rw [List.getElem?_map] at hi
        cases e : ns[i]? with
        | none => rw [e] at hi; cases hi
        | some z => rw [e] at hi; exact ⟨z, rfl, (Option.some.inj hi).symm⟩
      have hlen : (parts0 (ns.take i)).length ≤ 256 := by
        rw [parts0_len]
        have : (ns.take i).length ≤ 8 := by rw [List.length_take]; omega
        calc 2 ^ (ns.take i).length ≤ 2 ^ 8 := Nat.pow_le_pow_right (by decide) this
          _ = 256 := rfl
      have hvl : vs.length = (parts0 (ns.take i)).length := pl ht
      refine ⟨_, rfl, .inl ⟨rfl, _, .of hl'⟩, _, rfl, l, rfl, ⟨_, .of hl'⟩, fun D hD => lc_map (parts0 (ns.take i)) Ti Ti (· ++ [z]) hD (src_listT (.of hl') ht) (fun _ _ _ _ k h => h.mono k) ?_ ?_ gm_name ?_⟩
      · exact Nat.lt_of_le_of_lt hlen (by decide)
      · intro j x t H2 Ny hj hx sm hy
        obtain ⟨b, rfl, hb⟩ := hx
        have htl : t.length ≤ 8 := by
          have h1 := (mem_parts0.mp (List.mem_of_getElem? hj)).length_le
          rw [List.length_take] at h1
          omega
        refine ⟨rfl, _, rfl, b, _, rfl, .inl (.of hb), _, rfl, ?_⟩
        refine ⟨?_, fun p hp => hy _ _ (same_new hp) ⟨p, rfl, ?_⟩⟩
        · rw [List.length_append, List.length_map]
          show t.length + 1 ≤ sizeLine
          exact Nat.le_trans (by omega : _ ≤ 9) (by decide)
        · rw [upd_same, List.map_append]
          rfl
      · intro H2 ys sm hD2 hp2
        have hl2 := sm _ _ hl'
        refine ⟨l, D, _, _, rfl, rfl, hl2, hD2, ?_, ?_⟩
        · have := pl hp2
          rw [List.length_map] at this
          exact Nat.le_trans (by omega : _ ≤ 512) (by decide)
        · refine ⟨_, _, rfl, ?_, upd_same, ?_, hl0⟩
          · exact (((s5.trans sm).but (l := l)).upd).same hl0
          · rw [take_more hz, parts0_snoc]
            exact papp ((ht.mono sm.keep).mono (keep_lst hl2)) (TL.mono hp2 (keep_lst hl2))
    · rintro σ H' ⟨vs, vv, rfl, s5, hl', ht, hl0⟩
      rw [List.length_map, List.take_length] at ht
      refine ⟨_, rfl, 1, rfl, l, vs, rfl, .of hl', fun p hp => q _ p (s5.new hp) ⟨p, _, rfl, upd_same, ?_⟩⟩
      rw [show cutV vs (some 1) none = vs.drop 1 from cut_from _ 1]
      exact (TL.mono (pdrop ht 1) (keep_new hp))
end
end Fl

set_option Elab.async false
set_option linter.all false
set_option maxRecDepth 100000
set_option maxHeartbeats 4000000
namespace Fl
open PySem PySem.Spec PyProof.Rows L2
section
variable {P : Program} {w : World} {K : PySem.W.Frag} {mg : Str → Option Value} {base : Heap} {A : Ad}
/-- not too many faces -/
def Few (S : List (List Int)) : Prop := ∀ F : List (List Int), F.Nodup → (∀ x ∈ F, ∃ s ∈ S, Part x s) → F.length ≤ 400
/-- F: the faces of S -/
def Faces (S F : List (List Int)) : Prop := F.Nodup ∧ ∀ x, x ∈ F ↔ ∃ s ∈ S, Part x s
/-- a sequence that is walked -/
theorem for_seq {K : PySem.W.Frag} {a : Addr} {xs : List V} {g : TG} {tb : TS} {D : Ends} {σ : L2.St} {H H0 : Hp} {te : TE} (Pv : Nat → L2.St → Hp → Prop) (hte : ∀ Q : VK, Q (.ref a) H → te σ H Q) (hA : SqA K H0 a xs) (h0 : Pv 0 σ H) (hl : ∀ i σ H', i ≤ xs.length → Pv i σ H' → Same H0 H')
    (hs : ∀ i x σ H, xs[i]? = some x → Pv i σ H → g x σ H fun σ2 H2 => tb { D with nx := Pv (i + 1), ct := Pv (i + 1), bk := D.nx } σ2 H2) (hd : ∀ σ H, Pv xs.length σ H → D.nx σ H) : tFor (iSeq K te) g tb D σ H := by
  have s0 : Same H0 H := hl 0 σ H (Nat.zero_le _) h0
  rcases hA with h | h
  · exact .inl (hte _ ⟨a, rfl, ⟨_, s0.seq h⟩, for_list Pv h0 (fun i σ H' hi p => (hl i σ H' hi p).seq h) hs hd⟩)
  · exact .inr (hte _ ⟨a, rfl, ⟨_, s0.seqT h⟩, for_tup Pv h0 (fun i σ H' hi p => (hl i σ H' hi p).seqT h) hs hd⟩)
theorem Part.trans {x y z : List Int} (h : Part x y) (k : Part y z) : Part x z := ⟨h.1, h.2.trans k.2⟩
theorem Part.refl {x : List Int} (h : x ≠ []) : Part x x := ⟨h, List.Sublist.refl x⟩
def spGenerated (K : PySem.W.Frag) : Sp := fun vs H Q _ => ∃ a xs S, vs = [.ref a] ∧ SqA K H a xs ∧ TL H xs S ∧ (∀ s ∈ S, s ≠ [] ∧ s.length ≤ 8) ∧ Few S ∧
  ∀ H' d kvs F, Same H H' → H d = none → H' d = some (.dT kvs) → KF kvs F → Faces S F → Q (.ref d) H'
theorem ok_generated (T : Tx K mg A) (G_parts_of : FnOk P w K mg base CX0 1 A.f_parts_of A.fd_parts_of ["simplex"] spParts_of) : FnOk P w K mg base CX0 2 A.f_generated A.fd_generated ["simplices"] (spGenerated K) := by
  refine T.F_generated.ok sc_generated (fun vs H Q E h => ?_) (fun cdv Ar outer s H vs Q E hr h => ⟨_, (pss_cons (ps_set (i := 1) sc_generated.nd rfl (by first | exact Or.inl rfl | exact Or.inr rfl) pe_dnewT)
    (pss_cons (ps_for PassesOwn.never rfl (pi_seqK K (pv 0)) (pg_name (i := 2) sc_generated.nd rfl (by first | exact Or.inl rfl | exact Or.inr rfl))
    (pss_one (ps_if (pt_cmp (pc_dnotin (hu_of hr) (pv 2) (pv 1))) (pss_cons (ps_for PassesOwn.never rfl (pi_listK K (pe_call G_parts_of (hr.mono (by decide)) (by rfl) T.g_parts_of T.k_parts_of T.bd_parts_of .nil pass0 (pa_cons (pv 2) pa_nil))) (pg_name (i := 3) sc_generated.nd rfl (by first | exact Or.inl rfl | exact Or.inr rfl))
    (pss_one (ps_dput (hu_of hr) (pv 1) (pv 3) pe_bl rfl)))
    (pss_one (ps_if (pt_cmpR op_gt (pe_callB call_len_dT (by rfl) (T.nb "len" (by decide)) PySem.boot_len (pa_cons (pv 1) pa_nil)) (pe_glob (v := .int 400) rfl T.e_MOST_FACES.choose_spec ⟨_, rfl⟩) (nomark _)) (pss_one ps_never) pss_nil))) pss_nil)))
    (pss_one (ps_ret (pv 1))))), ?_⟩)
  · obtain ⟨a, xs, S, rfl, _⟩ := h; rfl
  · obtain ⟨a, xs, S, rfl, hA, ht, hS, few, q⟩ := h
    intro d hd
    have lS := pl ht
    refine for_seq (a := a) (xs := xs) (fun i σ H' => ∃ kvs F v1 v2, σ = [some (.ref a), some (.ref d), v1, v2] ∧ Same H H' ∧ H' d = some (.dT kvs) ∧ KF kvs F ∧ Faces (S.take i) F)
      (fun _ q => ⟨_, rfl, q⟩) hA ⟨[], [], none, none, rfl, same_new hd, upd_same, KF.nil, List.nodup_nil, by simp⟩ (fun i σ H' _ ⟨_, _, _, _, _, s5, _⟩ => s5) ?_ ?_
    · rintro i y σ H' hi ⟨kvs, F, v1, v2, rfl, s5, hd', hk, hn, hF⟩
      obtain ⟨t, ht1, ty⟩ := pget ht hi
      have tI := ty.mono s5.keep
      have tS := hS t (List.mem_of_getElem? ht1)
      refine ⟨_, rfl, _, rfl, d, _, rfl, dget_I hd' tI, _, rfl, ?_⟩
      rw [hk.val t]
      by_cases hin : t ∈ F
      · rw [decide_eq_true hin]
        refine iteF ⟨kvs, F, _, _, rfl, s5, hd', hk, hn, fun x => ?_⟩
        rw [take_more ht1, hF x]
        constructor
        · rintro ⟨s, hs, hp⟩
          exact ⟨s, List.mem_append.mpr (.inl hs), hp⟩
        · rintro ⟨s, hs, hp⟩
          rcases List.mem_append.mp hs with hs | hs
          · exact ⟨s, hs, hp⟩
          · have : s = t := by simpa using hs
            subst this
            obtain ⟨s', hs', hp'⟩ := (hF s).mp hin
            exact ⟨s', hs', hp.trans hp'⟩
      · rw [decide_eq_false hin]
        refine iteT ?_
        refine ⟨_, rfl, _, t, rfl, tI, tS.2, fun H2 l s2 ⟨_, ps, el, hl2, tp⟩ => ?_⟩
        cases el
        have lP := pl tp
        have hF2 : ∀ j, ∀ F2 : List (List Int), F2.Nodup → (∀ x, x ∈ F2 ↔ x ∈ F ∨ x ∈ (partsOf t).take j) → F2.length ≤ 400 := fun j F2 n2 h2 => by
          refine few F2 n2 fun x hx => ?_
          rcases (h2 x).mp hx with h | h
          · obtain ⟨s, hs, hp⟩ := (hF x).mp h
            exact ⟨s, List.mem_of_mem_take hs, hp⟩
          · exact ⟨t, List.mem_of_getElem? ht1, mem_partsOf.mp (List.mem_of_mem_take h)⟩
        refine ⟨l, rfl, ⟨_, .of hl2⟩, for_list (xs := ps) (fun j σ' H3 => ∃ kvs F2 v2, σ' = [some (.ref a), some (.ref d), some y, v2] ∧ Same H H3 ∧ H3 l = some (.lst ps) ∧ TL H3 ps (partsOf t) ∧ H3 d = some (.dT kvs) ∧ KF kvs F2 ∧ F2.Nodup ∧ ∀ x, x ∈ F2 ↔ x ∈ F ∨ x ∈ (partsOf t).take j)
          ⟨kvs, F, v2, rfl, s5.trans s2, hl2, tp, s2 _ _ hd', hk, hn, by simp⟩ (fun j σ' H3 _ ⟨_, _, _, _, _, h, _⟩ => .of h) ?_ ?_⟩
        · rintro j z σ' H3 hj ⟨kvs2, F2, v3, rfl, s3, hl3, tp3, hd3, hk3, hn3, hF3⟩
          obtain ⟨u, hu, uy⟩ := pget tp3 hj
          have hlen := hF2 j F2 hn3 hF3
          refine ⟨_, rfl, _, rfl, d, _, rfl, dput_I hd3 uy (by rw [hk3.len]; exact Nat.lt_of_le_of_lt hlen (by decide)), ?_⟩
          have nld : l ≠ d := fun z => by rw [z, hd3] at hl3; cases hl3
          refine ⟨_, addI F2 u, _, rfl, ((s3.but (l := d)).upd).same hd, by rw [upd_ne nld]; exact hl3, tp3.mono (keep_dT hd3), upd_same, hk3.put u _, nodup_addI hn3, fun x => ?_⟩
          rw [mem_addI, hF3 x, take_more hu, List.mem_append, List.mem_singleton, or_assoc]
        · rintro σ' H3 ⟨kvs2, F2, v3, rfl, s3, hl3, tp3, hd3, hk3, hn3, hF3⟩
          have hlen := hF2 _ F2 hn3 hF3
          refine ⟨_, rfl, d, kvs2, rfl, hd3, _, _, rfl, rfl, _, rfl, ?_⟩
          rw [hk3.len]
          refine if_false_of (decide_eq_false (by omega)) ?_
          refine ⟨kvs2, F2, _, _, rfl, s3, hd3, hk3, hn3, fun x => ?_⟩
          rw [hF3 x, lP, List.take_length, take_more ht1, mem_partsOf, hF x]
          constructor
          · rintro (⟨s, hs, hp⟩ | hp)
            · exact ⟨s, List.mem_append.mpr (.inl hs), hp⟩
            · exact ⟨t, by simp, hp⟩
          · rintro ⟨s, hs, hp⟩
            rcases List.mem_append.mp hs with hs | hs
            · exact .inl ⟨s, hs, hp⟩
            · have : s = t := by simpa using hs
              subst this
              exact .inr hp
    · rintro σ H' ⟨kvs, F, v1, v2, rfl, s5, hd', hk, hF⟩
      rw [lS, List.take_length] at hF
      exact ⟨_, rfl, q _ _ _ _ s5 hd hd' hk hF⟩
end
end Fl

set_option Elab.async false
set_option linter.all false
set_option maxRecDepth 100000
set_option maxHeartbeats 4000000
namespace Fl
open PySem PySem.Spec PyProof.Rows L2
section
variable {P : Program} {w : World} {K : PySem.W.Frag} {mg : Str → Option Value} {base : Heap} {A : Ad}
/-- x is y without a vertex -/
def Inner (F : List (List Int)) (x : List Int) : Prop := ∃ y ∈ F, ∃ i, i < y.length ∧ x = cutAt y i
def Tops (F T : List (List Int)) : Prop := Srt T ∧ ∀ x, x ∈ T ↔ x ∈ F ∧ ¬ Inner F x
theorem innerB (G F : List (List Int)) (h : ∀ x, x ∈ G ↔ Inner F x) (x : List Int) : decide (x ∈ G) = true ↔ Inner F x := by rw [decide_eq_true_iff, h]
def spMaximal : Sp := fun vs H Q _ => ∃ d kvs F, vs = [.ref d] ∧ H d = some (.dT kvs) ∧ KF kvs F ∧ F.Nodup ∧ (∀ t ∈ F, t ≠ [] ∧ t.length ≤ 8) ∧ F.length ≤ 400 ∧ ∀ H' p T, Same H H' → TT' H' (.ref p) T → Tops F T → Q (.ref p) H'
theorem ok_maximal (T : Tx K mg A) : FnOk P w K mg base CX0 1 A.f_maximal A.fd_maximal ["faces"] spMaximal := by
  refine T.F_maximal.ok sc_maximal (fun vs H Q E h => ?_) (fun cdv Ar outer s H vs Q E hr h => ⟨_, (pss_cons (ps_set (i := 1) sc_maximal.nd rfl (by first | exact Or.inl rfl | exact Or.inr rfl) pe_dnewT)
    (pss_cons (ps_lock (ps_for PassesOwn.never rfl (pi_keys (pv 0)) (pg_name (i := 2) sc_maximal.nd rfl (by first | exact Or.inl rfl | exact Or.inr rfl))
    (pss_one (ps_for PassesOwn.never rfl (pi_range1 (by rfl) (T.nb "range" (by decide)) (pa_cons (pe_callB (call_len_seqK K) (by rfl) (T.nb "len" (by decide)) PySem.boot_len (pa_cons (pv 2) pa_nil)) pa_nil)) (pg_name (i := 3) sc_maximal.nd rfl (by first | exact Or.inl rfl | exact Or.inr rfl))
    (pss_one (ps_dput (hu_of hr) (pv 1) (pe_op (op_catAK K) (pe_slice (sl_tupAK K) (pv 2) po_none (po_some (pv 3))) (pe_slice (sl_tupAK K) (pv 2) (po_some (pe_op op_add (pv 3) pe_int)) po_none)) pe_bl rfl))))))
    (pss_one (ps_ret (pe_callTy (call_tuple_ofK K) (by rfl) (T.nb "tuple" (by decide)) (by decide +kernel) (pa_cons (pe_callB (cr_sortXK K) (by rfl) (T.nb "sorted" (by decide)) (by decide +kernel) (pa_cons (pe_lock (pe_lc (own := [("simplex", 2)]) (g := (gName 2)) rfl sc_maximal.nd (pi_keys (pv 0)) (blkOk_by (N := N_maximal) (sc := defScope s_maximal) (by decide +kernel)) (fun _ _ _ _ _ => (pg_name (i := 2) sc_maximal.nd rfl (by first | exact Or.inl rfl | exact Or.inr rfl))) (fun _ _ _ _ _ => pts_one (pt_cmp (pc_dnotin (hu_of hr) (pv 2) (pv 1)))) (fun _ _ _ _ _ => (pv 2)))) pa_nil)) pa_nil)))))), ?_⟩)
  · obtain ⟨a, kvs, F, rfl, _⟩ := h; rfl
  · obtain ⟨d, kvs, F, rfl, hd, hk, hn, hF, h400, q⟩ := h
    intro c hc
    have ncd : c ≠ d := fun z => by rw [z, hd] at hc; cases hc
    refine lock_keys (d := d) (kvs := kvs) (F := F) (by rw [upd_ne ncd.symm]; exact hd) (fun od Q q => ⟨_, rfl, q⟩) hk (fun od i σ H' => ∃ kv2 G v2 v3, σ = [some (.ref d), some (.ref c), v2, v3] ∧ Same (upd H d (.frz od (.dT kvs))) H' ∧ H' c = some (.dT kv2) ∧ KF kv2 G ∧ G.length ≤ 8 * i ∧ ∀ x, x ∈ G ↔ Inner (F.take i) x)
      (fun od => ⟨[], [], none, none, rfl, ?_, (by rw [upd_ne ncd]; exact upd_same), KF.nil, by simp, fun x => ?_⟩) (fun od i σ H' _ ⟨_, _, _, _, _, s5, _⟩ => s5 _ _ upd_same) ?_ ?_
    · intro b o e
      by_cases z : b = d
      · subst z; rw [upd_same] at e ⊢; exact e
      · rw [upd_ne z] at e ⊢
        rw [upd_ne (ne_of_none e hc)]; exact e
    · simp [Inner]
    · rintro od i x t σ H' ht tx ⟨kv2, G, v2, v3, rfl, s5, hc5, hk5, hG, hin⟩
      have tF := hF t (List.mem_of_getElem? ht)
      have hi400 : i < F.length := (List.getElem?_eq_some_iff.mp ht).1
      obtain ⟨b, rfl, hb⟩ := tx
      have nbc : b ≠ c := fun z => by rw [z, hc5] at hb; cases hb
      refine ⟨_, rfl, b, _, rfl, .inr (.of hb), (t.length : Int), (by rw [List.length_map]), (by have := tF.2; omega), (by have := tF.2; omega), for_rng (n := ((t.length : Nat) : Int).toNat) (fun j σ' H3 => ∃ kv2 G v3, σ' = [some (.ref d), some (.ref c), some (.ref b), v3] ∧ Same (upd H d (.frz od (.dT kvs))) H3 ∧ H3 c = some (.dT kv2) ∧ H3 b = some (.tup (t.map V.int)) ∧ KF kv2 G ∧ G.length ≤ 8 * i + j ∧ ∀ x, x ∈ G ↔ Inner (F.take i) x ∨ ∃ m, m < j ∧ x = cutAt t m)
        ⟨kv2, G, v3, rfl, s5, hc5, hb, hk5, by simpa using hG, by simp [hin]⟩ ?_ ?_⟩
      · rintro j σ' H3 hj ⟨kv3, G3, v4, rfl, s6, hc6, hb6, hk6, hG6, hin6⟩
        have hj' : j < t.length := by simpa using hj
        have n400 : kv3.length < sizeLine := by
          rw [hk6.len]
          have := tF.2
          exact Nat.lt_of_le_of_lt (by omega : _ ≤ 4000) (by decide)
        refine ⟨_, rfl, ?_⟩
        refine cut_out (t := t) (m := j) rfl rfl hb6 (by have := tF.2; omega) fun H4 y s7 hy => ?_
        refine ⟨c, _, rfl, dput_I (s7 _ _ hc6) hy n400, ?_⟩
        have s8 : Same (upd H d (.frz od (.dT kvs))) (upd H4 c (.dT (putK kv3 (kI (cutAt t j)) (V.bl true)))) := (((s6.trans s7).but (l := c)).upd).same (by rw [upd_ne ncd]; exact hc)
        refine ⟨_, addI G3 (cutAt t j), _, rfl, s8, upd_same, by rw [upd_ne nbc]; exact s7 _ _ hb6, hk6.put _ _, Nat.le_trans addI_len (by omega), fun x => ?_⟩
        rw [mem_addI, hin6 x, or_assoc]
        refine or_congr Iff.rfl ⟨?_, ?_⟩
        · rintro (⟨m, hm, e⟩ | e)
          · exact ⟨m, by omega, e⟩
          · exact ⟨j, by omega, e⟩
        · rintro ⟨m, hm, e⟩
          by_cases h : m = j
          · subst h; exact .inr e
          · exact .inl ⟨m, by omega, e⟩
      · rintro σ' H3 ⟨kv3, G3, v4, rfl, s6, hc6, hb6, hk6, hG6, hin6⟩
        have e8 : ((t.length : Nat) : Int).toNat = t.length := by simp
        rw [e8] at hG6 hin6
        refine ⟨kv3, G3, _, _, rfl, s6, hc6, hk6, by have := tF.2; omega, fun x => ?_⟩
        rw [hin6 x, take_more ht]
        constructor
        · rintro (⟨y, hy, m, hm, e⟩ | ⟨m, hm, e⟩)
          · exact ⟨y, List.mem_append.mpr (.inl hy), m, hm, e⟩
          · exact ⟨t, by simp, m, hm, e⟩
        · rintro ⟨y, hy, m, hm, e⟩
          rcases List.mem_append.mp hy with hy | hy
          · exact .inl ⟨y, hy, m, hm, e⟩
          · have : y = t := by simpa using hy
            subst this
            exact .inr ⟨m, hm, e⟩
    · rintro od σ H' ⟨kv2, G, v2, v3, rfl, s5, hc5, hk5, hG, hin⟩
      rw [List.take_length] at hin
      have s6 : Same H (upd H' d (.dT kvs)) := upd_back hd s5
      have hd6 : (upd H' d (.dT kvs)) d = some (.dT kvs) := upd_same
      have hc6 : (upd H' d (.dT kvs)) c = some (.dT kv2) := by rw [upd_ne ncd]; exact hc5
      revert s6 hd6 hc6
      generalize upd H' d (.dT kvs) = H5
      intro s6 hd6 hc6
      unfold tRet tCB tCons tNil
      refine lc_keys (F := F) hd6 (fun od Q q => ⟨_, rfl, q⟩) hk Ti (fun x => !decide (x ∈ G)) id (fun _ _ _ _ k h => h.mono k) (Nat.lt_of_le_of_lt h400 (by decide)) ?_ ?_
      · intro od i x t H2 Ny Nn ht tx sm hy hn
        have hc7 : H2 c = some (.dT kv2) := sm _ _ (by rw [upd_ne ncd]; exact hc6)
        refine ⟨rfl, _, rfl, _, rfl, c, _, rfl, dget_I hc7 tx, _, rfl, ?_⟩
        rw [hk5.val t]
        by_cases hg : t ∈ G
        · rw [decide_eq_true hg]
          exact iteF (hn (by simp [hg]) _ (Same.refl _))
        · rw [decide_eq_false hg]
          exact iteT ⟨_, rfl, hy (by simp [hg]) _ _ (Same.refl _) tx⟩
      · intro H7 D ys s7 hD0 hD7 hp
        rw [List.map_id] at hp
        refine sortT (.inl (.of hD7)) hp (fun t ht => (hF t (List.mem_filter.mp ht).1).1) fun p zs T' hp0 tz pm wk => ?_
        refine tupleL upd_same fun l hl => ?_
        refine q _ l T' ((s6.trans s7).new hp0 |>.new hl) ⟨l, zs, rfl, upd_same, tz.mono (keep_new hl)⟩ ⟨wk.srt (pm.nodup_iff.mpr (hn.filter _)), fun x => ?_⟩
        rw [pm.mem_iff, List.mem_filter]
        simp [hin]
end
end Fl

set_option Elab.async false
set_option linter.all false
set_option maxRecDepth 100000
set_option maxHeartbeats 4000000
namespace Fl
open PySem PySem.Spec PyProof.Rows L2
section
variable {P : Program} {w : World} {K : PySem.W.Frag} {mg : Str → Option Value} {base : Heap} {A : Ad}
theorem kft : ¬ (("faces" : Str) = "tops") := by decide +kernel
def flds (d : Addr) (t : V) : List (Str × V) := putF "tops" t (putF "faces" (.ref d) [])
theorem flds_faces (d : Addr) (t : V) : (flds d t).lookup ("faces" : Str) = some (.ref d) := by
  unfold flds
  rw [lookup_putF, if_neg kft, lookup_putF, if_pos rfl]
theorem flds_tops (d : Addr) (t : V) : (flds d t).lookup ("tops" : Str) = some t := by
  unfold flds
  rw [lookup_putF, if_pos rfl]
/-- faces as they may be -/
structure Fok (F : List (List Int)) : Prop where
  nd : F.Nodup
  len : F.length ≤ 400
  sz : ∀ t ∈ F, t ≠ [] ∧ t.length ≤ 8
/-- a complex stands at p: its faces F, its facets T -/
def Shp (C : Addr) (H : Hp) (p : Addr) (F T : List (List Int)) : Prop := ∃ dx d kvs t, H p = some (.ins C dx (flds d t)) ∧ H d = some (.dT kvs) ∧ KF kvs F ∧ TT' H t T ∧ Fok F
theorem Shp.mono {C : Addr} {H H' : Hp} {p : Addr} {F T : List (List Int)} (h : Shp C H p F T) (s : Same H H') : Shp C H' p F T := let ⟨dx, d, kvs, t, h1, h2, h3, h4, h5⟩ := h; ⟨dx, d, kvs, t, s _ _ h1, s _ _ h2, h3, h4.mono s.keep, h5⟩
/-- what a complex may be made of -/
structure Good (S : List (List Int)) : Prop where
  len : S.length ≤ 400
  simp : ∀ s ∈ S, simpB s = true
  few : Few S
theorem simp_len {s : List Int} (h : simpB s = true) : s ≠ [] ∧ s.length ≤ 8 := by
  unfold simpB ascB at h
  simp only [Bool.and_eq_true, decide_eq_true_eq] at h
  obtain ⟨⟨⟨h1, h2⟩, _⟩, _⟩ := h
  refine ⟨fun e => ?_, by omega⟩
  subst e
  simp at h1
def spInit (C : Addr) : Sp := fun vs H Q _ => ∃ p dx a xs S, vs = [.ref p, .ref a] ∧ H p = some (.ins C dx []) ∧ H a = some (.tup xs) ∧ TL H xs S ∧ Good S ∧
  ∀ H' F T, But p H H' → Shp C H' p F T → Faces S F → Tops F T → Q .non H'
theorem ok_init (T : Tx K mg A) (G_is_list : FnOk P w K mg base CX0 1 A.f_is_list A.fd_is_list ["value", "least", "most"] spIs_list) (G_is_simplex : FnOk P w K mg base CX0 4 A.f_is_simplex A.fd_is_simplex ["value"] spIs_simplex)
    (G_generated : FnOk P w K mg base CX0 2 A.f_generated A.fd_generated ["simplices"] (spGenerated K)) (G_maximal : FnOk P w K mg base CX0 1 A.f_maximal A.fd_maximal ["faces"] spMaximal) :
    FnOk P w K mg base CX0 5 A.f_init A.fd_init ["self", "simplices"] (spInit A.C) := by
  refine T.F_init.ok sc_init (fun vs H Q E h => ?_) (fun cdv Ar outer s H vs Q E hr h => ⟨_, (pss_cons (ps_if (pt_not (pt_val (pe_call G_is_list (hr.mono (by decide)) (by rfl) T.g_is_list T.k_is_list T.bd_is_list .nil pass0 (pa_cons (pv 1) (pa_cons pe_int (pa_cons (pe_glob (v := .int 400) rfl T.e_MOST_FACES.choose_spec ⟨_, rfl⟩) pa_nil)))))) (pss_one ps_never) pss_nil)
    (pss_cons (ps_for PassesOwn.never rfl (pi_enumT (by rfl) (T.nb "enumerate" (by decide)) (pa_cons (pv 1) pa_nil)) (pg_tupK K rfl (pgs_cons (pg_name (i := 2) sc_init.nd rfl (by first | exact Or.inl rfl | exact Or.inr rfl)) (pgs_cons (pg_name (i := 3) sc_init.nd rfl (by first | exact Or.inl rfl | exact Or.inr rfl)) pgs_nil)))
    (pss_one (ps_if (pt_not (pt_val (pe_call G_is_simplex (hr.mono (by decide)) (by rfl) T.g_is_simplex T.k_is_simplex T.bd_is_simplex .nil pass0 (pa_cons (pv 3) pa_nil)))) (pss_one ps_never) pss_nil)))
    (pss_cons (ps_fld (pv 0) (pe_call G_generated (hr.mono (by decide)) (by rfl) T.g_generated T.k_generated T.bd_generated .nil pass0 (pa_cons (pv 1) pa_nil)) rfl)
    (pss_one (ps_fld (pv 0) (pe_call G_maximal (hr.mono (by decide)) (by rfl) T.g_maximal T.k_maximal T.bd_maximal .nil pass0 (pa_cons (pe_fldK K (pv 0)) pa_nil)) rfl))))), ?_⟩)
  · obtain ⟨p, dx, a, xs, S, rfl, _⟩ := h; rfl
  · obtain ⟨p, dx, a, xs, S, rfl, hp, ha, ht, gd, q⟩ := h
    have npa : p ≠ a := fun z => by rw [z, ha] at hp; cases hp
    have lS := pl ht
    refine ⟨_, rfl, _, _, _, rfl, .inl ⟨a, xs, rfl, ha, _, rfl, ?_⟩⟩
    have := gd.len
    rw [decide_eq_true (by omega)]
    refine iteF ?_
    refine ⟨_, rfl, a, xs, rfl, .of ha, for_enumT (fun i σ H' => ∃ v2 v3, σ = [some (.ref p), some (.ref a), v2, v3] ∧ Same H H') ⟨none, none, rfl, Same.refl _⟩ (fun i σ H' _ ⟨_, _, _, s5⟩ => .of (s5 _ _ ha)) ?_ ?_⟩
    · rintro i x σ H' Tp hx ⟨v2, v3, rfl, s5⟩ hT
      obtain ⟨t, hti, tx⟩ := pget ht hx
      have s6 := s5.new (o := .tup [.int (i : Nat), x]) hT
      have tS := gd.simp t (List.mem_of_getElem? hti)
      have t8 := (simp_len tS).2
      refine ⟨Tp, _, rfl, .of upd_same, rfl, _, _, rfl, _, _, rfl, rfl, ?_⟩
      refine ⟨_, rfl, x, rfl, .inl ⟨t, tx.mono s6.keep, by omega, fun H4 s7 => ⟨_, rfl, ?_⟩⟩⟩
      rw [tS]
      exact iteF ⟨_, _, rfl, s6.trans s7⟩
    · rintro σ H' ⟨v2, v3, rfl, s5⟩
      refine ⟨_, rfl, a, xs, S, rfl, .inr (.of (s5 _ _ ha)), ht.mono s5.keep, fun s hs => simp_len (gd.simp s hs), gd.few, fun H2 d kvs F s6 hd0 hd2 hk hF => ?_⟩
      have s56 := s5.trans s6
      have hp2 := s56 _ _ hp
      have npd : p ≠ d := fun z => by rw [z, hd2] at hp2; cases hp2
      refine ⟨_, rfl, p, A.C, dx, [], rfl, hp2, T.clC, T.nF, (by show 0 < 1000; decide), ?_⟩
      have hF8 : ∀ t ∈ F, t ≠ [] ∧ t.length ≤ 8 := fun t ht => by
        obtain ⟨s, hs, h1, h2⟩ := (hF.2 t).mp ht
        have := (simp_len (gd.simp s hs)).2
        exact ⟨h1, Nat.le_trans h2.length_le this⟩
      have hF400 : F.length ≤ 400 := gd.few F hF.1 fun x hx => (hF.2 x).mp hx
      refine ⟨_, rfl, p, A.C, dx, _, _, rfl, upd_same, T.clC, T.nF, (by rw [lookup_putF, if_pos rfl]), d, kvs, F, rfl, by rw [upd_ne npd.symm]; exact hd2, hk, hF.1, hF8, hF400, fun H4 l T2 s7 ht2 hT2 => ?_⟩
      have hp4 := s7 _ _ (upd_same (H := H2) (a := p))
      refine ⟨_, rfl, p, A.C, dx, _, rfl, hp4, T.clC, T.nT, (by show 1 < 1000; decide), ?_⟩
      refine q _ F T2 (((s56.but.upd).trans s7.but).upd) ⟨dx, d, kvs, .ref l, upd_same, ?_, hk, ht2.mono (keep_upd fun xs e => by rw [hp4] at e; cases e), hF.1, hF400, hF8⟩ hF hT2
      rw [upd_ne npd.symm]
      exact s7 _ _ (by rw [upd_ne npd.symm]; exact hd2)
end
end Fl

set_option Elab.async false
set_option linter.all false
set_option maxRecDepth 100000
set_option maxHeartbeats 4000000
namespace Fl
open PySem PySem.Spec PyProof.Rows L2
section
variable {P : Program} {w : World} {K : PySem.W.Frag} {mg : Str → Option Value} {base : Heap} {A : Ad}
theorem Fok.lt {F : List (List Int)} (h : Fok F) : F.length < sizeLine := Nat.lt_of_le_of_lt h.len (by decide)
theorem Tx.inst (T : Tx K mg A) {H : Hp} {p dx : Addr} {fs : List (Str × V)} (h : H p = some (.ins A.C dx fs)) : TyX K H (.ref p) (.ref A.C) := .base (.ins h T.clC T.inC1 T.inC2 T.inC3 T.inC4)
theorem ok_facets (T : Tx K mg A) : FnOk P w K mg base CX0 1 A.f_facets A.fd_facets ["self"] (getSp A.C "tops") := by
  obtain ⟨oc, od, kV, doc, pm, an, cdv, ct, osl, e, lk, hcd⟩ := T.F_facets.ex
  rw [e] at lk ⊢
  exact fn_getter lk hcd sc_facets rfl rfl T.clC T.nT
/-- the same facets -/
def SameTops (C : Addr) (a b : Addr) (H : Hp) : Prop := ∃ F G T, Shp C H a F T ∧ Shp C H b G T
theorem ok_eq (T : Tx K mg A) : FnOk P w K mg base CX0 1 A.f_eq A.fd_eq ["self", "other"] (spEq (SameTops A.C)) := by
  refine T.F_eq.ok sc_eq (fun vs H Q E h => ?_) (fun cdv Ar outer s H vs Q E hr h => ⟨_, (pss_one (ps_ret (pe_and (pe_callB (call_isiK K) (by rfl) (T.nb "isinstance" (by decide)) (by decide +kernel) (pa_cons (pv 1) (pa_cons (pe_glob (v := .ref A.C) rfl T.g_Complex rfl) pa_nil))) (pe_one (pe_cmpR (op_eqDK K hr.units) (pe_fldK K (pv 0)) (pe_fldK K (pv 1)) (nomark _)))))), ?_⟩)
  · obtain ⟨a, b, rfl, _⟩ := h; rfl
  · obtain ⟨a, b, rfl, ⟨F, G, T1, ⟨dx, d, kvs, t, h1, h2, h3, h4, h5⟩, ⟨dy, e, kvs2, u, g1, g2, g3, g4, g5⟩⟩, q⟩ := h
    refine ⟨_, rfl, _, _, _, _, _, rfl, .own A.C, T.inst g1, T.isC, true, rfl, iteT ?_⟩
    refine ⟨_, rfl, a, A.C, dx, _, _, rfl, h1, T.clC, T.nT, flds_tops d t, _, rfl, b, A.C, dy, _, _, rfl, g1, T.clC, T.nT, flds_tops e u, ?_⟩
    refine eqTT h4 g4 ?_
    rw [decide_eq_true rfl]
    exact q H (fun _ _ h => h)
def spNeed (C : Addr) : Sp := fun vs H Q _ => ∃ p dx fs, vs = [.ref p] ∧ H p = some (.ins C dx fs) ∧ Q .non H
theorem ok_need_complex (T : Tx K mg A) : FnOk P w K mg base CX0 1 A.f_need_complex A.fd_need_complex ["value"] (spNeed A.C) := by
  refine T.F_need_complex.ok sc_need_complex (fun vs H Q E h => ?_) (fun cdv Ar outer s H vs Q E hr h => ⟨_, (pss_one (ps_if (pt_not (pt_val (pe_callB (call_isiK K) (by rfl) (T.nb "isinstance" (by decide)) (by decide +kernel) (pa_cons (pv 0) (pa_cons (pe_glob (v := .ref A.C) rfl T.g_Complex rfl) pa_nil))))) (pss_one ps_never) pss_nil)), ?_⟩)
  · obtain ⟨p, dx, fs, rfl, _⟩ := h; rfl
  · obtain ⟨p, dx, fs, rfl, hp, q⟩ := h
    exact ⟨_, rfl, _, _, _, _, _, rfl, .own A.C, T.inst hp, T.isC, true, rfl, iteF q⟩
def spMade (C : Addr) : Sp := fun vs H Q _ => ∃ a xs S, vs = [.ref a] ∧ H a = some (.lst xs) ∧ TL H xs S ∧ (∀ s ∈ S, s ≠ [] ∧ s.length ≤ 8) ∧ Few S ∧ (∀ F T, Faces S F → Tops F T → Good T) ∧
  ∀ H' p F T F2 T2, Same H H' → H p = none → Shp C H' p F2 T2 → Faces S F → Tops F T → Faces T F2 → Tops F2 T2 → Q (.ref p) H'
theorem ok_made (T : Tx K mg A) (G_generated : FnOk P w K mg base CX0 2 A.f_generated A.fd_generated ["simplices"] (spGenerated K)) (G_maximal : FnOk P w K mg base CX0 1 A.f_maximal A.fd_maximal ["faces"] spMaximal)
    (G_init : FnOk P w K mg base CX0 5 A.f_init A.fd_init ["self", "simplices"] (spInit A.C)) : FnOk P w K mg base CX0 7 A.f_made A.fd_made ["simplices"] (spMade A.C) := by
  refine T.F_made.ok sc_made (fun vs H Q E h => ?_) (fun cdv Ar outer s H vs Q E hr h => ⟨_, (pss_one (ps_ret (pe_make T.mkC G_init (hr.mono (by decide)) (by rfl) T.g_Complex T.bd_init .nil pass0 (pa_cons (pe_call G_maximal (hr.mono (by decide)) (by rfl) T.g_maximal T.k_maximal T.bd_maximal .nil pass0 (pa_cons (pe_call G_generated (hr.mono (by decide)) (by rfl) T.g_generated T.k_generated T.bd_generated .nil pass0 (pa_cons (pv 0) pa_nil)) pa_nil)) pa_nil)))), ?_⟩)
  · obtain ⟨a, xs, S, rfl, _⟩ := h; rfl
  · obtain ⟨a, xs, S, rfl, ha, ht, h8, few, gd, q⟩ := h
    refine ⟨_, rfl, a, xs, S, rfl, .inl (.of ha), ht, h8, few, fun H1 d kvs F s1 hd0 hd hk hF => ?_⟩
    have hF8 : ∀ t ∈ F, t ≠ [] ∧ t.length ≤ 8 := fun t ht => by
      obtain ⟨s, hs, h1, h2⟩ := (hF.2 t).mp ht
      exact ⟨h1, Nat.le_trans h2.length_le (h8 s hs).2⟩
    have hF400 : F.length ≤ 400 := few F hF.1 fun x hx => (hF.2 x).mp hx
    refine ⟨d, kvs, F, rfl, hd, hk, hF.1, hF8, hF400, fun H2 l T1 s2 ht2 hT1 => ?_⟩
    obtain ⟨l', ys, el, hl, tl⟩ := ht2
    cases el
    intro p dx hp hdx ndp
    have s3 : Same H2 (upd H2 dx (.own p)) := same_new hdx
    have hp3 : (upd H2 dx (.own p)) p = none := by rw [upd_ne ndp.symm]; exact hp
    have s4 : Same H2 (upd (upd H2 dx (.own p)) p (.ins A.C dx [])) := s3.new hp3
    refine ⟨p, dx, l, ys, T1, rfl, upd_same, s4 _ _ hl, tl.mono s4.keep, gd F T1 hF hT1, fun H5 F2 T2 s5 sh hF2 hT2 => ⟨rfl, ?_⟩⟩
    have hp0 : H p = none := (s1.trans s2).free hp
    have s6 : Same H2 H5 := fun b o e => by
      have nb : b ≠ p := fun z => by rw [z, hp] at e; cases e
      exact s5 b o nb (s4 b o e)
    exact q H5 p F T1 F2 T2 (s1.trans (s2.trans s6)) hp0 sh hF hT1 hF2 hT2
def spVertices_in (C : Addr) : Sp := fun vs H Q _ => ∃ p F T, vs = [.ref p] ∧ Shp C H p F T ∧ ∀ (H' : Hp) (l : Addr) (ns : List Int), Same H H' → H l = none → H' l = some (.lst (ns.map V.int)) → ns.Pairwise (· < ·) → (∀ n, n ∈ ns ↔ [n] ∈ F) → Q (.ref l) H'
theorem lt_of_le_nodup {ns : List Int} (h : ns.Pairwise (· ≤ ·)) (n : ns.Nodup) : ns.Pairwise (· < ·) := by
  refine (List.pairwise_iff_getElem.mpr fun i j hi hj hij => ?_)
  have h1 := List.pairwise_iff_getElem.mp h i j hi hj hij
  have h2 := List.pairwise_iff_getElem.mp n i j hi hj hij
  omega
theorem ok_vertices_in (T : Tx K mg A) : FnOk P w K mg base CX0 1 A.f_vertices_in A.fd_vertices_in ["shape"] (spVertices_in A.C) := by
  refine T.F_vertices_in.ok sc_vertices_in (fun vs H Q E h => ?_) (fun cdv Ar outer s H vs Q E hr h => ⟨_, (pss_one (ps_ret (pe_callB (cr_sortNK K) (by rfl) (T.nb "sorted" (by decide)) (by decide +kernel) (pa_cons (pe_lock (pe_lc (own := [("simplex", 1)]) (g := (gName 1)) rfl sc_vertices_in.nd (pi_keys (pe_fldK K (pv 0))) (blkOk_by (N := N_vertices_in) (sc := defScope s_vertices_in) (by decide +kernel)) (fun _ _ _ _ _ => (pg_name (i := 1) sc_vertices_in.nd rfl (by first | exact Or.inl rfl | exact Or.inr rfl))) (fun _ _ _ _ _ => pts_one (pt_cmpR op_eq (pe_callB (call_len_seqK K) (by rfl) (T.nb "len" (by decide)) PySem.boot_len (pa_cons (pv 1) pa_nil)) pe_int (nomark _))) (fun _ _ _ _ _ => (pe_ix (ix_tupK K) (pv 1) pe_int (fun _ _ => rfl))))) pa_nil)))), ?_⟩)
  · obtain ⟨p, F, T1, rfl, _⟩ := h; rfl
  · obtain ⟨p, F, T1, rfl, ⟨dx, d, kvs, t, h1, h2, h3, h4, h5⟩, q⟩ := h
    have npd : p ≠ d := fun z => by rw [z, h2] at h1; cases h1
    unfold tRet tCB tCons tNil
    refine lc_keys (F := F) h2 (fun od Q q => ⟨_, rfl, p, A.C, dx, _, _, rfl, by rw [upd_ne npd]; exact h1, T.clC, T.nF, flds_faces d t, q⟩) h3 (fun _ y n => y = V.int n) (fun x => decide (x.length = 1)) (fun x => x.headD 0) (fun _ _ _ _ _ h => h) h5.lt ?_ ?_
    · intro od i x u H2 Ny Nn hu tx sm hy hn
      obtain ⟨b, rfl, hb⟩ := tx
      refine ⟨rfl, _, rfl, b, _, rfl, .inr (.of hb), rfl, _, rfl, ?_⟩
      rw [List.length_map]
      by_cases hl : u.length = 1
      · have e1 : decide (V.int ((u.length : Nat) : Int) = V.int 1) = true := by rw [hl]; rfl
        rw [e1]
        obtain ⟨z, rfl⟩ := List.length_eq_one_iff.mp hl
        exact iteT ⟨_, rfl, b, _, 0, _, rfl, rfl, .of hb, rfl, hy (by simp) _ _ (Same.refl _) rfl⟩
      · have e1 : decide (V.int ((u.length : Nat) : Int) = V.int 1) = false := by
          rw [decide_eq_false]
          intro z
          injection z with z
          omega
        rw [e1]
        exact iteF (hn (by simp [hl]) _ (Same.refl _))
    · intro H7 D ys s7 hD0 hD7 hp
      rw [peq hp] at hD7
      refine ⟨D, _, rfl, .inl (.of hD7), fun ms l pm pw hl => ?_⟩
      have key : ∀ n, n ∈ (List.map (fun x => x.headD 0) (F.filter fun x => decide (x.length = 1))) ↔ [n] ∈ F := fun n => by
        rw [List.mem_map]
        constructor
        · rintro ⟨x, hx, rfl⟩
          obtain ⟨hx1, hx2⟩ := List.mem_filter.mp hx
          obtain ⟨z, rfl⟩ := List.length_eq_one_iff.mp (of_decide_eq_true hx2)
          exact hx1
        · intro h
          exact ⟨[n], List.mem_filter.mpr ⟨h, by simp⟩, rfl⟩
      have nd : (List.map (fun x => x.headD 0) (F.filter fun x => decide (x.length = 1))).Nodup := by
        refine List.pairwise_map.mpr (List.Pairwise.imp_of_mem (fun {a b} ha hb hab => ?_) (h5.nd.filter _))
        obtain ⟨_, ha2⟩ := List.mem_filter.mp ha
        obtain ⟨_, hb2⟩ := List.mem_filter.mp hb
        obtain ⟨z, rfl⟩ := List.length_eq_one_iff.mp (of_decide_eq_true ha2)
        obtain ⟨y, rfl⟩ := List.length_eq_one_iff.mp (of_decide_eq_true hb2)
        intro e
        apply hab
        simpa using e
      refine q _ l ms (s7.new hl) (s7.free hl) upd_same (lt_of_le_nodup pw (pm.nodup_iff.mpr nd)) fun n => ?_
      rw [pm.mem_iff, key]
def cnt (F : List (List Int)) (k : Nat) : Int := ((F.filter fun x => decide (x.length = k)).length : Nat)
theorem cnt_snoc (F : List (List Int)) (t : List Int) (k : Nat) : cnt (F ++ [t]) k = cnt F k + if t.length = k then 1 else 0 := by
  unfold cnt
  rw [List.filter_append, List.length_append]
  by_cases h : t.length = k <;> simp [h]
def Sz3 (F : List (List Int)) : Prop := (∃ t ∈ F, t.length = 3) ∧ ∀ t ∈ F, t.length ≤ 3
def spCounts_in (C : Addr) : Sp := fun vs H Q _ => ∃ p F T, vs = [.ref p] ∧ Shp C H p F T ∧ Sz3 F ∧ ∀ H' l, Same H H' → H l = none → H' l = some (.lst [.int (cnt F 1), .int (cnt F 2), .int (cnt F 3)]) → Q (.ref l) H'
theorem ok_counts_in (T : Tx K mg A) : FnOk P w K mg base CX0 1 A.f_counts_in A.fd_counts_in ["shape"] (spCounts_in A.C) := by
  refine T.F_counts_in.ok sc_counts_in (fun vs H Q E h => ?_) (fun cdv Ar outer s H vs Q E hr h => ⟨_, (pss_cons (ps_set (i := 2) sc_counts_in.nd rfl (by first | exact Or.inl rfl | exact Or.inr rfl) (pe_callB (cr_maxK K rfl) (by rfl) (T.nb "max" (by decide)) (by decide +kernel) (pa_cons (pe_op op_cat (pe_lock (pe_lc (own := [("simplex", 1)]) (g := (gName 1)) rfl sc_counts_in.nd (pi_keys (pe_fldK K (pv 0))) (blkOk_by (N := N_counts_in) (sc := defScope s_counts_in) (by decide +kernel)) (fun _ _ _ _ _ => (pg_name (i := 1) sc_counts_in.nd rfl (by first | exact Or.inl rfl | exact Or.inr rfl))) (fun _ _ _ _ _ => pts_nil) (fun _ _ _ _ _ => (pe_callB (call_len_seqK K) (by rfl) (T.nb "len" (by decide)) PySem.boot_len (pa_cons (pv 1) pa_nil))))) (pe_lst (pa_cons pe_int pa_nil))) pa_nil)))
    (pss_cons (ps_set (i := 3) sc_counts_in.nd rfl (by first | exact Or.inl rfl | exact Or.inr rfl) (pe_op op_rep (pe_lst (pa_cons pe_int pa_nil)) (pv 2)))
    (pss_cons (ps_lock (ps_for PassesOwn.never rfl (pi_keys (pe_fldK K (pv 0))) (pg_name (i := 1) sc_counts_in.nd rfl (by first | exact Or.inl rfl | exact Or.inr rfl))
    (pss_one (ps_augS (pv 3) (pe_op op_sub (pe_callB (call_len_seqK K) (by rfl) (T.nb "len" (by decide)) PySem.boot_len (pa_cons (pv 1) pa_nil)) pe_int) get_ix pe_int ip_add set_list))))
    (pss_one (ps_ret (pv 3)))))), ?_⟩)
  · obtain ⟨p, F, T1, rfl, _⟩ := h; rfl
  · obtain ⟨p, F, T1, rfl, ⟨dx, d, kvs, t, h1, h2, h3, h4, h5⟩, ⟨⟨t3, ht3, ht3l⟩, hz⟩, q⟩ := h
    have npd : p ≠ d := fun z => by rw [z, h2] at h1; cases h1
    unfold tSeq tAsg tCB tCons tOp tNil
    refine lc_keys (F := F) h2 (fun od Q q => ⟨_, rfl, p, A.C, dx, _, _, rfl, by rw [upd_ne npd]; exact h1, T.clC, T.nF, flds_faces d t, q⟩) h3 (fun _ y n => y = V.int n) (fun x => true) (fun x => (x.length : Nat)) (fun _ _ _ _ _ h => h) h5.lt ?_ ?_
    · intro od i x u H2 Ny Nn hu tx sm hy hn
      obtain ⟨b, rfl, hb⟩ := tx
      exact ⟨rfl, yesI (A := fun H3 => _) (B := Nn) ⟨_, rfl, b, _, rfl, .inr (.of hb), by rw [List.length_map]; exact hy rfl _ _ (Same.refl _) rfl⟩⟩
    · intro H7 D ys s7 hD0 hD7 hp
      rw [peq hp, filter_tt] at hD7
      refine ⟨(by show 1 ≤ sizeLine; decide), fun l0 hl0 => ?_⟩
      refine ⟨D, l0, _, _, rfl, rfl, same_new hl0 _ _ hD7, upd_same, ?_, fun l1 hl1 => ?_⟩
      · rw [List.length_map, List.length_map]
        show F.length + 1 ≤ sizeLine
        exact h5.lt
      · have e1 : (List.map V.int (List.map (fun x : List Int => ((x.length : Nat) : Int)) F) ++ [V.int 0]) = (List.map (fun x : List Int => ((x.length : Nat) : Int)) F ++ [0]).map V.int := by rw [List.map_append]; rfl
        refine ⟨l1, _, rfl, .of (by rw [upd_same, e1]), by simp, fun m hm hle => ?_⟩
        have m3 : m = 3 := by
          have h3 := hle 3 (List.mem_append.mpr (.inl (List.mem_map.mpr ⟨t3, ht3, by rw [ht3l]; rfl⟩)))
          rcases List.mem_append.mp hm with hm | hm
          · obtain ⟨u, hu, rfl⟩ := List.mem_map.mp hm
            have := hz u hu
            omega
          · have : m = 0 := by simpa using hm
            omega
        subst m3
        have hl10 : l1 ≠ l0 := fun z => by rw [z, upd_same] at hl1; cases hl1
        have e2 : upd (upd H7 l0 (.lst [.int 0])) l1 (.lst (List.map V.int (List.map (fun x : List Int => ((x.length : Nat) : Int)) F) ++ [V.int 0])) l1 = some (.lst (List.map V.int (List.map (fun x : List Int => ((x.length : Nat) : Int)) F) ++ [V.int 0])) := upd_same
        have s8 : Same H (upd (upd H7 l0 (.lst [.int 0])) l1 (.lst (List.map V.int (List.map (fun x : List Int => ((x.length : Nat) : Int)) F) ++ [V.int 0]))) := (s7.new hl0).new hl1
        revert s8
        generalize upd (upd H7 l0 (.lst [.int 0])) l1 (.lst (List.map V.int (List.map (fun x : List Int => ((x.length : Nat) : Int)) F) ++ [V.int 0])) = H8
        intro s8
        refine ⟨(by show 1 ≤ sizeLine; decide), fun l2 hl2 => ⟨_, rfl, l2, 3, _, rfl, rfl, upd_same, by decide, by decide, (by show 1 * 3 ≤ sizeLine; decide), fun l3 hl3 => ?_⟩⟩
        have s9 := (s8.new hl2).new (o := .lst (List.replicate (3 : Int).toNat [V.int 0]).flatten) hl3
        have hl30 : H l3 = none := (s8.new hl2).free hl3
        have e3 : upd (upd H8 l2 (.lst [.int 0])) l3 (.lst (List.replicate (3 : Int).toNat [V.int 0]).flatten) l3 = some (.lst [.int 0, .int 0, .int 0]) := upd_same
        revert s9 e3
        generalize upd (upd H8 l2 (.lst [.int 0])) l3 (.lst (List.replicate (3 : Int).toNat [V.int 0]).flatten) = H9
        intro s9 e3
        have n3d : l3 ≠ d := fun z => by rw [z, h2] at hl30; cases hl30
        refine lock_keys (s9 _ _ h2) (fun od Q q => ⟨_, rfl, p, A.C, dx, _, _, rfl, by rw [upd_ne npd]; exact s9 _ _ h1, T.clC, T.nF, flds_faces d t, q⟩) h3 (fun od i σ H' => ∃ v1, σ = [some (.ref p), v1, some (.int 3), some (.ref l3)] ∧ Same (upd H d (.frz od (.dT kvs))) H' ∧ H' l3 = some (.lst [.int (cnt (F.take i) 1), .int (cnt (F.take i) 2), .int (cnt (F.take i) 3)]))
          (fun od => ⟨none, rfl, ?_, by rw [upd_ne n3d]; exact e3⟩) (fun od i σ H' _ ⟨_, _, s5, _⟩ => s5 _ _ upd_same) ?_ ?_
        · intro b o e
          by_cases z : b = d
          · subst z; rw [upd_same] at e ⊢; exact e
          · rw [upd_ne z] at e ⊢
            exact s9 _ _ e
        · rintro od i x u σ H' hu tx ⟨v1, rfl, s5, hl5⟩
          obtain ⟨b, rfl, hb⟩ := tx
          have hu3 := hz u (List.mem_of_getElem? hu)
          have hu0 := (h5.sz u (List.mem_of_getElem? hu)).1
          have hu1 : 0 < u.length := List.length_pos_iff.mpr hu0
          have hl3f : (upd H d (.frz od (.dT kvs))) l3 = none := by rw [upd_ne n3d]; exact hl30
          have h123 : u.length = 1 ∨ u.length = 2 ∨ u.length = 3 := by omega
          have tk := take_more hu
          refine ⟨_, rfl, _, rfl, b, _, rfl, .inr (.of hb), _, _, rfl, rfl, ?_⟩
          rw [List.length_map]
          rcases h123 with e | e | e
          · rw [e]
            refine ⟨l3, _, 0, _, rfl, rfl, .of hl5, rfl, _, _, rfl, rfl, l3, _, _, 0, rfl, rfl, hl5, rfl, _, rfl, (s5.but.upd).same hl3f, ?_⟩
            rw [upd_same, tk, cnt_snoc, cnt_snoc, cnt_snoc, e]
            simp
          · rw [e]
            refine ⟨l3, _, 1, _, rfl, rfl, .of hl5, rfl, _, _, rfl, rfl, l3, _, _, 1, rfl, rfl, hl5, rfl, _, rfl, (s5.but.upd).same hl3f, ?_⟩
            rw [upd_same, tk, cnt_snoc, cnt_snoc, cnt_snoc, e]
            simp
          · rw [e]
            refine ⟨l3, _, 2, _, rfl, rfl, .of hl5, rfl, _, _, rfl, rfl, l3, _, _, 2, rfl, rfl, hl5, rfl, _, rfl, (s5.but.upd).same hl3f, ?_⟩
            rw [upd_same, tk, cnt_snoc, cnt_snoc, cnt_snoc, e]
            simp
        · rintro od σ H' ⟨v1, rfl, s5, hl5⟩
          rw [List.take_length] at hl5
          exact ⟨_, rfl, q _ l3 (upd_back h2 s5) hl30 (by rw [upd_ne n3d]; exact hl5)⟩
/-- three ints -/
def spCounts_of (C : Addr) : Sp := fun vs H Q _ => ∃ p F T, vs = [.ref p] ∧ Shp C H p F T ∧ Sz3 F ∧ ∀ H' y, Same H H' → Ti H' y [cnt F 1, cnt F 2, cnt F 3] → Q y H'
theorem ok_counts_of (T : Tx K mg A) (G_need_complex : FnOk P w K mg base CX0 1 A.f_need_complex A.fd_need_complex ["value"] (spNeed A.C)) (G_counts_in : FnOk P w K mg base CX0 1 A.f_counts_in A.fd_counts_in ["shape"] (spCounts_in A.C)) :
    FnOk P w K mg base CX0 2 A.f_counts_of A.fd_counts_of ["shape"] (spCounts_of A.C) := by
  refine T.F_counts_of.ok sc_counts_of (fun vs H Q E h => ?_) (fun cdv Ar outer s H vs Q E hr h => ⟨_, (pss_cons (ps_expr (pe_call G_need_complex (hr.mono (by decide)) (by rfl) T.g_need_complex T.k_need_complex T.bd_need_complex .nil pass0 (pa_cons (pv 0) pa_nil)))
    (pss_one (ps_ret (pe_callTy (call_tuple_ofK K) (by rfl) (T.nb "tuple" (by decide)) (by decide +kernel) (pa_cons (pe_call G_counts_in (hr.mono (by decide)) (by rfl) T.g_counts_in T.k_counts_in T.bd_counts_in .nil pass0 (pa_cons (pv 0) pa_nil)) pa_nil))))), ?_⟩)
  · obtain ⟨p, F, T1, rfl, _⟩ := h; rfl
  · obtain ⟨p, F, T1, rfl, sh, hz, q⟩ := h
    obtain ⟨dx, d, kvs, t, h1, _⟩ := id sh
    exact ⟨_, rfl, p, dx, _, rfl, h1, _, rfl, p, F, T1, rfl, sh, hz, fun H' l s1 _ hl => tupleL hl fun l2 hl2 => q _ _ (s1.new hl2) ⟨l2, rfl, upd_same⟩⟩
end
end Fl

set_option Elab.async false
set_option linter.all false
set_option maxRecDepth 100000
set_option maxHeartbeats 4000000
namespace Fl
open PySem PySem.Spec PyProof.Rows L2
section
variable {P : Program} {w : World} {K : PySem.W.Frag} {mg : Str → Option Value} {base : Heap} {A : Ad}
/-- the triangles that stand beside e in the pairs L -/
def atE (L : List (List Int × List Int)) (e : List Int) : List (List Int) := (L.filter fun p => decide (p.1 = e)).map (·.2)
/-- an edge and a triangle that has it -/
def cutsOf (t : List Int) : List (List Int × List Int) := (List.range t.length).map fun m => (cutAt t m, t)
def pairsOf (T : List (List Int)) : List (List Int × List Int) := T.flatMap cutsOf
/-- the dict of walls: what stands at each edge -/
structure WD (H : Hp) (kvs : List (List Key × V)) (L : List (List Int × List Int)) : Prop where
  ex : ∃ G, KF kvs G ∧ G.Nodup ∧ G.length ≤ L.length ∧ ∀ e, e ∈ G ↔ ∃ t, (e, t) ∈ L
  val : ∀ e v, valV kvs (kI e) = some v → ∃ a ys, v = .ref a ∧ H a = some (.lst ys) ∧ TL H ys (atE L e)
  inj : ∀ e e' a, valV kvs (kI e) = some (.ref a) → valV kvs (kI e') = some (.ref a) → e = e'
theorem WD.nil (H : Hp) : WD H [] [] := ⟨⟨[], rfl, List.nodup_nil, by simp, by simp⟩, fun e v h => (by cases h), fun e e' a h _ => (by cases h)⟩
theorem WD.mono {H H' : Hp} {kvs : List (List Key × V)} {L : List (List Int × List Int)} (w : WD H kvs L) (s : Same H H') : WD H' kvs L :=
  ⟨w.ex, fun e v h => let ⟨a, ys, h1, h2, h3⟩ := w.val e v h; ⟨a, ys, h1, s _ _ h2, h3.mono s.keep⟩, w.inj⟩
theorem atE_snoc {L : List (List Int × List Int)} {e t : List Int} (x : List Int) : atE (L ++ [(e, t)]) x = if e = x then atE L x ++ [t] else atE L x := by
  unfold atE
  rw [List.filter_append, List.map_append]
  by_cases h : e = x <;> simp [h]
theorem atE_none {L : List (List Int × List Int)} {e : List Int} (h : ¬ ∃ t, (e, t) ∈ L) : atE L e = [] := by
  unfold atE
  rw [List.map_eq_nil_iff, List.filter_eq_nil_iff]
  rintro ⟨a, b⟩ hp hq
  have : a = e := of_decide_eq_true hq
  subst this
  exact h ⟨b, hp⟩
theorem WD.put {H H' : Hp} {kvs : List (List Key × V)} {L : List (List Int × List Int)} {e t : List Int} {l : Addr} {ys : List V} (w : WD H kvs L) (hs : ∀ a ys, H a = some (.lst ys) → H' a = some (.lst ys)) (k : Keep H H') (hn : H l = none) (hl : H' l = some (.lst ys)) (ht : TL H' ys (atE L e ++ [t])) :
    WD H' (putK kvs (kI e) (.ref l)) (L ++ [(e, t)]) := by
  obtain ⟨G, hG, nG, lG, mG⟩ := w.ex
  refine ⟨⟨addI G e, hG.put e _, nodup_addI nG, ?_, fun x => ?_⟩, fun x v h => ?_, fun x y a hx hy => ?_⟩
  · rw [List.length_append]
    exact Nat.le_trans addI_len (by simp; omega)
  · rw [mem_addI, mG]
    constructor
    · rintro (⟨u, hu⟩ | rfl)
      · exact ⟨u, List.mem_append.mpr (.inl hu)⟩
      · exact ⟨t, by simp⟩
    · rintro ⟨u, hu⟩
      rcases List.mem_append.mp hu with hu | hu
      · exact .inl ⟨u, hu⟩
      · have : (x, u) = (e, t) := by simpa using hu
        cases this
        exact .inr rfl
  · rw [valV_put] at h
    rw [atE_snoc]
    by_cases hx : kI x = kI e
    · have hx' := kI_inj hx
      subst hx'
      rw [if_pos rfl] at h
      rw [if_pos rfl]
      cases h
      exact ⟨l, ys, rfl, hl, ht⟩
    · rw [if_neg hx] at h
      rw [if_neg (fun z => hx (by rw [z]))]
      obtain ⟨a, zs, h1, h2, h3⟩ := w.val x v h
      exact ⟨a, zs, h1, hs _ _ h2, h3.mono k⟩
  · rw [valV_put] at hx hy
    by_cases h1 : kI x = kI e <;> by_cases h2 : kI y = kI e
    · exact kI_inj (h1.trans h2.symm)
    · rw [if_pos h1] at hx
      rw [if_neg h2] at hy
      cases hx
      obtain ⟨b, zs, e1, e2, _⟩ := w.val y _ hy
      cases e1
      rw [hn] at e2
      cases e2
    · rw [if_neg h1] at hx
      rw [if_pos h2] at hy
      cases hy
      obtain ⟨b, zs, e1, e2, _⟩ := w.val x _ hx
      cases e1
      rw [hn] at e2
      cases e2
    · rw [if_neg h1] at hx
      rw [if_neg h2] at hy
      exact w.inj x y a hx hy
theorem WD.app {H H' : Hp} {kvs : List (List Key × V)} {L : List (List Int × List Int)} {e t : List Int} {l : Addr} {ys : List V} (w : WD H kvs L) (hv : valV kvs (kI e) = some (.ref l)) (hs : ∀ a ys, a ≠ l → H a = some (.lst ys) → H' a = some (.lst ys)) (k : Keep H H') (hl : H' l = some (.lst ys)) (ht : TL H' ys (atE L e ++ [t])) :
    WD H' kvs (L ++ [(e, t)]) := by
  obtain ⟨G, hG, nG, lG, mG⟩ := w.ex
  have he : e ∈ G := by
    by_cases h : e ∈ G
    · exact h
    · rw [hG.none h] at hv; cases hv
  refine ⟨⟨G, hG, nG, by rw [List.length_append]; omega, fun x => ?_⟩, fun x v h => ?_, w.inj⟩
  · rw [mG]
    constructor
    · rintro ⟨u, hu⟩
      exact ⟨u, List.mem_append.mpr (.inl hu)⟩
    · rintro ⟨u, hu⟩
      rcases List.mem_append.mp hu with hu | hu
      · exact ⟨u, hu⟩
      · have : (x, u) = (e, t) := by simpa using hu
        cases this
        exact (mG e).mp he
  · rw [atE_snoc]
    by_cases hx : e = x
    · subst hx
      rw [if_pos rfl]
      rw [hv] at h
      cases h
      exact ⟨l, ys, rfl, hl, ht⟩
    · rw [if_neg hx]
      obtain ⟨a, zs, h1, h2, h3⟩ := w.val x v h
      refine ⟨a, zs, h1, hs _ _ (fun z => ?_) h2, h3.mono k⟩
      subst h1
      subst z
      exact hx (w.inj e x _ hv h)
theorem pairs_take {T : List (List Int)} {i : Nat} {t : List Int} (h : T[i]? = some t) : pairsOf (T.take (i + 1)) = pairsOf (T.take i) ++ cutsOf t := by
  unfold pairsOf
  rw [take_more h, List.flatMap_append]
  simp
theorem cuts_len (t : List Int) : (cutsOf t).length = t.length := by unfold cutsOf; simp
theorem cuts_get {t : List Int} {m : Nat} (h : m < t.length) : (cutsOf t)[m]? = some (cutAt t m, t) := by
  unfold cutsOf
  rw [List.getElem?_map, List.getElem?_range h]
  rfl
theorem pairs_len : ∀ {T : List (List Int)}, (∀ t ∈ T, t.length = 3) → (pairsOf T).length = 3 * T.length
  | [], _ => rfl
  | t :: T, h => by
    have e : pairsOf (t :: T) = cutsOf t ++ pairsOf T := rfl
    rw [e, List.length_append, cuts_len, pairs_len fun u hu => h u (by simp [hu]), h t (by simp), List.length_cons]
    omega
theorem mem3 {T : List (List Int)} (h3 : ∀ t ∈ T, t.length = 3) (i : Nat) : (pairsOf (T.take i)).length ≤ 3 * T.length := by
  rw [pairs_len fun t ht => h3 t (List.mem_of_mem_take ht), List.length_take]
  omega
theorem WD.len {H : Hp} {kvs : List (List Key × V)} {L : List (List Int × List Int)} (w : WD H kvs L) : kvs.length ≤ L.length := by
  obtain ⟨G, hG, _, lG, _⟩ := w.ex
  rw [hG.len]
  exact lG
theorem WD.none {H : Hp} {kvs : List (List Key × V)} {L : List (List Int × List Int)} (w : WD H kvs L) {e : List Int} (h : valV kvs (kI e) = none) : atE L e = [] := by
  obtain ⟨G, hG, _, lG, mG⟩ := w.ex
  refine atE_none fun q => ?_
  obtain ⟨v, hv⟩ := hG.some ((mG e).mpr q)
  rw [hv] at h
  cases h
def spRims (K : PySem.W.Frag) : Sp := fun vs H Q _ => ∃ a xs T, vs = [.ref a] ∧ SqA K H a xs ∧ TL H xs T ∧ (∀ t ∈ T, t.length = 3) ∧ T.length ≤ 400 ∧
  ∀ H' d kvs, Same H H' → H d = none → H' d = some (.dT kvs) → WD H' kvs (pairsOf T) → Q (.ref d) H'
theorem ok_rims (T : Tx K mg A) : FnOk P w K mg base CX0 1 A.f__law_rims A.fd__law_rims ["_law_tops"] (spRims K) := by
  refine T.F__law_rims.ok sc__law_rims (fun vs H Q E h => ?_) (fun cdv Ar outer s H vs Q E hr h => ⟨_, (pss_cons (ps_set (i := 1) sc__law_rims.nd rfl (by first | exact Or.inl rfl | exact Or.inr rfl) pe_dnewT)
    (pss_cons (ps_for PassesOwn.never rfl (pi_seqK K (pv 0)) (pg_name (i := 2) sc__law_rims.nd rfl (by first | exact Or.inl rfl | exact Or.inr rfl))
    (pss_one (ps_for PassesOwn.never rfl (pi_range1 (by rfl) (T.nb "range" (by decide)) (pa_cons pe_int pa_nil)) (pg_name (i := 3) sc__law_rims.nd rfl (by first | exact Or.inl rfl | exact Or.inr rfl))
    (pss_cons (ps_set (i := 4) sc__law_rims.nd rfl (by first | exact Or.inl rfl | exact Or.inr rfl) (pe_op (op_catAK K) (pe_slice (sl_tupAK K) (pv 2) po_none (po_some (pv 3))) (pe_slice (sl_tupAK K) (pv 2) (po_some (pe_op op_add (pv 3) pe_int)) po_none)))
    (pss_one (ps_dput (hu_of hr) (pv 1) (pv 4) (pe_op op_cat (pe_dget2 (hu_of hr) (pv 1) (pv 4) (pe_lst pa_nil) ⟨rfl, rfl, rfl, rfl⟩) (pe_lst (pa_cons (pv 2) pa_nil))) rfl))))))
    (pss_one (ps_ret (pv 1))))), ?_⟩)
  · obtain ⟨a, xs, T1, rfl, _⟩ := h; rfl
  · obtain ⟨a, xs, T1, rfl, hA, ht, h3, h400, q⟩ := h
    intro d hd
    have lT := pl ht
    refine for_seq (H0 := H) (xs := xs) (fun i σ H' => ∃ kvs v2 v3 v4, σ = [some (.ref a), some (.ref d), v2, v3, v4] ∧ Same H H' ∧ H' d = some (.dT kvs) ∧ WD H' kvs (pairsOf (T1.take i)))
      (fun _ q => ⟨_, rfl, q⟩) hA ⟨[], none, none, none, rfl, same_new hd, upd_same, WD.nil _⟩ (fun i σ H' _ ⟨_, _, _, _, _, s5, _⟩ => s5) ?_ ?_
    · rintro i y σ H' hi ⟨kvs, v2, v3, v4, rfl, s5, hd5, wd⟩
      obtain ⟨t, hti, ty⟩ := pget ht hi
      obtain ⟨b, rfl, hb⟩ := ty.mono s5.keep
      have t3 := h3 t (List.mem_of_getElem? hti)
      refine ⟨3, rfl, by decide, by decide, for_rng (n := 3) (fun m σ' H2 => ∃ kvs v3 v4, σ' = [some (.ref a), some (.ref d), some (.ref b), v3, v4] ∧ Same H H2 ∧ H2 d = some (.dT kvs) ∧ H2 b = some (.tup (t.map V.int)) ∧ WD H2 kvs (pairsOf (T1.take i) ++ (cutsOf t).take m))
        ⟨kvs, v3, v4, rfl, s5, hd5, hb, by simpa using wd⟩ ?_ ?_⟩
      · rintro m σ' H2 hm ⟨kvs2, v5, v6, rfl, s6, hd6, hb6, wd6⟩
        have hm3 : m < t.length := by omega
        refine cut_out (t := t) (m := m) rfl rfl hb6 (by omega) fun H3 z s7 hz => ?_
        have hd7 := s7 _ _ hd6
        have wd7 := wd6.mono s7
        have hkl : kvs2.length < sizeLine := by
          have h1 := wd7.len
          rw [List.length_append, List.length_take] at h1
          have h2 := mem3 h3 i
          exact Nat.lt_of_le_of_lt (by omega : _ ≤ 1203) (by decide)
        refine ⟨_, rfl, d, rfl, .inr ⟨kvs2, .inl hd7⟩, _, rfl, (by show 0 ≤ sizeLine; decide), fun l hl => ?_⟩
        have nld : l ≠ d := fun z => by rw [z, hd7] at hl; cases hl
        have s8 := same_new (o := .lst []) hl
        have hd8 := s8 _ _ hd7
        have wd8 := wd7.mono s8
        have hz8 := hz.mono s8.keep
        have hb8 := s8 _ _ (s7 _ _ hb6)
        have s78 := (s6.trans s7).trans s8
        have hl8 : upd H3 l (.lst []) l = some (.lst []) := upd_same
        revert hd8 wd8 hz8 hb8 s78 hl8
        generalize upd H3 l (.lst []) = H4
        intro hd8 wd8 hz8 hb8 s78 hl8
        refine ⟨valV kvs2 (kI (cutAt t m)), dget_I hd8 hz8, ?_⟩
        obtain ⟨p, ys, ep, hp, tp, hlen⟩ : ∃ p ys, (valV kvs2 (kI (cutAt t m))).getD (.ref l) = .ref p ∧ H4 p = some (.lst ys) ∧ TL H4 ys (atE (pairsOf (T1.take i) ++ (cutsOf t).take m) (cutAt t m)) ∧ ys.length ≤ 2000 := by
          cases hv : valV kvs2 (kI (cutAt t m)) with
          | none => exact ⟨l, [], rfl, hl8, by rw [wd8.none hv]; exact .nil, by simp⟩
          | some v =>
            obtain ⟨p, ys, rfl, hp, tp⟩ := wd8.val _ v hv
            refine ⟨p, ys, rfl, hp, tp, ?_⟩
            rw [pl tp]
            unfold atE
            rw [List.length_map]
            refine Nat.le_trans (List.length_filter_le _ _) ?_
            rw [List.length_append, List.length_take]
            have h2 := mem3 h3 i
            omega
        rw [ep]
        refine ⟨_, rfl, (by show 1 ≤ sizeLine; decide), fun l2 hl2 => ?_⟩
        have s9 := same_new (o := .lst [.ref b]) hl2
        refine ⟨p, l2, ys, _, rfl, rfl, s9 _ _ hp, upd_same, ?_, fun l3 hl3 => ?_⟩
        · exact Nat.le_trans (by simp; omega : _ ≤ 2001) (by decide)
        have s10 := same_new (o := .lst (ys ++ [.ref b])) hl3
        have s11 := s9.trans s10
        have hd11 := s11 _ _ hd8
        have hz11 := hz8.mono s11.keep
        have wd11 := wd8.mono s9
        have hb11 := s11 _ _ hb8
        have tp11 := tp.mono s11.keep
        have n3d : l3 ≠ d := fun z => by rw [z, s9 _ _ hd8] at hl3; cases hl3
        refine ⟨_, rfl, _, rfl, d, _, rfl, dput_I hd11 hz11 hkl, ?_⟩
        have nbd : b ≠ d := fun z => by
          have hb9 := hb8
          rw [z, hd8] at hb9
          cases hb9
        have kd : Keep _ (upd _ d (.dT (putK kvs2 (kI (cutAt t m)) (V.ref l3)))) := keep_dT hd11
        refine ⟨_, _, _, rfl, ((s78.trans s11).but.upd).same hd, upd_same, by rw [upd_ne nbd]; exact hb11, ?_⟩
        have tk : (cutsOf t).take (m + 1) = (cutsOf t).take m ++ [(cutAt t m, t)] := take_more (cuts_get hm3)
        rw [tk, ← List.append_assoc]
        refine wd11.put (l := l3) (ys := ys ++ [.ref b]) (fun a zs ha => ?_) (s10.keep.trans kd) hl3 ?_ ?_
        · have ha10 := s10 _ _ ha
          have nad : a ≠ d := fun z => by rw [z, hd11] at ha10; cases ha10
          rw [upd_ne nad]
          exact ha10
        · rw [upd_ne n3d]
          exact upd_same
        · exact psnoc (TL.mono tp11 kd) ⟨b, rfl, by rw [upd_ne nbd]; exact hb11⟩
      · rintro σ' H2 ⟨kvs2, v5, v6, rfl, s6, hd6, hb6, wd6⟩
        refine ⟨kvs2, _, _, _, rfl, s6, hd6, ?_⟩
        have e : (cutsOf t).take 3 = cutsOf t := List.take_of_length_le (by rw [cuts_len]; omega)
        rw [e, ← pairs_take hti] at wd6
        exact wd6
    · rintro σ H' ⟨kvs, v2, v3, v4, rfl, s5, hd5, wd⟩
      rw [lT, List.take_length] at wd
      exact ⟨_, rfl, q _ d _ s5 hd hd5 wd⟩
def spWalls_of (C : Addr) : Sp := fun vs H Q _ => ∃ p F T, vs = [.ref p] ∧ Shp C H p F T ∧ (∀ t ∈ T, t.length = 3) ∧ T.length ≤ 400 ∧
  ∀ H' d kvs, Same H H' → H d = none → H' d = some (.dT kvs) → WD H' kvs (pairsOf T) → Q (.ref d) H'
theorem ok_walls_of (T : Tx K mg A) (G_facets : FnOk P w K mg base CX0 1 A.f_facets A.fd_facets ["self"] (getSp A.C "tops")) : FnOk P w K mg base CX0 3 A.f_walls_of A.fd_walls_of ["shape"] (spWalls_of A.C) := by
  refine T.F_walls_of.ok sc_walls_of (fun vs H Q E h => ?_) (fun cdv Ar outer s H vs Q E hr h => ⟨_, (pss_cons (ps_set (i := 1) sc_walls_of.nd rfl (by first | exact Or.inl rfl | exact Or.inr rfl) pe_dnewT)
    (pss_cons (ps_for PassesOwn.never rfl (pi_tupK K (pe_prop (pv 0) T.clC T.pfC G_facets (hr.mono (by decide)) T.bd_facets .nil pass0 rfl)) (pg_name (i := 2) sc_walls_of.nd rfl (by first | exact Or.inl rfl | exact Or.inr rfl))
    (pss_one (ps_for PassesOwn.never rfl (pi_range1 (by rfl) (T.nb "range" (by decide)) (pa_cons (pe_callB (call_len_seqK K) (by rfl) (T.nb "len" (by decide)) PySem.boot_len (pa_cons (pv 2) pa_nil)) pa_nil)) (pg_name (i := 3) sc_walls_of.nd rfl (by first | exact Or.inl rfl | exact Or.inr rfl))
    (pss_one (ps_expr (pe_bm PySem.F.plainAttrs_list PySem.F.slot_list_append PySem.F.type_list_append mt_append (pe_setdT (hu_of hr) (pv 1) (pe_op (op_catAK K) (pe_slice (sl_tupAK K) (pv 2) po_none (po_some (pv 3))) (pe_slice (sl_tupAK K) (pv 2) (po_some (pe_op op_add (pv 3) pe_int)) po_none)) (pe_lst pa_nil) ⟨rfl, rfl, rfl, rfl⟩) (pa_cons (pv 2) pa_nil)))))))
    (pss_one (ps_ret (pv 1))))), ?_⟩)
  · obtain ⟨p, F, T1, rfl, _⟩ := h; rfl
  · obtain ⟨p, F, T1, rfl, ⟨dx, fd, kv0, t0, h1, h2, hk, ⟨a, xs, rfl, ha, ht⟩, h5⟩, h3, h400, q⟩ := h
    intro d hd
    have lT := pl ht
    have s0 := same_new (o := .dT []) hd
    refine ⟨_, rfl, p, dx, _, rfl, s0 _ _ h1, p, dx, _, _, rfl, s0 _ _ h1, flds_tops _ _, a, rfl, ⟨_, .of (s0 _ _ ha)⟩, for_tup (xs := xs) (fun i σ H' => ∃ kvs v2 v3, σ = [some (.ref p), some (.ref d), v2, v3] ∧ Same H H' ∧ H' d = some (.dT kvs) ∧ WD H' kvs (pairsOf (T1.take i)) ∧ ∀ e a, valV kvs (kI e) = some (.ref a) → H a = none)
      ⟨[], none, none, rfl, s0, upd_same, WD.nil _, fun e a h => by cases h⟩ (fun i σ H' _ ⟨_, _, _, _, s5, _⟩ => .of (s5 _ _ ha)) ?_ ?_⟩
    · rintro i y σ H' hi ⟨kvs, v2, v3, rfl, s5, hd5, wd, fr⟩
      obtain ⟨t, hti, ty⟩ := pget ht hi
      obtain ⟨b, rfl, hb⟩ := ty.mono s5.keep
      have t3 := h3 t (List.mem_of_getElem? hti)
      refine ⟨_, rfl, b, _, rfl, .inr (.of hb), 3, (by rw [List.length_map, t3]; rfl), by decide, by decide, for_rng (n := 3) (fun m σ' H2 => ∃ kvs v3, σ' = [some (.ref p), some (.ref d), some (.ref b), v3] ∧ Same H H2 ∧ H2 d = some (.dT kvs) ∧ H2 b = some (.tup (t.map V.int)) ∧ WD H2 kvs (pairsOf (T1.take i) ++ (cutsOf t).take m) ∧ ∀ e a, valV kvs (kI e) = some (.ref a) → H a = none)
        ⟨kvs, v3, rfl, s5, hd5, hb, by simpa using wd, fr⟩ ?_ ?_⟩
      · rintro m σ' H2 hm ⟨kvs2, v5, rfl, s6, hd6, hb6, wd6, fr6⟩
        have hm3 : m < t.length := by omega
        refine ⟨_, rfl, d, rfl, .inr ⟨kvs2, .inl hd6⟩, ?_⟩
        refine cut_out (t := t) (m := m) rfl rfl hb6 (by omega) fun H3 z s7 hz => ?_
        have hd7 := s7 _ _ hd6
        have wd7 := wd6.mono s7
        have hkl : kvs2.length < sizeLine := by
          have h1 := wd7.len
          rw [List.length_append, List.length_take] at h1
          have h2 := mem3 h3 i
          exact Nat.lt_of_le_of_lt (by omega : _ ≤ 1203) (by decide)
        refine ⟨(by show 0 ≤ sizeLine; decide), fun l hl => ?_⟩
        have nld : l ≠ d := fun z => by rw [z, hd7] at hl; cases hl
        have s8 := same_new (o := .lst []) hl
        have hd8 := s8 _ _ hd7
        have wd8 := wd7.mono s8
        have hz8 := hz.mono s8.keep
        have hb8 := s8 _ _ (s7 _ _ hb6)
        have s78 := (s6.trans s7).trans s8
        have hl8 : upd H3 l (.lst []) l = some (.lst []) := upd_same
        have nbd : b ≠ d := fun z => by
          have hb9 := hb8
          rw [z, hd8] at hb9
          cases hb9
        have tk : (cutsOf t).take (m + 1) = (cutsOf t).take m ++ [(cutAt t m, t)] := take_more (cuts_get hm3)
        obtain ⟨c, rfl, hc⟩ := hz8
        refine ⟨kvs2, kI (cutAt t m), c, rfl, by rw [hc, kI_kV], hd8, hkl, fun v hv => ?_, fun hv => ?_⟩
        · obtain ⟨l2, ys, rfl, hl2, tl2⟩ := wd8.val _ v hv
          have hlen : ys.length ≤ 1999 := by
            rw [pl tl2]
            unfold atE
            rw [List.length_map]
            refine Nat.le_trans (List.length_filter_le _ _) ?_
            rw [List.length_append, List.length_take]
            have h2 := mem3 h3 i
            omega
          have nl2d : l2 ≠ d := fun z => by rw [z, hd8] at hl2; cases hl2
          have nbl2 : b ≠ l2 := fun z => by rw [z, hl2] at hb8; cases hb8
          have k2 : Keep _ (upd _ l2 (.lst (ys ++ [.ref b]))) := keep_lst hl2
          refine ⟨.inl ⟨rfl, _, .of hl2⟩, _, rfl, l2, ys, _, rfl, rfl, hl2, Nat.lt_of_le_of_lt hlen (by decide), ?_⟩
          have hl2H : H l2 = none := fr6 _ _ hv
          refine ⟨kvs2, _, rfl, ((s78.but (l := l2)).upd).same hl2H, by rw [upd_ne nl2d.symm]; exact hd8, by rw [upd_ne nbl2]; exact hb8, ?_, fr6⟩
          rw [tk, ← List.append_assoc]
          refine wd8.app hv (fun a zs na ha => ?_) k2 upd_same ?_
          · rw [upd_ne na]; exact ha
          · exact psnoc (TL.mono tl2 k2) ⟨b, rfl, by rw [upd_ne nbl2]; exact hb8⟩
        · have kd : Keep _ (upd _ d (.dT (putK kvs2 (kI (cutAt t m)) (V.ref l)))) := keep_dT hd8
          have h9 : (upd (upd H3 l (.lst [])) d (.dT (putK kvs2 (kI (cutAt t m)) (V.ref l)))) l = some (.lst []) := by rw [upd_ne nld]; exact hl8
          refine ⟨.inl ⟨rfl, _, .of h9⟩, _, rfl, l, [], _, rfl, rfl, h9, (by show 0 < sizeLine; decide), ?_⟩
          have hlH : H l = none := (s6.trans s7).free hl
          have nbl : b ≠ l := fun z => by rw [z, hl8] at hb8; cases hb8
          have kk : Keep H3 (upd (upd (upd H3 l (.lst [])) d (.dT (putK kvs2 (kI (cutAt t m)) (.ref l)))) l (.lst ([] ++ [.ref b]))) := (s8.keep.trans kd).trans (keep_lst h9)
          have hbF : (upd (upd (upd H3 l (.lst [])) d (.dT (putK kvs2 (kI (cutAt t m)) (.ref l)))) l (.lst ([] ++ [.ref b]))) b = some (.tup (t.map V.int)) := by
            rw [upd_ne nbl, upd_ne nbd]
            exact hb8
          refine ⟨_, _, rfl, ?_, by rw [upd_ne nld.symm]; exact upd_same, hbF, ?_, fun e a he => ?_⟩
          · exact (((s78.but (l := d)).upd.same hd).but (l := l)).upd.same hlH
          · rw [tk, ← List.append_assoc]
            refine wd7.put (l := l) (ys := [.ref b]) (fun a zs ha => ?_) kk hl upd_same ?_
            · have nal : a ≠ l := fun z => by rw [z, hl] at ha; cases ha
              have nad : a ≠ d := fun z => by rw [z, hd7] at ha; cases ha
              rw [upd_ne nal, upd_ne nad, upd_ne nal]
              exact ha
            · rw [wd7.none hv]
              exact .cons ⟨b, rfl, hbF⟩ .nil
          · rw [valV_put] at he
            by_cases hx : kI e = kI (cutAt t m)
            · rw [if_pos hx] at he
              cases he
              exact hlH
            · rw [if_neg hx] at he
              exact fr6 e a he
      · rintro σ' H2 ⟨kvs2, v5, rfl, s6, hd6, hb6, wd6, fr6⟩
        refine ⟨kvs2, _, _, rfl, s6, hd6, ?_, fr6⟩
        have e : (cutsOf t).take 3 = cutsOf t := List.take_of_length_le (by rw [cuts_len]; omega)
        rw [e, ← pairs_take hti] at wd6
        exact wd6
    · rintro σ H' ⟨kvs, v2, v3, rfl, s5, hd5, wd, _⟩
      rw [lT, List.take_length] at wd
      exact ⟨_, rfl, q _ d _ s5 hd hd5 wd⟩
end
end Fl

set_option Elab.async false
set_option linter.all false
set_option maxRecDepth 100000
set_option maxHeartbeats 4000000
namespace Fl
open PySem PySem.Spec PyProof.Rows L2
section
variable {P : Program} {w : World} {K : PySem.W.Frag} {mg : Str → Option Value} {base : Heap} {A : Ad}
/-- the vertices of the triangles at e that are not on it -/
def tipsR (W : List (List Int)) (e : List Int) : List Int := W.flatten.filter fun n => decide (n ∉ e)
theorem flat_len {T : List (List Int)} {k n : Nat} (h : ∀ t ∈ T, t.length ≤ k) (hn : T.length ≤ n) : T.flatten.length ≤ n * k := by
  have : T.flatten.length ≤ T.length * k := by
    induction T with
    | nil => simp
    | cons t T ih =>
      rw [List.flatten_cons, List.length_append, List.length_cons, Nat.succ_mul]
      have h1 := h t (by simp)
      have h2 := ih (fun u hu => h u (by simp [hu])) (by simp at hn; omega)
      omega
  exact Nat.le_trans this (Nat.mul_le_mul_right k hn)
def spTips_of : Sp := fun vs H Q _ => ∃ d e edge kvs L, vs = [.ref d, e] ∧ H d = some (.dT kvs) ∧ WD H kvs L ∧ Ti H e edge ∧ atE L edge ≠ [] ∧ (∀ t ∈ atE L edge, t.length ≤ 8) ∧ (atE L edge).length ≤ 2000 ∧
  ∀ (H' : Hp) (y : V) (ms : List Int), Same H H' → Ti H' y ms → ms.Perm (tipsR (atE L edge) edge) → ms.Pairwise (· ≤ ·) → Q y H'
theorem ok_tips_of (T : Tx K mg A) : FnOk P w K mg base CX0 1 A.f_tips_of A.fd_tips_of ["walls", "edge"] spTips_of := by
  refine T.F_tips_of.ok sc_tips_of (fun vs H Q E h => ?_) (fun cdv Ar outer s H vs Q E hr h => ⟨_, (pss_one (ps_ret (pe_callTy (call_tuple_ofK K) (by rfl) (T.nb "tuple" (by decide)) (by decide +kernel) (pa_cons (pe_callB (cr_sortNK K) (by rfl) (T.nb "sorted" (by decide)) (by decide +kernel) (pa_cons (pe_lc2 (own := [("one", 2), ("vertex", 3)]) (g := (gName 2)) (g1 := (gName 3)) (vs1 := [3]) rfl sc_tips_of.nd (pi_listK K (pe_dget (hu_of hr) (pv 0) (pv 1) (fun _ _ => rfl))) (blkOk_by (N := N_tips_of) (sc := defScope s_tips_of) (by decide +kernel)) (by decide) (fun _ _ _ _ _ => (pg_name (i := 2) sc_tips_of.nd rfl (by first | exact Or.inl rfl | exact Or.inr rfl))) (fun _ _ _ _ _ => pts_nil) (fun _ _ _ _ _ => (pi_tupK K (pv 2))) (fun _ _ _ _ _ => (pg_name (i := 3) sc_tips_of.nd rfl (by first | exact Or.inl rfl | exact Or.inr rfl))) (fun _ _ _ _ _ => pts_one (pt_cmpR (op_notInK K) (pv 3) (pv 1) (by rfl))) (fun _ _ _ _ _ => (pv 3))) pa_nil)) pa_nil)))), ?_⟩)
  · obtain ⟨d, e, edge, kvs, L, rfl, _⟩ := h; rfl
  · obtain ⟨d, e, edge, kvs, L, rfl, hd, wd, he, hne, h8, h2000, q⟩ := h
    obtain ⟨v, hv⟩ : ∃ v, valV kvs (kI edge) = some v := by
      cases hv : valV kvs (kI edge) with
      | none => exact absurd (wd.none hv) hne
      | some v => exact ⟨v, rfl⟩
    obtain ⟨a, ys, rfl, ha, ty⟩ := wd.val _ v hv
    have hlen : (atE L edge).flatten.length < sizeLine := Nat.lt_of_le_of_lt (flat_len h8 h2000) (by decide)
    refine ⟨_, rfl, _, rfl, d, _, rfl, by rw [← hv]; exact dget_I hd he, a, rfl, ⟨_, .of ha⟩, fun D hD => lc2_ints (fun n => decide (n ∉ edge)) hD (.of ha) ty hlen (fun _ => rfl) (fun _ _ => rfl) (fun _ => rfl) ?_ ?_⟩
    · intro x t n H2 Ny Nn tx ht hn sm hy hnn
      refine ⟨_, rfl, _, rfl, notInInt (he.mono sm.keep) ⟨_, rfl, ?_⟩⟩
      by_cases h : n ∈ edge
      · rw [decide_eq_true h]
        exact iteF (hnn (by simp [h]) _ (Same.refl _))
      · rw [decide_eq_false h]
        exact iteT ⟨_, rfl, hy (by simp [h]) _ (Same.refl _)⟩
    · intro H2 sm hD2
      exact ⟨D, _, rfl, .inl (.of hD2), fun ms l pm pw hl => tupleL upd_same fun l2 hl2 => q _ _ ms ((sm.new hl).new hl2) ⟨l2, rfl, upd_same⟩ pm pw⟩
/-- t without v -/
def rst (t : List Int) (v : Int) : List Int := t.filter fun n => decide (n ∉ [v])
/-- the simplices apart from v that form one with it -/
def linkOf (F : List (List Int)) (v : Int) : List (List Int) := (F.filter fun t => decide (0 < (rst t v).length ∧ (rst t v).length + 1 = t.length)).map fun t => rst t v
theorem linkOf_snoc (F : List (List Int)) (t : List Int) (v : Int) : linkOf (F ++ [t]) v = if 0 < (rst t v).length ∧ (rst t v).length + 1 = t.length then linkOf F v ++ [rst t v] else linkOf F v := by
  unfold linkOf
  rw [List.filter_append, List.map_append]
  by_cases h : 0 < (rst t v).length ∧ (rst t v).length + 1 = t.length
  · simp [h]
  · simp [h]
def spLink_in (C : Addr) : Sp := fun vs H Q _ => ∃ p s v F T, vs = [.ref p, s] ∧ Ti H s [v] ∧ Shp C H p F T ∧ ∀ H' l ys, Same H H' → H l = none → H' l = some (.lst ys) → TL H' ys (linkOf F v) → Q (.ref l) H'
theorem ok_link_in (T : Tx K mg A) : FnOk P w K mg base CX0 1 A.f_link_in A.fd_link_in ["shape", "simplex"] (spLink_in A.C) := by
  refine T.F_link_in.ok sc_link_in (fun vs H Q E h => ?_) (fun cdv Ar outer s H vs Q E hr h => ⟨_, (pss_cons (ps_set (i := 2) sc_link_in.nd rfl (by first | exact Or.inl rfl | exact Or.inr rfl) (pe_lst pa_nil))
    (pss_cons (ps_lock (ps_for PassesOwn.never rfl (pi_keys (pe_fldK K (pv 0))) (pg_name (i := 3) sc_link_in.nd rfl (by first | exact Or.inl rfl | exact Or.inr rfl))
    (pss_cons (ps_setLc (i := 4) (own := [("vertex", 5)]) (g := (gName 5)) rfl sc_link_in.nd rfl rfl (sw_true rfl rfl rfl (by decide +kernel)) (pi_tupK K (pv 3)) (blkOk_by (N := N_link_in) (sc := defScope s_link_in) (by decide +kernel)) (fun _ _ _ _ _ => (pg_name (i := 5) sc_link_in.nd rfl (by first | exact Or.inl rfl | exact Or.inr rfl))) (fun _ _ _ _ _ => pts_one (pt_cmpR (op_notInK K) (pv 5) (pv 1) (by rfl))) (fun _ _ _ _ _ => (pv 5)))
    (pss_one (ps_if (PW.pt (pw_and (pt_cmpR op_gt (pe_callB (call_len_seqK K) (by rfl) (T.nb "len" (by decide)) PySem.boot_len (pa_cons (pv 4) pa_nil)) pe_int (nomark _)) (pw_and1 (pt_cmpR op_eq (pe_op op_add (pe_callB (call_len_seqK K) (by rfl) (T.nb "len" (by decide)) PySem.boot_len (pa_cons (pv 4) pa_nil)) (pe_callB (call_len_seqK K) (by rfl) (T.nb "len" (by decide)) PySem.boot_len (pa_cons (pv 1) pa_nil))) (pe_callB (call_len_seqK K) (by rfl) (T.nb "len" (by decide)) PySem.boot_len (pa_cons (pv 3) pa_nil)) (nomark _))))) (pss_one (ps_expr (pe_bm PySem.F.plainAttrs_list PySem.F.slot_list_append PySem.F.type_list_append mt_append (pv 2) (pa_cons (pe_callTy (call_tuple_ofK K) (by rfl) (T.nb "tuple" (by decide)) (by decide +kernel) (pa_cons (pv 4) pa_nil)) pa_nil)))) pss_nil)))))
    (pss_one (ps_ret (pv 2))))), ?_⟩)
  · obtain ⟨p, s, v, F, T1, rfl, _⟩ := h; rfl
  · obtain ⟨p, s, v, F, T1, rfl, hs, ⟨dx, d, kvs, t, h1, h2, h3, h4, h5⟩, q⟩ := h
    have npd : p ≠ d := fun z => by rw [z, h2] at h1; cases h1
    refine ⟨(by show 0 ≤ sizeLine; decide), fun l hl => ?_⟩
    have nld : l ≠ d := fun z => by rw [z, h2] at hl; cases hl
    have s0 := same_new (o := .lst []) hl
    refine lock_keys (s0 _ _ h2) (fun od Q q => ⟨_, rfl, p, A.C, dx, _, _, rfl, by rw [upd_ne npd]; exact s0 _ _ h1, T.clC, T.nF, flds_faces d t, q⟩) h3 (fun od i σ H' => ∃ ys v3 v4, σ = [some (.ref p), some s, some (.ref l), v3, v4, none] ∧ Same (upd H d (.frz od (.dT kvs))) H' ∧ H' l = some (.lst ys) ∧ TL H' ys (linkOf (F.take i) v) ∧ ys.length ≤ i)
      (fun od => ⟨[], none, none, rfl, ?_, by rw [upd_ne nld]; exact upd_same, .nil, by simp⟩) (fun od i σ H' _ ⟨_, _, _, _, s5, _⟩ => s5 _ _ upd_same) ?_ ?_
    · intro b o e
      by_cases z : b = d
      · subst z; rw [upd_same] at e ⊢; exact e
      · rw [upd_ne z] at e ⊢
        exact s0 _ _ e
    · rintro od i x u σ H' hu tx ⟨ys, v3, v4, rfl, s5, hl5, ty5, hlen⟩
      obtain ⟨b, rfl, hb⟩ := tx
      have hu8 := (h5.sz u (List.mem_of_getElem? hu)).2
      have hi400 : i < F.length := (List.getElem?_eq_some_iff.mp hu).1
      have hf400 := h5.len
      have hsK : Ti (upd H d (.frz od (.dT kvs))) s [v] := hs.mono (keep_upd fun xs e => by rw [h2] at e; cases e)
      have hs5 := hsK.mono s5.keep
      have hlF : (upd H d (.frz od (.dT kvs))) l = none := by rw [upd_ne nld]; exact hl
      refine ⟨_, rfl, b, rfl, ⟨_, .of hb⟩, fun D hD => lc_gen u (fun _ x n => x = V.int n) (fun _ y n => y = V.int n) (fun n => decide (n ∉ [v])) id hD (src_tupI (.of hb)) (fun _ _ _ _ _ h => h) (Nat.lt_of_le_of_lt hu8 (by decide)) ?_ ?_⟩
      · intro j x n H2 Ny Nn _ hx sm hy hn
        subst hx
        refine ⟨rfl, _, rfl, _, rfl, notInInt (hs5.mono sm.keep) ⟨_, rfl, ?_⟩⟩
        by_cases h : n ∈ [v]
        · rw [decide_eq_true h]
          exact iteF (hn (by rw [decide_eq_false (by simpa using h)]) _ (Same.refl _))
        · rw [decide_eq_false h]
          exact iteT ⟨_, rfl, hy (by rw [decide_eq_true h]) _ _ (Same.refl _) rfl⟩
      · intro H2 zs sm hD2 hp
        rw [List.map_id] at hp
        have ez : zs = (rst u v).map V.int := peq (f := V.int) hp
        subst ez
        have hl6 := sm _ _ hl5
        have tk := take_more hu
        have hb6 := sm _ _ hb
        obtain ⟨sa, rfl, hsa⟩ := hs5.mono sm.keep
        have s6 := s5.trans sm
        refine ⟨_, rfl, D, _, rfl, .inl (.of hD2), _, _, rfl, rfl, _, rfl, ?_⟩
        rw [List.length_map]
        by_cases c1 : 0 < (rst u v).length
        · rw [decide_eq_true (show (0 : Int) < ((rst u v).length : Nat) by omega)]
          refine iteT ?_
          refine ⟨_, rfl, D, _, rfl, .inl (.of hD2), _, rfl, sa, _, rfl, .inr (.of hsa), _, _, rfl, rfl, _, rfl, b, _, rfl, .inr (.of hb6), rfl, _, rfl, ?_⟩
          rw [List.length_map, List.length_map, List.length_map]
          by_cases c2 : (rst u v).length + 1 = u.length
          · have e1 : decide (V.int (((rst u v).length : Nat) + (([v] : List Int).length : Nat)) = V.int ((u.length : Nat) : Int)) = true := by
              rw [← c2]; exact decide_eq_true rfl
            rw [e1]
            refine iteT ⟨_, rfl, .inl ⟨rfl, _, .of hl6⟩, _, rfl, D, _, rfl, .inl ⟨.of hD2, fun l2 hl2 => ?_⟩⟩
            have s7 := same_new (o := .tup ((rst u v).map V.int)) hl2
            have hl7 := s7 _ _ hl6
            have k7 : Keep _ (upd _ l (.lst (ys ++ [.ref l2]))) := keep_lst hl7
            have nl2 : l2 ≠ l := fun z => by rw [z, hl6] at hl2; cases hl2
            refine ⟨l, ys, _, rfl, rfl, hl7, Nat.lt_of_le_of_lt (by omega : _ ≤ 400) (by decide), _, _, _, rfl, ((s6.trans s7).but.upd).same hlF, upd_same, ?_, by rw [List.length_append]; simp; omega⟩
            rw [tk, linkOf_snoc, if_pos ⟨c1, c2⟩]
            exact psnoc (ty5.mono ((sm.trans s7).keep.trans k7)) ⟨l2, rfl, by rw [upd_ne nl2]; exact upd_same⟩
          · have e1 : decide (V.int (((rst u v).length : Nat) + (([v] : List Int).length : Nat)) = V.int ((u.length : Nat) : Int)) = false := by
              rw [decide_eq_false]
              intro z
              injection z with z
              have : ([v] : List Int).length = 1 := rfl
              omega
            rw [e1]
            refine iteF ⟨ys, _, _, rfl, s6, hl6, ?_, by omega⟩
            rw [tk, linkOf_snoc, if_neg (fun z => c2 z.2)]
            exact ty5.mono sm.keep
        · rw [decide_eq_false (show ¬ (0 : Int) < ((rst u v).length : Nat) by omega)]
          refine iteF ?_
          refine iteF ⟨ys, _, _, rfl, s6, hl6, ?_, by omega⟩
          rw [tk, linkOf_snoc, if_neg (fun z => c1 z.1)]
          exact ty5.mono sm.keep
    · rintro od σ H' ⟨ys, v3, v4, rfl, s5, hl5, ty5, _⟩
      rw [List.take_length] at ty5
      have hfd := s5 _ _ (upd_same (H := H) (a := d) (o := .frz od (.dT kvs)))
      exact ⟨_, rfl, q _ l ys (upd_back h2 s5) hl (by rw [upd_ne nld]; exact hl5) (TL.mono ty5 (keep_upd fun xs e => by rw [hfd] at e; cases e))⟩
end
end Fl

set_option Elab.async false
set_option linter.all false
set_option maxRecDepth 100000
set_option maxHeartbeats 4000000
namespace Fl
open PySem PySem.Spec PyProof.Rows L2
section
variable {P : Program} {w : World} {K : PySem.W.Frag} {mg : Str → Option Value} {base : Heap} {A : Ad}
def Marks (H : Hp) (d : Addr) (Vs : List Int) (m : Int → Int) : Prop := H d = some (.dK (Vs.map fun v => (Sum.inl v, V.int (m v))))
theorem marks_get {Vs : List Int} {m : Int → Int} {a : Int} (h : a ∈ Vs) : valV (Vs.map fun v => ((Sum.inl v : Key), V.int (m v))) (Sum.inl a) = some (.int (m a)) := by
  induction Vs with
  | nil => cases h
  | cons v Vs ih =>
    by_cases e : v = a
    · subst e
      exact valV_pos rfl
    · rw [List.map_cons, valV_neg (by intro z; injection z with z; exact e z)]
      exact ih (by rcases List.mem_cons.mp h with z | z
                   · exact absurd z.symm e
                   · exact z)
theorem marks_no {Vs : List Int} {m : Int → Int} {a : Int} (h : a ∉ Vs) : valV (Vs.map fun v => ((Sum.inl v : Key), V.int (m v))) (Sum.inl a) = none := by
  induction Vs with
  | nil => rfl
  | cons v Vs ih =>
    have e : ¬ v = a := fun e => h (by simp [e])
    rw [List.map_cons, valV_neg (by intro z; injection z with z; exact e z)]
    exact ih (fun z => h (by simp [z]))
theorem marks_put {Vs : List Int} {m : Int → Int} {a x : Int} (h : a ∈ Vs) : putK (Vs.map fun v => ((Sum.inl v : Key), V.int (m v))) (Sum.inl a) (.int x) = Vs.map fun v => ((Sum.inl v : Key), V.int (if v = a then x else m v)) := by
  unfold putK
  rw [valV_any, marks_get h]
  simp only [Option.isSome_some, if_pos, List.map_map]
  apply List.map_congr_left
  intro v _
  show (if (Sum.inl v : Key) = Sum.inl a then (Sum.inl v, V.int x) else (Sum.inl v, V.int (m v))) = _
  by_cases e : v = a
  · subst e; simp
  · have : ¬ (Sum.inl v : Key) = Sum.inl a := by intro z; injection z with z; exact e z
    rw [if_neg this, if_neg e]
theorem marks_len {ns : List Int} (pw : ns.Pairwise (· < ·)) : ∀ {lo hi : Int}, (∀ x ∈ ns, lo ≤ x ∧ x ≤ hi) → lo ≤ hi + 1 → (ns.length : Int) ≤ hi + 1 - lo := by
  induction ns with
  | nil => intro lo hi _ h; simp; omega
  | cons x ns ih =>
    intro lo hi h hl
    obtain ⟨h1, h2⟩ := List.pairwise_cons.mp pw
    have hx := h x (by simp)
    have := ih h2 (lo := x + 1) (hi := hi) (fun y hy => ⟨by have := h1 y hy; omega, (h y (by simp [hy])).2⟩) (by omega)
    rw [List.length_cons]
    omega
/-- the complex is in one piece -/
def ConnP (F : List (List Int)) : Prop := ∀ f : Int → Bool, (∀ a b, [a, b] ∈ F → f a = f b) → ∀ x y, [x] ∈ F → [y] ∈ F → f x = f y
def spComponents (C : Addr) : Sp := fun vs H Q _ => ∃ p F T, vs = [.ref p] ∧ Shp C H p F T ∧ (∀ n, [n] ∈ F → 0 ≤ n ∧ n ≤ 30) ∧ (∀ a b, [a, b] ∈ F → [a] ∈ F ∧ [b] ∈ F) ∧
  ∀ (H' : Hp) (l : Addr) (ys : List V), Same H H' → H l = none → H' l = some (.lst ys) → ((∃ v, [v] ∈ F) → ConnP F → ys.length = 1) → Q (.ref l) H'
theorem ok_components (T : Tx K mg A) (G_need_complex : FnOk P w K mg base CX0 1 A.f_need_complex A.fd_need_complex ["value"] (spNeed A.C)) (G_vertices_in : FnOk P w K mg base CX0 1 A.f_vertices_in A.fd_vertices_in ["shape"] (spVertices_in A.C)) :
    FnOk P w K mg base CX0 2 A.f_components A.fd_components ["shape"] (spComponents A.C) := by
  refine T.F_components.ok sc_components (fun vs H Q E h => ?_) (fun cdv Ar outer s H vs Q E hr h => ⟨_, (pss_cons (ps_expr (pe_call G_need_complex (hr.mono (by decide)) (by rfl) T.g_need_complex T.k_need_complex T.bd_need_complex .nil pass0 (pa_cons (pv 0) pa_nil)))
    (pss_cons (ps_set (i := 1) sc_components.nd rfl (by first | exact Or.inl rfl | exact Or.inr rfl) (pe_dc (own := [("vertex", 6)]) (g := (gName 6)) rfl sc_components.nd (pi_listK K (pe_call G_vertices_in (hr.mono (by decide)) (by rfl) T.g_vertices_in T.k_vertices_in T.bd_vertices_in .nil pass0 (pa_cons (pv 0) pa_nil))) (blkOk_by (N := N_components) (sc := defScope s_components) (by decide +kernel)) (fun _ _ _ _ _ => (pg_name (i := 6) sc_components.nd rfl (by first | exact Or.inl rfl | exact Or.inr rfl))) (fun _ _ _ _ _ => pts_nil) (fun _ _ _ _ _ => (pv 6)) (fun _ _ _ _ _ => (pv 6))))
    (pss_cons (ps_for PassesOwn.never rfl (pi_range1 (by rfl) (T.nb "range" (by decide)) (pa_cons (pe_callB call_lenD (by rfl) (T.nb "len" (by decide)) PySem.boot_len (pa_cons (pv 1) pa_nil)) pa_nil)) (pg_name (i := 2) sc_components.nd rfl (by first | exact Or.inl rfl | exact Or.inr rfl))
    (pss_one (ps_lock (ps_for PassesOwn.never rfl (pi_keys (pe_fldK K (pv 0))) (pg_name (i := 3) sc_components.nd rfl (by first | exact Or.inl rfl | exact Or.inr rfl))
    (pss_one (ps_if (pt_cmpR op_eq (pe_callB (call_len_seqK K) (by rfl) (T.nb "len" (by decide)) PySem.boot_len (pa_cons (pv 3) pa_nil)) pe_int (nomark _)) (pss_cons (ps_set (i := 4) sc_components.nd rfl (by first | exact Or.inl rfl | exact Or.inr rfl) (pe_callB (call_min2 rfl) (by rfl) (T.nb "min" (by decide)) (by decide +kernel) (pa_cons (pe_dget (hu_of hr) (pv 1) (pe_ix (ix_tupK K) (pv 3) pe_int (fun _ _ => rfl)) (fun _ _ => rfl)) (pa_cons (pe_dget (hu_of hr) (pv 1) (pe_ix (ix_tupK K) (pv 3) pe_int (fun _ _ => rfl)) (fun _ _ => rfl)) pa_nil))))
    (pss_one (ps_asg (pe_tup (pa_cons (pv 4) (pa_cons (pv 4) pa_nil))) (pg_tupK K rfl (pgs_cons (pg_sub (pv 1) (pe_ix (ix_tupK K) (pv 3) pe_int (fun _ _ => rfl)) (set_dict (hu_of hr))) (pgs_cons (pg_sub (pv 1) (pe_ix (ix_tupK K) (pv 3) pe_int (fun _ _ => rfl)) (set_dict (hu_of hr))) pgs_nil)))))) pss_nil))))))
    (pss_cons (ps_set (i := 5) sc_components.nd rfl (by first | exact Or.inl rfl | exact Or.inr rfl) (pe_callB (cr_sortedSet rfl) (by rfl) (T.nb "sorted" (by decide)) (by decide +kernel) (pa_cons (pe_lock (pe_sc (own := [("mark", 7)]) (g := (gName 7)) rfl sc_components.nd (pi_values (pv 1)) (blkOk_by (N := N_components) (sc := defScope s_components) (by decide +kernel)) (fun _ _ _ _ _ => (pg_name (i := 7) sc_components.nd rfl (by first | exact Or.inl rfl | exact Or.inr rfl))) (fun _ _ _ _ _ => pts_nil) (fun _ _ _ _ _ => (pv 7)))) pa_nil)))
    (pss_one (ps_ret (pe_lc (own := [("mark", 7)]) (g := (gName 7)) rfl sc_components.nd (pi_listK K (pv 5)) (blkOk_by (N := N_components) (sc := defScope s_components) (by decide +kernel)) (fun _ _ _ _ _ => (pg_name (i := 7) sc_components.nd rfl (by first | exact Or.inl rfl | exact Or.inr rfl))) (fun _ _ _ _ _ => pts_nil) (fun _ _ _ _ _ => (pe_callTy (call_tuple_ofK K) (by rfl) (T.nb "tuple" (by decide)) (by decide +kernel) (pa_cons (pe_lc (own := [("vertex", 6)]) (g := (gName 6)) rfl sc_components.nd (pi_listK K (pe_call G_vertices_in (hr.mono (by decide)) (by rfl) T.g_vertices_in T.k_vertices_in T.bd_vertices_in .nil pass0 (pa_cons (pv 0) pa_nil))) (blkOk_by (N := N_components) (sc := { kind := .function, names := [(PySem.Str.ofString ".0", .local), (PySem.Str.ofString "mark", .cell), (PySem.Str.ofString "tuple", .globalImplicit), (PySem.Str.ofString "vertices_in", .globalImplicit), (PySem.Str.ofString "marks", .cell), (PySem.Str.ofString "shape", .cell)], isGenerator := false, isCoroutine := false, more := [] }) (by decide +kernel)) (fun _ _ _ _ _ => (pg_name (i := 6) sc_components.nd rfl (by first | exact Or.inl rfl | exact Or.inr rfl))) (fun _ _ _ _ _ => pts_one (pt_cmpR op_eq (pe_dget (hu_of hr) (pv 1) (pv 6) (fun _ _ => rfl)) (pv 7) (nomark _))) (fun _ _ _ _ _ => (pv 6))) pa_nil)))))))))), ?_⟩)
  · obtain ⟨p, F, T1, rfl, _⟩ := h; rfl
  · obtain ⟨p, F, T1, rfl, sh, h30, hcl, q⟩ := h
    obtain ⟨dx, d, kvs, t, h1, h2, h3, h4, h5⟩ := id sh
    have npd : p ≠ d := fun z => by rw [z, h2] at h1; cases h1
    refine ⟨_, rfl, p, dx, _, rfl, h1, ?_⟩
    refine ⟨_, rfl, p, F, T1, rfl, sh, fun H1 l ns s1 hl0 hl pw hmem => ?_⟩
    have n31 : (ns.length : Int) ≤ 31 := by
      have := marks_len pw (lo := 0) (hi := 30) (fun x hx => h30 x ((hmem x).mp hx)) (by omega)
      omega
    have nd : ns.Nodup := List.Pairwise.imp (fun {a b} h => by omega) pw
    refine ⟨l, rfl, ⟨_, .of hl⟩, fun D hD => ?_⟩
    have hD0 : H D = none := s1.free hD
    refine lc_raw (fun i H2 => Same H1 H2 ∧ Marks H2 D (ns.take i) id) ⟨same_new hD, upd_same⟩ ns.length (fun i H2 hi ⟨sm, hm⟩ => ?_) fun H2 ⟨sm, hm⟩ => ?_
    · obtain ⟨n, hn⟩ : ∃ n, ns[i]? = some n := ⟨ns[i], by simp [hi]⟩
      have hv : (ns.map V.int)[i]? = some (.int n) := by rw [List.getElem?_map, hn]; rfl
      have hl2 := sm _ _ hl
      refine ⟨⟨_, _, .of hl2, hv⟩, fun x' H' y => ?_⟩
      obtain ⟨rfl, y⟩ := y
      have e := y _ (.of hl2)
      rw [hv] at e
      cases e
      have hnot : n ∉ ns.take i := fun hmn => by
        have tk := take_more hn
        have : (ns.take (i + 1)).Nodup := nd.sublist (List.take_sublist _ _)
        rw [tk, List.nodup_append] at this
        exact this.2.2 n hmn n (by simp) rfl
      have hlen : ((ns.take i).map fun v => ((Sum.inl v : Key), V.int (id v))).length < sizeLine := by
        rw [List.length_map, List.length_take]
        exact Nat.lt_of_le_of_lt (by omega : _ ≤ 31) (by decide)
      refine ⟨rfl, yesI (A := fun H3 => _) (B := fun H3 => _) ⟨_, rfl, _, rfl, _, Sum.inl n, rfl, hm, hlen, (sm.but.upd).same hD, ?_⟩⟩
      show upd _ _ _ _ = _
      rw [upd_same, putK_new _ (marks_no hnot), take_more hn, List.map_append]
      rfl
    · rw [List.take_length] at hm
      have sD := s1.trans sm
      refine ⟨⟨_, .of (sm _ _ hl), by rw [List.length_map]; exact Nat.le_refl _⟩, ?_⟩
      refine ⟨_, rfl, D, _, rfl, hm, ((ns.length : Nat) : Int), by rw [List.length_map], by omega, by omega, ?_⟩
      refine for_rng (n := ((ns.length : Nat) : Int).toNat) (fun k σ H' => ∃ v2 v3 v4, σ = [some (.ref p), some (.ref D), v2, v3, v4, none, none, none] ∧ Same H H' ∧ Marks H' D ns (roundsF F k id)) ⟨none, none, none, rfl, sD, hm⟩ ?_ ?_
      · rintro k σ H3 hk ⟨v2, v3, v4, rfl, s3, hm3⟩
        generalize hmk : roundsF F k id = mk at hm3
        have nDd : D ≠ d := fun z => by rw [z, h2] at hD0; cases hD0
        refine lock_keys (s3 _ _ h2) (fun od Q q => ⟨_, rfl, p, A.C, dx, _, _, rfl, by rw [upd_ne npd]; exact s3 _ _ h1, T.clC, T.nF, flds_faces d t, q⟩) h3 (fun od i σ H' => ∃ v3 v4, σ = [some (.ref p), some (.ref D), some (.int (k : Nat)), v3, v4, none, none, none] ∧ Same (upd H d (.frz od (.dT kvs))) H' ∧ Marks H' D ns (roundF (F.take i) mk))
          (fun od => ⟨v3, v4, rfl, ?_, by show upd _ _ _ _ = _; rw [upd_ne nDd]; exact hm3⟩) (fun od i σ H' _ ⟨_, _, _, s5, _⟩ => s5 _ _ upd_same) ?_ ?_
        · intro b o e
          by_cases z : b = d
          · subst z; rw [upd_same] at e ⊢; exact e
          · rw [upd_ne z] at e ⊢
            exact s3 _ _ e
        · rintro od i x u σ H' hu tx ⟨v3, v4, rfl, s5, hm5⟩
          obtain ⟨b, rfl, hb⟩ := tx
          have hDf : (upd H d (.frz od (.dT kvs))) D = none := by rw [upd_ne nDd]; exact hD0
          have tk : roundF (F.take (i + 1)) mk = stepF (roundF (F.take i) mk) u := by
            unfold roundF
            rw [take_more hu, List.foldl_append]
            rfl
          refine ⟨_, rfl, b, _, rfl, .inr (.of hb), rfl, _, rfl, ?_⟩
          rw [List.length_map]
          by_cases c : u.length = 2
          · have e1 : decide (V.int ((u.length : Nat) : Int) = V.int 2) = true := by rw [c]; exact decide_eq_true rfl
            rw [e1]
            obtain ⟨x, y, rfl⟩ : ∃ x y, u = [x, y] := (match u, c with | [x, y], _ => ⟨x, y, rfl⟩)
            obtain ⟨hx, hy⟩ := hcl x y (List.mem_of_getElem? hu)
            have hx := (hmem x).mpr hx
            have hy := (hmem y).mpr hy
            generalize roundF (F.take i) mk = m5 at hm5 tk
            refine iteT ?_
            refine ⟨_, rfl, _, rfl, b, _, 0, _, rfl, rfl, .of hb, rfl, D, _, rfl, .inl ⟨_, Sum.inl x, .inl hm5, rfl, (marks_get hx).symm⟩, ?_⟩
            refine ⟨_, rfl, _, rfl, b, _, 1, _, rfl, rfl, .of hb, rfl, D, _, rfl, .inl ⟨_, Sum.inl y, .inl hm5, rfl, (marks_get hy).symm⟩, _, _, rfl, ?_⟩
            refine ⟨_, rfl, _, rfl, (by show 2 ≤ sizeLine; decide), fun tp htp => ?_⟩
            have s6 := same_new (o := .tup [.int (if m5 y < m5 x then m5 y else m5 x), .int (if m5 y < m5 x then m5 y else m5 x)]) htp
            have hm6 : Marks _ D ns m5 := s6 _ _ hm5
            have hb6 := s6 _ _ hb
            have nbD : b ≠ D := fun z => by rw [z, hm6] at hb6; cases hb6
            have hlen : ∀ m : Int → Int, (ns.map fun v => ((Sum.inl v : Key), V.int (m v))).length < sizeLine := fun m => by
              rw [List.length_map]
              exact Nat.lt_of_le_of_lt (by omega : _ ≤ 31) (by decide)
            refine ⟨tp, _, rfl, .of upd_same, rfl, _, _, rfl, _, rfl, _, rfl, b, _, 0, _, rfl, rfl, .of hb6, rfl, D, _, rfl, .inl ⟨_, Sum.inl x, hm6, rfl, hlen _, rfl⟩, ?_⟩
            rw [marks_put hx]
            refine ⟨_, _, rfl, _, rfl, _, rfl, b, _, 1, _, rfl, rfl, .of (by rw [upd_ne nbD]; exact hb6), rfl, D, _, rfl, .inl ⟨_, Sum.inl y, upd_same, rfl, hlen _, rfl⟩, rfl, ?_⟩
            rw [marks_put hy]
            refine ⟨_, _, rfl, ((((s5.trans s6).but.upd).same hDf).but.upd).same hDf, ?_⟩
            show upd _ _ _ _ = _
            rw [upd_same, tk]
            congr 2
            apply List.map_congr_left
            intro v _
            have emin : (if m5 y < m5 x then m5 y else m5 x) = min (m5 x) (m5 y) := by omega
            rw [emin]
            rfl
          · have e1 : decide (V.int ((u.length : Nat) : Int) = V.int 2) = false := by
              rw [decide_eq_false]
              intro z
              injection z with z
              omega
            rw [e1]
            refine iteF ⟨_, _, rfl, s5, ?_⟩
            have e2 : stepF (roundF (F.take i) mk) u = roundF (F.take i) mk := by
              unfold stepF
              split
              · exact absurd rfl c
              · rfl
            rw [tk, e2]
            exact hm5
        · rintro od σ H' ⟨v3, v4, rfl, s5, hm5⟩
          rw [List.take_length] at hm5
          refine ⟨_, _, _, rfl, upd_back h2 s5, ?_⟩
          rw [roundsF_succ, hmk]
          show upd _ _ _ _ = _
          rw [upd_ne nDd]
          exact hm5
      · rintro σ H3 ⟨v2, v3, v4, rfl, s3, hm3⟩
        have e8 : ((ns.length : Nat) : Int).toNat = ns.length := by simp
        rw [e8] at hm3
        have hconn : (∃ v, [v] ∈ F) → ConnP F → ∃ v0, v0 ∈ ns ∧ ∀ v ∈ ns, roundsF F ns.length id v = v0 := fun ⟨v, hv⟩ hc =>
          rounds_one (fun a b h => let ⟨ha, hb⟩ := hcl a b h; ⟨(hmem a).mpr ha, (hmem b).mpr hb⟩) (fun f hf x hx y hy => hc f hf x y ((hmem x).mp hx) ((hmem y).mp hy)) (List.ne_nil_of_mem ((hmem v).mpr hv))
        generalize roundsF F ns.length id = mE at hm3 hconn
        refine ⟨D, _, hm3, trivial, fun od => ⟨_, rfl, D, od, _, rfl, upd_same, fun Ds hDs => ?_⟩⟩
        have nDs : Ds ≠ D := fun z => by rw [z, upd_same] at hDs; cases hDs
        refine lc_raw (fun i H4 => Same (upd H3 D (.frz od (.dK (ns.map fun v => ((Sum.inl v : Key), V.int (mE v)))))) H4 ∧ ∃ S n, H4 Ds = some (SetO w Ds S n) ∧ n ≤ i ∧ ∀ k, S k = true ↔ ∃ v ∈ ns.take i, mE v = k) ⟨same_new hDs, _, _, upd_same, Nat.le_refl _, by simp⟩ ns.length (fun i H4 hi ⟨sm4, S, n, hS, hn, hSk⟩ => ?_) fun H4 ⟨sm4, S, n, hS, hn, hSk⟩ => ?_
        · obtain ⟨v, hv⟩ : ∃ v, ns[i]? = some v := ⟨ns[i], by simp [hi]⟩
          refine ⟨⟨sm4 _ _ upd_same, by rw [List.length_map]; exact hi⟩, fun x' H' y => ?_⟩
          obtain ⟨rfl, k', y⟩ := y
          rw [List.getElem?_map, hv] at y
          cases y
          refine ⟨rfl, yesI (A := fun H3 => _) (B := fun H3 => _) ⟨_, rfl, S, n, mE v, rfl, hS, ?_, ?_⟩⟩
          · show n + 1 < scanBound
            exact Nat.lt_of_le_of_lt (by omega : _ ≤ 40) (by decide)
          · refine ⟨(sm4.but.upd).same hDs, _, _, upd_same, ?_, fun k => ?_⟩
            · split <;> omega
            · rw [take_more hv]
              simp only [Bool.or_eq_true, decide_eq_true_eq, hSk, List.mem_append, List.mem_singleton]
              constructor
              · rintro (⟨u, hu, e⟩ | e)
                · exact ⟨u, .inl hu, e⟩
                · exact ⟨v, .inr rfl, e.symm⟩
              · rintro ⟨u, hu | hu, e⟩
                · exact .inl ⟨u, hu, e⟩
                · subst hu; exact .inr e.symm
        · refine ⟨⟨sm4 _ _ upd_same, by rw [List.length_map]; exact Nat.le_refl _⟩, sm4 _ _ upd_same, ?_⟩
          rw [List.take_length] at hSk
          have s5 : Same H3 (upd H4 D (.dK (ns.map fun v => ((Sum.inl v : Key), V.int (mE v))))) := upd_back hm3 sm4
          refine ⟨Ds, S, n, rfl, by rw [upd_ne nDs]; exact hS, by omega, fun ks l5 pk hk hlk hl5 => ?_⟩
          have s6 := (s3.trans s5).new (o := .lst (ks.map V.int)) hl5
          have hm6 : Marks _ D ns mE := same_new (o := .lst (ks.map V.int)) hl5 _ _ (upd_same (H := H4) (a := D))
          revert s6 hm6
          generalize hH6 : upd (upd H4 D (.dK (ns.map fun v => ((Sum.inl v : Key), V.int (mE v))))) l5 (.lst (ks.map V.int)) = H6
          intro s6 hm6
          have hl6 : H6 l5 = some (.lst (ks.map V.int)) := by rw [← hH6]; exact upd_same
          refine ⟨_, rfl, l5, rfl, ⟨_, .of hl6⟩, fun D7 hD7 => lc_map ks (fun _ x n => x = V.int n) (fun _ _ _ => True) id hD7 (src_listI (.of hl6)) (fun _ _ _ _ _ h => h) (Nat.lt_of_le_of_lt (by omega : _ ≤ 40) (by decide)) ?_ gm_name ?_⟩
          · intro i x n H7 Ny _ hx sm7 hy
            subst hx
            have s67 := s6.trans sm7
            refine ⟨rfl, _, rfl, p, F, T1, rfl, sh.mono s67, fun H8 l8 ns8 s8 hl80 hl8 pw8 hmem8 => ?_⟩
            refine ⟨l8, rfl, ⟨_, .of hl8⟩, fun D9 hD9 => lc_gen ns8 (fun _ x n => x = V.int n) (fun _ _ _ => True) (fun v => decide (mE v = n)) id hD9 (src_listI (.of hl8)) (fun _ _ _ _ _ h => h) ?_ ?_ ?_⟩
            · have := marks_len pw8 (lo := 0) (hi := 30) (fun x hx => h30 x ((hmem8 x).mp hx)) (by omega)
              exact Nat.lt_of_le_of_lt (by omega : _ ≤ 31) (by decide)
            · intro j x v H9 Nz Nn hv hx sm9 hz hnn
              subst hx
              have hvn : v ∈ ns := (hmem v).mpr ((hmem8 v).mp (List.mem_of_getElem? hv))
              have hm9 : Marks H9 D ns mE := sm9 _ _ (s8 _ _ (sm7 _ _ hm6))
              refine ⟨rfl, _, rfl, _, rfl, D, _, rfl, .inl ⟨_, Sum.inl v, .inl hm9, rfl, (marks_get hvn).symm⟩, _, rfl, rfl, _, rfl, ?_⟩
              by_cases c : mE v = n
              · have e1 : decide (V.int (mE v) = V.int n) = true := by rw [c]; exact decide_eq_true rfl
                rw [e1]
                exact iteT ⟨_, rfl, hz (by simp [c]) _ _ (Same.refl _) trivial⟩
              · have e1 : decide (V.int (mE v) = V.int n) = false := by
                  rw [decide_eq_false]
                  intro z
                  injection z with z
                  exact c z
                rw [e1]
                exact iteF (hnn (by simp [c]) _ (Same.refl _))
            · intro H9 zs sm9 hD9' hp9
              exact ⟨D9, zs, rfl, .inl ⟨.of hD9', fun l9 hl9 => hy _ _ ((s8.trans sm9).new hl9) trivial⟩⟩
          · intro H8 zs sm8 hD8 hp8
            refine q H8 D7 zs (s6.trans sm8) (s6.free hD7) hD8 fun hne hc => ?_
            rw [pl hp8, List.length_map]
            obtain ⟨v0, hv0, hall⟩ := hconn hne hc
            have hks : ∀ k, k ∈ ks ↔ k = v0 := fun k => by
              rw [hk, hSk]
              constructor
              · rintro ⟨v, hv, rfl⟩; exact hall v hv
              · rintro rfl; exact ⟨k, hv0, hall k hv0⟩
            cases ks with
            | nil => exact absurd ((hks v0).mpr rfl) (by simp)
            | cons k ks =>
              cases ks with
              | nil => rfl
              | cons k2 ks =>
                have a1 := (hks k).mp (by simp)
                have a2 := (hks k2).mp (by simp)
                have := (List.pairwise_cons.mp pk).1 k2 (by simp)
                omega
end
end Fl

set_option Elab.async false
set_option linter.all false
set_option maxRecDepth 100000
set_option maxHeartbeats 4000000
namespace Fl
open PySem PySem.Spec PyProof.Rows L2
section
variable {P : Program} {w : World} {K : PySem.W.Frag} {mg : Str → Option Value} {base : Heap} {A : Ad}
/-- what is so of every complex that is asked here -/
structure Cx0 (F T : List (List Int)) : Prop where
  clo : ∀ x y, y ∈ F → Part x y → x ∈ F
  simp : ∀ t ∈ F, simpB t = true
  tri : ∀ t ∈ T, t.length = 3
  len : T.length ≤ 400
theorem Cx0.h30 {F T : List (List Int)} (c : Cx0 F T) : ∀ n, [n] ∈ F → 0 ≤ n ∧ n ≤ 30 := fun n hn => by
  have := c.simp _ hn
  unfold simpB ascB at this
  simp only [Bool.and_eq_true, List.all_cons, decide_eq_true_eq] at this
  exact this.1.2.1
theorem part1 (a b : Int) : Part [a] [a, b] ∧ Part [b] [a, b] := ⟨⟨by simp, by simp⟩, ⟨by simp, by simp⟩⟩
theorem Cx0.hcl {F T : List (List Int)} (c : Cx0 F T) : ∀ a b, [a, b] ∈ F → [a] ∈ F ∧ [b] ∈ F := fun a b h => ⟨c.clo _ _ h (part1 a b).1, c.clo _ _ h (part1 a b).2⟩
/-- a closed surface, as the program asks it -/
structure Srf (F T : List (List Int)) : Prop extends Cx0 F T where
  conn : ConnP F
  ne : ∃ v, [v] ∈ F
  two : ∀ e t, (e, t) ∈ pairsOf T → (atE (pairsOf T) e).length = 2
  link : ∀ v, [v] ∈ F → ∀ F' T' F2, Faces (linkOf F v) F' → Tops F' T' → Faces T' F2 → (∃ x, [x] ∈ F2) ∧ ConnP F2
theorem valV_get {kvs : List (List Key × V)} {G : List (List Int)} (hG : KF kvs G) (nd : G.Nodup) {i : Nat} {e : List Int} {v : V} (h : kvs[i]? = some (kI e, v)) : valV kvs (kI e) = some v := by
  induction kvs generalizing G i with
  | nil => simp at h
  | cons kv kvs ih =>
    cases G with
    | nil => cases hG
    | cons g G =>
      unfold KF at hG
      rw [List.map_cons, List.map_cons] at hG
      injection hG with h1 h2
      obtain ⟨n1, n2⟩ := List.nodup_cons.mp nd
      cases i with
      | zero =>
        simp at h
        subst h
        exact valV_pos rfl
      | succ i =>
        simp at h
        have hm : e ∈ G := by
          obtain ⟨u, hu, e2⟩ := KF.get (F := G) h2 h
          rw [kI_inj e2]
          exact List.mem_of_getElem? hu
        rw [valV_neg (by rw [h1]; intro z; rw [kI_inj z] at n1; exact n1 hm)]
        exact ih h2 n2 h
/-- the lists of the walls -/
theorem src_walls {H1 : Hp} {d : Addr} {o : Obj} {kvs : List (List Key × V)} {L : List (List Int × List Int)} {G : List (List Int)} (h : H1 d = some (.frz o (.dT kvs))) (w : WD H1 kvs L) (hG : KF kvs G) (nd : G.Nodup) :
    Src (Itvt d o kvs) H1 G (fun H x e => ∃ a ys, x = .ref a ∧ H a = some (.lst ys) ∧ TL H ys (atE L e)) := fun H sm => by
  have q := sm _ _ h
  refine ⟨⟨q, by rw [hG.len]; exact Nat.le_refl _⟩, fun i e he => ?_⟩
  obtain ⟨v, hv⟩ := hG.get2 he
  refine ⟨⟨q, (List.getElem?_eq_some_iff.mp hv).1⟩, fun x H' y => ?_⟩
  obtain ⟨rfl, k, y⟩ := y
  rw [hv] at y
  cases y
  obtain ⟨a, ys, h1, h2, h3⟩ := w.val e _ (valV_get hG nd hv)
  exact ⟨Same.refl _, a, ys, h1, sm _ _ h2, h3.mono sm.keep⟩
theorem few_of {S F : List (List Int)} (hn : F.length ≤ 400) (h : ∀ x s, s ∈ S → Part x s → x ∈ F) : Few S := by
  intro F' nd h'
  refine Nat.le_trans (nodup_le nd ?_) hn
  intro x hx
  obtain ⟨s, hs, hp⟩ := h' x hx
  exact h x s hs hp
theorem len1 (n : Nat) : decide (V.int ((n : Nat) : Int) = V.int 1) = decide (n = 1) := by
  rw [Bool.eq_iff_iff]
  simp only [decide_eq_true_eq, V.int.injEq]
  omega
theorem len2 (n : Nat) : decide (V.int ((n : Nat) : Int) = V.int 2) = decide (n = 2) := by
  rw [Bool.eq_iff_iff]
  simp only [decide_eq_true_eq, V.int.injEq]
  omega
def spIs_surface_in (C : Addr) : Sp := fun vs H Q _ => ∃ p F T, vs = [.ref p] ∧ Shp C H p F T ∧ Cx0 F T ∧ ((Srf F T ∧ ∀ H', Same H H' → Q (.bl true) H') ∨ (∃ e t, (e, t) ∈ pairsOf T ∧ (atE (pairsOf T) e).length ≠ 2) ∧ ∀ H', Same H H' → Q (.bl false) H')
theorem ok_is_surface_in (T : Tx K mg A) (G_facets : FnOk P w K mg base CX0 1 A.f_facets A.fd_facets ["self"] (getSp A.C "tops"))
    (G_components : FnOk P w K mg base CX0 2 A.f_components A.fd_components ["shape"] (spComponents A.C)) (G_walls_of : FnOk P w K mg base CX0 3 A.f_walls_of A.fd_walls_of ["shape"] (spWalls_of A.C))
    (G_made : FnOk P w K mg base CX0 7 A.f_made A.fd_made ["simplices"] (spMade A.C)) (G_link_in : FnOk P w K mg base CX0 1 A.f_link_in A.fd_link_in ["shape", "simplex"] (spLink_in A.C))
    (G_vertices_in : FnOk P w K mg base CX0 1 A.f_vertices_in A.fd_vertices_in ["shape"] (spVertices_in A.C)) :
    FnOk P w K mg base CX0 8 A.f_is_surface_in A.fd_is_surface_in ["shape"] (spIs_surface_in A.C) := by
  refine T.F_is_surface_in.ok sc_is_surface_in (fun vs H Q E h => ?_) (fun cdv Ar outer s H vs Q E hr h => ⟨_, (pss_cons (ps_if (PW.pt (pw_or (pt_cmpR op_ne (pe_callB (call_len_seqK K) (by rfl) (T.nb "len" (by decide)) PySem.boot_len (pa_cons (pe_call G_components (hr.mono (by decide)) (by rfl) T.g_components T.k_components T.bd_components .nil pass0 (pa_cons (pv 0) pa_nil)) pa_nil)) pe_int (nomark _)) (pw_or1 (pt_val (pe_callB (cr_anyK K rfl) (by rfl) (T.nb "any" (by decide)) (by decide +kernel) (pa_cons (pe_lc (own := [("one", 3)]) (g := (gName 3)) rfl sc_is_surface_in.nd (pi_tupK K (pe_prop (pv 0) T.clC T.pfC G_facets (hr.mono (by decide)) T.bd_facets .nil pass0 rfl)) (blkOk_by (N := N_is_surface_in) (sc := defScope s_is_surface_in) (by decide +kernel)) (fun _ _ _ _ _ => (pg_name (i := 3) sc_is_surface_in.nd rfl (by first | exact Or.inl rfl | exact Or.inr rfl))) (fun _ _ _ _ _ => pts_nil) (fun _ _ _ _ _ => (pe_cmpR op_ne (pe_callB (call_len_seqK K) (by rfl) (T.nb "len" (by decide)) PySem.boot_len (pa_cons (pv 3) pa_nil)) pe_int (nomark _)))) pa_nil)))))) (pss_one (ps_ret pe_bl)) pss_nil)
    (pss_cons (ps_if (pt_val (pe_callB (cr_anyK K rfl) (by rfl) (T.nb "any" (by decide)) (by decide +kernel) (pa_cons (pe_lc (own := [("some", 1)]) (g := (gName 1)) rfl sc_is_surface_in.nd (pi_valuesT (pe_lockR (pe_call G_walls_of (hr.mono (by decide)) (by rfl) T.g_walls_of T.k_walls_of T.bd_walls_of .nil pass0 (pa_cons (pv 0) pa_nil)))) (blkOk_by (N := N_is_surface_in) (sc := defScope s_is_surface_in) (by decide +kernel)) (fun _ _ _ _ _ => (pg_name (i := 1) sc_is_surface_in.nd rfl (by first | exact Or.inl rfl | exact Or.inr rfl))) (fun _ _ _ _ _ => pts_nil) (fun _ _ _ _ _ => (pe_cmpR op_ne (pe_callB (call_len_seqK K) (by rfl) (T.nb "len" (by decide)) PySem.boot_len (pa_cons (pv 1) pa_nil)) pe_int (nomark _)))) pa_nil))) (pss_one (ps_ret pe_bl)) pss_nil)
    (pss_one (ps_ret (pe_callB (cr_allK K rfl) (by rfl) (T.nb "all" (by decide)) (by decide +kernel) (pa_cons (pe_lc (own := [("vertex", 2)]) (g := (gName 2)) rfl sc_is_surface_in.nd (pi_listK K (pe_call G_vertices_in (hr.mono (by decide)) (by rfl) T.g_vertices_in T.k_vertices_in T.bd_vertices_in .nil pass0 (pa_cons (pv 0) pa_nil))) (blkOk_by (N := N_is_surface_in) (sc := defScope s_is_surface_in) (by decide +kernel)) (fun _ _ _ _ _ => (pg_name (i := 2) sc_is_surface_in.nd rfl (by first | exact Or.inl rfl | exact Or.inr rfl))) (fun _ _ _ _ _ => pts_nil) (fun _ _ _ _ _ => (pe_cmpR op_eq (pe_callB (call_len_seqK K) (by rfl) (T.nb "len" (by decide)) PySem.boot_len (pa_cons (pe_call G_components (hr.mono (by decide)) (by rfl) T.g_components T.k_components T.bd_components .nil pass0 (pa_cons (pe_call G_made (hr.mono (by decide)) (by rfl) T.g_made T.k_made T.bd_made .nil pass0 (pa_cons (pe_call G_link_in (hr.mono (by decide)) (by rfl) T.g_link_in T.k_link_in T.bd_link_in .nil pass0 (pa_cons (pv 0) (pa_cons (pe_tup (pa_cons (pv 2) pa_nil)) pa_nil))) pa_nil)) pa_nil)) pa_nil)) pe_int (nomark _)))) pa_nil)))))), ?_⟩)
  · obtain ⟨p, F, T1, rfl, _⟩ := h; rfl
  · obtain ⟨p, F, T1, rfl, sh, c0, q⟩ := h
    refine ⟨_, rfl, p, F, T1, rfl, sh, c0.h30, c0.hcl, fun H1 l ys s1 hl0 hl hlen => ?_⟩
    obtain ⟨dx, fd, kv0, t0, h1, h2, hk, ⟨a, xs, rfl, ha, ht⟩, h5⟩ := id sh
    have hF400 : F.length ≤ 400 := h5.len
    have fin1 : ∀ H', Same H H' → (Srf F T1 → ys.length = 1) := fun H' _ S => hlen S.ne S.conn
    refine ⟨l, ys, rfl, .inl (.of hl), rfl, _, rfl, ?_⟩
    rw [len1]
    by_cases c : ys.length = 1
    · rw [decide_eq_true c]
      refine iteF ?_
      have ha1 := s1 _ _ ha
      refine ⟨_, rfl, p, dx, _, rfl, s1 _ _ h1, p, dx, _, _, rfl, s1 _ _ h1, flds_tops _ _, a, rfl, ⟨_, .of ha1⟩, fun D hD => lc_map T1 Ti (fun _ y b => y = V.bl b) (fun _ => false) hD (src_tupT (.of ha1) (ht.mono s1.keep)) (fun _ _ _ _ _ h => h) (Nat.lt_of_le_of_lt c0.len (by decide)) ?_ gm_name ?_⟩
      · intro i x u H2 Ny hu hx sm hy
        obtain ⟨b, rfl, hb⟩ := hx
        have h3 := c0.tri u (List.mem_of_getElem? hu)
        refine ⟨rfl, _, rfl, b, _, rfl, .inr (.of hb), rfl, ?_⟩
        rw [List.length_map, h3]
        exact hy _ _ (Same.refl _) rfl
      · intro H2 zs sm2 hD2 hp2
        rw [peq hp2] at hD2
        refine ⟨D, _, rfl, .of hD2, _, rfl, ?_⟩
        have e1 : (List.map (fun _ => false) T1).any id = false := by simp
        rw [e1]
        refine iteF ?_
        have s2 := s1.trans sm2
        refine ⟨_, rfl, p, F, T1, rfl, sh.mono s2, c0.tri, c0.len, fun H3 d kvs s3 hd0 hd3 wd => ?_⟩
        have s23 := s2.trans s3
        have hdH : H d = none := s2.free hd0
        refine ⟨d, _, hd3, trivial, fun od => ?_⟩
        have s4 : Same H (upd H3 d (.frz od (.dT kvs))) := (s23.but.upd).same hdH
        have wd4 : WD (upd H3 d (.frz od (.dT kvs))) kvs (pairsOf T1) := ⟨wd.ex, fun e v hv => by
          obtain ⟨b, ws, e1, e2, e3⟩ := wd.val e v hv
          have nb : b ≠ d := fun z => by rw [z, hd3] at e2; cases e2
          exact ⟨b, ws, e1, by rw [upd_ne nb]; exact e2, e3.mono (keep_dT hd3)⟩, wd.inj⟩
        have hd4 : upd H3 d (.frz od (.dT kvs)) d = some (.frz od (.dT kvs)) := upd_same
        revert s4 wd4 hd4
        generalize upd H3 d (.frz od (.dT kvs)) = H4
        intro s4 wd4 hd4
        obtain ⟨G, hG, nG, lG, mG⟩ := wd4.ex
        have hGl : G.length < sizeLine := by
          rw [pairs_len c0.tri] at lG
          have := c0.len
          exact Nat.lt_of_le_of_lt (by omega : _ ≤ 1200) (by decide)
        refine ⟨d, od, kvs, rfl, hd4, fun D5 hD5 => lc_map G _ (fun _ y b => y = V.bl b) (fun e => !decide ((atE (pairsOf T1) e).length = 2)) hD5 (src_walls hd4 wd4 hG nG) (fun _ _ _ _ _ h => h) hGl ?_ gm_name ?_⟩
        · intro i x e H5 Ny he hx sm hy
          obtain ⟨b, ws, rfl, hb, hw⟩ := hx
          refine ⟨rfl, _, rfl, b, _, rfl, .inl (.of hb), rfl, ?_⟩
          rw [len2, pl hw]
          exact hy _ _ (Same.refl _) rfl
        · intro H5 ws sm5 hD5' hp5
          rw [peq hp5] at hD5'
          refine ⟨D5, _, rfl, .of hD5', _, rfl, ?_⟩
          have s5 := s4.trans sm5
          rcases q with ⟨S, q⟩ | ⟨⟨e, t, het, hne⟩, q⟩
          · have e1 : (G.map fun e => !decide ((atE (pairsOf T1) e).length = 2)).any id = false := by
              rw [List.any_eq_false]
              intro b hb
              obtain ⟨e, he, rfl⟩ := List.mem_map.mp hb
              obtain ⟨t, het⟩ := (mG e).mp he
              simp [S.two e t het]
            rw [e1]
            refine iteF ?_
            refine ⟨_, rfl, p, F, T1, rfl, sh.mono s5, fun H6 l6 ns s6 hl60 hl6 pw hmem => ?_⟩
            have s56 := s5.trans s6
            have n31 : (ns.length : Int) ≤ 31 := by
              have := marks_len pw (lo := 0) (hi := 30) (fun x hx => c0.h30 x ((hmem x).mp hx)) (by omega)
              omega
            refine ⟨l6, rfl, ⟨_, .of hl6⟩, fun D7 hD7 => lc_map ns (fun _ x n => x = V.int n) (fun _ y b => y = V.bl b) (fun _ => true) hD7 (src_listI (.of hl6)) (fun _ _ _ _ _ h => h) (Nat.lt_of_le_of_lt (by omega : _ ≤ 31) (by decide)) ?_ gm_name ?_⟩
            · intro i x v H7 Ny hv hx sm7 hy
              subst hx
              have hvF : [v] ∈ F := (hmem v).mp (List.mem_of_getElem? hv)
              have s7 := s56.trans sm7
              have rstF : ∀ t ∈ F, ∀ x, Part x (rst t v) → x ∈ F := fun t ht x hx => c0.clo x t ht ⟨hx.1, hx.2.trans List.filter_sublist⟩
              have hS : ∀ s ∈ linkOf F v, s ≠ [] ∧ ∃ t ∈ F, s = rst t v := fun s hs => by
                unfold linkOf at hs
                obtain ⟨t, ht, rfl⟩ := List.mem_map.mp hs
                obtain ⟨ht1, ht2⟩ := List.mem_filter.mp ht
                have := (of_decide_eq_true ht2).1
                exact ⟨List.length_pos_iff.mp this, t, ht1, rfl⟩
              have hSF : ∀ x s, s ∈ linkOf F v → Part x s → x ∈ F := fun x s hs hx => by
                obtain ⟨_, t, ht, rfl⟩ := hS s hs
                exact rstF t ht x hx
              refine ⟨rfl, _, rfl, _, rfl, (by show 1 ≤ sizeLine; decide), fun tp htp => ?_⟩
              have s8 := s7.new (o := .tup [.int v]) htp
              refine ⟨p, _, v, F, T1, rfl, ⟨tp, rfl, upd_same⟩, sh.mono s8, fun H9 l9 ys9 s9 hl90 hl9 ty9 => ?_⟩
              refine ⟨l9, ys9, linkOf F v, rfl, hl9, ty9, fun s hs => ?_, few_of hF400 hSF, fun F' T' hF' hT' => ?_, fun H10 p2 F' T' F2 T2 s10 hp20 sh2 hF' hT' hF2 hT2 => ?_⟩
              · have hh := (hS s hs).1
                exact ⟨hh, (simp_len (c0.simp s (hSF s s hs (Part.refl hh)))).2⟩
              · have sub : ∀ x ∈ T', x ∈ F := fun x hx => by
                  obtain ⟨s, hs, hp⟩ := (hF'.2 x).mp ((hT'.2 x).mp hx).1
                  exact hSF x s hs hp
                exact ⟨Nat.le_trans (nodup_le hT'.1.nodup sub) hF400, fun s hs => c0.simp s (sub s hs), few_of hF400 fun x s hs hp => c0.clo x s (sub s hs) hp⟩
              · have sub : ∀ x ∈ T', x ∈ F := fun x hx => by
                  obtain ⟨s, hs, hp⟩ := (hF'.2 x).mp ((hT'.2 x).mp hx).1
                  exact hSF x s hs hp
                have sub2 : ∀ x ∈ F2, x ∈ F := fun x hx => by
                  obtain ⟨s, hs, hp⟩ := (hF2.2 x).mp hx
                  exact c0.clo x s (sub s hs) hp
                have clo2 : ∀ x y, y ∈ F2 → Part x y → x ∈ F2 := fun x y hy hp => by
                  obtain ⟨s, hs, hp2⟩ := (hF2.2 y).mp hy
                  exact (hF2.2 x).mpr ⟨s, hs, hp.trans hp2⟩
                refine ⟨p2, F2, T2, rfl, sh2, fun n hn => c0.h30 n (sub2 _ hn), fun a b h => ⟨clo2 _ _ h (part1 a b).1, clo2 _ _ h (part1 a b).2⟩, fun H11 l11 zs11 s11 hl110 hl11 hone => ?_⟩
                obtain ⟨k1, k2⟩ := S.link v hvF F' T' F2 hF' hT' hF2
                have hz := hone k1 k2
                refine ⟨l11, zs11, rfl, .inl (.of hl11), rfl, ?_⟩
                rw [len1, decide_eq_true hz]
                exact hy _ _ (((same_new htp).trans s9).trans (s10.trans s11)) rfl
            · intro H8 zs sm8 hD8 hp8
              rw [peq hp8] at hD8
              refine ⟨D7, _, rfl, .of hD8, ?_⟩
              have e2 : (ns.map fun _ => true).all id = true := by simp
              rw [e2]
              exact q _ (s56.trans sm8)
          · have e1 : (G.map fun e => !decide ((atE (pairsOf T1) e).length = 2)).any id = true := by
              rw [List.any_eq_true]
              exact ⟨true, List.mem_map.mpr ⟨e, (mG e).mpr ⟨t, het⟩, by simp [hne]⟩, rfl⟩
            rw [e1]
            exact iteT (q _ s5)
    · rw [decide_eq_false c]
      refine iteT (iteT ?_)
      rcases q with ⟨S, q⟩ | ⟨_, q⟩
      · exact absurd (hlen S.ne S.conn) c
      · exact q _ s1
end
end Fl

set_option Elab.async false
set_option linter.all false
set_option maxRecDepth 100000
set_option maxHeartbeats 4000000
namespace Fl
open PySem PySem.Spec PyProof.Rows L2
section
variable {P : Program} {w : World} {K : PySem.W.Frag} {mg : Str → Option Value} {base : Heap} {A : Ad}
/-- x is the pair of the tuple and the int -/
def PairI (H : Hp) (x : V) (p : List Int × Int) : Prop := ∃ tp ev, x = .ref tp ∧ H tp = some (.tup [ev, .int p.2]) ∧ Ti H ev p.1
theorem PairI.mono {H H' : Hp} {x : V} {p : List Int × Int} (h : PairI H x p) (k : Keep H H') : PairI H' x p := let ⟨tp, ev, h1, h2, h3⟩ := h; ⟨tp, ev, h1, k _ _ h2, h3.mono k⟩
theorem PairI.inj {H : Hp} {x : V} {p q : List Int × Int} (h : PairI H x p) (k : PairI H x q) : p = q := by
  obtain ⟨tp, ev, rfl, h2, h3⟩ := h
  obtain ⟨tq, fv, e, k2, k3⟩ := k
  cases e
  rw [h2] at k2
  injection k2 with k2
  injection k2 with k2
  injection k2 with k4 k5
  subst k4
  injection k5 with k6 _
  injection k6 with k7
  exact Prod.ext (h3.inj k3) k7
open Classical in
noncomputable def decP (H : Hp) (v : V) : List Int × Int := if h : ∃ t, PairI H v t then h.choose else ([], 0)
theorem PairI.dec {H : Hp} {v : V} {t : List Int × Int} (h : PairI H v t) : decP H v = t := by
  have e : ∃ t, PairI H v t := ⟨t, h⟩
  unfold Fl.decP
  rw [dif_pos e]
  exact e.choose_spec.inj h
def encD (B : List (List Int × Int)) : List (List Key × V) := B.map fun p => (kI p.1, V.int p.2)
theorem src_items {H1 : Hp} {d : Addr} {o : Obj} {B : List (List Int × Int)} (h : H1 d = some (.frz o (.dT (encD B)))) : Src (Itit d o (encD B)) H1 B PairI := fun H sm => by
  have q := sm _ _ h
  refine ⟨⟨q, by unfold encD; rw [List.length_map]; exact Nat.le_refl _⟩, fun i e he => ?_⟩
  have hv : (encD B)[i]? = some (kI e.1, V.int e.2) := by unfold encD; rw [List.getElem?_map, he]; rfl
  refine ⟨⟨q, (List.getElem?_eq_some_iff.mp hv).1⟩, fun x H' y => ?_⟩
  obtain ⟨tp, k, v, qk, hk, hq, rfl, hT, rfl⟩ := y
  rw [hv] at hk
  cases hk
  refine ⟨same_new hT, tp, _, rfl, upd_same, qk, rfl, ?_⟩
  have nq : qk ≠ tp := fun z => by rw [z, hT] at hq; cases hq
  rw [upd_ne nq, hq, kI_kV]
def spTidy : Sp := fun vs H Q _ => ∃ d B, vs = [.ref d] ∧ H d = some (.dT (encD B)) ∧ B.length ≤ 8 ∧ (∀ p ∈ B, p.2 ≠ 0 ∧ p.1 ≠ []) ∧
  ∀ (H' : Hp) (p : Addr) (o : Obj) (xs : List V) (B' : List (List Int × Int)), Same H H' → H p = none → H' p = some (.frz o (.tup xs)) → o.cls = .type "tuple" → o.dict = none → Paired (PairI H') xs B' → B'.Perm B → Q (.ref p) H'
theorem ok_tidy (T : Tx K mg A) : FnOk P w K mg base CX0 1 A.f_tidy A.fd_tidy ["numbers"] spTidy := by
  refine T.F_tidy.ok sc_tidy (fun vs H Q E h => ?_) (fun cdv Ar outer s H vs Q E hr h => ⟨_, (pss_one (ps_ret (pe_callTy (call_tupFK K) (by rfl) (T.nb "tuple" (by decide)) (by decide +kernel) (pa_cons (pe_callB (cr_sortPXK K (hu4 hr)) (by rfl) (T.nb "sorted" (by decide)) (by decide +kernel) (pa_cons (pe_lock (pe_lc (own := [("simplex", 1), ("number", 2)]) (g := (gTup K 2 (gCons (gName 1) (gCons (gName 2) gNil)))) rfl sc_tidy.nd (pi_itemsT (pv 0)) (blkOk_by (N := N_tidy) (sc := defScope s_tidy) (by decide +kernel)) (fun _ _ _ _ _ => (pg_tupK K rfl (pgs_cons (pg_name (i := 1) sc_tidy.nd rfl (by first | exact Or.inl rfl | exact Or.inr rfl)) (pgs_cons (pg_name (i := 2) sc_tidy.nd rfl (by first | exact Or.inl rfl | exact Or.inr rfl)) pgs_nil)))) (fun _ _ _ _ _ => pts_one (pt_cmpR op_ne (pv 2) pe_int (nomark _))) (fun _ _ _ _ _ => (pe_tup (pa_cons (pv 1) (pa_cons (pv 2) pa_nil)))))) pa_nil)) pa_nil)))), ?_⟩)
  · obtain ⟨d, B, rfl, _⟩ := h; rfl
  · obtain ⟨d, B, rfl, hd, h8, hnz, q⟩ := h
    refine ⟨d, _, hd, trivial, fun od => ⟨_, rfl, d, od, _, rfl, upd_same, fun D hD => ?_⟩⟩
    have nDd : D ≠ d := fun z => by rw [z, upd_same] at hD; cases hD
    refine lc_gen B PairI PairI (fun _ => true) id hD (src_items upd_same) (fun _ _ _ _ k h => h.mono k) (Nat.lt_of_le_of_lt h8 (by decide)) ?_ ?_
    · intro i x p H2 Ny Nn hp hx sm hy hn
      obtain ⟨tp, ev, rfl, h2, h3⟩ := hx
      refine ⟨tp, _, rfl, .of h2, rfl, _, _, rfl, _, _, rfl, rfl, rfl, ?_⟩
      refine ⟨_, rfl, rfl, _, rfl, ?_⟩
      have e1 : (!decide (V.int p.2 = V.int 0)) = true := by
        have := (hnz p (List.mem_of_getElem? hp)).1
        simp [this]
      rw [e1]
      refine iteT ⟨_, rfl, _, rfl, (by show 2 ≤ sizeLine; decide), fun t2 ht2 => hy rfl _ _ (same_new ht2) ⟨t2, ev, rfl, upd_same, h3.mono (keep_new ht2)⟩⟩
    · intro H2 ys sm hD2 hp
      rw [filter_tt, List.map_id] at hp
      have hfd := sm _ _ (upd_same (H := H) (a := d) (o := .frz od (.dT (encD B))))
      have s2 := upd_back hd sm
      have k2 : Keep H2 (upd H2 d (.dT (encD B))) := keep_upd fun xs e => by rw [hfd] at e; cases e
      have hp2 := Paired.mapP hp fun a b (q : PairI H2 a b) => q.mono k2
      have hD3 : upd H2 d (.dT (encD B)) D = some (.lst ys) := by rw [upd_ne nDd]; exact hD2
      refine ⟨hfd, ?_⟩
      revert s2 hp2 hD3
      generalize upd H2 d (.dT (encD B)) = H3
      intro s2 hp2 hD3
      refine ⟨D, ys, decP H3, rfl, .inl (.of hD3), fun x hx => ?_, fun zs l pm pw hl => ?_⟩
      · obtain ⟨p, hp, h⟩ := pmem hp2 hx
        rw [h.dec]
        obtain ⟨tp, ev, rfl, h2, b, rfl, hb⟩ := h
        exact ⟨tp, b, rfl, .of h2, .of hb⟩
      · refine ⟨l, zs, rfl, .of upd_same, fun l2 o hl2 ho1 ho2 => ?_⟩
        have pz : Paired (PairI H3) zs (zs.map (decP H3)) := pfun fun z hz => by
          obtain ⟨p, hp, h⟩ := pmem hp2 (pm.mem_iff.mp hz)
          rw [h.dec]
          exact h
        have eB : ys.map (decP H3) = B := pfun_eq hp2 fun a b h => h.dec
        refine q _ l2 o zs _ ((s2.new hl).new hl2) ((s2.new hl).free hl2) upd_same ho1 ho2 (Paired.mapP pz fun a b h => (h.mono (keep_new hl)).mono (keep_new hl2)) ?_
        rw [← eB]
        exact pm.map _
/-- the boundary of a triangle with a sign -/
def bd (t : List Int) (s : Int) : List (List Int × Int) := (List.range t.length).map fun m => (cutAt t m, if m % 2 = 0 then s else -s)
def spBoundary_in : Sp := fun vs H Q _ => ∃ a b tv t s, vs = [.ref a] ∧ H a = some (.tup [.ref b]) ∧ H b = some (.tup [tv, .int s]) ∧ Ti H tv t ∧ t.length = 3 ∧ (∀ m n, m < 3 → n < 3 → cutAt t m = cutAt t n → m = n) ∧ s ≠ 0 ∧
  ∀ (H' : Hp) (p : Addr) (o : Obj) (xs : List V) (B' : List (List Int × Int)), Same H H' → H p = none → H' p = some (.frz o (.tup xs)) → o.cls = .type "tuple" → o.dict = none → Paired (PairI H') xs B' → B'.Perm (bd t s) → Q (.ref p) H'
theorem bd_get {t : List Int} {s : Int} {m : Nat} (h : m < t.length) : (bd t s)[m]? = some (cutAt t m, if m % 2 = 0 then s else -s) := by
  unfold bd
  rw [List.getElem?_map, List.getElem?_range h]
  rfl
theorem encD_none {B : List (List Int × Int)} {e : List Int} (h : ∀ p ∈ B, p.1 ≠ e) : valV (encD B) (kI e) = none := by
  unfold encD
  induction B with
  | nil => rfl
  | cons p B ih =>
    rw [List.map_cons, valV_neg (fun z => h p (by simp) (kI_inj z))]
    exact ih fun q hq => h q (by simp [hq])
theorem ok_boundary_in (T : Tx K mg A) (G_tidy : FnOk P w K mg base CX0 1 A.f_tidy A.fd_tidy ["numbers"] spTidy) : FnOk P w K mg base CX0 2 A.f_boundary_in A.fd_boundary_in ["chain"] spBoundary_in := by
  refine T.F_boundary_in.ok sc_boundary_in (fun vs H Q E h => ?_) (fun cdv Ar outer s H vs Q E hr h => ⟨_, (pss_cons (ps_set (i := 1) sc_boundary_in.nd rfl (by first | exact Or.inl rfl | exact Or.inr rfl) pe_dnewT)
    (pss_cons (ps_for PassesOwn.never rfl (pi_tupK K (pv 0)) (pg_tupK K rfl (pgs_cons (pg_name (i := 2) sc_boundary_in.nd rfl (by first | exact Or.inl rfl | exact Or.inr rfl)) (pgs_cons (pg_name (i := 3) sc_boundary_in.nd rfl (by first | exact Or.inl rfl | exact Or.inr rfl)) pgs_nil)))
    (pss_one (ps_for PassesOwn.never rfl (pi_range1 (by rfl) (T.nb "range" (by decide)) (pa_cons (pe_callB (call_len_seqK K) (by rfl) (T.nb "len" (by decide)) PySem.boot_len (pa_cons (pv 2) pa_nil)) pa_nil)) (pg_name (i := 4) sc_boundary_in.nd rfl (by first | exact Or.inl rfl | exact Or.inr rfl))
    (pss_cons (ps_set (i := 5) sc_boundary_in.nd rfl (by first | exact Or.inl rfl | exact Or.inr rfl) (pe_op (op_catAK K) (pe_slice (sl_tupAK K) (pv 2) po_none (po_some (pv 4))) (pe_slice (sl_tupAK K) (pv 2) (po_some (pe_op op_add (pv 4) pe_int)) po_none)))
    (pss_one (ps_dput (hu_of hr) (pv 1) (pv 5) (pe_op op_add (pe_dget2 (hu_of hr) (pv 1) (pv 5) pe_int ⟨rfl, rfl, rfl, rfl⟩) (pe_ifExp (pt_cmpR op_eq (pe_op op_modN (pv 4) pe_int) pe_int (nomark _)) (pv 3) (pe_un un_neg (pv 3)))) rfl))))))
    (pss_one (ps_ret (pe_call G_tidy (hr.mono (by decide)) (by rfl) T.g_tidy T.k_tidy T.bd_tidy .nil pass0 (pa_cons (pv 1) pa_nil)))))), ?_⟩)
  · obtain ⟨a, b, tv, t, s, rfl, _⟩ := h; rfl
  · obtain ⟨a, b, tv, t, s, rfl, ha, hb, ⟨c, rfl, hc⟩, h3, hdis, hs0, q⟩ := h
    intro d hd
    have s0 := same_new (o := .dT []) hd
    refine ⟨_, rfl, a, rfl, ⟨_, .of (s0 _ _ ha)⟩, for_tup (xs := [.ref b]) (fun i σ H' => (i = 0 ∧ ∃ v2 v3 v4 v5, σ = [some (.ref a), some (.ref d), v2, v3, v4, v5] ∧ Same H H' ∧ H' d = some (.dT [])) ∨ (i = 1 ∧ ∃ v2 v3 v4 v5, σ = [some (.ref a), some (.ref d), v2, v3, v4, v5] ∧ Same H H' ∧ H' d = some (.dT (encD (bd t s)))))
      (.inl ⟨rfl, none, none, none, none, rfl, s0, upd_same⟩) (fun i σ H' _ h => ?_) ?_ ?_⟩
    · rcases h with ⟨_, _, _, _, _, _, s5, _⟩ | ⟨_, _, _, _, _, _, s5, _⟩
      · exact .of (s5 _ _ ha)
      · exact .of (s5 _ _ ha)
    · rintro i x σ H' hx (⟨rfl, v2, v3, v4, v5, rfl, s5, hd5⟩ | ⟨rfl, _⟩)
      · cases hx
        refine ⟨b, _, rfl, .of (s5 _ _ hb), rfl, _, _, rfl, _, _, rfl, rfl, ?_⟩
        refine ⟨_, rfl, c, _, rfl, .inr (.of (s5 _ _ hc)), 3, by rw [List.length_map, h3]; rfl, by decide, by decide, for_rng (n := 3) (fun m σ' H2 => ∃ v4 v5, σ' = [some (.ref a), some (.ref d), some (.ref c), some (.int s), v4, v5] ∧ Same H H2 ∧ H2 d = some (.dT (encD ((bd t s).take m)))) ⟨v4, v5, rfl, s5, hd5⟩ ?_ ?_⟩
        · rintro m σ' H2 hm ⟨v4, v5, rfl, s6, hd6⟩
          have hm3 : m < t.length := by omega
          refine cut_out (t := t) (m := m) rfl rfl (s6 _ _ hc) (by omega) fun H3 z s7 hz => ?_
          have hd7 := s7 _ _ hd6
          have tk : (bd t s).take (m + 1) = (bd t s).take m ++ [(cutAt t m, if m % 2 = 0 then s else -s)] := take_more (bd_get hm3)
          have hno : valV (encD ((bd t s).take m)) (kI (cutAt t m)) = none := encD_none fun p hp => by
            obtain ⟨j, hj⟩ := List.getElem?_of_mem hp
            have hjm : j < m := by
              have := (List.getElem?_eq_some_iff.mp hj).1
              rw [List.length_take] at this
              omega
            rw [List.getElem?_take_of_lt hjm, bd_get (by omega)] at hj
            cases hj
            intro e
            have := hdis j m (by omega) (by omega) e
            omega
          have hlen : (encD ((bd t s).take m)).length < sizeLine := by
            unfold encD
            rw [List.length_map, List.length_take]
            exact Nat.lt_of_le_of_lt (by omega : _ ≤ 3) (by decide)
          refine ⟨_, rfl, d, rfl, .inr ⟨_, .inl hd7⟩, _, rfl, _, dget_I hd7 hz, ?_⟩
          rw [hno]
          have fin : ∀ n : Int, n = (if m % 2 = 0 then s else -s) → upd H3 d (.dT (putK (encD ((bd t s).take m)) (kI (cutAt t m)) (.int n))) d = some (.dT (encD ((bd t s).take (m + 1)))) := fun n hn => by
            rw [upd_same, putK_new _ hno, tk, hn]
            unfold encD
            rw [List.map_append]
            rfl
          have sF : ∀ u, Same H (upd H3 d u) := fun u => ((s6.trans s7).but.upd).same hd
          obtain rfl | rfl | rfl : m = 0 ∨ m = 1 ∨ m = 2 := by omega
          · refine ⟨_, rfl, _, _, rfl, rfl, by decide, rfl, _, rfl, iteT ⟨_, rfl, _, _, rfl, rfl, _, rfl, _, rfl, d, _, rfl, dput_I hd7 hz hlen, _, _, rfl, sF _, fin _ (by simp)⟩⟩
          · refine ⟨_, rfl, _, _, rfl, rfl, by decide, rfl, _, rfl, iteF ⟨_, rfl, _, rfl, _, _, rfl, rfl, _, rfl, _, rfl, d, _, rfl, dput_I hd7 hz hlen, _, _, rfl, sF _, fin _ (by simp)⟩⟩
          · refine ⟨_, rfl, _, _, rfl, rfl, by decide, rfl, _, rfl, iteT ⟨_, rfl, _, _, rfl, rfl, _, rfl, _, rfl, d, _, rfl, dput_I hd7 hz hlen, _, _, rfl, sF _, fin _ (by simp)⟩⟩
        · rintro σ' H2 ⟨v4, v5, rfl, s6, hd6⟩
          have e3 : (bd t s).take 3 = bd t s := List.take_of_length_le (by unfold bd; simp; omega)
          rw [e3] at hd6
          exact .inr ⟨rfl, _, _, _, _, rfl, s6, hd6⟩
      · cases hx
    · rintro σ H' (⟨h, _⟩ | ⟨_, v2, v3, v4, v5, rfl, s5, hd5⟩)
      · cases h
      · have hne : ∀ p ∈ bd t s, p.2 ≠ 0 ∧ p.1 ≠ [] := fun p hp => by
          unfold bd at hp
          obtain ⟨m, hm, rfl⟩ := List.mem_map.mp hp
          have hm3 : m < t.length := by simpa using hm
          refine ⟨?_, fun e => ?_⟩
          · show (if m % 2 = 0 then s else -s) ≠ 0
            split <;> omega
          · have := cutAt_len hm3
            have e : cutAt t m = [] := e
            rw [e] at this
            simp at this
            omega
        refine ⟨_, rfl, d, bd t s, rfl, hd5, by unfold bd; simp; omega, hne, fun H2 p o xs B' s6 hp0 hp2 ho1 ho2 hP hperm => q H2 p o xs B' (s5.trans s6) (s5.free hp0) hp2 ho1 ho2 hP hperm⟩
end
end Fl

set_option Elab.async false
set_option linter.all false
set_option maxRecDepth 100000
set_option maxHeartbeats 4000000
namespace Fl
open PySem PySem.Spec PyProof.Rows L2
section
variable {P : Program} {w : World} {K : PySem.W.Frag} {mg : Str → Option Value} {base : Heap} {A : Ad}
def Tri3 (t : List Int) : Prop := t.length = 3 ∧ ∀ m n, m < 3 → n < 3 → cutAt t m = cutAt t n → m = n
def sgnE (t e : List Int) : Int := if e = cutAt t 1 then -1 else 1
theorem sgn_sq (t e : List Int) : sgnE t e * sgnE t e = 1 := by unfold sgnE; split <;> rfl
theorem sgn_pm (t e : List Int) : sgnE t e = 1 ∨ sgnE t e = -1 := by unfold sgnE; split <;> simp
theorem bd_mem {t : List Int} (h : Tri3 t) {s : Int} {e : List Int} {n : Int} (hm : (e, n) ∈ bd t s) : (e, t) ∈ cutsOf t ∧ n = s * sgnE t e := by
  unfold bd at hm
  obtain ⟨m, hm1, hm2⟩ := List.mem_map.mp hm
  have hm3 : m < 3 := by have := List.mem_range.mp hm1; rw [h.1] at this; exact this
  cases hm2
  refine ⟨?_, ?_⟩
  · unfold cutsOf
    exact List.mem_map.mpr ⟨m, hm1, rfl⟩
  · unfold sgnE
    by_cases h1 : m = 1
    · subst h1; simp
    · have : cutAt t m ≠ cutAt t 1 := fun z => h1 (h.2 m 1 hm3 (by omega) z)
      rw [if_neg this]
      have : m % 2 = 0 := by omega
      simp [this]
theorem bd_of {t : List Int} (h : Tri3 t) (s : Int) {e : List Int} (hm : (e, t) ∈ cutsOf t) : (e, s * sgnE t e) ∈ bd t s := by
  unfold cutsOf at hm
  obtain ⟨m, hm1, hm2⟩ := List.mem_map.mp hm
  cases hm2
  have : (cutAt t m, if m % 2 = 0 then s else -s) ∈ bd t s := List.mem_map.mpr ⟨m, hm1, rfl⟩
  obtain ⟨_, e⟩ := bd_mem h this
  rw [← e]
  exact this
theorem bd_nodup {t : List Int} (h : Tri3 t) (s : Int) : ((bd t s).map (·.1)).Nodup := by
  unfold bd
  rw [List.map_map]
  refine List.pairwise_map.mpr (List.Pairwise.imp_of_mem (fun {m n} hm hn hne => ?_) (List.nodup_range (n := t.length)))
  have h1 := List.mem_range.mp hm
  have h2 := List.mem_range.mp hn
  rw [h.1] at h1 h2
  exact fun z => hne (h.2 m n h1 h2 z)
theorem mem_pairs {T : List (List Int)} {e t : List Int} : (e, t) ∈ pairsOf T ↔ t ∈ T ∧ (e, t) ∈ cutsOf t := by
  unfold pairsOf
  rw [List.mem_flatMap]
  constructor
  · rintro ⟨u, hu, h⟩
    have h' := h
    unfold cutsOf at h
    obtain ⟨m, _, hm⟩ := List.mem_map.mp h
    cases hm
    exact ⟨hu, h'⟩
  · rintro ⟨h1, h2⟩
    exact ⟨t, h1, h2⟩
theorem mem_atE {L : List (List Int × List Int)} {e t : List Int} : t ∈ atE L e ↔ (e, t) ∈ L := by
  unfold atE
  rw [List.mem_map]
  constructor
  · rintro ⟨⟨a, b⟩, h, rfl⟩
    obtain ⟨h1, h2⟩ := List.mem_filter.mp h
    have : a = e := of_decide_eq_true h2
    subst this
    exact h1
  · intro h
    exact ⟨(e, t), List.mem_filter.mpr ⟨h, by simp⟩, rfl⟩
theorem atE_append (L M : List (List Int × List Int)) (e : List Int) : atE (L ++ M) e = atE L e ++ atE M e := by unfold atE; rw [List.filter_append, List.map_append]
theorem atE_cuts {t : List Int} (h : Tri3 t) (e : List Int) : atE (cutsOf t) e = if (e, t) ∈ cutsOf t then [t] else [] := by
  have e3 : cutsOf t = [(cutAt t 0, t), (cutAt t 1, t), (cutAt t 2, t)] := by unfold cutsOf; rw [h.1]; rfl
  have d01 : cutAt t 0 ≠ cutAt t 1 := fun z => absurd (h.2 0 1 (by omega) (by omega) z) (by omega)
  have d02 : cutAt t 0 ≠ cutAt t 2 := fun z => absurd (h.2 0 2 (by omega) (by omega) z) (by omega)
  have d12 : cutAt t 1 ≠ cutAt t 2 := fun z => absurd (h.2 1 2 (by omega) (by omega) z) (by omega)
  rw [e3]
  unfold atE
  by_cases h0 : cutAt t 0 = e
  · subst h0; simp [d01.symm, d02.symm]
  · by_cases h1 : cutAt t 1 = e
    · subst h1; simp [d01, d12.symm]
    · by_cases h2 : cutAt t 2 = e
      · subst h2; simp [d02, d12]
      · simp [h0, h1, h2, Ne.symm h0, Ne.symm h1, Ne.symm h2]
theorem atE_nodup : ∀ {T : List (List Int)}, T.Nodup → (∀ t ∈ T, Tri3 t) → ∀ e, (atE (pairsOf T) e).Nodup
  | [], _, _, e => by simp [atE, pairsOf]
  | t :: T, nd, h3, e => by
    have ep : pairsOf (t :: T) = cutsOf t ++ pairsOf T := rfl
    obtain ⟨n1, n2⟩ := List.nodup_cons.mp nd
    have ih := atE_nodup n2 (fun u hu => h3 u (by simp [hu])) e
    rw [ep, atE_append, atE_cuts (h3 t (by simp))]
    split
    · rw [List.singleton_append, List.nodup_cons]
      exact ⟨fun z => n1 (mem_pairs.mp (mem_atE.mp z)).1, ih⟩
    · exact ih
/-- the two triangles at an edge -/
theorem two_at {T : List (List Int)} (nd : T.Nodup) (h3 : ∀ t ∈ T, Tri3 t) {e : List Int} (h2 : (atE (pairsOf T) e).length = 2) : ∃ a b, atE (pairsOf T) e = [a, b] ∧ a ≠ b ∧ ∀ u, (e, u) ∈ pairsOf T ↔ u = a ∨ u = b := by
  obtain ⟨a, b, hab⟩ : ∃ a b, atE (pairsOf T) e = [a, b] := match atE (pairsOf T) e, h2 with | [a, b], _ => ⟨a, b, rfl⟩
  have nd2 := atE_nodup nd h3 e
  rw [hab] at nd2
  refine ⟨a, b, hab, by simpa using nd2, fun u => ?_⟩
  rw [← mem_atE, hab]
  simp
/-- signs that cancel at all walls -/
def OrT (T : List (List Int)) (s : List Int → Int) : Prop := (∀ t ∈ T, s t = 1 ∨ s t = -1) ∧ ∀ t u e, (e, t) ∈ pairsOf T → (e, u) ∈ pairsOf T → t ≠ u → s u * sgnE u e = -(s t * sgnE t e)
def OrbT (T : List (List Int)) : Prop := ∃ s, OrT T s
/-- all triangles hang together over their edges -/
def DualT (T : List (List Int)) : Prop := ∀ f : List Int → Bool, (∀ t u e, (e, t) ∈ pairsOf T → (e, u) ∈ pairsOf T → f t = f u) → ∀ t ∈ T, ∀ u ∈ T, f t = f u
structure OrH (T : List (List Int)) : Prop where
  nd : T.Nodup
  tri : ∀ t ∈ T, Tri3 t
  two : ∀ e t, (e, t) ∈ pairsOf T → (atE (pairsOf T) e).length = 2
  ne : T ≠ []
  dual : DualT T
  len : T.length ≤ 400
def spOrient (C : Addr) : Sp := fun vs H Q _ => ∃ p F T, vs = [.ref p] ∧ Shp C H p F T ∧ OrH T ∧ ∀ H' v (o : Bool), Same H H' → (o = true ↔ OrbT T) → decide (v = V.non) = !o → Q v H'
theorem encD_get {B : List (List Int × Int)} (nd : (B.map (·.1)).Nodup) {e : List Int} {n : Int} (h : (e, n) ∈ B) : valV (encD B) (kI e) = some (.int n) := by
  unfold encD
  induction B with
  | nil => cases h
  | cons p B ih =>
    rw [List.map_cons] at nd
    obtain ⟨n1, n2⟩ := List.nodup_cons.mp nd
    rcases List.mem_cons.mp h with rfl | h
    · exact valV_pos rfl
    · rw [List.map_cons, valV_neg (fun z => n1 (by rw [kI_inj z]; exact List.mem_map.mpr ⟨_, h, rfl⟩))]
      exact ih n2 h
/-- what stands while the queue is worked off: n of its triangles Qs are done, their signs sg -/
structure OI (T : List (List Int)) (t0 : List Int) (H0 : Hp) (sd ql : Addr) (H' : Hp) (n : Nat) (Qs : List (List Int)) (sg : List Int → Int) : Prop where
  same : Same H0 H'
  sdn : ∃ ks, H' sd = some (.dT ks) ∧ KF ks Qs ∧ ∀ t ∈ Qs, valV ks (kI t) = some (.int (sg t))
  qln : ∃ ys, H' ql = some (.lst ys) ∧ TL H' ys Qs
  nd : Qs.Nodup
  le : n ≤ Qs.length
  sub : ∀ t ∈ Qs, t ∈ T
  hd : t0 ∈ Qs
  pm : ∀ t ∈ Qs, sg t = 1 ∨ sg t = -1
  clo : ∀ i t e u, i < n → Qs[i]? = some t → (e, t) ∈ pairsOf T → (e, u) ∈ pairsOf T → t ≠ u → u ∈ Qs ∧ sg u * sgnE u e = -(sg t * sgnE t e)
  tru : ∀ s, OrT T s → s t0 = 1 → ∀ t ∈ Qs, sg t = s t
/-- a new triangle with its sign -/
theorem OI.push {T : List (List Int)} {t0 : List Int} {H0 H' H2 : Hp} {sd ql : Addr} {n : Nat} {Qs : List (List Int)} {sg : List Int → Int} (o : OI T t0 H0 sd ql H' n Qs sg) {u : List Int} {due : Int} (hu : u ∉ Qs) (huT : u ∈ T) (hd : due = 1 ∨ due = -1) (ht : ∀ s, OrT T s → s t0 = 1 → due = s u)
    (hs : Same H0 H2) (h1 : ∀ ks, H' sd = some (.dT ks) → H2 sd = some (.dT (putK ks (kI u) (.int due)))) (h2 : ∀ ys, H' ql = some (.lst ys) → TL H' ys Qs → ∃ zs, H2 ql = some (.lst zs) ∧ TL H2 zs (Qs ++ [u])) :
    OI T t0 H0 sd ql H2 n (Qs ++ [u]) (fun x => if x = u then due else sg x) := by
  have ne : ∀ t ∈ Qs, t ≠ u := fun t ht z => hu (z ▸ ht)
  refine ⟨hs, ?_, ?_, ?_, by have := o.le; rw [List.length_append]; omega, fun t ht' => ?_, by simp [o.hd], fun t ht' => ?_, fun i t e v hi hq he hv hne => ?_, fun s hs h1 t ht' => ?_⟩
  · obtain ⟨ks, e1, e2, e3⟩ := o.sdn
    refine ⟨_, h1 ks e1, ?_, fun t ht' => ?_⟩
    · have := e2.put u (.int due)
      unfold addI at this
      rw [if_neg hu] at this
      exact this
    · rw [valV_put]
      rcases List.mem_append.mp ht' with h | h
      · rw [if_neg (fun z => ne t h (kI_inj z)), if_neg (ne t h)]
        exact e3 t h
      · have : t = u := by simpa using h
        subst this
        rw [if_pos rfl, if_pos rfl]
  · obtain ⟨ys, e1, e2⟩ := o.qln
    exact h2 ys e1 e2
  · rw [List.nodup_append]
    refine ⟨o.nd, by simp, fun x hx y hy => ?_⟩
    have : y = u := by simpa using hy
    subst this
    exact ne x hx
  · rcases List.mem_append.mp ht' with h | h
    · exact o.sub t h
    · have : t = u := by simpa using h
      subst this
      exact huT
  · show (if t = u then due else sg t) = 1 ∨ _
    by_cases h : t = u
    · rw [if_pos h]; exact hd
    · rw [if_neg h]
      rcases List.mem_append.mp ht' with h' | h'
      · exact o.pm t h'
      · exact absurd (by simpa using h') h
  · have hil : i < Qs.length := by have := o.le; omega
    have hq' : Qs[i]? = some t := by rw [List.getElem?_append_left hil] at hq; exact hq
    obtain ⟨c1, c2⟩ := o.clo i t e v hi hq' he hv hne
    refine ⟨List.mem_append.mpr (.inl c1), ?_⟩
    show (if v = u then due else sg v) * _ = -((if t = u then due else sg t) * _)
    rw [if_neg (ne v c1), if_neg (ne t (List.mem_of_getElem? hq'))]
    exact c2
  · show (if t = u then due else sg t) = s t
    by_cases h : t = u
    · rw [if_pos h, h]; exact ht s hs h1
    · rw [if_neg h]
      rcases List.mem_append.mp ht' with h' | h'
      · exact o.tru s hs h1 t h'
      · exact absurd (by simpa using h') h
theorem ok_orient (T : Tx K mg A) (G_facets : FnOk P w K mg base CX0 1 A.f_facets A.fd_facets ["self"] (getSp A.C "tops")) (G_walls_of : FnOk P w K mg base CX0 3 A.f_walls_of A.fd_walls_of ["shape"] (spWalls_of A.C))
    (G_boundary_in : FnOk P w K mg base CX0 2 A.f_boundary_in A.fd_boundary_in ["chain"] spBoundary_in) : FnOk P w K mg base CX0 4 A.f_orient A.fd_orient ["shape"] (spOrient A.C) := by
  refine T.F_orient.ok sc_orient (fun vs H Q E h => ?_) (fun cdv Ar outer s H vs Q E hr h => ⟨_, (pss_cons (ps_asg (pe_tup (pa_cons (pe_prop (pv 0) T.clC T.pfC G_facets (hr.mono (by decide)) T.bd_facets .nil pass0 rfl) (pa_cons (pe_call G_walls_of (hr.mono (by decide)) (by rfl) T.g_walls_of T.k_walls_of T.bd_walls_of .nil pass0 (pa_cons (pv 0) pa_nil)) pa_nil))) (pg_tupK K rfl (pgs_cons (pg_name (i := 1) sc_orient.nd rfl (by first | exact Or.inl rfl | exact Or.inr rfl)) (pgs_cons (pg_name (i := 2) sc_orient.nd rfl (by first | exact Or.inl rfl | exact Or.inr rfl)) pgs_nil))))
    (pss_cons (ps_if (PW.pt (pw_or (pt_cmpR (op_eqDK K hr.units) (pv 1) (pe_tup pa_nil) (nomark _)) (pw_or1 (pt_val (pe_callB (cr_anyK K rfl) (by rfl) (T.nb "any" (by decide)) (by decide +kernel) (pa_cons (pe_lc (own := [("one", 3)]) (g := (gName 3)) rfl sc_orient.nd (pi_tupK K (pv 1)) (blkOk_by (N := N_orient) (sc := defScope s_orient) (by decide +kernel)) (fun _ _ _ _ _ => (pg_name (i := 3) sc_orient.nd rfl (by first | exact Or.inl rfl | exact Or.inr rfl))) (fun _ _ _ _ _ => pts_nil) (fun _ _ _ _ _ => (pe_cmpR op_ne (pe_callB (call_len_seqK K) (by rfl) (T.nb "len" (by decide)) PySem.boot_len (pa_cons (pv 3) pa_nil)) (pe_callB (call_len_seqK K) (by rfl) (T.nb "len" (by decide)) PySem.boot_len (pa_cons (pe_ix (ix_tupK K) (pv 1) pe_int (fun _ _ => rfl)) pa_nil)) (nomark _)))) pa_nil)))))) (pss_one (ps_ret pe_non)) pss_nil)
    (pss_cons (ps_if (pt_val (pe_callB (cr_anyK K rfl) (by rfl) (T.nb "any" (by decide)) (by decide +kernel) (pa_cons (pe_lock (pe_lc (own := [("some", 11)]) (g := (gName 11)) rfl sc_orient.nd (pi_valuesT (pv 2)) (blkOk_by (N := N_orient) (sc := defScope s_orient) (by decide +kernel)) (fun _ _ _ _ _ => (pg_name (i := 11) sc_orient.nd rfl (by first | exact Or.inl rfl | exact Or.inr rfl))) (fun _ _ _ _ _ => pts_nil) (fun _ _ _ _ _ => (pe_cmpR op_ne (pe_callB (call_len_seqK K) (by rfl) (T.nb "len" (by decide)) PySem.boot_len (pa_cons (pv 11) pa_nil)) pe_int (nomark _))))) pa_nil))) (pss_one (ps_ret pe_non)) pss_nil)
    (pss_cons (ps_par3 (i := 4) (j := 5) (l := 6) rfl sc_orient.nd rfl rfl rfl (by decide) (by decide) (by decide) rfl rfl rfl (pa_cons (pe_disp1 (hu_of hr) (pe_ix (ix_tupK K) (pv 1) pe_int (fun _ _ => rfl)) pe_int) (pa_cons (pe_lst (pa_cons (pe_ix (ix_tupK K) (pv 1) pe_int (fun _ _ => rfl)) pa_nil)) (pa_cons pe_int pa_nil))) (by rfl))
    (pss_cons (ps_while PassesOwn.never (pt_cmpR op_lt (pv 6) (pe_callB (call_len_seqK K) (by rfl) (T.nb "len" (by decide)) PySem.boot_len (pa_cons (pv 5) pa_nil)) (nomark _)) (pss_cons (ps_par (i := 3) (j := 6) rfl sc_orient.nd rfl rfl (by decide) rfl rfl (pa_cons (pe_ix (ix_listK K) (pv 5) (pv 6) (fun _ _ => rfl)) (pa_cons (pe_op op_add (pv 6) pe_int) pa_nil)) (by rfl))
    (pss_one (ps_for PassesOwn.never rfl (pi_tupK K (pe_call G_boundary_in (hr.mono (by decide)) (by rfl) T.g_boundary_in T.k_boundary_in T.bd_boundary_in .nil pass0 (pa_cons (pe_tup (pa_cons (pe_tup (pa_cons (pv 3) (pa_cons (pe_dget (hu_of hr) (pv 4) (pv 3) (fun _ _ => rfl)) pa_nil))) pa_nil)) pa_nil))) (pg_tupK K rfl (pgs_cons (pg_name (i := 7) sc_orient.nd rfl (by first | exact Or.inl rfl | exact Or.inr rfl)) (pgs_cons (pg_name (i := 8) sc_orient.nd rfl (by first | exact Or.inl rfl | exact Or.inr rfl)) pgs_nil)))
    (pss_cons (ps_set (i := 9) sc_orient.nd rfl (by first | exact Or.inl rfl | exact Or.inr rfl) (pe_ifExp (pt_cmpR (op_eqDK K hr.units) (pe_ix (ix_listK K) (pe_dget (hu_of hr) (pv 2) (pv 7) (fun _ _ => rfl)) pe_int (fun _ _ => rfl)) (pv 3) (nomark _)) (pe_ix (ix_listK K) (pe_dget (hu_of hr) (pv 2) (pv 7) (fun _ _ => rfl)) pe_int (fun _ _ => rfl)) (pe_ix (ix_listK K) (pe_dget (hu_of hr) (pv 2) (pv 7) (fun _ _ => rfl)) pe_int (fun _ _ => rfl))))
    (pss_cons (ps_set (i := 10) sc_orient.nd rfl (by first | exact Or.inl rfl | exact Or.inr rfl) (pe_op op_mul (pe_un un_neg (pv 8)) (pe_dget (hu_of hr) (pe_callTy (cr_dictT (hu2 hr) rfl) (by rfl) (T.nb "dict" (by decide)) (by decide +kernel) (pa_cons (pe_call G_boundary_in (hr.mono (by decide)) (by rfl) T.g_boundary_in T.k_boundary_in T.bd_boundary_in .nil pass0 (pa_cons (pe_tup (pa_cons (pe_tup (pa_cons (pv 9) (pa_cons pe_int pa_nil))) pa_nil)) pa_nil)) pa_nil)) (pv 7) (fun _ _ => rfl))))
    (pss_one (ps_if (pt_cmp (pc_dnotin (hu_of hr) (pv 9) (pv 4))) (pss_cons (ps_dput (hu_of hr) (pv 4) (pv 9) (pv 10) rfl)
    (pss_one (ps_expr (pe_bm PySem.F.plainAttrs_list PySem.F.slot_list_append PySem.F.type_list_append mt_append (pv 5) (pa_cons (pv 9) pa_nil))))) (pss_one (ps_if (pt_cmpR op_ne (pe_dget (hu_of hr) (pv 4) (pv 9) (fun _ _ => rfl)) (pv 10) (nomark _)) (pss_one (ps_ret pe_non)) pss_nil))))))))))
    (pss_one (ps_ret (pe_ifExp (pt_cmpR op_eq (pe_callB call_len_dT (by rfl) (T.nb "len" (by decide)) PySem.boot_len (pa_cons (pv 4) pa_nil)) (pe_callB (call_len_seqK K) (by rfl) (T.nb "len" (by decide)) PySem.boot_len (pa_cons (pv 1) pa_nil)) (nomark _)) (pv 4) pe_non)))))))), ?_⟩)
  · obtain ⟨p, F, T1, rfl, _⟩ := h; rfl
  · obtain ⟨p, F, T1, rfl, sh, oh, q⟩ := h
    obtain ⟨dx, fd, kv0, t0, h1, h2, hk, ⟨a, xs, rfl, ha, ht⟩, h5⟩ := id sh
    refine ⟨_, rfl, p, dx, _, rfl, h1, p, dx, _, _, rfl, h1, flds_tops _ _, ?_⟩
    refine ⟨_, rfl, p, F, T1, rfl, sh, fun t ht => (oh.tri t ht).1, oh.len, fun H1 d kvs s1 hd0 hd1 wd => ?_⟩
    refine ⟨(by show 2 ≤ sizeLine; decide), fun tp htp => ⟨tp, _, rfl, .of upd_same, rfl, _, _, rfl, _, _, rfl, rfl, ?_⟩⟩
    have s2 := s1.new (o := .tup [.ref a, .ref d]) htp
    have sx := same_new (o := .tup [.ref a, .ref d]) htp
    have hd2 := sx _ _ hd1
    have wd2 := wd.mono sx
    revert s2 hd2 wd2
    generalize upd H1 tp (.tup [.ref a, .ref d]) = H2
    intro s2 hd2 wd2
    -- tops == ()
    refine ⟨_, rfl, (by show 0 ≤ sizeLine; decide), fun e0 he0 => ?_⟩
    have s3 := s2.new (o := .tup []) he0
    have sx := same_new (o := .tup []) he0
    have hd3 := sx _ _ hd2
    have wd3 := wd2.mono sx
    have ee : TT' (upd H2 e0 (.tup [])) (.ref e0) [] := ⟨e0, [], rfl, upd_same, .nil⟩
    have ta3 : TT' (upd H2 e0 (.tup [])) (.ref a) T1 := ⟨a, xs, rfl, s3 _ _ ha, ht.mono s3.keep⟩
    refine eqTT ta3 ee ⟨_, rfl, ?_⟩
    rw [decide_eq_false oh.ne]
    refine iteF ?_
    revert s3 hd3 wd3
    generalize upd H2 e0 (.tup []) = H3
    intro s3 hd3 wd3
    have ha3 := s3 _ _ ha
    have lT := pl ht
    obtain ⟨t0, Tr, eT⟩ : ∃ t0 Tr, T1 = t0 :: Tr := by
      cases hT : T1 with
      | nil => exact absurd hT oh.ne
      | cons x y => exact ⟨x, y, rfl⟩
    have ht0 : t0 ∈ T1 := by rw [eT]; simp
    obtain ⟨x0, hx0, tx0⟩ := pget2 ht (i := 0) (b := t0) (by rw [eT]; rfl)
    refine ⟨_, rfl, a, rfl, ⟨_, .of ha3⟩, fun D hD => lc_map T1 Ti (fun _ y b => y = V.bl b) (fun _ => false) hD (src_tupT (.of ha3) (ht.mono s3.keep)) (fun _ _ _ _ _ h => h) (Nat.lt_of_le_of_lt oh.len (by decide)) ?_ gm_name ?_⟩
    · intro i x u H4 Ny hu hx sm hy
      obtain ⟨b, rfl, hb⟩ := hx
      have hu3 := (oh.tri u (List.mem_of_getElem? hu)).1
      obtain ⟨b0, rfl, hb0⟩ := tx0.mono (s3.trans sm).keep
      refine ⟨rfl, _, rfl, b, _, rfl, .inr (.of hb), _, rfl, a, xs, 0, _, rfl, rfl, .of (sm _ _ ha3), atI_nat hx0, b0, _, rfl, .inr (.of hb0), rfl, ?_⟩
      rw [List.length_map, List.length_map, hu3, (oh.tri t0 ht0).1]
      exact hy _ _ (Same.refl _) (by simp)
    · intro H4 zs sm4 hD4 hp4
      rw [peq hp4] at hD4
      refine ⟨D, _, rfl, .of hD4, _, rfl, ?_⟩
      have e1 : (List.map (fun _ => false) T1).any id = false := by simp
      rw [e1]
      refine iteF ?_
      have s4 := s3.trans sm4
      have hd4 := sm4 _ _ hd3
      have wd4 := wd3.mono sm4
      obtain ⟨G, hG, nG, lG, mG⟩ := wd4.ex
      have hGl : G.length < sizeLine := by
        rw [pairs_len fun t ht => (oh.tri t ht).1] at lG
        have := oh.len
        exact Nat.lt_of_le_of_lt (by omega : _ ≤ 1200) (by decide)
      refine ⟨d, _, hd4, trivial, fun od => ⟨_, rfl, d, od, kvs, rfl, upd_same, fun D5 hD5 => ?_⟩⟩
      have nD5 : D5 ≠ d := fun z => by rw [z, upd_same] at hD5; cases hD5
      have wdF : WD (upd H4 d (.frz od (.dT kvs))) kvs (pairsOf T1) := ⟨wd4.ex, fun e v hv => by
        obtain ⟨b, ws, e1, e2, e3⟩ := wd4.val e v hv
        have nb : b ≠ d := fun z => by rw [z, hd4] at e2; cases e2
        exact ⟨b, ws, e1, by rw [upd_ne nb]; exact e2, e3.mono (keep_dT hd4)⟩, wd4.inj⟩
      refine lc_map G _ (fun _ y b => y = V.bl b) (fun _ => false) hD5 (src_walls upd_same wdF hG nG) (fun _ _ _ _ _ h => h) hGl ?_ gm_name ?_
      · intro i x e H5 Ny he hx sm hy
        obtain ⟨b, ws, rfl, hb, hw⟩ := hx
        refine ⟨rfl, _, rfl, b, _, rfl, .inl (.of hb), rfl, ?_⟩
        rw [len2, pl hw]
        obtain ⟨t, het⟩ := (mG e).mp (List.mem_of_getElem? he)
        rw [oh.two e t het]
        exact hy _ _ (Same.refl _) rfl
      · intro H5 ws sm5 hD5' hp5
        have hfd := sm5 _ _ (upd_same (H := H4) (a := d) (o := .frz od (.dT kvs)))
        rw [peq hp5] at hD5'
        refine ⟨hfd, D5, _, rfl, .of (by rw [upd_ne nD5]; exact hD5'), _, rfl, ?_⟩
        have e1 : (List.map (fun _ => false) G).any id = false := by simp
        rw [e1]
        refine iteF ?_
        have s45 : Same H4 (upd H5 d (.dT kvs)) := upd_back hd4 sm5
        have s6 := s4.trans s45
        have hd6 := s45 _ _ hd4
        have wd6 := wd4.mono s45
        revert s6 hd6 wd6
        generalize upd H5 d (.dT kvs) = H6
        intro s6 hd6 wd6
        have ha6 := s6 _ _ ha
        -- signs, queue, at
        intro sd hsd
        obtain ⟨b0, rfl, hb0⟩ := tx0
        have hsq := same_new (o := .dT []) hsd
        refine ⟨_, rfl, a, xs, 0, _, rfl, rfl, .of (hsq _ _ ha6), atI_nat hx0, upd_same, kI t0, b0, rfl, by rw [hsq _ _ (s6 _ _ hb0), kI_kV], ?_⟩
        have sS : Same H6 (upd (upd H6 sd (.dT [])) sd (.dT [(kI t0, .int 1)])) := ((hsq.but (l := sd)).upd).same hsd
        have hsS : upd (upd H6 sd (.dT [])) sd (.dT [(kI t0, .int 1)]) sd = some (.dT [(kI t0, .int 1)]) := upd_same
        revert sS hsS
        generalize upd (upd H6 sd (.dT [])) sd (.dT [(kI t0, .int 1)]) = H7
        intro sS hsS
        refine ⟨_, rfl, a, xs, 0, _, rfl, rfl, .of (sS _ _ ha6), atI_nat hx0, (by show 1 ≤ sizeLine; decide), fun ql hql => ?_⟩
        have nqs : ql ≠ sd := fun z => by rw [z, hsS] at hql; cases hql
        have sQ := same_new (o := .lst [.ref b0]) hql
        have hq6 : H6 ql = none := sS.free hql
        refine ⟨_, _, _, rfl, ?_⟩
        have o0 : OI T1 t0 H6 sd ql (upd H7 ql (.lst [.ref b0])) 0 [t0] (fun _ => 1) := by
          refine ⟨sS.trans sQ, ⟨_, sQ _ _ hsS, rfl, fun t ht' => ?_⟩, ⟨_, upd_same, .cons ⟨b0, rfl, sQ _ _ (sS _ _ (s6 _ _ hb0))⟩ .nil⟩, by simp, by simp, fun t ht' => ?_, by simp, fun t _ => .inl rfl, fun i t e u hi => absurd hi (by omega), fun s hs h1 t ht' => ?_⟩
          · have : t = t0 := by simpa using ht'
            subst this
            exact valV_pos rfl
          · have : t = t0 := by simpa using ht'
            subst this
            exact ht0
          · have : t = t0 := by simpa using ht'
            subst this
            exact h1.symm
        revert o0
        generalize upd H7 ql (.lst [.ref b0]) = H8
        intro o0
        refine ⟨fun m σ H' => ∃ n Qs sg v3 v7 v8 v9 v10, σ = [some (.ref p), some (.ref a), some (.ref d), v3, some (.ref sd), some (.ref ql), some (.int ((n : Nat) : Int)), v7, v8, v9, v10, none] ∧ OI T1 t0 H6 sd ql H' n Qs sg ∧ m = T1.length - n, ⟨_, 0, _, _, _, _, _, _, _, rfl, o0, rfl⟩, ?_⟩
        rintro m σ H9 ⟨n, Qs, sg, v3, v7, v8, v9, v10, rfl, o9, rfl⟩
        obtain ⟨ys, hq9, ty9⟩ := o9.qln
        have hQT : Qs.length ≤ T1.length := nodup_le o9.nd o9.sub
        refine ⟨_, rfl, _, rfl, ql, ys, rfl, .inl (.of hq9), _, _, rfl, rfl, _, rfl, ?_⟩
        rw [pl ty9]
        by_cases hn : n < Qs.length
        · rw [decide_eq_true (show ((n : Nat) : Int) < ((Qs.length : Nat) : Int) by omega)]
          obtain ⟨t, ht⟩ : ∃ t, Qs[n]? = some t := ⟨Qs[n], by simp [hn]⟩
          have htQ := List.mem_of_getElem? ht
          have htT := o9.sub t htQ
          have t3 := oh.tri t htT
          obtain ⟨yv, hyv, b, rfl, hb⟩ := pget2 ty9 ht
          obtain ⟨ks, hks, kf, kg⟩ := o9.sdn
          have hs1 := o9.pm t htQ
          refine iteT ⟨fun σ' H' => ∃ n' Qs sg v3 v7 v8 v9 v10, n' = n + 1 ∧ σ' = [some (.ref p), some (.ref a), some (.ref d), v3, some (.ref sd), some (.ref ql), some (.int ((n' : Nat) : Int)), v7, v8, v9, v10, none] ∧ OI T1 t0 H6 sd ql H' n' Qs sg, fun σ' H' ⟨n', Qs, sg, v3, v7, v8, v9, v10, en, es, ho⟩ => ⟨T1.length - n', by omega, n', Qs, sg, v3, v7, v8, v9, v10, es, ho, rfl⟩, ?_⟩
          refine ⟨_, rfl, _, rfl, ql, ys, _, _, rfl, rfl, .of hq9, atI_nat hyv, _, rfl, _, _, rfl, rfl, _, _, rfl, ?_⟩
          refine ⟨_, rfl, _, rfl, _, rfl, sd, _, rfl, by rw [← kg t htQ]; exact dget_I hks ⟨b, rfl, hb⟩, (by show 2 ≤ sizeLine; decide), fun e1 he1 => ⟨(by show 1 ≤ sizeLine; decide), fun e2 he2 => ?_⟩⟩
          have sA := (same_new (o := .tup [.ref b, .int (sg t)]) he1).new (o := .tup [.ref e1]) he2
          have ne21 : e1 ≠ e2 := fun z => by rw [← z, upd_same] at he2; cases he2
          refine ⟨e2, e1, _, t, sg t, rfl, upd_same, by rw [upd_ne ne21]; exact upd_same, ⟨b, rfl, sA _ _ hb⟩, t3.1, t3.2, by omega, fun HB bp o xsB B' sB hbp0 hbp ho1 ho2 hP hperm => ?_⟩
          have sAB := sA.trans sB
          have hbB := sAB _ _ hb
          have oB : OI T1 t0 H6 sd ql HB n Qs sg := ⟨o9.same.trans sAB, ⟨ks, sAB _ _ hks, kf, kg⟩, ⟨ys, sAB _ _ hq9, ty9.mono sAB.keep⟩, o9.nd, o9.le, o9.sub, o9.hd, o9.pm, o9.clo, o9.tru⟩
          have hsd9 : H9 sd ≠ none := by rw [hks]; simp
          have hql9 : H9 ql ≠ none := by rw [hq9]; simp
          have hbps : bp ≠ sd := fun z => by rw [z] at hbp; rw [sAB _ _ hks] at hbp; cases hbp
          have hbpq : bp ≠ ql := fun z => by rw [z] at hbp; rw [sAB _ _ hq9] at hbp; cases hbp
          generalize hs1e : sg t = s1 at hs1 hperm
          refine ⟨bp, rfl, ⟨_, .inl (.inr ⟨o, hbp⟩)⟩, for_tup (xs := xsB) (fun j σ' H' => ∃ Qs sg v7 v8 v9 v10, σ' = [some (.ref p), some (.ref a), some (.ref d), some (.ref b), some (.ref sd), some (.ref ql), some (.int (((n : Nat) : Int) + 1)), v7, v8, v9, v10, none] ∧ OI T1 t0 H6 sd ql H' n Qs sg ∧ Qs[n]? = some t ∧ sg t = s1 ∧ H' bp = some (.frz o (.tup xsB)) ∧ Paired (PairI H') xsB B' ∧ H' b = some (.tup (t.map V.int)) ∧
              ∀ e, (∃ n, (e, n) ∈ B'.take j) → ∀ u, (e, u) ∈ pairsOf T1 → t ≠ u → u ∈ Qs ∧ sg u * sgnE u e = -(s1 * sgnE t e))
            ⟨Qs, sg, v7, v8, v9, v10, rfl, oB, ht, hs1e, hbp, hP, hbB, by simp⟩ (fun j σ' H' _ ⟨_, _, _, _, _, _, _, _, _, _, h, _⟩ => .inl (.inr ⟨o, h⟩)) ?_ ?_⟩
          · rintro j x σ' HC hj ⟨QC, gC, v7, v8, v9, v10, rfl, oC, htC, hgC, hbpC, hPC, hbC, hclC⟩
            obtain ⟨⟨e, num⟩, hje, tp2, ev, rfl, htp2, hev⟩ := pget hPC hj
            have htp2 : HC tp2 = some (.tup [ev, .int num]) := htp2
            have hev : Ti HC ev e := hev
            obtain ⟨hec, hnum⟩ := bd_mem t3 (hperm.mem_iff.mp (List.mem_of_getElem? hje))
            have hep : (e, t) ∈ pairsOf T1 := mem_pairs.mpr ⟨htT, hec⟩
            obtain ⟨w0, w1, hat, w01, hiff⟩ := two_at oh.nd oh.tri (oh.two e t hep)
            have wdC := wd6.mono oC.same
            obtain ⟨G2, hG2, _, _, mG2⟩ := wdC.ex
            obtain ⟨vv, hvv⟩ := hG2.some ((mG2 e).mpr ⟨t, hep⟩)
            obtain ⟨wl, ys2, rfl, hwl, tw⟩ := wdC.val e vv hvv
            rw [hat] at tw
            obtain ⟨y0, y1, rfl, ty0, ty1⟩ : ∃ y0 y1, ys2 = [y0, y1] ∧ Ti HC y0 w0 ∧ Ti HC y1 w1 := by
              cases tw with
              | cons r1 tw =>
                cases tw with
                | cons r2 tw =>
                  cases tw
                  exact ⟨_, _, rfl, r1, r2⟩
            have hdC := oC.same _ _ hd6
            have tb : Ti HC (.ref b) t := ⟨b, rfl, hbC⟩
            have dg : DGet HC d ev (some (.ref wl)) := by rw [← hvv]; exact dget_I hdC hev
            refine ⟨tp2, _, rfl, .of htp2, rfl, _, _, rfl, _, _, rfl, rfl, ?_⟩
            obtain ⟨u, yu, hyu, hut, hiu, hval⟩ : ∃ u yu, Ti HC yu u ∧ u ≠ t ∧ (∀ u', (e, u') ∈ pairsOf T1 ↔ u' = t ∨ u' = u) ∧ ∀ R : V → Hp → Prop, R yu HC → tIf (tTest (tOp (rEqD K) (tOp (rIxL K) (tDGet (tVar 2) (tVar 7)) (tC (V.int 1))) (tVar 3))) (tOp (rIxL K) (tDGet (tVar 2) (tVar 7)) (tC (V.int 0))) (tOp (rIxL K) (tDGet (tVar 2) (tVar 7)) (tC (V.int 1)))
                [some (.ref p), some (.ref a), some (.ref d), some (.ref b), some (.ref sd), some (.ref ql), some (.int (((n : Nat) : Int) + 1)), some ev, some (.int num), v9, v10, none] HC R := by
              rcases (hiff t).mp hep with e0 | e1
              · subst e0
                refine ⟨w1, y1, ty1, w01.symm, hiff, fun R hR => ?_⟩
                refine ⟨_, rfl, _, rfl, d, _, rfl, dg, wl, _, 1, _, rfl, rfl, .of hwl, rfl, _, rfl, eqTi ty1 tb ⟨_, rfl, ?_⟩⟩
                rw [decide_eq_false w01.symm]
                exact iteF ⟨_, rfl, _, rfl, d, _, rfl, dg, wl, _, 1, _, rfl, rfl, .of hwl, rfl, hR⟩
              · subst e1
                refine ⟨w0, y0, ty0, w01, fun u' => (hiff u').trans or_comm, fun R hR => ?_⟩
                refine ⟨_, rfl, _, rfl, d, _, rfl, dg, wl, _, 1, _, rfl, rfl, .of hwl, rfl, _, rfl, eqTi ty1 tb ⟨_, rfl, ?_⟩⟩
                rw [decide_eq_true rfl]
                exact iteT ⟨_, rfl, _, rfl, d, _, rfl, dg, wl, _, 0, _, rfl, rfl, .of hwl, rfl, hR⟩
            have heu : (e, u) ∈ pairsOf T1 := (hiu u).mpr (.inr rfl)
            have huT : u ∈ T1 := (mem_pairs.mp heu).1
            have hecu : (e, u) ∈ cutsOf u := (mem_pairs.mp heu).2
            have u3 := oh.tri u huT
            unfold tSeq tAsg
            refine hval _ ?_
            have hnum1 : num = 1 ∨ num = -1 := by
              rw [hnum]
              rcases hs1 with h | h <;> rcases sgn_pm t e with h' | h' <;> rw [h, h'] <;> simp
            refine ⟨_, rfl, _, rfl, _, rfl, (by show 2 ≤ sizeLine; decide), fun e3 he3 => ⟨(by show 1 ≤ sizeLine; decide), fun e4 he4 => ?_⟩⟩
            have sD := (same_new (o := .tup [yu, .int 1]) he3).new (o := .tup [.ref e3]) he4
            have ne43 : e3 ≠ e4 := fun z => by rw [← z, upd_same] at he4; cases he4
            refine ⟨e4, e3, yu, u, 1, rfl, upd_same, by rw [upd_ne ne43]; exact upd_same, hyu.mono sD.keep, u3.1, u3.2, by decide, fun HE bp2 o2 xs2 B2 sE _ hbp2 ho3 ho4 hP2 hperm2 => ?_⟩
            have nd2 : (B2.map (·.1)).Nodup := (hperm2.map (·.1)).nodup_iff.mpr (bd_nodup u3 1)
            have sDE := sD.trans sE
            refine ⟨bp2, xs2, o2, encD B2, rfl, hbp2, ho3, ho4, ?_, ?_, fun dd hdd => ?_⟩
            · unfold encD
              clear nd2 hperm2 hbp2
              induction hP2 with
              | nil => exact .nil
              | cons r _ ih =>
                refine .cons ?_ ih
                obtain ⟨tp3, ev3, rfl, h3, b3, rfl, hb3⟩ := r
                exact ⟨tp3, b3, rfl, h3, by rw [hb3, kI_kV]⟩
            · unfold encD
              rw [List.map_map]
              have : (B2.map ((fun x : List Key × V => x.1) ∘ fun p : List Int × Int => (kI p.1, V.int p.2))) = (B2.map (·.1)).map kI := by rw [List.map_map]; rfl
              rw [this]
              exact List.pairwise_map.mpr (List.Pairwise.imp (fun h z => h (kI_inj z)) nd2)
            · have sF := sDE.new (o := .dT (encD B2)) hdd
              have hdue : valV (encD B2) (kI e) = some (.int (1 * sgnE u e)) := encD_get nd2 (hperm2.mem_iff.mpr (bd_of u3 1 hecu))
              have hdF : upd HE dd (.dT (encD B2)) dd = some (.dT (encD B2)) := upd_same
              revert sF hdF
              generalize upd HE dd (.dT (encD B2)) = HF
              intro sF hdF
              have hevF := hev.mono sF.keep
              refine ⟨_, rfl, dd, _, rfl, by rw [← hdue]; exact dget_I hdF hevF, _, _, rfl, rfl, .inl (by rcases hnum1 with h | h <;> rw [h] <;> decide), ?_⟩
              dsimp only
              generalize hdv : -num * (1 * sgnE u e) = due
              have hdv2 : due = 1 ∨ due = -1 := by
                rw [← hdv]
                rcases hnum1 with h | h <;> rcases sgn_pm u e with h' | h' <;> rw [h, h'] <;> simp
              have hdue2 : due * sgnE u e = -(s1 * sgnE t e) := by
                rw [← hdv, ← hnum, Int.one_mul, Int.mul_assoc, sgn_sq, Int.mul_one]
              have htru : ∀ s, OrT T1 s → s t0 = 1 → due = s u := fun s hs h1 => by
                have h2 := oC.tru s hs h1 t (List.mem_of_getElem? htC)
                have h3 := hs.2 t u e hep heu (Ne.symm hut)
                rw [← h2, hgC] at h3
                have h4 : due * sgnE u e = s u * sgnE u e := by rw [hdue2, h3]
                rcases sgn_pm u e with h' | h' <;> rw [h'] at h4 <;> omega
              have oF : OI T1 t0 H6 sd ql HF n QC gC := by
                obtain ⟨ks2, k1, k2, k3⟩ := oC.sdn
                obtain ⟨ys3, q1, q2⟩ := oC.qln
                exact ⟨oC.same.trans sF, ⟨ks2, sF _ _ k1, k2, k3⟩, ⟨ys3, sF _ _ q1, q2.mono sF.keep⟩, oC.nd, oC.le, oC.sub, oC.hd, oC.pm, oC.clo, oC.tru⟩
              obtain ⟨ks2, k1, k2, k3⟩ := oF.sdn
              obtain ⟨ys3, q1, q2⟩ := oF.qln
              have hyuF := hyu.mono sF.keep
              have hbpF := sF _ _ hbpC
              have hPF : Paired (PairI HF) xsB B' := Paired.mapP hPC fun _ _ q => q.mono sF.keep
              have hbF := sF _ _ hbC
              have hQT2 : QC.length ≤ T1.length := nodup_le oC.nd oC.sub
              have h400 := oh.len
              refine ⟨_, rfl, _, rfl, sd, _, rfl, dget_I k1 hyuF, _, rfl, ?_⟩
              rw [k2.val u]
              by_cases hin : u ∈ QC
              · rw [decide_eq_true hin]
                refine iteF ?_
                obtain ⟨cu, rfl, hcu⟩ := id hyuF
                refine ⟨_, rfl, _, rfl, sd, _, rfl, by rw [← k3 u hin]; exact dget_I k1 hyuF, _, rfl, rfl, _, rfl, ?_⟩
                by_cases hc : gC u = due
                · have e5 : (!decide (V.int (gC u) = V.int due)) = false := by rw [hc]; simp
                  rw [e5]
                  refine iteF ⟨QC, gC, _, _, _, _, rfl, oF, htC, hgC, hbpF, hPF, hbF, fun e' he' u' hu' hne' => ?_⟩
                  rw [take_more hje] at he'
                  obtain ⟨n', hn'⟩ := he'
                  rcases List.mem_append.mp hn' with hn' | hn'
                  · exact hclC e' ⟨n', hn'⟩ u' hu' hne'
                  · have : (e', n') = (e, num) := by simpa using hn'
                    cases this
                    rcases (hiu u').mp hu' with h | h
                    · exact absurd h.symm hne'
                    · subst h
                      exact ⟨hin, by rw [hc, hdue2]⟩
                · have e5 : (!decide (V.int (gC u) = V.int due)) = true := by simp [hc]
                  rw [e5]
                  refine iteT (q _ _ false (s6.trans oF.same) ⟨fun h => by simp at h, fun ⟨s, hs⟩ => ?_⟩ rfl)
                  exfalso
                  have fin : ∀ s, OrT T1 s → s t0 = 1 → False := fun s hs h1 => hc (by rw [oC.tru s hs h1 u hin, htru s hs h1])
                  rcases hs.1 t0 ht0 with h1 | h1
                  · exact fin s hs h1
                  · refine fin (fun x => -s x) ⟨fun t ht => ?_, fun t u e h1 h2 h3 => ?_⟩ (by show -s t0 = 1; omega)
                    · have := hs.1 t ht
                      show -s t = 1 ∨ -s t = -1
                      omega
                    · have := hs.2 t u e h1 h2 h3
                      show -s u * sgnE u e = -(-s t * sgnE t e)
                      rw [Int.neg_mul, Int.neg_mul, this]
              · rw [decide_eq_false hin]
                refine iteT ?_
                obtain ⟨cu, rfl, hcu⟩ := id hyuF
                have nql : ql ≠ sd := nqs
                have sH6 : ∀ u, Same H6 (upd HF sd u) := fun u => (oF.same.but.upd).same hsd
                have q1' : ∀ u, upd HF sd u ql = some (.lst ys3) := fun u => by rw [upd_ne nql]; exact q1
                refine ⟨_, rfl, _, rfl, _, rfl, sd, _, rfl, dput_I k1 hyuF (by rw [k2.len]; exact Nat.lt_of_le_of_lt (by omega : _ ≤ 400) (by decide)), ?_⟩
                refine ⟨_, rfl, .inl ⟨rfl, _, .of (q1' _)⟩, _, rfl, ql, ys3, _, rfl, rfl, q1' _, by rw [pl q2]; exact Nat.lt_of_le_of_lt (by omega : _ ≤ 400) (by decide), ?_⟩
                have kS : Keep HF (upd HF sd (.dT (putK ks2 (kI u) (.int due)))) := keep_dT k1
                have kQ : Keep _ (upd (upd HF sd (.dT (putK ks2 (kI u) (.int due)))) ql (.lst (ys3 ++ [.ref cu]))) := keep_lst (q1' _)
                have kk := kS.trans kQ
                have oG := oF.push (H2 := upd (upd HF sd (.dT (putK ks2 (kI u) (.int due)))) ql (.lst (ys3 ++ [.ref cu]))) hin huT hdv2 htru (((sH6 _).but.upd).same hq6)
                  (fun ks hks => by rw [upd_ne nql.symm, upd_same]; rw [k1] at hks; cases hks; rfl)
                  (fun zs hzs tz => ⟨_, upd_same, by rw [q1] at hzs; cases hzs; exact psnoc (TL.mono q2 kk) (hyuF.mono kk)⟩)
                have hnQ : n < QC.length := (List.getElem?_eq_some_iff.mp htC).1
                have htu : t ≠ u := Ne.symm hut
                refine ⟨QC ++ [u], _, _, _, _, _, rfl, oG, by rw [List.getElem?_append_left hnQ]; exact htC, ?_, by rw [upd_ne hbpq, upd_ne hbps]; exact hbpF, Paired.mapP hPF fun _ _ q => q.mono kk, kk _ _ hbF, fun e' he' u' hu' hne' => ?_⟩
                · show (if t = u then due else gC t) = s1
                  rw [if_neg htu]; exact hgC
                · rw [take_more hje] at he'
                  obtain ⟨n', hn'⟩ := he'
                  rcases List.mem_append.mp hn' with hn' | hn'
                  · obtain ⟨c1, c2⟩ := hclC e' ⟨n', hn'⟩ u' hu' hne'
                    refine ⟨List.mem_append.mpr (.inl c1), ?_⟩
                    show (if u' = u then due else gC u') * _ = _
                    rw [if_neg (show ¬ u' = u from fun z => hin (by rw [← z]; exact c1))]
                    exact c2
                  · have : (e', n') = (e, num) := by simpa using hn'
                    cases this
                    rcases (hiu u').mp hu' with h | h
                    · exact absurd h.symm hne'
                    · subst h
                      refine ⟨by simp, ?_⟩
                      show (if u' = u' then due else gC u') * _ = _
                      rw [if_pos rfl, hdue2]
          · rintro σ' HC ⟨QC, gC, v7, v8, v9, v10, rfl, oC, htC, hgC, hbpC, hPC, hbC, hclC⟩
            rw [pl hPC, List.take_length] at hclC
            have hnQ : n < QC.length := (List.getElem?_eq_some_iff.mp htC).1
            refine ⟨n + 1, QC, gC, _, _, _, _, _, rfl, rfl, oC.same, oC.sdn, oC.qln, oC.nd, hnQ, oC.sub, oC.hd, oC.pm, fun i t' e u hi hq he hu hne => ?_, oC.tru⟩
            by_cases hin : i < n
            · exact oC.clo i t' e u hin hq he hu hne
            · have : i = n := by omega
              subst this
              rw [htC] at hq
              cases hq
              obtain ⟨c1, c2⟩ := hclC e ⟨_, hperm.mem_iff.mpr (bd_of t3 s1 (mem_pairs.mp he).2)⟩ u hu hne
              exact ⟨c1, by rw [c2, hgC]⟩
        · rw [decide_eq_false (show ¬ ((n : Nat) : Int) < ((Qs.length : Nat) : Int) by omega)]
          refine iteF ?_
          have hnl : n = Qs.length := by have := o9.le; omega
          have hcl : ∀ t e u, t ∈ Qs → (e, t) ∈ pairsOf T1 → (e, u) ∈ pairsOf T1 → t ≠ u → u ∈ Qs ∧ sg u * sgnE u e = -(sg t * sgnE t e) := fun t e u ht he hu hne => by
            obtain ⟨i, hi⟩ := List.getElem?_of_mem ht
            exact o9.clo i t e u (by rw [hnl]; exact (List.getElem?_eq_some_iff.mp hi).1) hi he hu hne
          have hall : ∀ t ∈ T1, t ∈ Qs := fun t ht => by
            have := oh.dual (fun t => decide (t ∈ Qs)) (fun t u e he hu => by
              by_cases h : t = u
              · rw [h]
              · rw [Bool.eq_iff_iff]
                simp only [decide_eq_true_eq]
                exact ⟨fun h1 => (hcl t e u h1 he hu h).1, fun h1 => (hcl u e t h1 hu he (Ne.symm h)).1⟩) t0 ht0 t ht
            simpa [o9.hd] using this
          have hlen : Qs.length = T1.length := Nat.le_antisymm hQT (nodup_le oh.nd hall)
          obtain ⟨ks, hks, kf, kg⟩ := o9.sdn
          refine ⟨_, rfl, sd, ks, rfl, hks, _, rfl, a, xs, rfl, .inr (.of (o9.same _ _ ha6)), rfl, _, rfl, ?_⟩
          have e6 : decide (V.int ((ks.length : Nat) : Int) = V.int ((xs.length : Nat) : Int)) = true := by
            rw [kf.len, hlen, lT]
            exact decide_eq_true rfl
          rw [e6]
          exact iteT ⟨_, rfl, q _ _ true (s6.trans o9.same) ⟨fun _ => ⟨sg, fun t ht => o9.pm t (hall t ht), fun t u e he hu hne => (hcl t e u (hall t (mem_pairs.mp he).1) he hu hne).2⟩, fun _ => rfl⟩ rfl⟩
end
end Fl

set_option Elab.async false
set_option linter.all false
set_option maxRecDepth 100000
set_option maxHeartbeats 4000000
namespace Fl
open PySem PySem.Spec PyProof.Rows L2
section
variable {P : Program} {w : World} {K : PySem.W.Frag} {mg : Str → Option Value} {base : Heap} {A : Ad}
def Flat (F T : List (List Int)) : Prop := ∃ e t, (e, t) ∈ pairsOf T ∧ (atE (pairsOf T) e).length ≠ 2
def spNeedS (C : Addr) : Sp := fun vs H Q _ => ∃ p F T, vs = [.ref p] ∧ Shp C H p F T ∧ Srf F T ∧ ∀ H', Same H H' → Q .non H'
def spNeedSX (C cNS : Addr) : Sp := fun vs H Q E => ∃ p F T, vs = [.ref p] ∧ Shp C H p F T ∧ Cx0 F T ∧ ((Srf F T ∧ ∀ H', Same H H' → Q .non H') ∨ (Flat F T ∧ ∀ H', Same H H' → E (.ref cNS) none H'))
theorem ok_need_surface (T : Tx K mg A) (G_need_complex : FnOk P w K mg base CX0 1 A.f_need_complex A.fd_need_complex ["value"] (spNeed A.C)) (G_is_surface_in : FnOk P w K mg base CX0 8 A.f_is_surface_in A.fd_is_surface_in ["shape"] (spIs_surface_in A.C)) :
    FnOk P w K mg base CX0 9 A.f_need_surface A.fd_need_surface ["shape"] (spNeedS A.C) := by
  refine T.F_need_surface.ok sc_need_surface (fun vs H Q E h => ?_) (fun cdv Ar outer s H vs Q E hr h => ⟨_, (pss_cons (ps_expr (pe_call G_need_complex (hr.mono (by decide)) (by rfl) T.g_need_complex T.k_need_complex T.bd_need_complex .nil pass0 (pa_cons (pv 0) pa_nil)))
    (pss_one (ps_if (pt_not (pt_val (pe_call G_is_surface_in (hr.mono (by decide)) (by rfl) T.g_is_surface_in T.k_is_surface_in T.bd_is_surface_in .nil pass0 (pa_cons (pv 0) pa_nil)))) (pss_one ps_never) pss_nil))), ?_⟩)
  · obtain ⟨p, F, T1, rfl, _⟩ := h; rfl
  · obtain ⟨p, F, T1, rfl, sh, S, q⟩ := h
    obtain ⟨dx, d, kvs, t, h1, _⟩ := id sh
    exact ⟨_, rfl, p, dx, _, rfl, h1, _, rfl, p, F, T1, rfl, sh, S.toCx0, .inl ⟨S, fun H' s1 => ⟨true, rfl, iteF (q H' s1)⟩⟩⟩
theorem okX_need_surface (T : Tx K mg A) (G_need_complex : FnOk P w K mg base CX0 1 A.f_need_complex A.fd_need_complex ["value"] (spNeed A.C)) (G_is_surface_in : FnOk P w K mg base CX0 8 A.f_is_surface_in A.fd_is_surface_in ["shape"] (spIs_surface_in A.C)) :
    FnOk P w K mg base (L2.CX P w) 9 A.f_need_surface A.fd_need_surface ["shape"] (spNeedSX A.C A.cNS) := by
  refine T.F_need_surface.okX sc_need_surface (fun vs H Q E h => ?_) (fun cdv Ar outer s H vs Q E hr h => ⟨_, (pss_cons (ps_expr (pe_call G_need_complex (hr.mono (by decide)) (by rfl) T.g_need_complex T.k_need_complex T.bd_need_complex .nil pass0 (pa_cons (pv 0) pa_nil)))
    (pss_one (ps_if (pt_not (pt_val (pe_call G_is_surface_in (hr.mono (by decide)) (by rfl) T.g_is_surface_in T.k_is_surface_in T.bd_is_surface_in .nil pass0 (pa_cons (pv 0) pa_nil)))) (pss_one (ps_raise rfl (takes_of rfl rfl rfl rfl) (pmk_own0 PySem.F.excBase_ValueError T.x_NS T.g_NotSurface T.kp_NS (raises_own T.b_NS T.t_NS) rfl))) pss_nil))), ?_⟩)
  · obtain ⟨p, F, T1, rfl, _⟩ := h; rfl
  · obtain ⟨p, F, T1, rfl, sh, c0, q⟩ := h
    obtain ⟨dx, d, kvs, t, h1, _⟩ := id sh
    rcases q with ⟨S, q⟩ | ⟨S, q⟩
    · exact ⟨_, rfl, p, dx, _, rfl, h1, _, rfl, p, F, T1, rfl, sh, c0, .inl ⟨S, fun H' s1 => ⟨true, rfl, iteF (q H' s1)⟩⟩⟩
    · exact ⟨_, rfl, p, dx, _, rfl, h1, _, rfl, p, F, T1, rfl, sh, c0, .inr ⟨S, fun H' s1 => ⟨false, rfl, iteT (q H' s1)⟩⟩⟩
/-- the number of a kind -/
def kz (o : Bool) (e : Int) : Int := if o then (2 - e).fdiv 2 else 2 - e
def spKind_of : Sp := fun vs H Q _ => ∃ o e, vs = [.bl o, .int e] ∧ ∀ H' a, Same H H' → H' a = some (.tup [.bl o, .int (kz o e)]) → Q (.ref a) H'
theorem ok_kind_of (T : Tx K mg A) : FnOk P w K mg base CX0 1 A.f_kind_of A.fd_kind_of ["is_oriented", "euler"] spKind_of := by
  refine T.F_kind_of.ok sc_kind_of (fun vs H Q E h => ?_) (fun cdv Ar outer s H vs Q E hr h => ⟨_, (pss_one (ps_ret (pe_tup (pa_cons (pv 0) (pa_cons (pe_ifExp (pt_val (pv 0)) (pe_op op_fdivN (pe_op op_sub pe_int (pv 1)) pe_int) (pe_op op_sub pe_int (pv 1))) pa_nil))))), ?_⟩)
  · obtain ⟨o, e, rfl, _⟩ := h; rfl
  · obtain ⟨o, e, rfl, q⟩ := h
    refine ⟨_, rfl, _, rfl, o, rfl, ?_⟩
    cases o with
    | true => exact iteT ⟨_, rfl, _, _, rfl, rfl, _, _, rfl, rfl, ⟨by decide, by decide⟩, (by show 2 ≤ sizeLine; decide), fun a ha => q _ a (same_new ha) upd_same⟩
    | false => exact iteF ⟨_, rfl, _, _, rfl, rfl, (by show 2 ≤ sizeLine; decide), fun a ha => q _ a (same_new ha) upd_same⟩
def spKind (C : Addr) : Sp := fun vs H Q _ => ∃ p F T, vs = [.ref p] ∧ Shp C H p F T ∧ Srf F T ∧ Sz3 F ∧ OrH T ∧
  ∀ H' a (o : Bool), Same H H' → (o = true ↔ OrbT T) → H' a = some (.tup [.bl o, .int (kz o (cnt F 1 - cnt F 2 + cnt F 3))]) → Q (.ref a) H'
theorem ok_kind (T : Tx K mg A) (G_need_surface : FnOk P w K mg base CX0 9 A.f_need_surface A.fd_need_surface ["shape"] (spNeedS A.C)) (G_counts_in : FnOk P w K mg base CX0 1 A.f_counts_in A.fd_counts_in ["shape"] (spCounts_in A.C))
    (G_orient : FnOk P w K mg base CX0 4 A.f_orient A.fd_orient ["shape"] (spOrient A.C)) (G_kind_of : FnOk P w K mg base CX0 1 A.f_kind_of A.fd_kind_of ["is_oriented", "euler"] spKind_of) :
    FnOk P w K mg base CX0 10 A.f_kind A.fd_kind ["shape"] (spKind A.C) := by
  refine T.F_kind.ok sc_kind (fun vs H Q E h => ?_) (fun cdv Ar outer s H vs Q E hr h => ⟨_, (pss_cons (ps_expr (pe_call G_need_surface (hr.mono (by decide)) (by rfl) T.g_need_surface T.k_need_surface T.bd_need_surface .nil pass0 (pa_cons (pv 0) pa_nil)))
    (pss_cons (ps_set (i := 1) sc_kind.nd rfl (by first | exact Or.inl rfl | exact Or.inr rfl) (pe_call G_counts_in (hr.mono (by decide)) (by rfl) T.g_counts_in T.k_counts_in T.bd_counts_in .nil pass0 (pa_cons (pv 0) pa_nil)))
    (pss_one (ps_ret (pe_call G_kind_of (hr.mono (by decide)) (by rfl) T.g_kind_of T.k_kind_of T.bd_kind_of .nil pass0 (pa_cons (pe_cmpR op_notN (pe_call G_orient (hr.mono (by decide)) (by rfl) T.g_orient T.k_orient T.bd_orient .nil pass0 (pa_cons (pv 0) pa_nil)) pe_non (nomark _)) (pa_cons (pe_op op_add (pe_op op_sub (pe_ix (ix_listK K) (pv 1) pe_int (fun _ _ => rfl)) (pe_ix (ix_listK K) (pv 1) pe_int (fun _ _ => rfl))) (pe_ix (ix_listK K) (pv 1) pe_int (fun _ _ => rfl))) pa_nil))))))), ?_⟩)
  · obtain ⟨p, F, T1, rfl, _⟩ := h; rfl
  · obtain ⟨p, F, T1, rfl, sh, S, sz, oh, q⟩ := h
    refine ⟨_, rfl, p, F, T1, rfl, sh, S, fun H1 s1 => ?_⟩
    refine ⟨_, rfl, p, F, T1, rfl, sh.mono s1, sz, fun H2 l s2 _ hl => ?_⟩
    have s12 := s1.trans s2
    refine ⟨_, rfl, p, F, T1, rfl, sh.mono s12, oh, fun H3 v o s3 ho hv => ?_⟩
    have hl3 := s3 _ _ hl
    refine ⟨rfl, _, rfl, l, _, 0, _, rfl, rfl, .of hl3, rfl, _, rfl, l, _, 1, _, rfl, rfl, .of hl3, rfl, _, _, rfl, rfl, _, rfl, l, _, 2, _, rfl, rfl, .of hl3, rfl, _, _, rfl, rfl, ?_⟩
    rw [hv, Bool.not_not]
    exact ⟨o, _, rfl, fun H4 a s4 ha => q H4 a o (s12.trans (s3.trans s4)) ho ha⟩
end
end Fl

set_option Elab.async false
set_option linter.all false
set_option maxRecDepth 100000
set_option maxHeartbeats 4000000
namespace Fl
open PySem PySem.Spec PyProof.Rows L2
section
variable {P : Program} {w : World} {K : PySem.W.Frag} {mg : Str → Option Value} {base : Heap} {A : Ad}
def isort (ns : List Int) : List Int := ns.mergeSort fun a b => decide (a ≤ b)
theorem isort_perm (ns : List Int) : (isort ns).Perm ns := List.mergeSort_perm _ _
theorem isort_le (ns : List Int) : (isort ns).Pairwise (· ≤ ·) := by
  have := List.pairwise_mergeSort (le := fun a b : Int => decide (a ≤ b)) (fun a b c h1 h2 => by simp at h1 h2 ⊢; omega) (fun a b => by simp; omega) ns
  exact this.imp (fun h => by simpa using h)
theorem le_perm_eq : ∀ {as bs : List Int}, as.Pairwise (· ≤ ·) → bs.Pairwise (· ≤ ·) → as.Perm bs → as = bs
  | [], bs, _, _, p => p.nil_eq
  | a :: as, [], _, _, p => absurd p.length_eq (by simp)
  | a :: as, b :: bs, ha, hb, p => by
    obtain ⟨h1, h2⟩ := List.pairwise_cons.mp ha
    obtain ⟨k1, k2⟩ := List.pairwise_cons.mp hb
    have e : a = b := by
      have hx : a ∈ b :: bs := p.mem_iff.mp (by simp)
      have hy : b ∈ a :: as := p.mem_iff.mpr (by simp)
      rcases List.mem_cons.mp hx with h | h
      · exact h
      rcases List.mem_cons.mp hy with h' | h'
      · exact h'.symm
      have := h1 b h'
      have := k1 a h
      omega
    subst e
    rw [le_perm_eq h2 k2 (List.Perm.cons_inv p)]
theorem isort_eq {ns ms : List Int} (p : ms.Perm ns) (h : ms.Pairwise (· ≤ ·)) : ms = isort ns := le_perm_eq h (isort_le ns) (p.trans (isort_perm ns).symm)
/-- the tips of an edge -/
def tipsS (T : List (List Int)) (e : List Int) : List Int := isort (tipsR (atE (pairsOf T) e) e)
/-- E: the edges of T, ascending -/
def EdgesOf (T E : List (List Int)) : Prop := Srt E ∧ ∀ e, e ∈ E ↔ ∃ t, (e, t) ∈ pairsOf T
theorem atE_len3 {T : List (List Int)} (h3 : ∀ t ∈ T, t.length = 3) {e t : List Int} (h : t ∈ atE (pairsOf T) e) : t.length = 3 := h3 t (mem_pairs.mp (mem_atE.mp h)).1
theorem atE_le {T : List (List Int)} (h3 : ∀ t ∈ T, t.length = 3) (h4 : T.length ≤ 400) (e : List Int) : (atE (pairsOf T) e).length ≤ 1200 := by
  unfold atE
  rw [List.length_map]
  have := List.length_filter_le (fun p : List Int × List Int => decide (p.1 = e)) (pairsOf T)
  rw [pairs_len h3] at this
  omega
theorem edge_len {T : List (List Int)} (h3 : ∀ t ∈ T, t.length = 3) {e t : List Int} (h : (e, t) ∈ pairsOf T) : e.length = 2 := by
  obtain ⟨h1, h2⟩ := mem_pairs.mp h
  unfold cutsOf at h2
  obtain ⟨m, hm, e2⟩ := List.mem_map.mp h2
  cases e2
  have := h3 t h1
  rw [cutAt_len (List.mem_range.mp hm)]
  omega
/-- what sorted(list(walls)) gives -/
theorem edges_of_dict {T : List (List Int)} {H : Hp} {kvs : List (List Key × V)} (wd : WD H kvs (pairsOf T)) : ∃ G, KF kvs G ∧ G.Nodup ∧ (∀ E, E.Perm G → Wk E → EdgesOf T E) ∧ G.length ≤ (pairsOf T).length ∧ ∀ e, e ∈ G ↔ ∃ t, (e, t) ∈ pairsOf T := by
  obtain ⟨G, hG, nG, lG, mG⟩ := wd.ex
  exact ⟨G, hG, nG, fun E p wk => ⟨wk.srt (p.nodup_iff.mpr nG), fun e => by rw [p.mem_iff, mG]⟩, lG, mG⟩
theorem keys_TL {H : Hp} {kvs : List (List Key × V)} {bs : List Addr} {G : List (List Int)} (k : IsKeys H kvs bs) (hG : KF kvs G) : TL H (bs.map V.ref) G := by
  unfold IsKeys at k
  unfold KF at hG
  induction k generalizing G with
  | nil =>
    cases G with
    | nil => exact .nil
    | cons g G => cases hG
  | cons r _ ih =>
    cases G with
    | nil => cases hG
    | cons g G =>
      rw [List.map_cons, List.map_cons] at hG
      injection hG with h1 h2
      refine .cons ⟨_, rfl, ?_⟩ (ih h2)
      rw [r, h1, kI_kV]
def spFlips_in (C : Addr) : Sp := fun vs H Q _ => ∃ p F T, vs = [.ref p] ∧ Shp C H p F T ∧ Cx0 F T ∧
  ∀ H' l ys E, Same H H' → H l = none → H' l = some (.lst ys) → EdgesOf T E → TL H' ys (E.filter fun e => decide (tipsS T e ∉ F)) → Q (.ref l) H'
theorem ok_flips_in (T : Tx K mg A) (G_walls_of : FnOk P w K mg base CX0 3 A.f_walls_of A.fd_walls_of ["shape"] (spWalls_of A.C)) (G_tips_of : FnOk P w K mg base CX0 1 A.f_tips_of A.fd_tips_of ["walls", "edge"] spTips_of) :
    FnOk P w K mg base CX0 4 A.f_flips_in A.fd_flips_in ["shape"] (spFlips_in A.C) := by
  refine T.F_flips_in.ok sc_flips_in (fun vs H Q E h => ?_) (fun cdv Ar outer s H vs Q E hr h => ⟨_, (pss_cons (ps_set (i := 1) sc_flips_in.nd rfl (by first | exact Or.inl rfl | exact Or.inr rfl) (pe_call G_walls_of (hr.mono (by decide)) (by rfl) T.g_walls_of T.k_walls_of T.bd_walls_of .nil pass0 (pa_cons (pv 0) pa_nil)))
    (pss_one (ps_ret (pe_lc (own := [("edge", 2)]) (g := (gName 2)) rfl sc_flips_in.nd (pi_listK K (pe_callB (cr_sortXK K) (by rfl) (T.nb "sorted" (by decide)) (by decide +kernel) (pa_cons (pe_callTy (call_list_dT rfl) (by rfl) (T.nb "list" (by decide)) (by decide +kernel) (pa_cons (pv 1) pa_nil)) pa_nil))) (blkOk_by (N := N_flips_in) (sc := defScope s_flips_in) (by decide +kernel)) (fun _ _ _ _ _ => (pg_name (i := 2) sc_flips_in.nd rfl (by first | exact Or.inl rfl | exact Or.inr rfl))) (fun _ _ _ _ _ => pts_one (pt_cmp (pc_dnotin (hu_of hr) (pe_call G_tips_of (hr.mono (by decide)) (by rfl) T.g_tips_of T.k_tips_of T.bd_tips_of .nil pass0 (pa_cons (pv 1) (pa_cons (pv 2) pa_nil))) (pe_fldK K (pv 0))))) (fun _ _ _ _ _ => (pv 2)))))), ?_⟩)
  · obtain ⟨p, F, T1, rfl, _⟩ := h; rfl
  · obtain ⟨p, F, T1, rfl, sh, c0, q⟩ := h
    refine ⟨_, rfl, p, F, T1, rfl, sh, c0.tri, c0.len, fun H1 d kvs s1 hd0 hd1 wd => ?_⟩
    obtain ⟨G, hG, nG, hE, lG, mG⟩ := edges_of_dict wd
    refine ⟨_, rfl, d, kvs, rfl, .inl hd1, fun l bs hl hb => ?_⟩
    have tl := keys_TL hb hG
    have sL := same_new (o := .lst (bs.map V.ref)) hl
    unfold tNil
    refine sortT (K := K) (.inl (.of upd_same)) (tl.mono sL.keep) (fun t ht => ?_) fun l2 zs E hl2 tz pm wk => ?_
    · obtain ⟨u, hu⟩ := (mG t).mp ht
      intro e
      have := edge_len c0.tri hu
      rw [e] at this
      cases this
    · have s2 := (s1.trans sL).new (o := .lst zs) hl2
      have s12 := sL.new (o := .lst zs) hl2
      have hd2 := s12 _ _ hd1
      have wd2 := wd.mono s12
      have hz : upd (upd H1 l (.lst (bs.map V.ref))) l2 (.lst zs) l2 = some (.lst zs) := upd_same
      revert s2 hd2 wd2 tz hz
      generalize upd (upd H1 l (.lst (bs.map V.ref))) l2 (.lst zs) = H2
      intro tz s2 hd2 wd2 hz
      have eE := hE E pm wk
      have lE : E.length < sizeLine := by
        rw [pm.length_eq]
        rw [pairs_len c0.tri] at lG
        have := c0.len
        exact Nat.lt_of_le_of_lt (by omega : _ ≤ 1200) (by decide)
      refine ⟨l2, rfl, ⟨_, .of hz⟩, fun D hD => lc_gen E Ti Ti (fun e => decide (tipsS T1 e ∉ F)) id hD (src_listT (.of hz) tz) (fun _ _ _ _ k h => h.mono k) lE ?_ ?_⟩
      · intro i x e H3 Ny Nn he hx sm hy hn
        obtain ⟨t, het⟩ := (eE.2 e).mp (List.mem_of_getElem? he)
        have ne : atE (pairsOf T1) e ≠ [] := List.ne_nil_of_mem (mem_atE.mpr het)
        refine ⟨rfl, _, rfl, _, rfl, d, x, e, kvs, pairsOf T1, rfl, sm _ _ hd2, wd2.mono sm, hx, ne, fun t ht => by rw [atE_len3 c0.tri ht]; omega, Nat.le_trans (atE_le c0.tri c0.len e) (by omega), fun H4 y ms s4 hy4 pm4 pw4 => ?_⟩
        obtain ⟨dx, fd, kv0, t0, h1, h2, hk, _, h5⟩ := sh.mono (s2.trans (sm.trans s4))
        have e1 : ms = tipsS T1 e := isort_eq pm4 pw4
        subst e1
        refine ⟨_, rfl, p, A.C, dx, _, _, rfl, h1, T.clC, T.nF, flds_faces _ _, fd, _, rfl, dget_I h2 hy4, _, rfl, ?_⟩
        rw [hk.val]
        by_cases h : tipsS T1 e ∈ F
        · rw [decide_eq_true h]
          exact iteF (hn (by simp [h]) _ s4)
        · rw [decide_eq_false h]
          exact iteT ⟨_, rfl, hy (by simp [h]) _ _ s4 (hx.mono s4.keep)⟩
      · intro H3 ys sm hD3 hp
        rw [List.map_id] at hp
        exact q H3 D ys E (s2.trans sm) (s2.free hD) hD3 eE hp
def spFlips (C : Addr) : Sp := fun vs H Q _ => ∃ p F T, vs = [.ref p] ∧ Shp C H p F T ∧ Srf F T ∧
  ∀ H' l ys E, Same H H' → H l = none → H' l = some (.lst ys) → EdgesOf T E → TL H' ys (E.filter fun e => decide (tipsS T e ∉ F)) → Q (.ref l) H'
theorem ok_flips (T : Tx K mg A) (G_need_surface : FnOk P w K mg base CX0 9 A.f_need_surface A.fd_need_surface ["shape"] (spNeedS A.C)) (G_flips_in : FnOk P w K mg base CX0 4 A.f_flips_in A.fd_flips_in ["shape"] (spFlips_in A.C)) :
    FnOk P w K mg base CX0 10 A.f_flips A.fd_flips ["shape"] (spFlips A.C) := by
  refine T.F_flips.ok sc_flips (fun vs H Q E h => ?_) (fun cdv Ar outer s H vs Q E hr h => ⟨_, (pss_cons (ps_expr (pe_call G_need_surface (hr.mono (by decide)) (by rfl) T.g_need_surface T.k_need_surface T.bd_need_surface .nil pass0 (pa_cons (pv 0) pa_nil)))
    (pss_one (ps_ret (pe_call G_flips_in (hr.mono (by decide)) (by rfl) T.g_flips_in T.k_flips_in T.bd_flips_in .nil pass0 (pa_cons (pv 0) pa_nil))))), ?_⟩)
  · obtain ⟨p, F, T1, rfl, _⟩ := h; rfl
  · obtain ⟨p, F, T1, rfl, sh, S, q⟩ := h
    exact ⟨_, rfl, p, F, T1, rfl, sh, S, fun H1 s1 => ⟨_, rfl, p, F, T1, rfl, sh.mono s1, S.toCx0, fun H2 l ys E s2 hl0 hl eE tl => q H2 l ys E (s1.trans s2) (s1.free hl0) hl eE tl⟩⟩
def spFlipsX (C cNS : Addr) : Sp := fun vs H Q E => ∃ p F T, vs = [.ref p] ∧ Shp C H p F T ∧ Cx0 F T ∧ Flat F T ∧ ∀ H', Same H H' → E (.ref cNS) none H'
theorem okX_flips (T : Tx K mg A) (GX_need_surface : FnOk P w K mg base (L2.CX P w) 9 A.f_need_surface A.fd_need_surface ["shape"] (spNeedSX A.C A.cNS)) (G_flips_in : FnOk P w K mg base CX0 4 A.f_flips_in A.fd_flips_in ["shape"] (spFlips_in A.C)) :
    FnOk P w K mg base (L2.CX P w) 10 A.f_flips A.fd_flips ["shape"] (spFlipsX A.C A.cNS) := by
  refine T.F_flips.okX sc_flips (fun vs H Q E h => ?_) (fun cdv Ar outer s H vs Q E hr h => ⟨_, (pss_cons (ps_expr (pe_callS GX_need_surface (hr.mono (by decide)) (by rfl) T.g_need_surface T.k_need_surface T.bd_need_surface (fun σ => passAt (takes_of rfl rfl rfl rfl) σ) (pa_cons (pv 0) pa_nil)))
    (pss_one (ps_ret (pe_call G_flips_in (hr.mono (by decide)) (by rfl) T.g_flips_in T.k_flips_in T.bd_flips_in .nil pass0 (pa_cons (pv 0) pa_nil))))), ?_⟩)
  · obtain ⟨p, F, T1, rfl, _⟩ := h; rfl
  · obtain ⟨p, F, T1, rfl, sh, c0, fl, q⟩ := h
    exact ⟨_, rfl, p, F, T1, rfl, sh, c0, .inr ⟨fl, q⟩⟩
/-- the triangles behind a flip of e -/
def flipS (T : List (List Int)) (e : List Int) : List (List Int) := (T.filter fun t => decide (t ∉ atE (pairsOf T) e)) ++ e.map fun x => isort (tipsS T e ++ [x])
def spFlipped_in (C : Addr) : Sp := fun vs H Q _ => ∃ p ev e F T, vs = [.ref p, ev] ∧ Ti H ev e ∧ Shp C H p F T ∧ Cx0 F T ∧ (∃ t, (e, t) ∈ pairsOf T) ∧ Good (flipS T e) ∧
  ∀ H' p2 F2 T2, Same H H' → H p2 = none → Shp C H' p2 F2 T2 → Faces (flipS T e) F2 → Tops F2 T2 → Q (.ref p2) H'
theorem ok_flipped_in (T : Tx K mg A) (G_facets : FnOk P w K mg base CX0 1 A.f_facets A.fd_facets ["self"] (getSp A.C "tops")) (G_walls_of : FnOk P w K mg base CX0 3 A.f_walls_of A.fd_walls_of ["shape"] (spWalls_of A.C)) (G_tips_of : FnOk P w K mg base CX0 1 A.f_tips_of A.fd_tips_of ["walls", "edge"] spTips_of)
    (G_init : FnOk P w K mg base CX0 5 A.f_init A.fd_init ["self", "simplices"] (spInit A.C)) :
    FnOk P w K mg base CX0 7 A.f_flipped_in A.fd_flipped_in ["shape", "edge"] (spFlipped_in A.C) := by
  refine T.F_flipped_in.ok sc_flipped_in (fun vs H Q E h => ?_) (fun cdv Ar outer s H vs Q E hr h => ⟨_, (pss_cons (ps_set (i := 2) sc_flipped_in.nd rfl (by first | exact Or.inl rfl | exact Or.inr rfl) (pe_call G_walls_of (hr.mono (by decide)) (by rfl) T.g_walls_of T.k_walls_of T.bd_walls_of .nil pass0 (pa_cons (pv 0) pa_nil)))
    (pss_cons (ps_set (i := 3) sc_flipped_in.nd rfl (by first | exact Or.inl rfl | exact Or.inr rfl) (pe_call G_tips_of (hr.mono (by decide)) (by rfl) T.g_tips_of T.k_tips_of T.bd_tips_of .nil pass0 (pa_cons (pv 2) (pa_cons (pv 1) pa_nil))))
    (pss_cons (ps_setLc (i := 4) (own := [("one", 5)]) (g := (gName 5)) rfl sc_flipped_in.nd rfl rfl (sw_true rfl rfl rfl (by decide +kernel)) (pi_tupK K (pe_prop (pv 0) T.clC T.pfC G_facets (hr.mono (by decide)) T.bd_facets .nil pass0 rfl)) (blkOk_by (N := N_flipped_in) (sc := defScope s_flipped_in) (by decide +kernel)) (fun _ _ _ _ _ => (pg_name (i := 5) sc_flipped_in.nd rfl (by first | exact Or.inl rfl | exact Or.inr rfl))) (fun _ _ _ _ _ => pts_one (pt_cmpR (op_notInDK K (hu65 hr)) (pv 5) (pe_dget (hu_of hr) (pv 2) (pv 1) (fun _ _ => rfl)) (by rfl))) (fun _ _ _ _ _ => (pv 5)))
    (pss_one (ps_ret (pe_make T.mkC G_init (hr.mono (by decide)) (by rfl) T.g_Complex T.bd_init .nil pass0 (pa_cons (pe_tup (pa_starK K (pv 4) (pa_starK K (pe_lc (own := [("end", 6)]) (g := (gName 6)) rfl sc_flipped_in.nd (pi_tupK K (pv 1)) (blkOk_by (N := N_flipped_in) (sc := defScope s_flipped_in) (by decide +kernel)) (fun _ _ _ _ _ => (pg_name (i := 6) sc_flipped_in.nd rfl (by first | exact Or.inl rfl | exact Or.inr rfl))) (fun _ _ _ _ _ => pts_nil) (fun _ _ _ _ _ => (pe_callTy (call_tuple_ofK K) (by rfl) (T.nb "tuple" (by decide)) (by decide +kernel) (pa_cons (pe_callB (cr_sortNK K) (by rfl) (T.nb "sorted" (by decide)) (by decide +kernel) (pa_cons (pe_lst (pa_starK K (pv 3) (pa_cons (pv 6) pa_nil))) pa_nil)) pa_nil)))) pa_nil))) pa_nil))))))), ?_⟩)
  · obtain ⟨p, ev, e, F, T1, rfl, _⟩ := h; rfl
  · obtain ⟨p, ev, e, F, T1, rfl, he, sh, c0, ⟨t0, ht0⟩, gd, q⟩ := h
    refine ⟨_, rfl, p, F, T1, rfl, sh, c0.tri, c0.len, fun H1 d kvs s1 hd0 hd1 wd => ?_⟩
    have ne : atE (pairsOf T1) e ≠ [] := List.ne_nil_of_mem (mem_atE.mpr ht0)
    have he1 := he.mono s1.keep
    refine ⟨_, rfl, _, rfl, d, ev, e, kvs, pairsOf T1, rfl, hd1, wd, he1, ne, fun t ht => by rw [atE_len3 c0.tri ht]; omega, Nat.le_trans (atE_le c0.tri c0.len e) (by omega), fun H2 y ms s2 hy pm pw => ?_⟩
    have e1 : ms = tipsS T1 e := isort_eq pm pw
    subst e1
    have s12 := s1.trans s2
    obtain ⟨dx, fd, kv0, _, h1, h2, hk, ⟨a, xs, rfl, ha, ht⟩, h5⟩ := sh.mono s12
    have hd2 := s2 _ _ hd1
    have wd2 := wd.mono s2
    obtain ⟨G, hG, nG, lG, mG⟩ := wd2.ex
    obtain ⟨vv, hvv⟩ := hG.some ((mG e).mpr ⟨t0, ht0⟩)
    obtain ⟨wl, ws, rfl, hwl, tw⟩ := wd2.val e vv hvv
    have he2 := he1.mono s2.keep
    have e2 : e.length = 2 := edge_len c0.tri ht0
    refine ⟨_, rfl, p, dx, _, rfl, h1, p, dx, _, _, rfl, h1, flds_tops _ _, a, rfl, ⟨_, .of ha⟩, fun D hD => lc_gen T1 Ti Ti (fun t => decide (t ∉ atE (pairsOf T1) e)) id hD (src_tupT (.of ha) ht) (fun _ _ _ _ k h => h.mono k) (Nat.lt_of_le_of_lt c0.len (by decide)) ?_ ?_⟩
    · intro i x t H3 Ny Nn hti hx sm hyy hn
      have hd3 := sm _ _ hd2
      have he3 := he2.mono sm.keep
      refine ⟨rfl, _, rfl, _, rfl, _, rfl, d, _, rfl, by rw [← hvv]; exact dget_I hd3 he3, notInTi hx (sm _ _ hwl) (tw.mono sm.keep) ⟨_, rfl, ?_⟩⟩
      by_cases h : t ∈ atE (pairsOf T1) e
      · rw [decide_eq_true h]
        exact iteF (hn (by simp [h]) _ (Same.refl _))
      · rw [decide_eq_false h]
        exact iteT ⟨_, rfl, hyy (by simp [h]) _ _ (Same.refl _) hx⟩
    · intro H3 ys sm hD3 hp
      rw [List.map_id] at hp
      have he3 := he2.mono sm.keep
      have hy3 := hy.mono sm.keep
      obtain ⟨ea, rfl, hea⟩ := he3
      obtain ⟨ya, rfl, hya⟩ := hy3
      have ltip : (tipsS T1 e).length ≤ 4000 := by
        unfold tipsS
        rw [(isort_perm _).length_eq]
        unfold tipsR
        refine Nat.le_trans (List.length_filter_le _ _) ?_
        exact Nat.le_trans (flat_len (k := 3) (n := 1200) (fun t ht => by rw [atE_len3 c0.tri ht]; omega) (atE_le c0.tri c0.len e)) (by omega)
      refine ⟨_, rfl, D, ys, rfl, .inr (.of hD3), ?_⟩
      refine ⟨_, rfl, ea, rfl, ⟨_, .of hea⟩, fun D4 hD4 => lc_map e (fun _ x n => x = V.int n) Ti (fun x => isort (tipsS T1 e ++ [x])) hD4 (src_tupI (.of hea)) (fun _ _ _ _ k h => h.mono k) (by rw [e2]; decide) ?_ gm_name ?_⟩
      · intro i x n H4 Ny hn hx sm4 hyy
        subst hx
        have hya4 := sm4 _ _ hya
        refine ⟨rfl, _, rfl, ya, _, rfl, .inl (.of hya4), _, rfl, ?_, fun l hl => ?_⟩
        · rw [List.length_append, List.length_map]
          exact Nat.le_trans (by simp; omega : _ ≤ 4001) (by decide)
        · refine ⟨l, tipsS T1 e ++ [n], rfl, .inl (.of (by rw [upd_same, List.map_append]; rfl)), fun ms l2 pm2 pw2 hl2 => ?_⟩
          have e3 : ms = isort (tipsS T1 e ++ [n]) := isort_eq pm2 pw2
          subst e3
          exact ⟨l2, _, rfl, .inl ⟨.of upd_same, fun l3 hl3 => hyy _ _ ((((same_new hl).new hl2)).new hl3) ⟨l3, rfl, upd_same⟩⟩⟩
      · intro H4 zs sm4 hD4' hp4
        refine ⟨D4, zs, rfl, .inr (.of hD4'), ?_, fun tp htp => ?_⟩
        · rw [List.append_nil, List.length_append]
          have a1 := pl hp
          have a2 := pl hp4
          have a3 := List.length_filter_le (fun t => decide (t ∉ atE (pairsOf T1) e)) T1
          rw [List.length_map] at a2
          have := c0.len
          exact Nat.le_trans (by omega : _ ≤ 402) (by decide)
        · rw [List.append_nil] at *
          have hTL : TL H4 (ys ++ zs) (flipS T1 e) := papp (TL.mono hp sm4.keep) hp4
          have s5 := (s12.trans (sm.trans sm4)).new (o := .tup (ys ++ zs)) htp
          have k5 : Keep H4 (upd H4 tp (.tup (ys ++ zs))) := keep_new htp
          have hT5 := hTL.mono k5
          have h5t : upd H4 tp (.tup (ys ++ zs)) tp = some (.tup (ys ++ zs)) := upd_same
          revert s5 hT5 h5t
          generalize upd H4 tp (.tup (ys ++ zs)) = H5
          intro s5 hT5 h5t
          intro x dx2 hx hdx ndx
          have s6 : Same H5 (upd H5 dx2 (.own x)) := same_new hdx
          have hx6 : (upd H5 dx2 (.own x)) x = none := by rw [upd_ne ndx.symm]; exact hx
          have s7 : Same H5 (upd (upd H5 dx2 (.own x)) x (.ins A.C dx2 [])) := s6.new hx6
          refine ⟨x, dx2, tp, _, flipS T1 e, rfl, upd_same, s7 _ _ h5t, hT5.mono s7.keep, gd, fun H8 F2 T2 s8 sh2 hF2 hT2 => ⟨rfl, ?_⟩⟩
          have s9 : Same H5 H8 := fun b o eb => by
            have nb : b ≠ x := fun z => by rw [z, hx] at eb; cases eb
            exact s8 b o nb (s7 b o eb)
          exact q H8 x F2 T2 (s5.trans s9) (s5.free hx) sh2 hF2 hT2
def spFlipped (C : Addr) : Sp := fun vs H Q _ => ∃ p ev e F T, vs = [.ref p, ev] ∧ Ti H ev e ∧ Shp C H p F T ∧ Srf F T ∧ simpB e = true ∧ (∃ t, (e, t) ∈ pairsOf T) ∧ tipsS T e ∉ F ∧ Good (flipS T e) ∧
  ∀ H' p2 F2 T2, Same H H' → H p2 = none → Shp C H' p2 F2 T2 → Faces (flipS T e) F2 → Tops F2 T2 → Q (.ref p2) H'
theorem ok_flipped (T : Tx K mg A) (G_need_surface : FnOk P w K mg base CX0 9 A.f_need_surface A.fd_need_surface ["shape"] (spNeedS A.C)) (G_is_simplex : FnOk P w K mg base CX0 4 A.f_is_simplex A.fd_is_simplex ["value"] spIs_simplex)
    (G_flips_in : FnOk P w K mg base CX0 4 A.f_flips_in A.fd_flips_in ["shape"] (spFlips_in A.C)) (G_flipped_in : FnOk P w K mg base CX0 7 A.f_flipped_in A.fd_flipped_in ["shape", "edge"] (spFlipped_in A.C)) :
    FnOk P w K mg base CX0 10 A.f_flipped A.fd_flipped ["shape", "edge"] (spFlipped A.C) := by
  refine T.F_flipped.ok sc_flipped (fun vs H Q E h => ?_) (fun cdv Ar outer s H vs Q E hr h => ⟨_, (pss_cons (ps_expr (pe_call G_need_surface (hr.mono (by decide)) (by rfl) T.g_need_surface T.k_need_surface T.bd_need_surface .nil pass0 (pa_cons (pv 0) pa_nil)))
    (pss_cons (ps_if (PW.pt (pw_or (pt_not (pt_val (pe_call G_is_simplex (hr.mono (by decide)) (by rfl) T.g_is_simplex T.k_is_simplex T.bd_is_simplex .nil pass0 (pa_cons (pv 1) pa_nil)))) (pw_or1 (pt_cmpR (op_notInDK K (hu65 hr)) (pv 1) (pe_call G_flips_in (hr.mono (by decide)) (by rfl) T.g_flips_in T.k_flips_in T.bd_flips_in .nil pass0 (pa_cons (pv 0) pa_nil)) (by rfl))))) (pss_one ps_never) pss_nil)
    (pss_one (ps_ret (pe_call G_flipped_in (hr.mono (by decide)) (by rfl) T.g_flipped_in T.k_flipped_in T.bd_flipped_in .nil pass0 (pa_cons (pv 0) (pa_cons (pv 1) pa_nil))))))), ?_⟩)
  · obtain ⟨p, ev, e, F, T1, rfl, _⟩ := h; rfl
  · obtain ⟨p, ev, e, F, T1, rfl, he, sh, S, hsi, hex, htn, gd, q⟩ := h
    refine ⟨_, rfl, p, F, T1, rfl, sh, S, fun H1 s1 => ?_⟩
    have l8 := (simp_len hsi).2
    refine ⟨_, rfl, ev, rfl, .inl ⟨e, he.mono s1.keep, by omega, fun H2 s2 => ⟨true, by rw [hsi], ?_⟩⟩⟩
    refine iteF ?_
    have s12 := s1.trans s2
    refine ⟨_, rfl, _, rfl, p, F, T1, rfl, sh.mono s12, S.toCx0, fun H3 l ys E s3 hl0 hl eE tl => ?_⟩
    have s13 := s12.trans s3
    have hin : e ∈ E.filter fun e => decide (tipsS T1 e ∉ F) := List.mem_filter.mpr ⟨(eE.2 e).mpr hex, by simp [htn]⟩
    refine notInTi (he.mono s13.keep) hl tl ⟨_, rfl, ?_⟩
    rw [decide_eq_true hin]
    refine iteF ?_
    exact ⟨_, rfl, _, rfl, p, ev, e, F, T1, rfl, he.mono s13.keep, sh.mono s13, S.toCx0, hex, gd, fun H4 p2 F2 T2 s4 hp2 sh2 hF2 hT2 => q H4 p2 F2 T2 (s13.trans s4) (s13.free hp2) sh2 hF2 hT2⟩
def spFlippedX (C cNS cNF : Addr) : Sp := fun vs H Q E => ∃ p ev F T, vs = [.ref p, ev] ∧ Shp C H p F T ∧ Cx0 F T ∧ ((Flat F T ∧ ∀ H', Same H H' → E (.ref cNS) none H') ∨
  (Srf F T ∧ (NoTup H ev ∨ ∃ e, Ti H ev e ∧ e.length < 1000 ∧ (simpB e = false ∨ (¬ ∃ t, (e, t) ∈ pairsOf T) ∨ tipsS T e ∈ F)) ∧ ∀ H', Same H H' → E (.ref cNF) none H'))
theorem NoTup.mono {H H' : Hp} {v : V} (h : NoTup H v) (s : Same H H') : NoTup H' v := by
  rcases h with h | h | ⟨p, xs, h1, h2⟩
  · exact .inl h
  · exact .inr (.inl h)
  · exact .inr (.inr ⟨p, xs, h1, s _ _ h2⟩)
theorem okX_flipped (T : Tx K mg A) (GX_need_surface : FnOk P w K mg base (L2.CX P w) 9 A.f_need_surface A.fd_need_surface ["shape"] (spNeedSX A.C A.cNS)) (G_is_simplex : FnOk P w K mg base CX0 4 A.f_is_simplex A.fd_is_simplex ["value"] spIs_simplex)
    (G_flips_in : FnOk P w K mg base CX0 4 A.f_flips_in A.fd_flips_in ["shape"] (spFlips_in A.C)) (G_flipped_in : FnOk P w K mg base CX0 7 A.f_flipped_in A.fd_flipped_in ["shape", "edge"] (spFlipped_in A.C)) :
    FnOk P w K mg base (L2.CX P w) 10 A.f_flipped A.fd_flipped ["shape", "edge"] (spFlippedX A.C A.cNS A.cNF) := by
  refine T.F_flipped.okX sc_flipped (fun vs H Q E h => ?_) (fun cdv Ar outer s H vs Q E hr h => ⟨_, (pss_cons (ps_expr (pe_callS GX_need_surface (hr.mono (by decide)) (by rfl) T.g_need_surface T.k_need_surface T.bd_need_surface (fun σ => passAt (takes_of rfl rfl rfl rfl) σ) (pa_cons (pv 0) pa_nil)))
    (pss_cons (ps_if (PW.pt (pw_or (pt_not (pt_val (pe_call G_is_simplex (hr.mono (by decide)) (by rfl) T.g_is_simplex T.k_is_simplex T.bd_is_simplex .nil pass0 (pa_cons (pv 1) pa_nil)))) (pw_or1 (pt_cmpR (op_notInDK K (hu65 hr)) (pv 1) (pe_call G_flips_in (hr.mono (by decide)) (by rfl) T.g_flips_in T.k_flips_in T.bd_flips_in .nil pass0 (pa_cons (pv 0) pa_nil)) (by rfl))))) (pss_one (ps_raise rfl (takes_of rfl rfl rfl rfl) (pmk_own0 PySem.F.excBase_ValueError T.x_NF T.g_NotFlip T.kp_NF (raises_own T.b_NF T.t_NF) rfl))) pss_nil)
    (pss_one (ps_ret (pe_call G_flipped_in (hr.mono (by decide)) (by rfl) T.g_flipped_in T.k_flipped_in T.bd_flipped_in .nil pass0 (pa_cons (pv 0) (pa_cons (pv 1) pa_nil))))))), ?_⟩)
  · obtain ⟨p, ev, F, T1, rfl, _⟩ := h; rfl
  · obtain ⟨p, ev, F, T1, rfl, sh, c0, ⟨fl, q⟩ | ⟨S, hodd, q⟩⟩ := h
    · exact ⟨_, rfl, p, F, T1, rfl, sh, c0, .inr ⟨fl, q⟩⟩
    · refine ⟨_, rfl, p, F, T1, rfl, sh, c0, .inl ⟨S, fun H1 s1 => ?_⟩⟩
      rcases hodd with hn | ⟨e, he, hl, hbad⟩
      · refine ⟨_, rfl, ev, rfl, .inr ⟨hn.mono s1, false, rfl, ?_⟩⟩
        exact iteT (iteT (q _ s1))
      · refine ⟨_, rfl, ev, rfl, .inl ⟨e, he.mono s1.keep, hl, fun H2 s2 => ⟨_, rfl, ?_⟩⟩⟩
        have s12 := s1.trans s2
        cases hs : simpB e with
        | false => exact iteT (iteT (q _ s12))
        | true =>
          refine iteF ?_
          refine ⟨_, rfl, _, rfl, p, F, T1, rfl, sh.mono s12, c0, fun H3 l ys E s3 hl0 hl eE tl => ?_⟩
          have s13 := s12.trans s3
          have hin : ¬ e ∈ E.filter fun e => decide (tipsS T1 e ∉ F) := fun z => by
            obtain ⟨z1, z2⟩ := List.mem_filter.mp z
            rcases hbad with h | h | h
            · rw [hs] at h; cases h
            · exact h ((eE.2 e).mp z1)
            · simp [h] at z2
          refine notInTi (he.mono s13.keep) hl tl ⟨_, rfl, ?_⟩
          rw [decide_eq_false hin]
          exact iteT (q _ s13)
end
end Fl

set_option Elab.async false
set_option linter.all false
set_option maxRecDepth 100000
set_option maxHeartbeats 4000000
namespace Fl
open PySem PySem.Spec PyProof.Rows L2
section
variable {P : Program} {w : World} {K : PySem.W.Frag} {mg : Str → Option Value} {base : Heap} {A : Ad}
/-- the row of draws, over the script at sc -/
def RowOk (K : PySem.W.Frag) (H : Hp) (r sc : Addr) (ns : List Int) : Prop := ∃ (i s rr : Int), H r = some (.lst [.ref sc, .int i, .int s, .int rr]) ∧ SqL K H sc (ns.map V.int) ∧ 0 ≤ i
theorem RowOk.mono {K : PySem.W.Frag} {H H' : Hp} {r sc : Addr} {ns : List Int} (h : RowOk K H r sc ns) (s : Same H H') : RowOk K H' r sc ns := let ⟨i, x, rr, h1, h2, h3⟩ := h; ⟨i, x, rr, s _ _ h1, s.seq h2, h3⟩
theorem RowOk.lst {K : PySem.W.Frag} {H : Hp} {r sc : Addr} {ns : List Int} (h : RowOk K H r sc ns) : ∃ xs, H r = some (.lst xs) := let ⟨i, x, rr, h1, h2, h3⟩ := h; ⟨_, h1⟩
theorem But.keep {l : Addr} {H H' : Hp} (b : But l H H') (h : ∃ xs, H l = some (.lst xs)) : Keep H H' := fun a xs e => b a _ (fun z => by obtain ⟨ys, h⟩ := h; rw [z, h] at e; cases e) e
theorem seq_upd {K : PySem.W.Frag} {H : Hp} {r sc : Addr} {ns : List Int} {ys : List V} {o : HO} {x : Addr} (h : SqL K H sc (ns.map V.int)) (hr : H r = some (.lst (.ref x :: ys))) : SqL K (upd H r o) sc (ns.map V.int) := by
  rcases h with (h | ⟨ob, h⟩) | h
  · have : sc ≠ r := fun z => by
      rw [z, hr] at h
      injection h with h
      injection h with h
      cases ns with
      | nil => cases h
      | cons n ns => rw [List.map_cons] at h; cases h
    exact .inl (.inl (by rw [upd_ne this]; exact h))
  · have : sc ≠ r := fun z => by rw [z, hr] at h; cases h
    exact .inl (.inr ⟨ob, by rw [upd_ne this]; exact h⟩)
  · exact .inr h
/-- the script stands, as all but the row -/
theorem RowOk.back {K : PySem.W.Frag} {H H2 H' : Hp} {r sc : Addr} {ns : List Int} (h : RowOk K H r sc ns) (b : But r H H') (h2 : RowOk K H2 r sc ns) (e : H' r = H2 r) : RowOk K H' r sc ns := by
  obtain ⟨i, x, rr, h1, h3, h4⟩ := h
  obtain ⟨i2, x2, rr2, k1, _, k4⟩ := h2
  refine ⟨i2, x2, rr2, by rw [e]; exact k1, ?_, k4⟩
  rcases h3 with (h | ⟨ob, h⟩) | h
  · have : sc ≠ r := fun z => by
      rw [z, h1] at h
      injection h with h
      injection h with h
      cases ns with
      | nil => cases h
      | cons n ns => rw [List.map_cons] at h; cases h
    exact .inl (.inl (b _ _ this h))
  · have : sc ≠ r := fun z => by rw [z, h1] at h; cases h
    exact .inl (.inr ⟨ob, b _ _ this h⟩)
  · exact .inr h
theorem fmod_in {a b : Int} (h : 0 < b) : 0 ≤ a.fmod b ∧ a.fmod b < b := ⟨Int.fmod_nonneg_of_pos a h, Int.fmod_lt_of_pos a h⟩
def spTaken (K : PySem.W.Frag) : Sp := fun vs H Q _ => ∃ r many sc ns, vs = [.ref r, .int many] ∧ RowOk K H r sc ns ∧ 0 < many ∧ many < 1000000 ∧ ∀ H' k, But r H H' → RowOk K H' r sc ns → 0 ≤ k → k < many → Q (.int k) H'
theorem ok_taken (T : Tx K mg A) : FnOk P w K mg base CX0 1 A.f__law_taken A.fd__law_taken ["_law_row", "_law_many"] (spTaken K) := by
  refine T.F__law_taken.ok sc__law_taken (fun vs H Q E h => ?_) (fun cdv Ar outer s H vs Q E hr h => ⟨_, (pss_cons (ps_if (pt_cmpR op_gt (pe_ix (ix_listK K) (pv 0) pe_int (fun _ _ => rfl)) pe_int (nomark _)) (pss_cons (ps_set (i := 2) sc__law_taken.nd rfl (by first | exact Or.inl rfl | exact Or.inr rfl) (pe_op op_modN (pe_callTy call_int1 (by rfl) (T.nb "int" (by decide)) (by decide +kernel) (pa_cons (pe_ix (ix_listK K) (pv 0) pe_int (fun _ _ => rfl)) pa_nil)) (pv 1)))
    (pss_cons (ps_asg (pe_op op_fdivN (pe_ix (ix_listK K) (pv 0) pe_int (fun _ _ => rfl)) (pv 1)) (pg_sub (pv 0) pe_int set_list))
    (pss_one (ps_ret (pv 2))))) pss_nil)
    (pss_cons (ps_asg (pe_op op_add (pe_ix (ix_listK K) (pv 0) pe_int (fun _ _ => rfl)) pe_int) (pg_sub (pv 0) pe_int set_list))
    (pss_cons (ps_if (pt_cmpR op_gt (pe_ix (ix_listK K) (pv 0) pe_int (fun _ _ => rfl)) (pe_callB (call_len_seqK K) (by rfl) (T.nb "len" (by decide)) PySem.boot_len (pa_cons (pe_ix (ix_listK K) (pv 0) pe_int (fun _ _ => rfl)) pa_nil)) (nomark _)) (pss_cons (ps_asg (pe_op op_modN (pe_callTy call_int1 (by rfl) (T.nb "int" (by decide)) (by decide +kernel) (pa_cons (pe_op op_add (pe_op op_mul (pe_ix (ix_listK K) (pv 0) pe_int (fun _ _ => rfl)) pe_int) pe_int) pa_nil)) pe_int) (pg_sub (pv 0) pe_int set_list))
    (pss_one (ps_ret (pe_op op_modN (pe_callTy call_int1 (by rfl) (T.nb "int" (by decide)) (by decide +kernel) (pa_cons (pe_op op_fdivN (pe_ix (ix_listK K) (pv 0) pe_int (fun _ _ => rfl)) pe_int) pa_nil)) (pv 1))))) pss_nil)
    (pss_cons (ps_set (i := 3) sc__law_taken.nd rfl (by first | exact Or.inl rfl | exact Or.inr rfl) (pe_ix (ix_listK K) (pe_ix (ix_listK K) (pv 0) pe_int (fun _ _ => rfl)) (pe_op op_sub (pe_ix (ix_listK K) (pv 0) pe_int (fun _ _ => rfl)) pe_int) (fun _ _ => rfl)))
    (pss_cons (ps_asg (pe_op op_modN (pe_callTy call_int1 (by rfl) (T.nb "int" (by decide)) (by decide +kernel) (pa_cons (pe_op op_add (pe_op op_add (pe_op op_mul (pe_ix (ix_listK K) (pv 0) pe_int (fun _ _ => rfl)) pe_int) (pv 3)) pe_int) pa_nil)) pe_int) (pg_sub (pv 0) pe_int set_list))
    (pss_cons (ps_if (pt_cmpR op_ge (pv 3) (pe_op op_pow pe_int pe_int) (nomark _)) (pss_one (ps_asg (pe_op op_fdivN (pv 3) (pv 1)) (pg_sub (pv 0) pe_int set_list))) pss_nil)
    (pss_one (ps_ret (pe_op op_modN (pe_callTy call_int1 (by rfl) (T.nb "int" (by decide)) (by decide +kernel) (pa_cons (pv 3) pa_nil)) (pv 1)))))))))), ?_⟩)
  · obtain ⟨r, many, sc, ns, rfl, _⟩ := h; rfl
  · obtain ⟨r, many, sc, ns, rfl, ⟨i, sd, rr, hrow, hsc, hi⟩, hm, hm2, q⟩ := h
    have dm : many ≠ 0 ∧ many.natAbs < 1073741824 := ⟨by omega, by omega⟩
    refine ⟨_, rfl, r, _, 3, _, rfl, rfl, .of hrow, rfl, _, _, rfl, rfl, _, rfl, ?_⟩
    by_cases c : 0 < rr
    · rw [decide_eq_true c]
      refine iteT ?_
      refine ⟨_, rfl, r, _, 3, _, rfl, rfl, .of hrow, rfl, .inl ⟨_, rfl, ?_⟩⟩
      refine ⟨_, rfl, _, _, rfl, rfl, dm.1, ?_⟩
      refine ⟨_, rfl, r, _, 3, _, rfl, rfl, .of hrow, rfl, _, rfl, _, _, rfl, rfl, dm, _, rfl, r, _, 3, 3, rfl, rfl, hrow, rfl, ?_⟩
      refine ⟨_, rfl, q _ _ but_upd ⟨i, sd, _, upd_same, seq_upd hsc hrow, hi⟩ (fmod_in hm).1 (fmod_in hm).2⟩
    · rw [decide_eq_false c]
      refine iteF ?_
      refine ⟨_, rfl, r, _, 1, _, rfl, rfl, .of hrow, rfl, _, _, rfl, rfl, _, rfl, r, _, 1, 1, rfl, rfl, hrow, rfl, ?_⟩
      have hrow1 : upd H r (.lst ([.ref sc, .int i, .int sd, .int rr].set 1 (.int (i + 1)))) r = some (.lst [.ref sc, .int (i + 1), .int sd, .int rr]) := upd_same
      have hsc1 : SqL K (upd H r (.lst ([.ref sc, .int i, .int sd, .int rr].set 1 (.int (i + 1))))) sc (ns.map V.int) := seq_upd hsc hrow
      have b1 : But r H (upd H r (.lst ([.ref sc, .int i, .int sd, .int rr].set 1 (.int (i + 1))))) := but_upd
      revert hrow1 hsc1 b1
      generalize upd H r (.lst ([.ref sc, .int i, .int sd, .int rr].set 1 (.int (i + 1)))) = H1
      intro hrow1 hsc1 b1
      refine ⟨_, rfl, r, _, 1, _, rfl, rfl, .of hrow1, rfl, _, rfl, r, _, 0, _, rfl, rfl, .of hrow1, rfl, sc, _, rfl, .inl hsc1, _, _, rfl, rfl, _, rfl, ?_⟩
      rw [List.length_map]
      by_cases c2 : ((ns.length : Nat) : Int) < i + 1
      · rw [decide_eq_true c2]
        refine iteT ?_
        refine ⟨_, rfl, r, _, 2, _, rfl, rfl, .of hrow1, rfl, _, _, rfl, rfl, .inr ⟨by decide, by decide⟩, _, _, rfl, rfl, .inl ⟨_, rfl, _, _, rfl, rfl, (show (2147483647 : Int) ≠ 0 by decide), _, rfl, r, _, 2, 2, rfl, rfl, hrow1, rfl, ?_⟩⟩
        have b2 : But r H (upd H1 r (.lst ([.ref sc, .int (i + 1), .int sd, .int rr].set 2 (.int (Int.fmod (sd * 48271 + 11) 2147483647))))) := b1.upd
        refine ⟨_, rfl, r, _, 2, _, rfl, rfl, .of upd_same, rfl, _, _, rfl, rfl, ⟨by decide, by decide⟩, .inl ⟨_, rfl, _, rfl, _, _, rfl, rfl, dm.1, ?_⟩⟩
        exact q _ _ b2 ⟨_, _, _, upd_same, seq_upd hsc1 hrow1, by omega⟩ (fmod_in hm).1 (fmod_in hm).2
      · rw [decide_eq_false c2]
        refine iteF ?_
        obtain ⟨j, hj⟩ : ∃ j : Nat, (j : Int) = i + 1 - 1 := ⟨i.toNat, by omega⟩
        have hjl : j < ns.length := by omega
        have hv : (ns.map V.int)[j]? = some (.int ns[j]) := by rw [List.getElem?_map]; simp [hjl]
        have hat : atI (ns.map V.int) (i + 1 - 1) = some (.int ns[j]) := by rw [← hj]; exact atI_nat hv
        generalize ns[j] = cell at hat
        refine ⟨_, rfl, r, _, 0, _, rfl, rfl, .of hrow1, rfl, _, rfl, r, _, 1, _, rfl, rfl, .of hrow1, rfl, _, _, rfl, rfl, sc, _, _, _, rfl, rfl, hsc1, hat, ?_⟩
        refine ⟨_, rfl, r, _, 2, _, rfl, rfl, .of hrow1, rfl, _, _, rfl, rfl, .inr ⟨by decide, by decide⟩, _, rfl, _, _, rfl, rfl, _, _, rfl, rfl, .inl ⟨_, rfl, _, _, rfl, rfl, (show (2147483647 : Int) ≠ 0 by decide), _, rfl, r, _, 2, 2, rfl, rfl, hrow1, rfl, ?_⟩⟩
        have hrow2 : upd H1 r (.lst ([.ref sc, .int (i + 1), .int sd, .int rr].set 2 (.int (Int.fmod (sd * 48271 + cell + 11) 2147483647)))) r = some (.lst [.ref sc, .int (i + 1), .int (Int.fmod (sd * 48271 + cell + 11) 2147483647), .int rr]) := upd_same
        have hsc2 : SqL K (upd H1 r (.lst ([.ref sc, .int (i + 1), .int sd, .int rr].set 2 (.int (Int.fmod (sd * 48271 + cell + 11) 2147483647))))) sc (ns.map V.int) := seq_upd hsc1 hrow1
        have b2 : But r H (upd H1 r (.lst ([.ref sc, .int (i + 1), .int sd, .int rr].set 2 (.int (Int.fmod (sd * 48271 + cell + 11) 2147483647))))) := b1.upd
        revert hrow2 hsc2 b2
        generalize upd H1 r (.lst ([.ref sc, .int (i + 1), .int sd, .int rr].set 2 (.int (Int.fmod (sd * 48271 + cell + 11) 2147483647)))) = H2
        intro hrow2 hsc2 b2
        refine ⟨_, rfl, _, _, rfl, rfl, ⟨by decide, by decide, by decide⟩, _, _, rfl, rfl, _, rfl, ?_⟩
        refine ite2 (fun _ => ?_) (fun _ => ?_)
        · refine ⟨_, rfl, _, rfl, _, _, rfl, rfl, dm, _, rfl, r, _, 3, 3, rfl, rfl, hrow2, rfl, ?_⟩
          refine ⟨_, rfl, .inl ⟨_, rfl, _, rfl, _, _, rfl, rfl, dm.1, ?_⟩⟩
          exact q _ _ b2.upd ⟨_, _, _, upd_same, seq_upd hsc2 hrow2, by omega⟩ (fmod_in hm).1 (fmod_in hm).2
        · refine ⟨_, rfl, .inl ⟨_, rfl, _, rfl, _, _, rfl, rfl, dm.1, ?_⟩⟩
          exact q _ _ b2 ⟨_, _, _, hrow2, hsc2, by omega⟩ (fmod_in hm).1 (fmod_in hm).2
def spPick (K : PySem.W.Frag) : Sp := fun vs H Q _ => ∃ r l ys sc ns, vs = [.ref r, .ref l] ∧ RowOk K H r sc ns ∧ H l = some (.lst ys) ∧ l ≠ r ∧ 0 < ys.length ∧ ys.length < 1000000 ∧ ∀ (H' : Hp) (x : V) (j : Nat), But r H H' → RowOk K H' r sc ns → ys[j]? = some x → Q x H'
theorem ok_pick (T : Tx K mg A) (G__law_taken : FnOk P w K mg base CX0 1 A.f__law_taken A.fd__law_taken ["_law_row", "_law_many"] (spTaken K)) : FnOk P w K mg base CX0 2 A.f__law_pick A.fd__law_pick ["_law_row", "_law_things"] (spPick K) := by
  refine T.F__law_pick.ok sc__law_pick (fun vs H Q E h => ?_) (fun cdv Ar outer s H vs Q E hr h => ⟨_, (pss_one (ps_ret (pe_ix (ix_listK K) (pv 1) (pe_call G__law_taken (hr.mono (by first | decide | exact Nat.le_refl _)) (by rfl) T.g__law_taken T.k__law_taken T.bd__law_taken .nil pass0 (pa_cons (pv 0) (pa_cons (pe_callB (call_len_seqK K) (by rfl) (T.nb "len" (by decide)) PySem.boot_len (pa_cons (pv 1) pa_nil)) pa_nil))) (fun _ _ => rfl)))), ?_⟩)
  · obtain ⟨r, l, ys, sc, ns, rfl, _⟩ := h; rfl
  · obtain ⟨r, l, ys, sc, ns, rfl, hrw, hl, hlr, h0, h1, q⟩ := h
    refine ⟨_, rfl, _, rfl, _, rfl, l, ys, rfl, .inl (.of hl), r, _, sc, ns, rfl, hrw, by omega, by omega, fun H1 k b1 hr1 hk0 hk => ?_⟩
    obtain ⟨j, rfl⟩ := Int.eq_ofNat_of_zero_le hk0
    have hj : j < ys.length := by omega
    obtain ⟨x, hx⟩ : ∃ x, ys[j]? = some x := ⟨ys[j], by simp [hj]⟩
    exact ⟨l, ys, _, x, rfl, rfl, .of (b1 _ _ hlr hl), atI_nat hx, q H1 x j b1 hr1 hx⟩
end
end Fl

set_option Elab.async false
set_option linter.all false
set_option maxRecDepth 100000
set_option maxHeartbeats 4000000
namespace Fl
open PySem PySem.Spec PyProof.Rows L2
section
variable {P : Program} {w : World} {K : PySem.W.Frag} {mg : Str → Option Value} {base : Heap} {A : Ad}
section
variable {H : Hp}
theorem dp_ints {K : PySem.W.Frag} {a : Addr} {ns : List Int} (h : H a = some (.lst (ns.map V.int))) : Dp K H (.ref a) (.list (dI ns)) := .lst (.of h) (dpAll_ints ns)
theorem shaped_li (a : List Int) : SeqAt.shaped (.list (dI a)) = true := by
  unfold SeqAt.shaped
  have h1 : PyData.canLay0 (.list (dI a)) = true := canLay_ints a
  have h2 : PyData.depth (.list (dI a)) = 1 := by
    show PyData.depthAll (dI a) + 1 = 1
    rw [depth_ints]
  rw [h1, h2]
  rfl
theorem eqLI {K : PySem.W.Frag} {a b : Addr} {ns ms : List Int} {Q : VK} (h : H a = some (.lst (ns.map V.int))) (h2 : H b = some (.lst (ms.map V.int))) (q : Q (.bl (decide (ns = ms))) H) : rEqD K (.ref a) (.ref b) H Q :=
  ⟨_, _, dp_ints h, dp_ints h2, shaped_li ns, shaped_li ms, by rw [show PyData.eqv (.list (dI ns)) (.list (dI ms)) = decide (ns = ms) from eqvAll_ints ns ms]; exact q⟩
theorem neLT {K : PySem.W.Frag} {a b : Addr} {xs ys : List V} {T U : List (List Int)} {Q : VK} (h : H a = some (.lst xs)) (hx : TL H xs T) (h2 : H b = some (.lst ys)) (hy : TL H ys U) (q : Q (.bl (!decide (T = U))) H) : rNeD K (.ref a) (.ref b) H Q :=
  ⟨.list (dTs T), .list (dTs U), .lst (.of h) (dp_tl hx), .lst (.of h2) (dp_tl hy), shaped_lt T, shaped_lt U, by rw [show PyData.eqv (.list (dTs T)) (.list (dTs U)) = decide (T = U) from eqvAll_tl T U]; exact q⟩
/-- t + (x,) -/
theorem catT1 {K : PySem.W.Frag} {a b : Addr} {t : List Int} {x : Int} {Q : VK} (ha : H a = some (.tup (t.map V.int))) (hb : H b = some (.tup [.int x])) (hl : t.length ≤ 10000) (q : ∀ H' y, Same H H' → Ti H' y (t ++ [x]) → Q y H') : rCatA K (.ref a) (.ref b) H Q := by
  refine ⟨a, b, _, _, rfl, rfl, .of ha, .of hb, ?_, fun e => ?_, fun _ e => (by cases e), fun _ _ p hp => ?_⟩
  · rw [List.length_map]
    exact Nat.le_trans (by simp; omega : _ ≤ 10001) (by decide)
  · have : t = [] := List.map_eq_nil_iff.mp e
    subst this
    exact q H _ (Same.refl _) ⟨b, rfl, hb⟩
  · exact q _ _ (same_new hp) ⟨p, rfl, by rw [upd_same, List.map_append]; rfl⟩
end
theorem lc_seq {K : PySem.W.Frag} {g : TG} {tt : TT} {te td : TE} {vs : List Nat} {σ : L2.St} {H : Hp} {Q : VK} {a : Addr} {xs : List V} {T : List (List Int)} {β : Type} (hte : ∀ Q : VK, Q (.ref a) H → td σ H Q) (hA : SqA K H a xs) (ht : TL H xs T)
    (S : Hp → V → β → Prop) (p : List Int → Bool) (f : List Int → β) (hS : ∀ H H' y b, Keep H H' → S H y b → S H' y b) (hn : T.length < sizeLine)
    (hs : ∀ (i : Nat) x t H2 (Ny : V → Hp → Prop) (Nn : Hp → Prop), T[i]? = some t → Ti H2 x t → Same H H2 → (p t = true → ∀ y H4, Same H2 H4 → S H4 y (f t) → Ny y H4) → (p t = false → ∀ H3, Same H2 H3 → Nn H3) →
      g x (wipe σ vs) H2 fun σ2 H2 => wipe σ2 vs = wipe σ vs ∧ tt σ2 H2 fun b H3 => if b = true then te σ2 H3 Ny else Nn H3)
    (hq : ∀ H' D ys, Same H H' → H D = none → H' D = some (.lst ys) → Paired (S H') ys ((T.filter p).map f) → Q (.ref D) H') : tLc (iSeq K td) g tt te vs σ H Q := by
  rcases hA with h | h
  · exact .inl (hte _ ⟨a, rfl, ⟨_, h⟩, fun D hD => lc_gen T Ti S p f hD (src_listT h ht) hS hn hs fun H' ys sm hD' hp => hq H' D ys sm hD hD' hp⟩)
  · exact .inr (hte _ ⟨a, rfl, ⟨_, h⟩, fun D hD => lc_gen T Ti S p f hD (src_tupT h ht) hS hn hs fun H' ys sm hD' hp => hq H' D ys sm hD hD' hp⟩)
theorem lc_seq_st {K : PySem.W.Frag} {g g' : TG} {tt : TT} {te td : TE} {rest : TS} {D : Ends} {vs : List Nat} {σ : L2.St} {H : Hp} {a : Addr} {xs : List V} {T : List (List Int)} {β : Type} (hte : ∀ Q : VK, Q (.ref a) H → td σ H Q) (hA : SqA K H a xs) (ht : TL H xs T)
    (S : Hp → V → β → Prop) (p : List Int → Bool) (f : List Int → β) (hS : ∀ H H' y b, Keep H H' → S H y b → S H' y b) (hn : T.length < sizeLine)
    (hs : ∀ (i : Nat) x t H2 (Ny : V → Hp → Prop) (Nn : Hp → Prop), T[i]? = some t → Ti H2 x t → Same H H2 → (p t = true → ∀ y H4, Same H2 H4 → S H4 y (f t) → Ny y H4) → (p t = false → ∀ H3, Same H2 H3 → Nn H3) →
      g x (wipe σ vs) H2 fun σ2 H2 => wipe σ2 vs = wipe σ vs ∧ tt σ2 H2 fun b H3 => if b = true then te σ2 H3 Ny else Nn H3)
    (hq : ∀ H' D' ys, Same H H' → H D' = none → H' D' = some (.lst ys) → Paired (S H') ys ((T.filter p).map f) → g' (.ref D') σ H' (rest D)) : tSeq (tAsg (tLc (iSeq K td) g tt te vs) g') rest D σ H :=
  lc_seq (Q := fun x H1 => g' x σ H1 (rest D)) hte hA ht S p f hS hn hs hq
theorem name_if_lc {K : PySem.W.Frag} {i0 : Nat} {v : V} {g : TG} {tt : TT} {te td : TE} {A B rest : TS} {D : Ends} {vs : List Nat} {σ : L2.St} {H : Hp} {a : Addr} {xs : List V} {T : List (List Int)} {β : Type} (hte : ∀ Q : VK, Q (.ref a) H → td (σ.set i0 (some v)) H Q) (hA : SqA K H a xs) (ht : TL H xs T)
    (S : Hp → V → β → Prop) (p : List Int → Bool) (f : List Int → β) (hS : ∀ H H' y b, Keep H H' → S H y b → S H' y b) (hn : T.length < sizeLine)
    (hs : ∀ (i : Nat) x t H2 (Ny : V → Hp → Prop) (Nn : Hp → Prop), T[i]? = some t → Ti H2 x t → Same H H2 → (p t = true → ∀ y H4, Same H2 H4 → S H4 y (f t) → Ny y H4) → (p t = false → ∀ H3, Same H2 H3 → Nn H3) →
      g x (wipe (σ.set i0 (some v)) vs) H2 fun σ2 H2 => wipe σ2 vs = wipe (σ.set i0 (some v)) vs ∧ tt σ2 H2 fun b H3 => if b = true then te σ2 H3 Ny else Nn H3)
    (hq : ∀ H' D' ys, Same H H' → H D' = none → H' D' = some (.lst ys) → Paired (S H') ys ((T.filter p).map f) → (tLst tNil) (σ.set i0 (some v)) H' (fun y H2 => rNeD K (.ref D') y H2 fun x H3 => ∃ k, x = .bl k ∧ if k = true then A { D with nx := rest D } (σ.set i0 (some v)) H3 else B { D with nx := rest D } (σ.set i0 (some v)) H3)) :
    gName i0 v σ H (tSeq (tIfS (tTest (tOp (rNeD K) (tLc (iSeq K td) g tt te vs) (tLst tNil))) A B) rest D) :=
  lc_seq (Q := fun x H1 => (tLst tNil) (σ.set i0 (some v)) H1 fun y H2 => rNeD K x y H2 fun x H3 => ∃ k, x = .bl k ∧ if k = true then A { D with nx := rest D } (σ.set i0 (some v)) H3 else B { D with nx := rest D } (σ.set i0 (some v)) H3) hte hA ht S p f hS hn hs hq
def inB (a b : List Int) : Bool := a.all fun n => decide (n ∈ b)
def spWithin : Sp := fun vs H Q _ => ∃ x y a b, vs = [x, y] ∧ Ti H x a ∧ Ti H y b ∧ a.length ≤ 100000 ∧ ∀ H', Same H H' → Q (.bl (inB a b)) H'
theorem ok_within (T : Tx K mg A) : FnOk P w K mg base CX0 1 A.f__law_within A.fd__law_within ["_law_one", "_law_other"] spWithin := by
  refine T.F__law_within.ok sc__law_within (fun vs H Q E h => ?_) (fun cdv Ar outer s H vs Q E hr h => ⟨_, (pss_one (ps_ret (pe_cmpR (op_eqDK K hr.units) (pe_lc (own := [("_law_vertex", 2)]) (g := (gName 2)) rfl sc__law_within.nd (pi_tupK K (pv 0)) (blkOk_by (N := N__law_within) (sc := defScope s__law_within) (by decide +kernel)) (fun _ _ _ _ _ => (pg_name (i := 2) sc__law_within.nd rfl (by first | exact Or.inl rfl | exact Or.inr rfl))) (fun _ _ _ _ _ => pts_one (pt_cmpR (op_notInK K) (pv 2) (pv 1) (by rfl))) (fun _ _ _ _ _ => (pv 2))) (pe_lst pa_nil) (nomark _)))), ?_⟩)
  · obtain ⟨x, y, a, b, rfl, _⟩ := h; rfl
  · obtain ⟨x, y, a, b, rfl, ⟨xa, rfl, hx⟩, hy, hl, q⟩ := h
    refine ⟨_, rfl, xa, rfl, ⟨_, .of hx⟩, fun D hD => lc_gen a (fun _ x n => x = V.int n) (fun _ y n => y = V.int n) (fun n => decide (n ∉ b)) id hD (src_tupI (.of hx)) (fun _ _ _ _ _ h => h) (Nat.lt_of_le_of_lt hl (by decide)) ?_ ?_⟩
    · intro i x n H2 Ny Nn _ hx sm hyy hn
      subst hx
      refine ⟨rfl, _, rfl, _, rfl, notInInt (hy.mono sm.keep) ⟨_, rfl, ?_⟩⟩
      by_cases h : n ∈ b
      · rw [decide_eq_true h]
        exact iteF (hn (by simp [h]) _ (Same.refl _))
      · rw [decide_eq_false h]
        exact iteT ⟨_, rfl, hyy (by simp [h]) _ _ (Same.refl _) rfl⟩
    · intro H2 ys sm hD2 hp
      rw [List.map_id] at hp
      have e : ys = (a.filter fun n => decide (n ∉ b)).map V.int := peq (f := V.int) hp
      subst e
      refine ⟨(by show 0 ≤ sizeLine; decide), fun l hl2 => ?_⟩
      refine eqLI (ns := a.filter fun n => decide (n ∉ b)) (ms := []) (same_new hl2 _ _ hD2) upd_same ?_
      have e2 : decide ((a.filter fun n => decide (n ∉ b)) = []) = inB a b := by
        unfold inB
        rw [Bool.eq_iff_iff]
        simp [List.filter_eq_nil_iff]
      rw [e2]
      exact q _ (sm.new hl2)
/-- the law's own flip -/
def someL (T : List (List Int)) (e : List Int) : List (List Int) := T.filter fun t => inB e t
def tipsL (T : List (List Int)) (e : List Int) : List Int := isort ((someL T e).flatMap fun t => t.filter fun n => decide (n ∉ e))
def flipM (T : List (List Int)) (e : List Int) : List (List Int) := if (T.filter fun t => inB (tipsL T e) t) ≠ [] then T else (T.filter fun t => decide (t ∉ someL T e)) ++ e.map fun x => isort (tipsL T e ++ [x])
def spLawFlipped (K : PySem.W.Frag) : Sp := fun vs H Q _ => ∃ a ev xs e T, vs = [.ref a, ev] ∧ SqA K H a xs ∧ TL H xs T ∧ Ti H ev e ∧ (∀ t ∈ T, t.length = 3) ∧ T.length ≤ 400 ∧ e.length = 2 ∧
  ∀ H' y R, Same H H' → TT' H' y R → R.Perm (flipM T e) → Wk R → Q y H'
theorem ok_law_flipped (T : Tx K mg A) (G__law_within : FnOk P w K mg base CX0 1 A.f__law_within A.fd__law_within ["_law_one", "_law_other"] spWithin) :
    FnOk P w K mg base CX0 2 A.f__law_flipped A.fd__law_flipped ["_law_tops", "_law_edge"] (spLawFlipped K) := by
  refine T.F__law_flipped.ok sc__law_flipped (fun vs H Q E h => ?_) (fun cdv Ar outer s H vs Q E hr h => ⟨_, (pss_cons (ps_set (i := 3) sc__law_flipped.nd rfl (by first | exact Or.inl rfl | exact Or.inr rfl) (pe_lc (own := [("_law_top", 2)]) (g := (gName 2)) rfl sc__law_flipped.nd (pi_seqK K (pv 0)) (blkOk_by (N := N__law_flipped) (sc := defScope s__law_flipped) (by decide +kernel)) (fun _ _ _ _ _ => (pg_name (i := 2) sc__law_flipped.nd rfl (by first | exact Or.inl rfl | exact Or.inr rfl))) (fun _ _ _ _ _ => pts_one (pt_val (pe_call G__law_within (hr.mono (by first | decide | exact Nat.le_refl _)) (by rfl) T.g__law_within T.k__law_within T.bd__law_within .nil pass0 (pa_cons (pv 1) (pa_cons (pv 2) pa_nil))))) (fun _ _ _ _ _ => (pv 2))))
    (pss_cons (ps_set (i := 4) sc__law_flipped.nd rfl (by first | exact Or.inl rfl | exact Or.inr rfl) (pe_lst pa_nil))
    (pss_cons (ps_for PassesOwn.never rfl (pi_listK K (pv 3)) (pg_name (i := 2) sc__law_flipped.nd rfl (by first | exact Or.inl rfl | exact Or.inr rfl))
    (pss_one (ps_set (i := 4) sc__law_flipped.nd rfl (by first | exact Or.inl rfl | exact Or.inr rfl) (pe_op op_cat (pv 4) (pe_lc (own := [("_law_vertex", 6)]) (g := (gName 6)) rfl sc__law_flipped.nd (pi_tupK K (pv 2)) (blkOk_by (N := N__law_flipped) (sc := defScope s__law_flipped) (by decide +kernel)) (fun _ _ _ _ _ => (pg_name (i := 6) sc__law_flipped.nd rfl (by first | exact Or.inl rfl | exact Or.inr rfl))) (fun _ _ _ _ _ => pts_one (pt_cmpR (op_notInK K) (pv 6) (pv 1) (by rfl))) (fun _ _ _ _ _ => (pv 6)))))))
    (pss_cons (ps_set (i := 4) sc__law_flipped.nd rfl (by first | exact Or.inl rfl | exact Or.inr rfl) (pe_callTy (call_tuple_ofK K) (by rfl) (T.nb "tuple" (by decide)) (by decide +kernel) (pa_cons (pe_callB (cr_sortNK K) (by rfl) (T.nb "sorted" (by decide)) (by decide +kernel) (pa_cons (pv 4) pa_nil)) pa_nil)))
    (pss_cons (ps_if (pt_cmpR (op_neDK K hr.units) (pe_lc (own := [("_law_top", 2)]) (g := (gName 2)) rfl sc__law_flipped.nd (pi_seqK K (pv 0)) (blkOk_by (N := N__law_flipped) (sc := defScope s__law_flipped) (by decide +kernel)) (fun _ _ _ _ _ => (pg_name (i := 2) sc__law_flipped.nd rfl (by first | exact Or.inl rfl | exact Or.inr rfl))) (fun _ _ _ _ _ => pts_one (pt_val (pe_call G__law_within (hr.mono (by first | decide | exact Nat.le_refl _)) (by rfl) T.g__law_within T.k__law_within T.bd__law_within .nil pass0 (pa_cons (pv 4) (pa_cons (pv 2) pa_nil))))) (fun _ _ _ _ _ => (pv 2))) (pe_lst pa_nil) (nomark _)) (pss_one (ps_ret (pe_callTy (call_tuple_ofK K) (by rfl) (T.nb "tuple" (by decide)) (by decide +kernel) (pa_cons (pe_callB (cr_sortXK K) (by rfl) (T.nb "sorted" (by decide)) (by decide +kernel) (pa_cons (pv 0) pa_nil)) pa_nil)))) pss_nil)
    (pss_cons (ps_setLc (i := 5) (own := [("_law_top", 2)]) (g := (gName 2)) rfl sc__law_flipped.nd rfl rfl (sw_true rfl rfl rfl (by decide +kernel)) (pi_seqK K (pv 0)) (blkOk_by (N := N__law_flipped) (sc := defScope s__law_flipped) (by decide +kernel)) (fun _ _ _ _ _ => (pg_name (i := 2) sc__law_flipped.nd rfl (by first | exact Or.inl rfl | exact Or.inr rfl))) (fun _ _ _ _ _ => pts_one (pt_cmpR (op_notInDK K (hu65 hr)) (pv 2) (pv 3) (by rfl))) (fun _ _ _ _ _ => (pv 2)))
    (pss_one (ps_ret (pe_callTy (call_tuple_ofK K) (by rfl) (T.nb "tuple" (by decide)) (by decide +kernel) (pa_cons (pe_callB (cr_sortXK K) (by rfl) (T.nb "sorted" (by decide)) (by decide +kernel) (pa_cons (pe_op op_cat (pv 5) (pe_lc (own := [("_law_end", 7)]) (g := (gName 7)) rfl sc__law_flipped.nd (pi_tupK K (pv 1)) (blkOk_by (N := N__law_flipped) (sc := defScope s__law_flipped) (by decide +kernel)) (fun _ _ _ _ _ => (pg_name (i := 7) sc__law_flipped.nd rfl (by first | exact Or.inl rfl | exact Or.inr rfl))) (fun _ _ _ _ _ => pts_nil) (fun _ _ _ _ _ => (pe_callTy (call_tuple_ofK K) (by rfl) (T.nb "tuple" (by decide)) (by decide +kernel) (pa_cons (pe_callB (cr_sortNK K) (by rfl) (T.nb "sorted" (by decide)) (by decide +kernel) (pa_cons (pe_op (op_catAK K) (pv 4) (pe_tup (pa_cons (pv 7) pa_nil))) pa_nil)) pa_nil))))) pa_nil)) pa_nil)))))))))), ?_⟩)
  · obtain ⟨a, ev, xs, e, T1, rfl, _⟩ := h; rfl
  · obtain ⟨a, ev, xs, e, T1, rfl, hA, ht, he, h3, h400, h2, q⟩ := h
    have hTl : T1.length < sizeLine := Nat.lt_of_le_of_lt h400 (by decide)
    refine lc_seq_st (a := a) (xs := xs) (T := T1) (fun Q q => ⟨_, rfl, q⟩) hA ht Ti (fun t => inB e t) id (fun _ _ _ _ k h => h.mono k) hTl ?_ ?_
    · intro i x t H2 Ny Nn hti hx sm hyy hn
      refine ⟨rfl, _, rfl, _, rfl, ev, x, e, t, rfl, he.mono sm.keep, hx, by omega, fun H3 s3 => ⟨_, rfl, ?_⟩⟩
      refine ite2 (fun h => ?_) (fun h => ?_)
      · exact ⟨_, rfl, hyy h _ _ s3 (hx.mono s3.keep)⟩
      · exact hn (by simpa using h) _ s3
    · intro H1 D ys s1 hD0 hD1 hp
      rw [List.map_id] at hp
      have lM : (someL T1 e).length ≤ 400 := Nat.le_trans (List.length_filter_le _ _) h400
      have hp : TL H1 ys (someL T1 e) := hp
      have m3 : ∀ t ∈ someL T1 e, t.length = 3 := fun t ht => h3 t (List.mem_filter.mp ht).1
      refine ⟨(by show 0 ≤ sizeLine; decide), fun l0 hl0 => ?_⟩
      have s0 := same_new (o := .lst []) hl0
      refine ⟨_, rfl, D, rfl, ⟨_, .of (s0 _ _ hD1)⟩, for_list (xs := ys) (fun i σ H' => ∃ l ms v2, σ = [some (.ref a), some ev, v2, some (.ref D), some (.ref l), none, none, none] ∧ Same H1 H' ∧ H' l = some (.lst (ms.map V.int)) ∧ ms = ((someL T1 e).take i).flatMap (fun t => t.filter fun n => decide (n ∉ e)))
        ⟨l0, [], none, rfl, s0, upd_same, by simp⟩ (fun i σ H' _ ⟨_, _, _, _, s5, _⟩ => .of (s5 _ _ hD1)) ?_ ?_⟩
      · rintro i x σ H2 hi ⟨l, ms, v2, rfl, s2, hl, hms⟩
        obtain ⟨t, hti, tx⟩ := pget hp hi
        obtain ⟨b, rfl, hb⟩ := tx.mono s2.keep
        have he2 := (he.mono s1.keep).mono s2.keep
        have t3 := m3 t (List.mem_of_getElem? hti)
        have lms : ms.length ≤ 400 * 3 := by
          rw [hms, List.flatMap_def]
          refine flat_len (fun u hu => ?_) (Nat.le_trans (by rw [List.length_map, List.length_take]; omega) lM)
          obtain ⟨w', hw, rfl⟩ := List.mem_map.mp hu
          have := m3 w' (List.mem_of_mem_take hw)
          have := List.length_filter_le (fun n => decide (n ∉ e)) w'
          omega
        refine ⟨_, rfl, _, rfl, b, rfl, ⟨_, .of hb⟩, fun D4 hD4 => lc_gen t (fun _ x n => x = V.int n) (fun _ y n => y = V.int n) (fun n => decide (n ∉ e)) id hD4 (src_tupI (.of hb)) (fun _ _ _ _ _ h => h) (by rw [t3]; decide) ?_ ?_⟩
        · intro j x n H3 Ny Nn _ hx sm hyy hn
          subst hx
          refine ⟨rfl, _, rfl, _, rfl, notInInt (he2.mono sm.keep) ⟨_, rfl, ?_⟩⟩
          by_cases h : n ∈ e
          · rw [decide_eq_true h]
            exact iteF (hn (by simp [h]) _ (Same.refl _))
          · rw [decide_eq_false h]
            exact iteT ⟨_, rfl, hyy (by simp [h]) _ _ (Same.refl _) rfl⟩
        · intro H3 zs sm hD3 hp3
          rw [List.map_id] at hp3
          have ez : zs = (t.filter fun n => decide (n ∉ e)).map V.int := peq (f := V.int) hp3
          subst ez
          refine ⟨l, D4, _, _, rfl, rfl, sm _ _ hl, hD3, ?_, fun l5 hl5 => ⟨l5, _, _, rfl, (s2.trans sm).new hl5, (by rw [upd_same, ← List.map_append]), ?_⟩⟩
          · rw [List.length_map, List.length_map]
            have := List.length_filter_le (fun n => decide (n ∉ e)) t
            exact Nat.le_trans (by omega : _ ≤ 1203) (by decide)
          · rw [take_more hti, List.flatMap_append, ← hms]
            simp
      · rintro σ H2 ⟨l, ms, v2, rfl, s2, hl, hms⟩
        rw [pl hp, List.take_length] at hms
        have s12 := s1.trans s2
        refine ⟨_, rfl, l, ms, rfl, .inl (.of hl), fun ns l3 pm pw hl3 => ⟨l3, _, rfl, .inl ⟨.of upd_same, fun l4 hl4 => ?_⟩⟩⟩
        have en : ns = tipsL T1 e := by
          unfold tipsL
          rw [← hms]
          exact isort_eq pm pw
        subst en
        have s4 := (s12.new (o := .lst ((tipsL T1 e).map V.int)) hl3).new (o := .tup ((tipsL T1 e).map V.int)) hl4
        have s24 := (same_new (o := .lst ((tipsL T1 e).map V.int)) hl3).new (o := .tup ((tipsL T1 e).map V.int)) hl4
        have hD4 := s24 _ _ (s2 _ _ hD1)
        have hp4 := hp.mono (s2.trans s24).keep
        have h4 : upd (upd H2 l3 (.lst ((tipsL T1 e).map V.int))) l4 (.tup ((tipsL T1 e).map V.int)) l4 = some (.tup ((tipsL T1 e).map V.int)) := upd_same
        revert s4 hD4 hp4 h4
        generalize upd (upd H2 l3 (.lst ((tipsL T1 e).map V.int))) l4 (.tup ((tipsL T1 e).map V.int)) = H4
        intro s4 hD4 hp4 h4
        have ltip : (tipsL T1 e).length ≤ 1200 := by
          unfold tipsL
          rw [(isort_perm _).length_eq, List.flatMap_def]
          refine Nat.le_trans (flat_len (k := 3) (n := 400) (fun u hu => ?_) (by rw [List.length_map]; exact lM)) (by omega)
          obtain ⟨w', hw, rfl⟩ := List.mem_map.mp hu
          have := m3 w' hw
          have := List.length_filter_le (fun n => decide (n ∉ e)) w'
          omega
        have hA4 : SqA K H4 a xs := hA.elim (fun h => .inl (s4.seq h)) (fun h => .inr (s4.seqT h))
        have ht4 := ht.mono s4.keep
        have hne : ∀ t ∈ T1, t ≠ [] := fun t ht z => by have := h3 t ht; rw [z] at this; cases this
        -- is there a triangle with both tips
        refine name_if_lc (a := a) (xs := xs) (T := T1) (fun Q q => ⟨_, rfl, q⟩) hA4 ht4 Ti (fun t => inB (tipsL T1 e) t) id (fun _ _ _ _ k h => h.mono k) hTl ?_ ?_
        · intro i x t H5 Ny Nn hti hx sm hyy hn
          refine ⟨rfl, _, rfl, _, rfl, .ref l4, x, tipsL T1 e, t, rfl, ⟨l4, rfl, sm _ _ h4⟩, hx, by omega, fun H6 s6 => ⟨_, rfl, ?_⟩⟩
          refine ite2 (fun h => ?_) (fun h => ?_)
          · exact ⟨_, rfl, hyy h _ _ s6 (hx.mono s6.keep)⟩
          · exact hn (by simpa using h) _ s6
        · intro H5 D5 zs s5 hD50 hD5 hp5
          rw [List.map_id] at hp5
          refine ⟨(by show 0 ≤ sizeLine; decide), fun l6 hl6 => ?_⟩
          have s6 := same_new (o := .lst []) hl6
          have s46 := (s4.trans s5).trans s6
          refine neLT (s6 _ _ hD5) (TL.mono hp5 s6.keep) upd_same .nil ⟨_, rfl, ?_⟩
          have ht6 := ht.mono s46.keep
          have hA6 : SqA K (upd H5 l6 (.lst [])) a xs := hA.elim (fun h => .inl (s46.seq h)) (fun h => .inr (s46.seqT h))
          have h56 := s5.trans s6
          revert s46 ht6 hA6 h56
          generalize upd H5 l6 (.lst []) = H6
          intro s46 ht6 hA6 h56
          by_cases c : (T1.filter fun t => inB (tipsL T1 e) t) = []
          · rw [decide_eq_true c]
            refine iteF ?_
            have hD6 := h56 _ _ hD4
            have hp6 := hp4.mono h56.keep
            unfold tNext
            refine lc_seq_st (a := a) (xs := xs) (T := T1) (fun Q q => ⟨_, rfl, q⟩) hA6 ht6 Ti (fun t => decide (t ∉ someL T1 e)) id (fun _ _ _ _ k h => h.mono k) hTl ?_ ?_
            · intro i x t H7 Ny Nn hti hx sm hyy hn
              refine ⟨rfl, _, rfl, _, rfl, notInTi hx (sm _ _ hD6) (hp6.mono sm.keep) ⟨_, rfl, ?_⟩⟩
              by_cases h : t ∈ someL T1 e
              · rw [decide_eq_true h]
                exact iteF (hn (by simp [h]) _ (Same.refl _))
              · rw [decide_eq_false h]
                exact iteT ⟨_, rfl, hyy (by simp [h]) _ _ (Same.refl _) hx⟩
            · intro H7 D7 rs s7 hD70 hD7 hp7
              rw [List.map_id] at hp7
              have s67 := s46.trans s7
              obtain ⟨ea, rfl, hea⟩ := he.mono s67.keep
              have h47 := s7 _ _ (h56 _ _ h4)
              refine ⟨_, rfl, _, rfl, ea, rfl, ⟨_, .of hea⟩, fun D8 hD8 => lc_map e (fun _ x n => x = V.int n) Ti (fun x => isort (tipsL T1 e ++ [x])) hD8 (src_tupI (.of hea)) (fun _ _ _ _ k h => h.mono k) (by rw [h2]; decide) ?_ gm_name ?_⟩
              · intro i x n H8 Ny hn hx sm8 hyy
                subst hx
                refine ⟨rfl, _, rfl, _, rfl, (by show 1 ≤ sizeLine; decide), fun tp htp => ?_⟩
                refine catT1 (same_new htp _ _ (sm8 _ _ h47)) upd_same (by omega) fun H9 y s9 hy9 => ?_
                obtain ⟨ya, rfl, hya⟩ := hy9
                refine ⟨ya, _, rfl, .inr (.of hya), fun ms2 l2 pm2 pw2 hl2 => ?_⟩
                have e3 : ms2 = isort (tipsL T1 e ++ [n]) := isort_eq pm2 pw2
                subst e3
                exact ⟨l2, _, rfl, .inl ⟨.of upd_same, fun l3 hl3 => hyy _ _ (((same_new htp).trans s9).new hl2 |>.new hl3) ⟨l3, rfl, upd_same⟩⟩⟩
              · intro H8 zs8 sm8 hD8' hp8
                have hrest : TL H8 rs (T1.filter fun t => decide (t ∉ someL T1 e)) := TL.mono hp7 sm8.keep
                refine ⟨D7, D8, rs, zs8, rfl, rfl, sm8 _ _ hD7, hD8', ?_, fun l9 hl9 => ?_⟩
                · have a1 := pl hp7
                  have a2 := pl hp8
                  have a3 := List.length_filter_le (fun t => decide (t ∉ someL T1 e)) T1
                  rw [List.length_map] at a2
                  exact Nat.le_trans (by omega : _ ≤ 402) (by decide)
                · unfold tNil
                  have s9 := same_new (o := .lst (rs ++ zs8)) hl9
                  have hall : TL (upd H8 l9 (.lst (rs ++ zs8))) (rs ++ zs8) (flipM T1 e) := by
                    have e4 : flipM T1 e = (T1.filter fun t => decide (t ∉ someL T1 e)) ++ e.map fun x => isort (tipsL T1 e ++ [x]) := by
                      unfold flipM
                      rw [if_neg (fun z => z c)]
                    rw [e4]
                    exact papp (hrest.mono s9.keep) (TL.mono hp8 s9.keep)
                  refine sortT (K := K) (.inl (.of upd_same)) hall (fun t ht => ?_) fun p2 zs2 R hp2 tz pm2 wk => ?_
                  · have e4 : flipM T1 e = (T1.filter fun t => decide (t ∉ someL T1 e)) ++ e.map fun x => isort (tipsL T1 e ++ [x]) := by
                      unfold flipM
                      rw [if_neg (fun z => z c)]
                    rw [e4] at ht
                    rcases List.mem_append.mp ht with ht | ht
                    · exact hne t (List.mem_filter.mp ht).1
                    · obtain ⟨x, _, rfl⟩ := List.mem_map.mp ht
                      intro z
                      have := (isort_perm (tipsL T1 e ++ [x])).length_eq
                      rw [z] at this
                      simp at this
                  · exact ⟨p2, zs2, rfl, .inl ⟨.of upd_same, fun l3 hl3 => q _ _ R ((((s67.trans sm8).trans s9).new hp2).new hl3) ⟨l3, zs2, rfl, upd_same, tz.mono (keep_new hl3)⟩ pm2 wk⟩⟩
          · rw [decide_eq_false c]
            refine iteT ?_
            have e4 : flipM T1 e = T1 := by unfold flipM; rw [if_pos c]
            refine ⟨_, rfl, ?_⟩
            unfold tNil
            refine sortT (K := K) hA6 ht6 hne fun p2 zs2 R hp2 tz pm2 wk => ?_
            exact ⟨p2, zs2, rfl, .inl ⟨.of upd_same, fun l3 hl3 => q _ _ R ((s46.new hp2).new hl3) ⟨l3, zs2, rfl, upd_same, tz.mono (keep_new hl3)⟩ (by rw [e4]; exact pm2) wk⟩⟩
end
end Fl

set_option Elab.async false
set_option linter.all false
set_option maxRecDepth 100000
set_option maxHeartbeats 4000000
namespace Fl
open PySem PySem.Spec PyProof.Rows L2
section
variable {P : Program} {w : World} {K : PySem.W.Frag} {mg : Str → Option Value} {base : Heap} {A : Ad}
def SeqP (H : Hp) (a b : Addr) (xs ys : List V) : Prop := (H a = some (.lst xs) ∧ H b = some (.lst ys)) ∨ (H a = some (.tup xs) ∧ H b = some (.tup ys))
/-- alike: two ints that are the same, or two sequences of one kind whose items are alike -/
def spAl (sp : Sp) : Sp := fun vs H Q _ => (∃ i, vs = [.int i, .int i] ∧ ∀ H', Same H H' → Q (.bl true) H') ∨
  ∃ a b xs ys, vs = [.ref a, .ref b] ∧ SeqP H a b xs ys ∧ xs.length = ys.length ∧ ys.length ≤ 2000 ∧
    (∀ H2, Same H H2 → ∀ (i : Nat) (x y : V), xs[i]? = some x → ys[i]? = some y → ∀ Q2 : VK, (∀ H3, Same H2 H3 → Q2 (.bl true) H3) → sp [x, y] H2 Q2 E0) ∧ ∀ H', Same H H' → Q (.bl true) H'
theorem SeqP.mono {H H' : Hp} {a b : Addr} {xs ys : List V} (h : SeqP H a b xs ys) (s : Same H H') : SeqP H' a b xs ys := h.elim (fun h => .inl ⟨s _ _ h.1, s _ _ h.2⟩) (fun h => .inr ⟨s _ _ h.1, s _ _ h.2⟩)
theorem ka_tup {K : PySem.W.Frag} : PySem.W.kitAny K (.type "tuple") [.type "tuple", .type "list"] = some true := kitAny_cons (kit_ty (r := true) (by decide +kernel)) (fun h => by cases h) (fun _ => rfl)
theorem ka_lst {K : PySem.W.Frag} : PySem.W.kitAny K (.type "list") [.type "tuple", .type "list"] = some true := kitAny_cons (kit_ty (r := false) (by decide +kernel)) (fun _ => kitAny_cons (kit_ty (r := true) (by decide +kernel)) (fun h => by cases h) (fun _ => rfl)) (fun h => by cases h)
theorem ka_int {K : PySem.W.Frag} : PySem.W.kitAny K (.type "int") [.type "tuple", .type "list"] = some false := kitAny_cons (kit_ty (r := false) (by decide +kernel)) (fun _ => kitAny_cons (kit_ty (r := false) (by decide +kernel)) (fun _ => kitAny_nil) (fun h => by cases h)) (fun h => by cases h)
theorem isiTL {K : PySem.W.Frag} {H : Hp} {v : V} {tp : Addr} {n : String} {r : Bool} {Q : VK} (h : H tp = some (.tup [.ty "tuple", .ty "list"])) (ty : TyX K H v (.type n)) (k : PySem.W.kitAny K (.type n) [.type "tuple", .type "list"] = some r) (q : Q (.bl r) H) : rIsiT K [v, .ref tp] H Q :=
  ⟨v, tp, _, _, _, r, rfl, h, .cons (.ty "tuple") (.cons (.ty "list") .nil), ty, k, q⟩
theorem isi1 {K : PySem.W.Frag} {H : Hp} {v : V} {n m : String} {r : Bool} {Q : VK} (ty : TyX K H v (.type n)) (k : kitB n m = some r) (q : Q (.bl r) H) : rIsi K [v, .ty m] H Q := ⟨v, _, _, _, r, rfl, .ty m, ty, kit_ty k, q⟩
theorem ok_alike (T : Tx K mg A) {n : Nat} {sp : Sp} (G__law_alike : FnOk P w K mg base CX0 n A.f__law_alike A.fd__law_alike ["_law_found", "_law_due"] sp) :
    FnOk P w K mg base CX0 (n + 1) A.f__law_alike A.fd__law_alike ["_law_found", "_law_due"] (spAl sp) := by
  refine T.F__law_alike.ok sc__law_alike (fun vs H Q E h => ?_) (fun cdv Ar outer s H vs Q E hr h => ⟨_, (pss_cons (ps_if (pt_val (pe_callB (call_isiTK K) (by rfl) (T.nb "isinstance" (by decide)) (by decide +kernel) (pa_cons (pv 1) (pa_cons (pe_tup (pa_cons (pe_bltn (v := .ty "tuple") (u := .type "tuple") (by rfl) (T.nb "tuple" (by decide)) (by decide +kernel) rfl) (pa_cons (pe_bltn (v := .ty "list") (u := .type "list") (by rfl) (T.nb "list" (by decide)) (by decide +kernel) rfl) pa_nil))) pa_nil)))) (pss_cons (ps_if (PW.pt (pw_or (pt_not (pt_val (pe_callB (call_isiTK K) (by rfl) (T.nb "isinstance" (by decide)) (by decide +kernel) (pa_cons (pv 0) (pa_cons (pe_tup (pa_cons (pe_bltn (v := .ty "tuple") (u := .type "tuple") (by rfl) (T.nb "tuple" (by decide)) (by decide +kernel) rfl) (pa_cons (pe_bltn (v := .ty "list") (u := .type "list") (by rfl) (T.nb "list" (by decide)) (by decide +kernel) rfl) pa_nil))) pa_nil))))) (pw_or1 (pt_cmpR op_ne (pe_callB (call_isiK K) (by rfl) (T.nb "isinstance" (by decide)) (by decide +kernel) (pa_cons (pv 0) (pa_cons (pe_bltn (v := .ty "list") (u := .type "list") (by rfl) (T.nb "list" (by decide)) (by decide +kernel) rfl) pa_nil))) (pe_callB (call_isiK K) (by rfl) (T.nb "isinstance" (by decide)) (by decide +kernel) (pa_cons (pv 1) (pa_cons (pe_bltn (v := .ty "list") (u := .type "list") (by rfl) (T.nb "list" (by decide)) (by decide +kernel) rfl) pa_nil))) (nomark _))))) (pss_one (ps_ret pe_bl)) pss_nil)
    (pss_cons (ps_if (pt_cmpR op_ne (pe_callB (call_len_seqK K) (by rfl) (T.nb "len" (by decide)) PySem.boot_len (pa_cons (pv 0) pa_nil)) (pe_callB (call_len_seqK K) (by rfl) (T.nb "len" (by decide)) PySem.boot_len (pa_cons (pv 1) pa_nil)) (nomark _)) (pss_one (ps_ret pe_bl)) pss_nil)
    (pss_one (ps_ret (pe_cmpR (op_eqDK K hr.units) (pe_lc (own := [("_law_k", 2)]) (g := (gName 2)) rfl sc__law_alike.nd (pi_range1 (by rfl) (T.nb "range" (by decide)) (pa_cons (pe_callB (call_len_seqK K) (by rfl) (T.nb "len" (by decide)) PySem.boot_len (pa_cons (pv 1) pa_nil)) pa_nil)) (blkOk_by (N := N__law_alike) (sc := defScope s__law_alike) (by decide +kernel)) (fun _ _ _ _ _ => (pg_name (i := 2) sc__law_alike.nd rfl (by first | exact Or.inl rfl | exact Or.inr rfl))) (fun _ _ _ _ _ => pts_one (pt_not (pt_val (pe_call G__law_alike (hr.mono (by first | decide | exact Nat.le_refl _)) (by rfl) T.g__law_alike T.k__law_alike T.bd__law_alike .nil pass0 (pa_cons (pe_ix (ix_seqK K) (pv 0) (pv 2) (fun _ _ => rfl)) (pa_cons (pe_ix (ix_seqK K) (pv 1) (pv 2) (fun _ _ => rfl)) pa_nil)))))) (fun _ _ _ _ _ => (pv 2))) (pe_lst pa_nil) (nomark _)))))) pss_nil)
    (pss_cons (ps_if (PW.pt (pw_or (pt_cmpR op_isN (pv 1) pe_non (nomark _)) (pw_or1 (pt_val (pe_callB (call_isiK K) (by rfl) (T.nb "isinstance" (by decide)) (by decide +kernel) (pa_cons (pv 1) (pa_cons (pe_bltn (v := .ty "str") (u := .type "str") (by rfl) (T.nb "str" (by decide)) (by decide +kernel) rfl) pa_nil))))))) (pss_one (ps_ret (pe_and (pe_cmpR op_eq (pv 0) (pv 1) (nomark _)) (pe_one (pe_cmpR op_eq (pe_callB (call_isiK K) (by rfl) (T.nb "isinstance" (by decide)) (by decide +kernel) (pa_cons (pv 0) (pa_cons (pe_bltn (v := .ty "str") (u := .type "str") (by rfl) (T.nb "str" (by decide)) (by decide +kernel) rfl) pa_nil))) (pe_callB (call_isiK K) (by rfl) (T.nb "isinstance" (by decide)) (by decide +kernel) (pa_cons (pv 1) (pa_cons (pe_bltn (v := .ty "str") (u := .type "str") (by rfl) (T.nb "str" (by decide)) (by decide +kernel) rfl) pa_nil))) (nomark _)))))) pss_nil)
    (pss_one (ps_ret (pe_and (pe_callB (call_isiK K) (by rfl) (T.nb "isinstance" (by decide)) (by decide +kernel) (pa_cons (pv 0) (pa_cons (pe_bltn (v := .ty "int") (u := .type "int") (by rfl) (T.nb "int" (by decide)) (by decide +kernel) rfl) pa_nil))) (pe_and (pe_cmpR op_eq (pe_callB (call_isiK K) (by rfl) (T.nb "isinstance" (by decide)) (by decide +kernel) (pa_cons (pv 0) (pa_cons (pe_bltn (v := .ty "bool") (u := .type "bool") (by rfl) (T.nb "bool" (by decide)) (by decide +kernel) rfl) pa_nil))) (pe_callB (call_isiK K) (by rfl) (T.nb "isinstance" (by decide)) (by decide +kernel) (pa_cons (pv 1) (pa_cons (pe_bltn (v := .ty "bool") (u := .type "bool") (by rfl) (T.nb "bool" (by decide)) (by decide +kernel) rfl) pa_nil))) (nomark _)) (pe_one (pe_cmpR op_eq (pv 0) (pv 1) (nomark _))))))))), ?_⟩)
  · rcases h with ⟨i, rfl, _⟩ | ⟨a, b, xs, ys, rfl, _⟩ <;> rfl
  · have kc : Paired ClsV [.ty "tuple", .ty "list"] [.type "tuple", .type "list"] := .cons (.ty "tuple") (.cons (.ty "list") .nil)
    rcases h with ⟨i, rfl, q⟩ | ⟨a, b, xs, ys, rfl, hs, hl, h2000, hit, q⟩
    · refine ⟨_, rfl, (by show 2 ≤ sizeLine; decide), fun tp htp => ?_⟩
      have s1 := same_new (o := .tup [.ty "tuple", .ty "list"]) htp
      refine ⟨_, tp, _, _, _, false, rfl, upd_same, kc, .base (.int i), ka_int, false, rfl, iteF ?_⟩
      refine ⟨_, rfl, rfl, false, rfl, iteF ?_⟩
      refine ⟨_, rfl, _, _, _, _, false, rfl, .ty "str", .base (.int i), kit_ty (by decide +kernel), false, rfl, iteF ?_⟩
      refine ⟨_, rfl, _, _, _, _, true, rfl, .ty "int", .base (.int i), kit_ty (by decide +kernel), true, rfl, iteT ?_⟩
      refine ⟨_, rfl, _, _, _, _, false, rfl, .ty "bool", .base (.int i), kit_ty (by decide +kernel), ?_⟩
      refine ⟨_, rfl, _, _, _, _, false, rfl, .ty "bool", .base (.int i), kit_ty (by decide +kernel), rfl, true, rfl, iteT ?_⟩
      refine ⟨_, rfl, _, rfl, rfl, ?_⟩
      rw [decide_eq_true rfl]
      exact q _ s1
    · -- two sequences of one kind
      obtain ⟨n, bl, hty, ka, kl⟩ : ∃ (n : String) (bl : Bool), (∀ H', Same H H' → TyX K H' (.ref a) (.type n) ∧ TyX K H' (.ref b) (.type n)) ∧ PySem.W.kitAny K (.type n) [.type "tuple", .type "list"] = some true ∧ kitB n "list" = some bl := by
        rcases hs with h | h
        · exact ⟨"list", true, fun H' s => ⟨.base (.lst (s _ _ h.1)), .base (.lst (s _ _ h.2))⟩, ka_lst, by decide +kernel⟩
        · exact ⟨"tuple", false, fun H' s => ⟨.base (.tup (s _ _ h.1)), .base (.tup (s _ _ h.2))⟩, ka_tup, by decide +kernel⟩
      · refine ⟨_, rfl, (by show 2 ≤ sizeLine; decide), fun tp htp => ?_⟩
        have s1 := same_new (o := .tup [.ty "tuple", .ty "list"]) htp
        have h1 : upd H tp (.tup [.ty "tuple", .ty "list"]) tp = some (.tup [.ty "tuple", .ty "list"]) := upd_same
        revert s1 h1
        generalize upd H tp (.tup [.ty "tuple", .ty "list"]) = H1
        intro s1 h1
        refine ⟨_, tp, _, _, _, true, rfl, h1, kc, (hty _ s1).2, ka, true, rfl, iteT ?_⟩
        refine ⟨_, rfl, (by show 2 ≤ sizeLine; decide), fun tp2 htp2 => ?_⟩
        have s2 := s1.new (o := .tup [.ty "tuple", .ty "list"]) htp2
        have h2 : upd H1 tp2 (.tup [.ty "tuple", .ty "list"]) tp2 = some (.tup [.ty "tuple", .ty "list"]) := upd_same
        revert s2 h2
        generalize upd H1 tp2 (.tup [.ty "tuple", .ty "list"]) = H2
        intro s2 h2
        refine ⟨_, tp2, _, _, _, true, rfl, h2, kc, (hty _ s2).1, ka, true, rfl, iteF ?_⟩
        refine ⟨_, rfl, _, _, _, _, bl, rfl, .ty "list", (hty _ s2).1, kit_ty kl, _, rfl, _, _, _, _, bl, rfl, .ty "list", (hty _ s2).2, kit_ty kl, rfl, _, rfl, ?_⟩
        rw [decide_eq_true rfl]
        refine iteF ?_
        have hs2 := hs.mono s2
        have sqa : SqL K H2 a xs ∨ SqT K H2 a xs := hs2.elim (fun h => .inl (.of h.1)) (fun h => .inr (.of h.1))
        have sqb : SqL K H2 b ys ∨ SqT K H2 b ys := hs2.elim (fun h => .inl (.of h.2)) (fun h => .inr (.of h.2))
        refine ⟨_, rfl, a, xs, rfl, sqa, _, rfl, b, ys, rfl, sqb, rfl, _, rfl, ?_⟩
        rw [hl, decide_eq_true rfl]
        refine iteF ?_
        refine ⟨_, rfl, b, ys, rfl, sqb, ((ys.length : Nat) : Int), rfl, by omega, by omega, fun D hD => ?_⟩
        refine lc_gen (List.range ys.length) _ (fun _ _ _ => True) (fun _ => false) id hD (by rw [show ((ys.length : Nat) : Int).toNat = ys.length by simp]; exact src_rng) (fun _ _ _ _ _ h => h) (by rw [List.length_range]; exact Nat.lt_of_le_of_lt h2000 (by decide)) ?_ ?_
        · intro j x k H3 Ny Nn hj hx sm hy hn
          subst hx
          have hk : k < ys.length := by
            have := List.mem_of_getElem? hj
            exact List.mem_range.mp this
          have s3 := s2.trans sm
          have hs3 := hs.mono s3
          obtain ⟨x, hx⟩ : ∃ x, xs[k]? = some x := ⟨xs[k], by simp [hl, hk]⟩
          obtain ⟨y, hy'⟩ : ∃ y, ys[k]? = some y := ⟨ys[k], by simp [hk]⟩
          refine ⟨rfl, ?_⟩
          have ixx : ∀ (p : Addr) (zs : List V) (z : V) (Q : VK), (SqL K H3 p zs ∨ SqT K H3 p zs) → zs[k]? = some z → Q z H3 → rIx K (.ref p) (.int (0 + (k : Nat))) H3 Q := fun p zs z Q h1 h2 q => by
            rw [Int.zero_add]
            rcases h1 with h1 | h1
            · exact .inl ⟨p, zs, _, z, rfl, rfl, h1, atI_nat h2, q⟩
            · exact .inr (.inl ⟨p, zs, _, z, rfl, rfl, h1, atI_nat h2, q⟩)
          refine ⟨_, rfl, _, rfl, ixx a xs x _ (hs3.elim (fun h => .inl (.of h.1)) (fun h => .inr (.of h.1))) hx ⟨_, rfl, _, rfl, ixx b ys y _ (hs3.elim (fun h => .inl (.of h.2)) (fun h => .inr (.of h.2))) hy' ?_⟩⟩
          exact hit H3 s3 k x y hx hy' _ fun H4 s4 => ⟨true, rfl, iteF (hn rfl _ s4)⟩
        · intro H3 zs sm hD3 hp
          have e0 : ((List.range ys.length).filter fun _ => false) = [] := by simp
          rw [e0] at hp
          cases hp
          refine ⟨(by show 0 ≤ sizeLine; decide), fun l hl2 => ?_⟩
          refine eqLI (ns := []) (ms := []) (same_new hl2 _ _ hD3) upd_same ?_
          rw [decide_eq_true rfl]
          exact q _ ((s2.trans sm).new hl2)
end
end Fl

set_option Elab.async false
set_option linter.all false
set_option maxHeartbeats 4000000
namespace Fl
/-! surfaces as lists of ascending triples -/
def MT (T : List (List Int)) : Rel3 := fun x y z => ∃ a b c, [a, b, c] ∈ T ∧ P3 x y z a b c
def Tri (n : Int) (t : List Int) : Prop := ∃ a b c, t = [a, b, c] ∧ 0 ≤ a ∧ a < b ∧ b < c ∧ c < n
structure SurfL (T : List (List Int)) (n : Int) : Prop where
  tri : ∀ t ∈ T, Tri n t
  nd : T.Nodup
  sr : SR (MT T)
  ne : T ≠ []
theorem MT.congr {T U : List (List Int)} (h : ∀ t, t ∈ T ↔ t ∈ U) : ∀ x y z, MT T x y z ↔ MT U x y z := fun x y z => by
  unfold MT
  constructor
  · rintro ⟨a, b, c, h1, h2⟩; exact ⟨a, b, c, (h _).mp h1, h2⟩
  · rintro ⟨a, b, c, h1, h2⟩; exact ⟨a, b, c, (h _).mpr h1, h2⟩
theorem SurfL.perm {T U : List (List Int)} {n : Int} (S : SurfL T n) (p : U.Perm T) : SurfL U n :=
  ⟨fun t ht => S.tri t (p.mem_iff.mp ht), p.nodup_iff.mpr S.nd, S.sr.iff (MT.congr fun t => p.mem_iff.symm), fun z => by subst z; exact S.ne p.symm.eq_nil⟩
theorem Tri.mono {n m : Int} {t : List Int} (h : Tri n t) (k : n ≤ m) : Tri m t := let ⟨a, b, c, h1, h2, h3, h4, h5⟩ := h; ⟨a, b, c, h1, h2, h3, h4, by omega⟩
theorem SurfL.mono {T : List (List Int)} {n m : Int} (S : SurfL T n) (k : n ≤ m) : SurfL T m := ⟨fun t ht => (S.tri t ht).mono k, S.nd, S.sr, S.ne⟩
theorem Tri.len {n : Int} {t : List Int} (h : Tri n t) : t.length = 3 := by obtain ⟨a, b, c, rfl, _⟩ := h; rfl
theorem Tri.tri3 {n : Int} {t : List Int} (h : Tri n t) : Tri3 t := by
  obtain ⟨a, b, c, rfl, h0, h1, h2, h3⟩ := h
  refine ⟨rfl, fun i j hi hj e => ?_⟩
  have hi' : i = 0 ∨ i = 1 ∨ i = 2 := by omega
  have hj' : j = 0 ∨ j = 1 ∨ j = 2 := by omega
  rcases hi' with rfl | rfl | rfl <;> rcases hj' with rfl | rfl | rfl <;> simp [cutAt] at e <;> omega
/-- the ascending triple of three vertices -/
theorem mt_asc {T : List (List Int)} {n : Int} (h : ∀ t ∈ T, Tri n t) {x y z : Int} (hxy : x < y) (hyz : y < z) : MT T x y z ↔ [x, y, z] ∈ T := by
  constructor
  · rintro ⟨a, b, c, h1, h2⟩
    obtain ⟨a', b', c', e, h0, h3, h4, h5⟩ := h _ h1
    injection e with e1 e2
    injection e2 with e2 e3
    injection e3 with e3 _
    subst e1 e2 e3
    have : x = a ∧ y = b ∧ z = c := by
      rcases h2 with h | h | h | h | h | h <;> obtain ⟨k1, k2, k3⟩ := h <;> omega
    obtain ⟨rfl, rfl, rfl⟩ := this
    exact h1
  · intro h1; exact ⟨x, y, z, h1, .inl ⟨rfl, rfl, rfl⟩⟩
theorem mt_bd {T : List (List Int)} {n : Int} (h : ∀ t ∈ T, Tri n t) {x y z : Int} (m : MT T x y z) : 0 ≤ x ∧ x < n ∧ 0 ≤ y ∧ y < n ∧ 0 ≤ z ∧ z < n ∧ x ≠ y ∧ y ≠ z ∧ x ≠ z := by
  obtain ⟨a, b, c, h1, h2⟩ := m
  obtain ⟨a', b', c', e, h0, h3, h4, h5⟩ := h _ h1
  injection e with e1 e2
  injection e2 with e2 e3
  injection e3 with e3 _
  subst e1 e2 e3
  rcases h2 with h | h | h | h | h | h <;> obtain ⟨rfl, rfl, rfl⟩ := h <;> omega
/-- symmetric in all ways -/
theorem mt_p3 {T : List (List Int)} {x y z a b c : Int} (h : P3 x y z a b c) (m : MT T a b c) : MT T x y z := by
  obtain ⟨a', b', c', h1, h2⟩ := m
  refine ⟨a', b', c', h1, ?_⟩
  rcases h with h | h | h | h | h | h <;> obtain ⟨rfl, rfl, rfl⟩ := h <;> rcases h2 with h | h | h | h | h | h <;> obtain ⟨rfl, rfl, rfl⟩ := h <;> simp [P3]
theorem perm2 {y z b c : Int} (p : [y, z].Perm [b, c]) : (y = b ∧ z = c) ∨ (y = c ∧ z = b) := by
  have hy : y ∈ [b, c] := p.mem_iff.mp (by simp)
  rcases List.mem_cons.mp hy with rfl | hy
  · have := List.Perm.cons_inv p
    have : z = c := by simpa using this
    exact .inl ⟨rfl, this⟩
  · have : y = c := by simpa using hy
    subst this
    have q : [y, z].Perm [y, b] := p.trans (List.Perm.swap _ _ _)
    have := List.Perm.cons_inv q
    have : z = b := by simpa using this
    exact .inr ⟨rfl, this⟩
theorem p3_perm {x y z a b c : Int} : P3 x y z a b c ↔ [x, y, z].Perm [a, b, c] := by
  constructor
  · intro h
    rcases h with h | h | h | h | h | h <;> obtain ⟨rfl, rfl, rfl⟩ := h
    · exact .refl _
    · exact .cons _ (.swap _ _ _)
    · exact .swap _ _ _
    · exact (List.perm_append_comm (l₁ := [x, y]) (l₂ := [z]))
    · exact (List.perm_append_comm (l₁ := [x]) (l₂ := [y, z]))
    · exact (List.reverse_perm [x, y, z]).symm
  · intro p
    have hx : x ∈ [a, b, c] := p.mem_iff.mp (by simp)
    rcases List.mem_cons.mp hx with rfl | hx
    · rcases perm2 (List.Perm.cons_inv p) with ⟨rfl, rfl⟩ | ⟨rfl, rfl⟩ <;> simp [P3]
    · rcases List.mem_cons.mp hx with rfl | hx
      · have q : [x, y, z].Perm [x, a, c] := p.trans (.swap _ _ _)
        rcases perm2 (List.Perm.cons_inv q) with ⟨rfl, rfl⟩ | ⟨rfl, rfl⟩ <;> simp [P3]
      · have : x = c := by simpa using hx
        subst this
        have q : [x, y, z].Perm [x, a, b] := p.trans (List.perm_append_comm (l₁ := [a, b]) (l₂ := [x]))
        rcases perm2 (List.Perm.cons_inv q) with ⟨rfl, rfl⟩ | ⟨rfl, rfl⟩ <;> simp [P3]
theorem mt_iso {T : List (List Int)} {n : Int} (h : ∀ t ∈ T, Tri n t) {x y z : Int} : MT T x y z ↔ isort [x, y, z] ∈ T := by
  constructor
  · rintro ⟨a, b, c, h1, h2⟩
    obtain ⟨a', b', c', e, h0, h3, h4, h5⟩ := h _ h1
    injection e with e1 e2
    injection e2 with e2 e3
    injection e3 with e3 _
    subst e1 e2 e3
    have : [a, b, c] = isort [x, y, z] := isort_eq (p3_perm.mp h2).symm (by simp; omega)
    rw [← this]
    exact h1
  · intro h1
    obtain ⟨a, b, c, e, h0, h3, h4, h5⟩ := h _ h1
    refine ⟨a, b, c, by rw [← e]; exact h1, p3_perm.mpr ?_⟩
    rw [← e]
    exact (isort_perm _).symm
theorem cuts3 {a b c : Int} {e : List Int} : (e, [a, b, c]) ∈ cutsOf [a, b, c] ↔ e = [b, c] ∨ e = [a, c] ∨ e = [a, b] := by
  have : cutsOf [a, b, c] = [([b, c], [a, b, c]), ([a, c], [a, b, c]), ([a, b], [a, b, c])] := rfl
  rw [this]
  simp
/-- an edge of T and a triangle that has it -/
theorem pair_mt {T : List (List Int)} {n : Int} (h : ∀ t ∈ T, Tri n t) {e t : List Int} : (e, t) ∈ pairsOf T ↔ ∃ x y z, e = [x, y] ∧ x < y ∧ MT T x y z ∧ t = isort [x, y, z] := by
  rw [mem_pairs]
  constructor
  · rintro ⟨h1, h2⟩
    obtain ⟨a, b, c, rfl, h0, h3, h4, h5⟩ := h _ h1
    rcases cuts3.mp h2 with rfl | rfl | rfl
    · exact ⟨b, c, a, rfl, h4, ⟨a, b, c, h1, by simp [P3]⟩, isort_eq (List.perm_append_comm (l₁ := [a]) (l₂ := [b, c])) (by simp; omega)⟩
    · exact ⟨a, c, b, rfl, by omega, ⟨a, b, c, h1, by simp [P3]⟩, isort_eq (.cons _ (.swap _ _ _)) (by simp; omega)⟩
    · exact ⟨a, b, c, rfl, h3, ⟨a, b, c, h1, by simp [P3]⟩, isort_eq (.refl _) (by simp; omega)⟩
  · rintro ⟨x, y, z, rfl, hxy, m, rfl⟩
    refine ⟨(mt_iso h).mp m, ?_⟩
    have m' := m
    obtain ⟨a, b, c, h1, h2⟩ := m
    obtain ⟨a', b', c', e, h0, h3, h4, h5⟩ := h _ h1
    injection e with e1 e2
    injection e2 with e2 e3
    injection e3 with e3 _
    subst e1 e2 e3
    have e1 : isort [x, y, z] = [a, b, c] := (isort_eq (p3_perm.mp h2).symm (by simp; omega)).symm
    rw [e1, cuts3]
    rcases h2 with h | h | h | h | h | h <;> obtain ⟨rfl, rfl, rfl⟩ := h
    · exact .inr (.inr rfl)
    · exact .inr (.inl rfl)
    · omega
    · exact .inl rfl
    · omega
    · omega
theorem two_mt {T : List (List Int)} {n : Int} (S : SurfL T n) {x y z : Int} (m : MT T x y z) : ∃ w, w ≠ z ∧ MT T x y w ∧ ∀ u, MT T x y u → u = z ∨ u = w := S.sr.two x y z m
end Fl

set_option Elab.async false
set_option linter.all false
set_option maxHeartbeats 1000000
namespace Fl
/-! the flip of an edge, of lists -/
theorem iso_p3 {p q r a b c : Int} : isort [p, q, r] = isort [a, b, c] ↔ P3 p q r a b c := by
  rw [p3_perm]
  constructor
  · intro h
    exact ((isort_perm _).symm.trans (by rw [h])).trans (isort_perm _)
  · intro h
    exact isort_eq ((isort_perm _).trans h) (isort_le _)
theorem tri_iso {n x y z : Int} (h1 : 0 ≤ x ∧ x < n) (h2 : 0 ≤ y ∧ y < n) (h3 : 0 ≤ z ∧ z < n) (d1 : x ≠ y) (d2 : x ≠ z) (d3 : y ≠ z) : Tri n (isort [x, y, z]) := by
  have key : ∀ a b c, P3 a b c x y z → a < b → b < c → Tri n (isort [x, y, z]) := fun a b c hp hab hbc => by
    rw [← iso_p3.mpr hp]
    have : [a, b, c] = isort [a, b, c] := isort_eq (.refl _) (by simp; omega)
    rw [← this]
    refine ⟨a, b, c, rfl, ?_⟩
    rcases hp with h | h | h | h | h | h <;> obtain ⟨rfl, rfl, rfl⟩ := h <;> omega
  by_cases a1 : x < y <;> by_cases a2 : y < z <;> by_cases a3 : x < z
  · exact key x y z (by simp [P3]) a1 a2
  · omega
  · exact key x z y (by simp [P3]) a3 (by omega)
  · exact key z x y (by simp [P3]) (by omega) a1
  · exact key y x z (by simp [P3]) (by omega) a3
  · exact key y z x (by simp [P3]) a2 (by omega)
  · omega
  · exact key z y x (by simp [P3]) (by omega) (by omega)
theorem mem_iso {v x y z : Int} : v ∈ isort [x, y, z] ↔ v = x ∨ v = y ∨ v = z := by
  rw [(isort_perm _).mem_iff]
  simp
/-- a triangle that has two vertices -/
theorem mem2_mt {T : List (List Int)} {n : Int} (h : ∀ t ∈ T, Tri n t) {t : List Int} (ht : t ∈ T) {c d : Int} (hc : c ∈ t) (hd : d ∈ t) (hcd : c ≠ d) : ∃ q, MT T c d q ∧ t = isort [c, d, q] := by
  obtain ⟨a', b', c', rfl, h0, h3, h4, h5⟩ := h t ht
  have key : ∀ q, P3 c d q a' b' c' → ∃ q, MT T c d q ∧ [a', b', c'] = isort [c, d, q] := fun q hp =>
    ⟨q, ⟨a', b', c', ht, hp⟩, isort_eq (p3_perm.mp hp).symm (by simp; omega)⟩
  simp only [List.mem_cons, List.not_mem_nil, or_false] at hc hd
  rcases hc with rfl | rfl | rfl <;> rcases hd with rfl | rfl | rfl
  · exact absurd rfl hcd
  · exact key c' (by simp [P3])
  · exact key b' (by simp [P3])
  · exact key c' (by simp [P3])
  · exact absurd rfl hcd
  · exact key a' (by simp [P3])
  · exact key b' (by simp [P3])
  · exact key a' (by simp [P3])
  · exact absurd rfl hcd
section
variable {T : List (List Int)} {n : Int} (S : SurfL T n) {x y z w : Int} (mz : MT T x y z) (mw : MT T x y w) (hwz : w ≠ z) (hu : ∀ u, MT T x y u → u = z ∨ u = w)
include S mz mw hwz hu
theorem mem_some {t : List Int} : t ∈ someL T [x, y] ↔ t = isort [x, y, z] ∨ t = isort [x, y, w] := by
  have b := mt_bd S.tri mz
  unfold someL inB
  rw [List.mem_filter]
  simp only [List.all_cons, List.all_nil, Bool.and_true, Bool.and_eq_true, decide_eq_true_eq]
  constructor
  · rintro ⟨ht, hx, hy⟩
    obtain ⟨q, hq, rfl⟩ := mem2_mt S.tri ht hx hy (by omega)
    rcases hu q hq with rfl | rfl
    · exact .inl rfl
    · exact .inr rfl
  · rintro (rfl | rfl)
    · exact ⟨(mt_iso S.tri).mp mz, by rw [mem_iso]; simp, by rw [mem_iso]; simp⟩
    · exact ⟨(mt_iso S.tri).mp mw, by rw [mem_iso]; simp, by rw [mem_iso]; simp⟩
theorem AB_ne : isort [x, y, z] ≠ isort [x, y, w] := fun e => by
  have b := mt_bd S.tri mz
  have b' := mt_bd S.tri mw
  rcases iso_p3.mp e with h | h | h | h | h | h <;> omega
theorem tips_flat {L : List (List Int)} (nd : L.Nodup) (hL : ∀ t, t ∈ L ↔ t = isort [x, y, z] ∨ t = isort [x, y, w]) : (L.flatMap fun t => t.filter fun n => decide (n ∉ [x, y])).Perm [z, w] := by
  have b := mt_bd S.tri mz
  have b' := mt_bd S.tri mw
  have p : L.Perm [isort [x, y, z], isort [x, y, w]] := (List.perm_ext_iff_of_nodup nd (by simp; exact AB_ne S mz mw hwz hu)).mpr fun t => by rw [hL]; simp
  refine (p.flatMap_right _).trans ?_
  have f : ∀ v, v ≠ x → v ≠ y → (isort [x, y, v]).filter (fun n => decide (n ∉ [x, y])) = [v] := fun v h1 h2 => by
    have : ((isort [x, y, v]).filter (fun n => decide (n ∉ [x, y]))).Perm [v] := ((isort_perm [x, y, v]).filter _).trans (by simp [h1, h2])
    exact List.perm_singleton.mp this
  simp only [List.flatMap_cons, List.flatMap_nil, List.append_nil]
  rw [f z (by omega) (by omega), f w (by omega) (by omega)]
  exact .refl _
theorem tipsL_eq : tipsL T [x, y] = isort [z, w] := by
  unfold tipsL
  exact isort_eq ((isort_perm _).trans (tips_flat S mz mw hwz hu (S.nd.filter _) (fun t => mem_some S mz mw hwz hu))) (isort_le _)
theorem tipsS_eq (hxy : x < y) : tipsS T [x, y] = isort [z, w] := by
  unfold tipsS tipsR
  have nd := atE_nodup S.nd (fun t ht => (S.tri t ht).tri3) [x, y]
  have hm : ∀ t, t ∈ atE (pairsOf T) [x, y] ↔ t = isort [x, y, z] ∨ t = isort [x, y, w] := fun t => by
    rw [mem_atE, pair_mt S.tri]
    constructor
    · rintro ⟨x', y', q, e, _, hq, rfl⟩
      injection e with e1 e2
      injection e2 with e2 _
      subst e1 e2
      rcases hu q hq with rfl | rfl
      · exact .inl rfl
      · exact .inr rfl
    · rintro (rfl | rfl)
      · exact ⟨x, y, z, rfl, hxy, mz, rfl⟩
      · exact ⟨x, y, w, rfl, hxy, mw, rfl⟩
  have e : (atE (pairsOf T) [x, y]).flatten.filter (fun n => decide (n ∉ [x, y])) = (atE (pairsOf T) [x, y]).flatMap fun t => t.filter fun n => decide (n ∉ [x, y]) := by
    rw [List.filter_flatten, List.flatMap_def]
  rw [e]
  exact isort_eq ((isort_perm _).trans (tips_flat S mz mw hwz hu nd hm)) (isort_le _)
theorem two_len (hxy : x < y) : (atE (pairsOf T) [x, y]).length = 2 := by
  have nd := atE_nodup S.nd (fun t ht => (S.tri t ht).tri3) [x, y]
  have hm : ∀ t, t ∈ atE (pairsOf T) [x, y] ↔ t ∈ [isort [x, y, z], isort [x, y, w]] := fun t => by
    rw [mem_atE, pair_mt S.tri]
    constructor
    · rintro ⟨x', y', q, e, _, hq, rfl⟩
      injection e with e1 e2
      injection e2 with e2 _
      subst e1 e2
      rcases hu q hq with rfl | rfl <;> simp
    · intro h
      rcases List.mem_cons.mp h with rfl | h
      · exact ⟨x, y, z, rfl, hxy, mz, rfl⟩
      · have : t = isort [x, y, w] := by simpa using h
        subst this
        exact ⟨x, y, w, rfl, hxy, mw, rfl⟩
  exact ((List.perm_ext_iff_of_nodup nd (by simp; exact AB_ne S mz mw hwz hu)).mpr hm).length_eq
/-- is there an edge between the tips -/
theorem cond_iff : (T.filter fun t => inB (tipsL T [x, y]) t) ≠ [] ↔ ∃ q, MT T z w q := by
  rw [tipsL_eq S mz mw hwz hu]
  have hin : ∀ t, inB (isort [z, w]) t = true ↔ z ∈ t ∧ w ∈ t := fun t => by
    unfold inB
    rw [List.all_eq_true]
    constructor
    · intro h
      exact ⟨of_decide_eq_true (h z ((isort_perm _).mem_iff.mpr (by simp))), of_decide_eq_true (h w ((isort_perm _).mem_iff.mpr (by simp)))⟩
    · rintro ⟨h1, h2⟩ v hv
      have := (isort_perm [z, w]).mem_iff.mp hv
      simp only [List.mem_cons, List.not_mem_nil, or_false] at this
      rcases this with rfl | rfl
      · exact decide_eq_true h1
      · exact decide_eq_true h2
  constructor
  · intro h
    obtain ⟨t, ht⟩ := List.exists_mem_of_ne_nil _ h
    obtain ⟨h1, h2⟩ := List.mem_filter.mp ht
    obtain ⟨h3, h4⟩ := (hin t).mp h2
    obtain ⟨q, hq, _⟩ := mem2_mt S.tri h1 h3 h4 (Ne.symm hwz)
    exact ⟨q, hq⟩
  · rintro ⟨q, hq⟩
    refine List.ne_nil_of_mem (a := isort [z, w, q]) (List.mem_filter.mpr ⟨(mt_iso S.tri).mp hq, (hin _).mpr ⟨?_, ?_⟩⟩)
    · rw [mem_iso]; simp
    · rw [mem_iso]; simp
/-- the new triangles -/
def newT (x y z w : Int) : List (List Int) := [isort [z, w, x], isort [z, w, y]]
theorem flip_new : ([x, y].map fun v => isort (isort [z, w] ++ [v])) = newT x y z w := by
  unfold newT
  have f : ∀ v, isort (isort [z, w] ++ [v]) = isort [z, w, v] := fun v => isort_eq ((isort_perm _).trans ((isort_perm [z, w]).append_right [v])) (isort_le _)
  simp only [List.map_cons, List.map_nil, f]
theorem flip_surf (hno : ¬ ∃ q, MT T z w q) : CanFlip (MT T) x y z w ∧ SurfL ((T.filter fun t => decide (t ∉ someL T [x, y])) ++ newT x y z w) n ∧
    (∀ p q r, MT ((T.filter fun t => decide (t ∉ someL T [x, y])) ++ newT x y z w) p q r ↔ flipR (MT T) x y z w p q r) ∧ ((T.filter fun t => decide (t ∉ someL T [x, y])) ++ newT x y z w).length = T.length := by
  have b := mt_bd S.tri mz
  have b' := mt_bd S.tri mw
  have cf : CanFlip (MT T) x y z w := ⟨mz, mw, Ne.symm hwz, fun q hq => hno ⟨q, hq⟩⟩
  have tri : ∀ t ∈ (T.filter fun t => decide (t ∉ someL T [x, y])) ++ newT x y z w, Tri n t := fun t ht => by
    rcases List.mem_append.mp ht with ht | ht
    · exact S.tri t (List.mem_filter.mp ht).1
    · unfold newT at ht
      rcases List.mem_cons.mp ht with rfl | ht
      · exact tri_iso (by omega) (by omega) (by omega) (by omega) (by omega) (by omega)
      · have : t = isort [z, w, y] := by simpa using ht
        subst this
        exact tri_iso (by omega) (by omega) (by omega) (by omega) (by omega) (by omega)
  have hMT : ∀ p q r, MT ((T.filter fun t => decide (t ∉ someL T [x, y])) ++ newT x y z w) p q r ↔ flipR (MT T) x y z w p q r := fun p q r => by
    rw [mt_iso tri, List.mem_append, List.mem_filter, ← mt_iso S.tri]
    simp only [decide_eq_true_eq, mem_some S mz mw hwz hu, newT, List.mem_cons, List.not_mem_nil, or_false, iso_p3, not_or]
    unfold flipR
    have c1 : P3 p q r z w x ↔ P3 p q r x z w := by unfold P3; constructor <;> (rintro (h | h | h | h | h | h) <;> simp [h])
    have c2 : P3 p q r z w y ↔ P3 p q r y z w := by unfold P3; constructor <;> (rintro (h | h | h | h | h | h) <;> simp [h])
    rw [c1, c2]
  have hnd : ((T.filter fun t => decide (t ∉ someL T [x, y])) ++ newT x y z w).Nodup := by
    rw [List.nodup_append]
    refine ⟨S.nd.filter _, ?_, fun t ht u hu2 e => ?_⟩
    · unfold newT
      simp only [List.nodup_cons, List.mem_cons, List.not_mem_nil, or_false, not_false_eq_true, List.nodup_nil, and_true, iso_p3]
      intro h
      rcases h with h | h | h | h | h | h <;> omega
    · subst e
      have htT := (List.mem_filter.mp ht).1
      unfold newT at hu2
      rcases List.mem_cons.mp hu2 with rfl | h
      · exact hno ⟨x, (mt_iso S.tri).mpr htT⟩
      · have : t = isort [z, w, y] := by simpa using h
        subst this
        exact hno ⟨y, (mt_iso S.tri).mpr htT⟩
  refine ⟨cf, ⟨tri, hnd, (flip_SR S.sr cf).iff fun p q r => (hMT p q r).symm, by unfold newT; simp⟩, hMT, ?_⟩
  have e1 : (T.filter fun t => decide (t ∉ someL T [x, y])) = T.filter fun t => !(inB [x, y] t) := by
    apply List.filter_congr
    intro t ht
    have : t ∈ someL T [x, y] ↔ inB [x, y] t = true := by unfold someL; rw [List.mem_filter]; simp [ht]
    cases h : inB [x, y] t with
    | true => simp [this, h]
    | false => simp [this, h]
  have e2 : (someL T [x, y]).length = 2 := by
    have hm : ∀ t, t ∈ someL T [x, y] ↔ t ∈ [isort [x, y, z], isort [x, y, w]] := fun t => by
      rw [mem_some S mz mw hwz hu]; simp
    exact ((List.perm_ext_iff_of_nodup (S.nd.filter _) (by simp; exact AB_ne S mz mw hwz hu)).mpr hm).length_eq
  have e3 : T.length = (T.filter fun t => inB [x, y] t).length + (T.filter fun t => !(inB [x, y] t)).length := by
    clear e1 e2 hnd hMT tri cf hno hu mw mz S
    induction T with
    | nil => rfl
    | cons t T ih =>
      cases h : inB [x, y] t with
      | true => simp [h, ih]; omega
      | false => simp [h, ih]; omega
  rw [List.length_append, e1]
  unfold someL at e2
  have : (newT x y z w).length = 2 := rfl
  omega
end
end Fl

set_option Elab.async false
set_option linter.all false
set_option maxHeartbeats 1000000
namespace Fl
/-! two surfaces put together, of lists -/
theorem asc_iso {a b c : Int} (h1 : a < b) (h2 : b < c) : isort [a, b, c] = [a, b, c] := (isort_eq (.refl _) (by simp; omega)).symm
/-- the triangles of U but its first, renamed -/
def renT (g : Int → Int) (U : List (List Int)) : List (List Int) := U.map fun u => isort (u.map g)
theorem p3_map {g : Int → Int} {a b c a' b' c' : Int} (h : P3 a b c a' b' c') : P3 (g a) (g b) (g c) (g a') (g b') (g c') := by
  rcases h with h | h | h | h | h | h <;> obtain ⟨rfl, rfl, rfl⟩ := h <;> simp [P3]
section
variable {T : List (List Int)} {n : Int} (S : SurfL T n) {U : List (List Int)} {k o0 o1 o2 : Int} (SU : SurfL ([o0, o1, o2] :: U) k) (op : Opens (MT ([o0, o1, o2] :: U)) o0 o1 o2) {p q r : Int} (ht : [p, q, r] ∈ T) {g : Int → Int} (g0 : g o0 = p) (g1 : g o1 = q) (g2 : g o2 = r)
  (inj : ∀ u v, 0 ≤ u → u < k → 0 ≤ v → v < k → g u = g v → u = v) {m : Int} (fresh : ∀ v, 0 ≤ v → v < k → v ≠ o0 → v ≠ o1 → v ≠ o2 → n ≤ g v ∧ g v < m) (hnm : n ≤ m)
include S SU op ht g0 g1 g2 inj fresh hnm
theorem gbound (v : Int) (h1 : 0 ≤ v) (h2 : v < k) : 0 ≤ g v ∧ g v < m := by
  obtain ⟨a, b, c, e, h0, h3, h4, h5⟩ := S.tri _ ht
  injection e with e1 e2
  injection e2 with e2 e3
  injection e3 with e3 _
  subst e1 e2 e3
  by_cases c0 : v = o0
  · subst c0; omega
  · by_cases c1 : v = o1
    · subst c1; omega
    · by_cases c2 : v = o2
      · subst c2; omega
      · have := fresh v h1 h2 c0 c1 c2; omega
theorem ren_tri : ∀ t ∈ renT g U, Tri m t := fun t ht' => by
  obtain ⟨u, hu, rfl⟩ := List.mem_map.mp ht'
  obtain ⟨a, b, c, rfl, h0, h3, h4, h5⟩ := SU.tri u (by simp [hu])
  have B := gbound S SU op ht g0 g1 g2 inj fresh hnm
  show Tri m (isort [g a, g b, g c])
  refine tri_iso (B a (by omega) (by omega)) (B b (by omega) (by omega)) (B c (by omega) (by omega)) (fun e => ?_) (fun e => ?_) (fun e => ?_)
  · have := inj a b (by omega) (by omega) (by omega) (by omega) e; omega
  · have := inj a c (by omega) (by omega) (by omega) (by omega) e; omega
  · have := inj b c (by omega) (by omega) (by omega) (by omega) e; omega
theorem inj3 {a b c a' b' c' : Int} (ha : 0 ≤ a ∧ a < k) (hb : 0 ≤ b ∧ b < k) (hc : 0 ≤ c ∧ c < k) (ha' : 0 ≤ a' ∧ a' < k) (hb' : 0 ≤ b' ∧ b' < k) (hc' : 0 ≤ c' ∧ c' < k) (h : P3 (g a) (g b) (g c) (g a') (g b') (g c')) : P3 a b c a' b' c' := by
  have I := fun u v hu hv e => inj u v (And.left hu) (And.right hu) (And.left hv) (And.right hv) e
  rcases h with ⟨h1, h2, h3⟩ | ⟨h1, h2, h3⟩ | ⟨h1, h2, h3⟩ | ⟨h1, h2, h3⟩ | ⟨h1, h2, h3⟩ | ⟨h1, h2, h3⟩
  · exact .inl ⟨I a a' ha ha' h1, I b b' hb hb' h2, I c c' hc hc' h3⟩
  · exact .inr (.inl ⟨I a a' ha ha' h1, I b c' hb hc' h2, I c b' hc hb' h3⟩)
  · exact .inr (.inr (.inl ⟨I a b' ha hb' h1, I b a' hb ha' h2, I c c' hc hc' h3⟩))
  · exact .inr (.inr (.inr (.inl ⟨I a b' ha hb' h1, I b c' hb hc' h2, I c a' hc ha' h3⟩)))
  · exact .inr (.inr (.inr (.inr (.inl ⟨I a c' ha hc' h1, I b a' hb ha' h2, I c b' hc hb' h3⟩))))
  · exact .inr (.inr (.inr (.inr (.inr ⟨I a c' ha hc' h1, I b b' hb hb' h2, I c a' hc ha' h3⟩))))
theorem k3 : 0 ≤ o0 ∧ o0 < o1 ∧ o1 < o2 ∧ o2 < k := by
  obtain ⟨a, b, c, e, h0, h3, h4, h5⟩ := SU.tri [o0, o1, o2] (by simp)
  injection e with e1 e2
  injection e2 with e2 e3
  injection e3 with e3 _
  omega
theorem ren_mt (x y z : Int) : MT (renT g U) x y z ↔ mapR (MT ([o0, o1, o2] :: U)) g x y z ∧ ¬ P3 x y z p q r := by
  have K3 := k3 S SU op ht g0 g1 g2 inj fresh hnm
  have I3 := @inj3 T n S U k o0 o1 o2 SU op p q r ht g g0 g1 g2 inj m fresh hnm
  rw [mt_iso (ren_tri S SU op ht g0 g1 g2 inj fresh hnm)]
  constructor
  · intro h
    obtain ⟨u, hu, e⟩ := List.mem_map.mp h
    obtain ⟨a, b, c, rfl, h0, h3, h4, h5⟩ := SU.tri u (by simp [hu])
    have hP : P3 x y z (g a) (g b) (g c) := iso_p3.mp e.symm
    have hmt : MT ([o0, o1, o2] :: U) a b c := ⟨a, b, c, by simp [hu], by simp [P3]⟩
    refine ⟨?_, fun hp => ?_⟩
    · rcases hP with ⟨rfl, rfl, rfl⟩ | ⟨rfl, rfl, rfl⟩ | ⟨rfl, rfl, rfl⟩ | ⟨rfl, rfl, rfl⟩ | ⟨rfl, rfl, rfl⟩ | ⟨rfl, rfl, rfl⟩
      · exact ⟨a, b, c, hmt, rfl, rfl, rfl⟩
      · exact ⟨a, c, b, mt_p3 (by simp [P3]) hmt, rfl, rfl, rfl⟩
      · exact ⟨b, a, c, mt_p3 (by simp [P3]) hmt, rfl, rfl, rfl⟩
      · exact ⟨b, c, a, mt_p3 (by simp [P3]) hmt, rfl, rfl, rfl⟩
      · exact ⟨c, a, b, mt_p3 (by simp [P3]) hmt, rfl, rfl, rfl⟩
      · exact ⟨c, b, a, mt_p3 (by simp [P3]) hmt, rfl, rfl, rfl⟩
    · have h6 : P3 (g a) (g b) (g c) (g o0) (g o1) (g o2) := by
        rw [g0, g1, g2]
        exact p3_perm.mpr ((p3_perm.mp hP).symm.trans (p3_perm.mp hp))
      have h7 := I3 ⟨by omega, by omega⟩ ⟨by omega, by omega⟩ ⟨by omega, by omega⟩ ⟨by omega, by omega⟩ ⟨by omega, by omega⟩ ⟨by omega, by omega⟩ h6
      have : a = o0 ∧ b = o1 ∧ c = o2 := by rcases h7 with h | h | h | h | h | h <;> omega
      obtain ⟨rfl, rfl, rfl⟩ := this
      exact (List.nodup_cons.mp SU.nd).1 hu
  · rintro ⟨⟨a, b, c, hm, rfl, rfl, rfl⟩, hn⟩
    have hb := mt_bd SU.tri hm
    have hin := (mt_iso SU.tri).mp hm
    have hne : isort [a, b, c] ≠ [o0, o1, o2] := fun e => by
      rw [← asc_iso (a := o0) (b := o1) (c := o2) (by omega) (by omega)] at e
      have := p3_map (g := g) (iso_p3.mp e)
      rw [g0, g1, g2] at this
      exact hn this
    have hu : isort [a, b, c] ∈ U := by
      rcases List.mem_cons.mp hin with h | h
      · exact absurd h hne
      · exact h
    refine List.mem_map.mpr ⟨_, hu, ?_⟩
    exact (isort_eq ((isort_perm _).trans ((isort_perm [a, b, c]).map g |>.trans (.refl _))) (isort_le _))
theorem sum_surf : SurfL (T.erase [p, q, r] ++ renT g U) m ∧ (T.erase [p, q, r] ++ renT g U).length + 1 = T.length + U.length := by
  have K3 := k3 S SU op ht g0 g1 g2 inj fresh hnm
  have I3 := @inj3 T n S U k o0 o1 o2 SU op p q r ht g g0 g1 g2 inj m fresh hnm
  have asc : p < q ∧ q < r := by
    obtain ⟨a, b, c, e, h0, h3, h4, h5⟩ := S.tri _ ht
    injection e with e1 e2
    injection e2 with e2 e3
    injection e3 with e3 _
    omega
  have tri : ∀ t ∈ T.erase [p, q, r] ++ renT g U, Tri m t := fun t ht' => by
    rcases List.mem_append.mp ht' with h | h
    · exact (S.tri t (List.mem_of_mem_erase h)).mono hnm
    · exact ren_tri S SU op ht g0 g1 g2 inj fresh hnm t h
  have hM : ∀ x y z, sumR (MT T) (mapR (MT ([o0, o1, o2] :: U)) g) p q r x y z ↔ MT (T.erase [p, q, r] ++ renT g U) x y z := fun x y z => by
    rw [mt_iso tri, List.mem_append, S.nd.mem_erase_iff, ← mt_iso S.tri, ← mt_iso (ren_tri S SU op ht g0 g1 g2 inj fresh hnm), ren_mt S SU op ht g0 g1 g2 inj fresh hnm]
    have e : isort [x, y, z] ≠ [p, q, r] ↔ ¬ P3 x y z p q r := by rw [← iso_p3, asc_iso asc.1 asc.2]
    rw [e]
    unfold sumR
    constructor
    · rintro ⟨h | h, hn⟩
      · exact .inl ⟨hn, h⟩
      · exact .inr ⟨h, hn⟩
    · rintro (⟨hn, h⟩ | ⟨h, hn⟩)
      · exact ⟨.inl h, hn⟩
      · exact ⟨.inr h, hn⟩
  have J : InjOn (MT ([o0, o1, o2] :: U)) g := fun a b ⟨y, z, h1⟩ ⟨y', z', h2⟩ e => by
    have b1 := mt_bd SU.tri h1
    have b2 := mt_bd SU.tri h2
    exact inj a b (by omega) (by omega) (by omega) (by omega) e
  have m0 : MT ([o0, o1, o2] :: U) o0 o1 o2 := ⟨o0, o1, o2, by simp, by simp [P3]⟩
  have C : Meet2 (MT T) (mapR (MT ([o0, o1, o2] :: U)) g) p q r := by
    refine ⟨⟨p, q, r, ht, by simp [P3]⟩, ⟨o0, o1, o2, m0, g0, g1, g2⟩, fun x ⟨y, z, h1⟩ ⟨y', z', a, b, c, h2, e1, e2, e3⟩ => ?_, ?_⟩
    · have b1 := mt_bd S.tri h1
      have b2 := mt_bd SU.tri h2
      by_cases c0 : a = o0
      · subst c0; exact .inl (by rw [← e1, g0])
      · by_cases c1 : a = o1
        · subst c1; exact .inr (.inl (by rw [← e1, g1]))
        · by_cases c2 : a = o2
          · subst c2; exact .inr (.inr (by rw [← e1, g2]))
          · have := fresh a (by omega) (by omega) c0 c1 c2
            omega
    · have := map_opens SU.sr J m0 op
      rw [g0, g1, g2] at this
      exact this
  have hnd : (T.erase [p, q, r] ++ renT g U).Nodup := by
    rw [List.nodup_append]
    refine ⟨S.nd.erase _, ?_, fun t h1 u h2 e => ?_⟩
    · unfold renT
      refine List.pairwise_map.mpr (List.Pairwise.imp_of_mem (fun {u v} hu hv hne e => hne ?_) (List.nodup_cons.mp SU.nd).2)
      obtain ⟨a, b, c, rfl, h0, h3, h4, h5⟩ := SU.tri u (by simp [hu])
      obtain ⟨a', b', c', rfl, h0', h3', h4', h5'⟩ := SU.tri v (by simp [hv])
      have h7 := I3 ⟨by omega, by omega⟩ ⟨by omega, by omega⟩ ⟨by omega, by omega⟩ ⟨by omega, by omega⟩ ⟨by omega, by omega⟩ ⟨by omega, by omega⟩ (iso_p3.mp e)
      have : a = a' ∧ b = b' ∧ c = c' := by rcases h7 with h | h | h | h | h | h <;> omega
      obtain ⟨rfl, rfl, rfl⟩ := this
      rfl
    · subst e
      obtain ⟨a1, a2, a3, e', k0, k1, k2, k4⟩ := S.tri t (List.mem_of_mem_erase h1)
      obtain ⟨u, hu, e2⟩ := List.mem_map.mp h2
      obtain ⟨a, b, c, rfl, h0, h3, h4, h5⟩ := SU.tri u (by simp [hu])
      have mem : ∀ v, v = a ∨ v = b ∨ v = c → g v < n := fun v hv => by
        have : g v ∈ t := by
          rw [← e2]
          exact (isort_perm _).mem_iff.mpr (List.mem_map.mpr ⟨v, by simpa using hv, rfl⟩)
        rw [e'] at this
        simp at this
        omega
      have low : ∀ v, v = a ∨ v = b ∨ v = c → v = o0 ∨ v = o1 ∨ v = o2 := fun v hv => by
        have h9 := mem v hv
        by_cases c0 : v = o0
        · exact .inl c0
        · by_cases c1 : v = o1
          · exact .inr (.inl c1)
          · by_cases c2 : v = o2
            · exact .inr (.inr c2)
            · have := fresh v (by omega) (by omega) c0 c1 c2
              omega
      have q1 := low a (by simp)
      have q2 := low b (by simp)
      have q3 := low c (by simp)
      have : a = o0 ∧ b = o1 ∧ c = o2 := by omega
      obtain ⟨rfl, rfl, rfl⟩ := this
      exact (List.nodup_cons.mp SU.nd).1 hu
  have neU : U ≠ [] := fun e => by
    obtain ⟨w, hw, hm, _⟩ := SU.sr.two o0 o1 o2 m0
    subst e
    obtain ⟨a, b, c, h1, h2⟩ := hm
    simp at h1
    obtain ⟨rfl, rfl, rfl⟩ := h1
    rcases h2 with h | h | h | h | h | h <;> omega
  refine ⟨⟨tri, hnd, (sum_SR S.sr (map_SR SU.sr J) C).iff hM, by simp [renT, neU]⟩, ?_⟩
  have hl := List.length_erase_of_mem ht
  have hp := List.length_pos_of_mem ht
  rw [List.length_append, hl]
  unfold renT
  rw [List.length_map]
  omega
end
end Fl

set_option Elab.async false
set_option linter.all false
set_option maxHeartbeats 1000000
set_option maxRecDepth 100000
namespace Fl
/-! the menu: three written surfaces, checked -/
def mtB (U : List (List Int)) (x y z : Int) : Bool := U.contains [x, y, z] || U.contains [x, z, y] || U.contains [y, x, z] || U.contains [y, z, x] || U.contains [z, x, y] || U.contains [z, y, x]
theorem mtB_iff {U : List (List Int)} {x y z : Int} : mtB U x y z = true ↔ MT U x y z := by
  unfold mtB MT
  simp only [Bool.or_eq_true, List.contains_iff_mem]
  constructor
  · rintro (((((h | h) | h) | h) | h) | h)
    · exact ⟨_, _, _, h, by simp [P3]⟩
    · exact ⟨_, _, _, h, by simp [P3]⟩
    · exact ⟨_, _, _, h, by simp [P3]⟩
    · exact ⟨_, _, _, h, by simp [P3]⟩
    · exact ⟨_, _, _, h, by simp [P3]⟩
    · exact ⟨_, _, _, h, by simp [P3]⟩
  · rintro ⟨a, b, c, h, hp⟩
    rcases hp with hp | hp | hp | hp | hp | hp <;> obtain ⟨rfl, rfl, rfl⟩ := hp <;> simp [h]
def vsB (k : Nat) : List Int := (List.range k).map fun (i : Nat) => (i : Int)
theorem mem_vsB {k : Nat} {x : Int} : x ∈ vsB k ↔ 0 ≤ x ∧ x < k := by
  unfold vsB
  rw [List.mem_map]
  constructor
  · rintro ⟨i, hi, rfl⟩
    have := List.mem_range.mp hi
    omega
  · rintro ⟨h1, h2⟩
    exact ⟨x.toNat, List.mem_range.mpr (by omega), by omega⟩
/-- what is reached from R in so many steps -/
def iterR (adj : Int → Int → Bool) (vs : List Int) : Nat → List Int → List Int
  | 0, R => R
  | n + 1, R => iterR adj vs n (vs.filter fun y => R.contains y || R.any fun x => adj x y)
theorem iterR_const {adj : Int → Int → Bool} {vs : List Int} {f : Int → Bool} {c : Bool} (hf : ∀ x y, adj x y = true → f x = f y) : ∀ (n : Nat) (R : List Int), (∀ x ∈ R, f x = c) → ∀ y ∈ iterR adj vs n R, f y = c
  | 0, R, h, y, hy => h y hy
  | n + 1, R, h, y, hy => by
    refine iterR_const hf n _ (fun z hz => ?_) y hy
    obtain ⟨_, h2⟩ := List.mem_filter.mp hz
    rw [Bool.or_eq_true] at h2
    rcases h2 with h2 | h2
    · exact h z (List.contains_iff_mem.mp h2)
    · obtain ⟨x, hx, ha⟩ := List.any_eq_true.mp h2
      rw [← hf x z ha]
      exact h x hx
def triB (k : Nat) (t : List Int) : Bool := match t with
  | [a, b, c] => decide (0 ≤ a) && decide (a < b) && decide (b < c) && decide (c < (k : Int))
  | _ => false
theorem triB_tri {k : Nat} {t : List Int} (h : triB k t = true) : Tri k t := by
  unfold triB at h
  split at h
  · rename_i a b c
    simp only [Bool.and_eq_true, decide_eq_true_eq] at h
    exact ⟨a, b, c, rfl, h.1.1.1, h.1.1.2, h.1.2, h.2⟩
  · cases h
def p3B (x y z a b c : Int) : Bool := decide (P3 x y z a b c)
def nbB (U : List (List Int)) (vs : List Int) (v : Int) : List Int := vs.filter fun x => vs.any fun z => mtB U v x z
def surfB (U : List (List Int)) (k : Nat) : Bool :=
  U.all (triB k) && decide U.Nodup && decide (U ≠ []) &&
  ((vsB k).all fun x => (vsB k).all fun y => (vsB k).all fun z => !mtB U x y z || (vsB k).any fun w => !decide (w = z) && mtB U x y w && (vsB k).all fun u => !mtB U x y u || decide (u = z) || decide (u = w)) &&
  ((vsB k).all fun x => decide (x = 0) || (vsB k).any fun z => mtB U 0 x z) &&
  ((vsB k).all fun v => match nbB U (vsB k) v with
    | [] => true
    | a :: r => (a :: r).all fun y => (iterR (fun x y => (vsB k).contains x && (vsB k).contains y && mtB U v x y) (vsB k) 6 [a]).contains y)
def opB (U : List (List Int)) (k : Nat) (o0 o1 o2 : Int) : Bool :=
  let ck := fun (v x y : Int) => (iterR (fun u w => mtB U v u w && !p3B v u w o0 o1 o2) (vsB k) 6 [x]).contains y
  ck o0 o1 o2 && ck o0 o2 o1 && ck o1 o0 o2 && ck o1 o2 o0 && ck o2 o0 o1 && ck o2 o1 o0
theorem surfB_surf {U : List (List Int)} {k : Nat} (h : surfB U k = true) : SurfL U k := by
  unfold surfB at h
  simp only [Bool.and_eq_true] at h
  obtain ⟨⟨⟨⟨⟨h1, h2⟩, h3⟩, h4⟩, h5⟩, h6⟩ := h
  have tri : ∀ t ∈ U, Tri k t := fun t ht => triB_tri (List.all_eq_true.mp h1 t ht)
  have bd : ∀ {x y z}, MT U x y z → x ∈ vsB k ∧ y ∈ vsB k ∧ z ∈ vsB k := fun m => by
    have b := mt_bd tri m
    exact ⟨mem_vsB.mpr (by omega), mem_vsB.mpr (by omega), mem_vsB.mpr (by omega)⟩
  refine ⟨tri, of_decide_eq_true h2, ⟨fun x y z m => mt_p3 (by simp [P3]) m, fun x y z m => mt_p3 (by simp [P3]) m, fun x y z m => (mt_bd tri m).2.2.2.2.2.2.1, fun x y z m => ?_, ?_, ?_⟩, of_decide_eq_true h3⟩
  · obtain ⟨b1, b2, b3⟩ := bd m
    have q := List.all_eq_true.mp (List.all_eq_true.mp (List.all_eq_true.mp h4 x b1) y b2) z b3
    rw [mtB_iff.mpr m] at q
    simp only [Bool.not_true, Bool.false_or] at q
    obtain ⟨w, hw, q⟩ := List.any_eq_true.mp q
    simp only [Bool.and_eq_true] at q
    obtain ⟨⟨q1, q2⟩, q3⟩ := q
    refine ⟨w, by simpa using q1, mtB_iff.mp q2, fun u hu => ?_⟩
    have q4 := List.all_eq_true.mp q3 u (bd hu).2.2
    rw [mtB_iff.mpr hu] at q4
    simpa using q4
  · have key : ∀ f : Int → Bool, (∀ x y z, MT U x y z → f x = f y) → ∀ x, (∃ p q, MT U x p q) → f 0 = f x := fun f hf x ⟨p, q, m⟩ => by
      have q := List.all_eq_true.mp h5 x (bd m).1
      rw [Bool.or_eq_true] at q
      rcases q with q | q
      · rw [of_decide_eq_true q]
      · obtain ⟨z, _, q⟩ := List.any_eq_true.mp q
        exact hf 0 x z (mtB_iff.mp q)
    intro f hf x y hx hy
    rw [← key f hf x hx, ← key f hf y hy]
  · intro v f hf x y hx hy
    have hnb : ∀ x, (∃ z, MT U v x z) → x ∈ nbB U (vsB k) v := fun x ⟨z, m⟩ => by
      unfold nbB
      exact List.mem_filter.mpr ⟨(bd m).2.1, List.any_eq_true.mpr ⟨z, (bd m).2.2, mtB_iff.mpr m⟩⟩
    have hv : v ∈ vsB k := by obtain ⟨z, m⟩ := hx; exact (bd m).1
    have q := List.all_eq_true.mp h6 v hv
    have hx' := hnb x hx
    have hy' := hnb y hy
    cases e : nbB U (vsB k) v with
    | nil => rw [e] at hx'; cases hx'
    | cons a r =>
      rw [e] at q hx' hy'
      have key : ∀ z ∈ a :: r, f z = f a := fun z hz => by
        have q2 := List.all_eq_true.mp q z hz
        refine iterR_const (c := f a) (f := f) (fun x y h => ?_) 6 [a] (fun x hx => by rw [List.mem_singleton.mp hx]) z (List.contains_iff_mem.mp q2)
        simp only [Bool.and_eq_true] at h
        exact hf x y (mtB_iff.mp h.2)
      rw [key x hx', key y hy']
theorem opB_opens {U : List (List Int)} {k : Nat} {o0 o1 o2 : Int} (h : opB U k o0 o1 o2 = true) : Opens (MT U) o0 o1 o2 := by
  unfold opB at h
  simp only [Bool.and_eq_true] at h
  obtain ⟨⟨⟨⟨⟨c1, c2⟩, c3⟩, c4⟩, c5⟩, c6⟩ := h
  intro v x y hp f hf
  have key : ∀ v x y, (∀ u w, MT U v u w → ¬ P3 v u w o0 o1 o2 → f u = f w) → (iterR (fun u w => mtB U v u w && !p3B v u w o0 o1 o2) (vsB k) 6 [x]).contains y = true → f x = f y := fun v x y hf h => by
    refine (iterR_const (c := f x) (f := f) (fun u w h => ?_) 6 [x] (fun x' hx => by rw [List.mem_singleton.mp hx]) y (List.contains_iff_mem.mp h)).symm
    simp only [Bool.and_eq_true, Bool.not_eq_true', p3B, decide_eq_false_iff_not] at h
    exact hf u w (mtB_iff.mp h.1) h.2
  rcases hp with hp | hp | hp | hp | hp | hp <;> obtain ⟨rfl, rfl, rfl⟩ := hp
  · exact key _ _ _ hf c1
  · exact key _ _ _ hf c2
  · exact key _ _ _ hf c3
  · exact key _ _ _ hf c4
  · exact key _ _ _ hf c5
  · exact key _ _ _ hf c6
def baseU : List (List Int) := [[0, 1, 2], [0, 1, 3], [0, 2, 3], [1, 2, 3]]
def planeU : List (List Int) := [[0, 1, 2], [0, 1, 3], [0, 2, 4], [0, 3, 5], [0, 4, 5], [1, 2, 5], [1, 3, 4], [1, 4, 5], [2, 3, 4], [2, 3, 5]]
def torusU : List (List Int) := [[0, 1, 3], [0, 1, 5], [0, 2, 3], [0, 2, 6], [0, 4, 5], [0, 4, 6], [1, 2, 4], [1, 2, 6], [1, 3, 4], [1, 5, 6], [2, 3, 5], [2, 4, 5], [3, 4, 6], [3, 5, 6]]
theorem base_surf : SurfL baseU 4 := surfB_surf (k := 4) (by decide +kernel)
theorem plane_surf : SurfL planeU 6 := surfB_surf (k := 6) (by decide +kernel)
theorem torus_surf : SurfL torusU 7 := surfB_surf (k := 7) (by decide +kernel)
theorem base_op : Opens (MT baseU) 0 1 2 := opB_opens (k := 4) (by decide +kernel)
theorem plane_op : Opens (MT planeU) 0 1 2 := opB_opens (k := 6) (by decide +kernel)
theorem torus_op : Opens (MT torusU) 0 1 3 := opB_opens (k := 7) (by decide +kernel)
end Fl

set_option Elab.async false
set_option linter.all false
set_option maxHeartbeats 1000000
namespace Fl
theorem erase_perm {T : List (List Int)} {k : Nat} {t : List Int} (h : T[k]? = some t) : (T.eraseIdx k).Perm (T.erase t) := by
  obtain ⟨hk, e⟩ := List.getElem?_eq_some_iff.mp h
  have h1 : (T[k] :: T.eraseIdx k).Perm T := by
    have e1 : T = T.take k ++ T[k] :: T.drop (k + 1) := by
      rw [← List.drop_eq_getElem_cons hk]
      exact (List.take_append_drop k T).symm
    rw [List.eraseIdx_eq_take_drop_succ]
    conv => rhs; rw [e1]
    exact List.perm_middle.symm
  rw [e] at h1
  exact List.Perm.cons_inv (h1.trans (List.perm_cons_erase (List.mem_of_getElem? h)))
/-- a triangle parted -/
theorem part_surf {T : List (List Int)} {n : Int} (S : SurfL T n) {k : Nat} {a b c v : Int} (h : T[k]? = some [a, b, c]) (hv : n ≤ v) :
    SurfL (T.eraseIdx k ++ [[a, b, v], [a, c, v], [b, c, v]]) (v + 1) ∧ (T.eraseIdx k ++ [[a, b, v], [a, c, v], [b, c, v]]).length = T.length + 2 := by
  have ht := List.mem_of_getElem? h
  obtain ⟨a', b', c', e, h0, h3, h4, h5⟩ := S.tri _ ht
  injection e with e1 e2
  injection e2 with e2 e3
  injection e3 with e3 _
  subst e1 e2 e3
  let g : Int → Int := fun x => if x = 0 then a else if x = 1 then b else if x = 2 then c else v
  have q := sum_surf (U := [[0, 1, 3], [0, 2, 3], [1, 2, 3]]) (k := 4) (o0 := 0) (o1 := 1) (o2 := 2) S base_surf base_op ht (g := g) rfl rfl rfl (fun u w h1 h2 h3 h4 e => by
    have hu : u = 0 ∨ u = 1 ∨ u = 2 ∨ u = 3 := by omega
    have hw : w = 0 ∨ w = 1 ∨ w = 2 ∨ w = 3 := by omega
    rcases hu with rfl | rfl | rfl | rfl <;> rcases hw with rfl | rfl | rfl | rfl <;> simp [g] at e ⊢ <;> omega) (m := v + 1) (fun x h1 h2 h3 h4 h5 => by
      have : x = 3 := by omega
      subst this
      simp [g]
      omega) (by omega)
  have er : renT g [[0, 1, 3], [0, 2, 3], [1, 2, 3]] = [[a, b, v], [a, c, v], [b, c, v]] := by
    show [isort [a, b, v], isort [a, c, v], isort [b, c, v]] = _
    rw [asc_iso (by omega) (by omega), asc_iso (by omega) (by omega), asc_iso (by omega) (by omega)]
  rw [er] at q
  have p : (T.eraseIdx k ++ [[a, b, v], [a, c, v], [b, c, v]]).Perm (T.erase [a, b, c] ++ [[a, b, v], [a, c, v], [b, c, v]]) := (erase_perm h).append_right _
  refine ⟨q.1.perm p, ?_⟩
  have q2 := q.2
  rw [p.length_eq]
  have : ([[0, 1, 3], [0, 2, 3], [1, 2, 3]] : List (List Int)).length = 3 := rfl
  omega
/-- what the flip of an edge comes to -/
theorem flip_cases {T : List (List Int)} {n : Int} (S : SurfL T n) {e t : List Int} (h : (e, t) ∈ pairsOf T) : ∃ x y z w, e = [x, y] ∧ x < y ∧ MT T x y z ∧ MT T x y w ∧ w ≠ z ∧ (∀ u, MT T x y u → u = z ∨ u = w) := by
  obtain ⟨x, y, z, rfl, hxy, hm, _⟩ := (pair_mt S.tri).mp h
  obtain ⟨w, hw, hmw, hu⟩ := S.sr.two x y z hm
  exact ⟨x, y, z, w, rfl, hxy, hm, hmw, hw, hu⟩
theorem flipM_eq {T : List (List Int)} {n : Int} (S : SurfL T n) {x y z w : Int} (mz : MT T x y z) (mw : MT T x y w) (hwz : w ≠ z) (hu : ∀ u, MT T x y u → u = z ∨ u = w) :
    ((∃ q, MT T z w q) → flipM T [x, y] = T) ∧ (¬ (∃ q, MT T z w q) → flipM T [x, y] = (T.filter fun t => decide (t ∉ someL T [x, y])) ++ newT x y z w) := by
  have c := cond_iff S mz mw hwz hu
  refine ⟨fun h => ?_, fun h => ?_⟩
  · unfold flipM
    rw [if_pos (c.mpr h)]
  · unfold flipM
    rw [if_neg (fun z => h (c.mp z)), tipsL_eq S mz mw hwz hu, flip_new S mz mw hwz hu]
theorem flipM_surf {T : List (List Int)} {n : Int} (S : SurfL T n) {e t : List Int} (h : (e, t) ∈ pairsOf T) : SurfL (flipM T e) n ∧ (flipM T e).length = T.length := by
  obtain ⟨x, y, z, w, rfl, hxy, mz, mw, hwz, hu⟩ := flip_cases S h
  obtain ⟨f1, f2⟩ := flipM_eq S mz mw hwz hu
  by_cases c : ∃ q, MT T z w q
  · rw [f1 c]
    exact ⟨S, rfl⟩
  · rw [f2 c]
    obtain ⟨_, h2, _, h4⟩ := flip_surf S mz mw hwz hu c
    exact ⟨h2, h4⟩
/-- what the law draws -/
structure SurfT (T : List (List Int)) : Prop where
  srt : Srt T
  surf : SurfL T 29
  len : T.length ≤ 42
theorem surfT_of {T R : List (List Int)} {n : Int} (S : SurfL T n) (hn : n ≤ 29) (hl : T.length ≤ 42) (p : R.Perm T) (wk : Wk R) : SurfT R :=
  ⟨wk.srt (p.nodup_iff.mpr S.nd), (S.perm p).mono hn, by rw [p.length_eq]; exact hl⟩
end Fl

set_option Elab.async false
set_option linter.all false
set_option maxRecDepth 100000
set_option maxHeartbeats 4000000
namespace Fl
open PySem PySem.Spec PyProof.Rows L2
section
variable {P : Program} {w : World} {K : PySem.W.Frag} {mg : Str → Option Value} {base : Heap} {A : Ad}
def spSphere (K : PySem.W.Frag) : Sp := fun vs H Q _ => ∃ r many sc ns, vs = [.ref r, .int many] ∧ RowOk K H r sc ns ∧ 4 ≤ many ∧ many ≤ 8 ∧ ∀ H' y T, But r H H' → RowOk K H' r sc ns → TT' H' y T → SurfT T → Q y H'
theorem base_TL {H : Hp} {a b c d : Addr} (h1 : H a = some (.tup [.int 0, .int 1, .int 2])) (h2 : H b = some (.tup [.int 0, .int 1, .int 3])) (h3 : H c = some (.tup [.int 0, .int 2, .int 3])) (h4 : H d = some (.tup [.int 1, .int 2, .int 3])) :
    TL H [.ref a, .ref b, .ref c, .ref d] baseU := .cons ⟨a, rfl, h1⟩ (.cons ⟨b, rfl, h2⟩ (.cons ⟨c, rfl, h3⟩ (.cons ⟨d, rfl, h4⟩ .nil)))
theorem ixN_nat {n j : Nat} (h : j < n) : ixN n (j : Int) = some j := by
  unfold ixN
  rw [if_pos (by omega), if_pos (by omega)]
  simp
theorem edges_ne {T E : List (List Int)} {n : Int} (S : SurfL T n) (eE : EdgesOf T E) : E ≠ [] := by
  obtain ⟨t, ht⟩ := List.exists_mem_of_ne_nil _ S.ne
  obtain ⟨a, b, c, rfl, h0, h1, h2, h3⟩ := S.tri t ht
  exact List.ne_nil_of_mem ((eE.2 [a, b]).mpr ⟨_, mem_pairs.mpr ⟨ht, cuts3.mpr (by simp)⟩⟩)
theorem edges_len {T E : List (List Int)} {n : Int} (S : SurfL T n) (eE : EdgesOf T E) : E.length ≤ 3 * T.length := by
  rw [← pairs_len fun t ht => (S.tri t ht).len]
  have : ∀ e ∈ E, e ∈ (pairsOf T).map (·.1) := fun e he => by
    obtain ⟨t, h⟩ := (eE.2 e).mp he
    exact List.mem_map.mpr ⟨_, h, rfl⟩
  have := nodup_le eE.1.nodup this
  rw [List.length_map] at this
  exact this
theorem ok_sphere (T : Tx K mg A) (G__law_taken : FnOk P w K mg base CX0 1 A.f__law_taken A.fd__law_taken ["_law_row", "_law_many"] (spTaken K)) (G__law_pick : FnOk P w K mg base CX0 2 A.f__law_pick A.fd__law_pick ["_law_row", "_law_things"] (spPick K))
    (G__law_rims : FnOk P w K mg base CX0 1 A.f__law_rims A.fd__law_rims ["_law_tops"] (spRims K)) (G__law_flipped : FnOk P w K mg base CX0 2 A.f__law_flipped A.fd__law_flipped ["_law_tops", "_law_edge"] (spLawFlipped K)) :
    FnOk P w K mg base CX0 3 A.f__law_sphere A.fd__law_sphere ["_law_row", "_law_many"] (spSphere K) := by
  refine T.F__law_sphere.ok sc__law_sphere (fun vs H Q E h => ?_) (fun cdv Ar outer s H vs Q E hr h => ⟨_, (pss_cons (ps_set (i := 2) sc__law_sphere.nd rfl (by first | exact Or.inl rfl | exact Or.inr rfl) (pe_lst (pa_cons (pe_tup (pa_cons pe_int (pa_cons pe_int (pa_cons pe_int pa_nil)))) (pa_cons (pe_tup (pa_cons pe_int (pa_cons pe_int (pa_cons pe_int pa_nil)))) (pa_cons (pe_tup (pa_cons pe_int (pa_cons pe_int (pa_cons pe_int pa_nil)))) (pa_cons (pe_tup (pa_cons pe_int (pa_cons pe_int (pa_cons pe_int pa_nil)))) pa_nil))))))
    (pss_cons (ps_for PassesOwn.never rfl (pi_range2 (by rfl) (T.nb "range" (by decide)) (pa_cons pe_int (pa_cons (pv 1) pa_nil))) (pg_name (i := 3) sc__law_sphere.nd rfl (by first | exact Or.inl rfl | exact Or.inr rfl))
    (pss_cons (ps_asg (pe_bm PySem.F.plainAttrs_list PySem.F.slot_list_pop PySem.F.type_list_pop mt_popAt (pv 2) (pa_cons (pe_call G__law_taken (hr.mono (by first | decide | exact Nat.le_refl _)) (by rfl) T.g__law_taken T.k__law_taken T.bd__law_taken .nil pass0 (pa_cons (pv 0) (pa_cons (pe_callB (call_len_seqK K) (by rfl) (T.nb "len" (by decide)) PySem.boot_len (pa_cons (pv 2) pa_nil)) pa_nil))) pa_nil)) (pg_tupK K rfl (pgs_cons (pg_name (i := 4) sc__law_sphere.nd rfl (by first | exact Or.inl rfl | exact Or.inr rfl)) (pgs_cons (pg_name (i := 5) sc__law_sphere.nd rfl (by first | exact Or.inl rfl | exact Or.inr rfl)) (pgs_cons (pg_name (i := 6) sc__law_sphere.nd rfl (by first | exact Or.inl rfl | exact Or.inr rfl)) pgs_nil)))))
    (pss_one (ps_set (i := 2) sc__law_sphere.nd rfl (by first | exact Or.inl rfl | exact Or.inr rfl) (pe_op op_cat (pv 2) (pe_lst (pa_cons (pe_tup (pa_cons (pv 4) (pa_cons (pv 5) (pa_cons (pv 3) pa_nil)))) (pa_cons (pe_tup (pa_cons (pv 4) (pa_cons (pv 6) (pa_cons (pv 3) pa_nil)))) (pa_cons (pe_tup (pa_cons (pv 5) (pa_cons (pv 6) (pa_cons (pv 3) pa_nil)))) pa_nil)))))))))
    (pss_cons (ps_for PassesOwn.never rfl (pi_range1 (by rfl) (T.nb "range" (by decide)) (pa_cons (pe_call G__law_taken (hr.mono (by first | decide | exact Nat.le_refl _)) (by rfl) T.g__law_taken T.k__law_taken T.bd__law_taken .nil pass0 (pa_cons (pv 0) (pa_cons pe_int pa_nil))) pa_nil)) (pg_name (i := 7) sc__law_sphere.nd rfl (by first | exact Or.inl rfl | exact Or.inr rfl))
    (pss_cons (ps_set (i := 8) sc__law_sphere.nd rfl (by first | exact Or.inl rfl | exact Or.inr rfl) (pe_call G__law_rims (hr.mono (by first | decide | exact Nat.le_refl _)) (by rfl) T.g__law_rims T.k__law_rims T.bd__law_rims .nil pass0 (pa_cons (pv 2) pa_nil)))
    (pss_cons (ps_set (i := 9) sc__law_sphere.nd rfl (by first | exact Or.inl rfl | exact Or.inr rfl) (pe_call G__law_pick (hr.mono (by first | decide | exact Nat.le_refl _)) (by rfl) T.g__law_pick T.k__law_pick T.bd__law_pick .nil pass0 (pa_cons (pv 0) (pa_cons (pe_callB (cr_sortXK K) (by rfl) (T.nb "sorted" (by decide)) (by decide +kernel) (pa_cons (pe_callTy (call_list_dT rfl) (by rfl) (T.nb "list" (by decide)) (by decide +kernel) (pa_cons (pv 8) pa_nil)) pa_nil)) pa_nil))))
    (pss_one (ps_set (i := 2) sc__law_sphere.nd rfl (by first | exact Or.inl rfl | exact Or.inr rfl) (pe_callTy (call_list_ofK K) (by rfl) (T.nb "list" (by decide)) (by decide +kernel) (pa_cons (pe_call G__law_flipped (hr.mono (by first | decide | exact Nat.le_refl _)) (by rfl) T.g__law_flipped T.k__law_flipped T.bd__law_flipped .nil pass0 (pa_cons (pv 2) (pa_cons (pv 9) pa_nil))) pa_nil)))))))
    (pss_one (ps_ret (pe_callTy (call_tuple_ofK K) (by rfl) (T.nb "tuple" (by decide)) (by decide +kernel) (pa_cons (pe_callB (cr_sortXK K) (by rfl) (T.nb "sorted" (by decide)) (by decide +kernel) (pa_cons (pv 2) pa_nil)) pa_nil))))))), ?_⟩)
  · obtain ⟨r, many, sc, ns, rfl, _⟩ := h; rfl
  · obtain ⟨r, many, sc, ns, rfl, hrow, hm4, hm8, q⟩ := h
    refine ⟨(by show 3 ≤ sizeLine; decide), fun a ha => ⟨(by show 3 ≤ sizeLine; decide), fun b hb => ⟨(by show 3 ≤ sizeLine; decide), fun c hc => ⟨(by show 3 ≤ sizeLine; decide), fun d hd => ⟨(by show 4 ≤ sizeLine; decide), fun l hl => ?_⟩⟩⟩⟩⟩
    have nba : b ≠ a := fun z => by rw [z, upd_same] at hb; cases hb
    have S1 := ((((same_new (o := .tup [.int 0, .int 1, .int 2]) ha).new (o := .tup [.int 0, .int 1, .int 3]) hb).new (o := .tup [.int 0, .int 2, .int 3]) hc).new (o := .tup [.int 1, .int 2, .int 3]) hd).new (o := .lst [.ref a, .ref b, .ref c, .ref d]) hl
    have ea : (upd H a (.tup [.int 0, .int 1, .int 2])) a = some (.tup [.int 0, .int 1, .int 2]) := upd_same
    have hA : TL _ [.ref a, .ref b, .ref c, .ref d] baseU := base_TL (H := upd _ l (.lst [.ref a, .ref b, .ref c, .ref d])) (same_new hl _ _ (same_new hd _ _ (same_new hc _ _ (same_new hb _ _ ea)))) (same_new hl _ _ (same_new hd _ _ (same_new hc _ _ upd_same))) (same_new hl _ _ (same_new hd _ _ upd_same)) (same_new hl _ _ upd_same)
    have hlH : H l = none := ((((same_new (o := .tup [.int 0, .int 1, .int 2]) ha).new (o := .tup [.int 0, .int 1, .int 3]) hb).new (o := .tup [.int 0, .int 2, .int 3]) hc).new (o := .tup [.int 1, .int 2, .int 3]) hd).free hl
    have hl1 : upd _ l (.lst [.ref a, .ref b, .ref c, .ref d]) l = some (.lst [.ref a, .ref b, .ref c, .ref d]) := upd_same (H := (upd (upd (upd (upd H a (.tup [.int 0, .int 1, .int 2])) b (.tup [.int 0, .int 1, .int 3])) c (.tup [.int 0, .int 2, .int 3])) d (.tup [.int 1, .int 2, .int 3])))
    revert S1 hA hl1
    generalize upd (upd (upd (upd (upd H a (.tup [.int 0, .int 1, .int 2])) b (.tup [.int 0, .int 1, .int 3])) c (.tup [.int 0, .int 2, .int 3])) d (.tup [.int 1, .int 2, .int 3])) l (.lst [.ref a, .ref b, .ref c, .ref d]) = H1
    intro S1 hA hl1
    have rne : ∀ {p : Addr}, H p = none → p ≠ r := fun hp z => by
      obtain ⟨xs, hx⟩ := hrow.lst
      rw [z, hx] at hp; cases hp
    refine ⟨_, rfl, 4, many, rfl, ⟨by omega, by omega, by omega, by omega⟩, for_range (lo := 4) (n := (many - 4).toNat) (fun j σ H' => ∃ l ys T v3 v4 v5 v6, σ = [some (.ref r), some (.int many), some (.ref l), v3, v4, v5, v6, none, none, none] ∧ But r H H' ∧ RowOk K H' r sc ns ∧ H' l = some (.lst ys) ∧ H l = none ∧ TL H' ys T ∧ SurfL T (4 + (j : Nat)) ∧ T.length = 4 + 2 * j)
      ⟨l, _, baseU, none, none, none, none, rfl, S1.but, hrow.mono S1, hl1, hlH, hA, (by simpa using base_surf), rfl⟩ ?_ ?_⟩
    · rintro j σ H2 hj ⟨l, ys, T1, v3, v4, v5, v6, rfl, b2, hr2, hl2, hl0, ty, sf, len⟩
      have hly := pl ty
      refine ⟨_, rfl, .inl ⟨rfl, _, .of hl2⟩, _, rfl, _, rfl, l, ys, rfl, .inl (.of hl2), r, _, sc, ns, rfl, hr2, by omega, by omega, fun H3 k b3 hr3 hk0 hk => ?_⟩
      obtain ⟨i, rfl⟩ := Int.eq_ofNat_of_zero_le hk0
      have hi : i < ys.length := by omega
      have hl3 := b3 _ _ (rne hl0) hl2
      obtain ⟨x, hx⟩ : ∃ x, ys[i]? = some x := ⟨ys[i], by simp [hi]⟩
      refine ⟨l, ys, _, i, x, rfl, rfl, hl3, by omega, by omega, (ixN_seq (ixN_nat hi)).1, hx, ?_⟩
      obtain ⟨t, hti, tx⟩ := pget ty hx
      obtain ⟨x1, x2, x3, rfl, h0, h1', h2', h3'⟩ := sf.tri t (List.mem_of_getElem? hti)
      have k3 : Keep H2 H3 := b3.keep hr2.lst
      obtain ⟨tb, rfl, htb⟩ := tx.mono k3
      have k4 : Keep H3 (upd H3 l (.lst (ys.eraseIdx i))) := keep_lst hl3
      have htb4 := k4 _ _ htb
      have b4 : But r H (upd H3 l (.lst (ys.eraseIdx i))) := fun p o np e => by
        rw [upd_ne (ne_of_none e hl0)]
        exact b3 _ _ np (b2 _ _ np e)
      have hr4 : RowOk K (upd H3 l (.lst (ys.eraseIdx i))) r sc ns := hrow.back b4 hr3 (by rw [upd_ne (rne hl0).symm])
      have hl4 : (upd H3 l (.lst (ys.eraseIdx i))) l = some (.lst (ys.eraseIdx i)) := upd_same
      have ty4 : TL (upd H3 l (.lst (ys.eraseIdx i))) (ys.eraseIdx i) (T1.eraseIdx i) := perase (ty.mono (k3.trans k4)) i
      revert htb4 b4 hr4 hl4 ty4
      generalize upd H3 l (.lst (ys.eraseIdx i)) = H4
      intro htb4 b4 hr4 hl4 ty4
      refine ⟨tb, _, rfl, .of htb4, rfl, _, _, rfl, _, _, rfl, _, _, rfl, rfl, ?_⟩
      refine ⟨_, rfl, _, rfl, _, rfl, _, rfl, (by show 3 ≤ sizeLine; decide), fun p1 hp1 => ⟨_, rfl, _, rfl, _, rfl, (by show 3 ≤ sizeLine; decide), fun p2 hp2 => ⟨_, rfl, _, rfl, _, rfl, (by show 3 ≤ sizeLine; decide), fun p3 hp3 => ⟨(by show 3 ≤ sizeLine; decide), fun l5 hl5 => ?_⟩⟩⟩⟩
      have e1 := upd_same (H := H4) (a := p1) (o := .tup [.int x1, .int x2, .int (4 + (j : Nat))])
      have sA := same_new (o := .tup [.int x1, .int x2, .int (4 + (j : Nat))]) hp1
      have sB := same_new (o := .tup [.int x1, .int x3, .int (4 + (j : Nat))]) hp2
      have sC := same_new (o := .tup [.int x2, .int x3, .int (4 + (j : Nat))]) hp3
      have sD := same_new (o := .lst [.ref p1, .ref p2, .ref p3]) hl5
      have sF := ((sA.trans sB).trans sC).trans sD
      have tn : TL (upd _ l5 (.lst [.ref p1, .ref p2, .ref p3])) [.ref p1, .ref p2, .ref p3] [[x1, x2, 4 + (j : Nat)], [x1, x3, 4 + (j : Nat)], [x2, x3, 4 + (j : Nat)]] :=
        .cons ⟨p1, rfl, sD _ _ (sC _ _ (sB _ _ upd_same))⟩ (.cons ⟨p2, rfl, sD _ _ (sC _ _ upd_same)⟩ (.cons ⟨p3, rfl, sD _ _ upd_same⟩ .nil))
      have hl5' := upd_same (H := (upd (upd (upd H4 p1 (.tup [.int x1, .int x2, .int (4 + (j : Nat))])) p2 (.tup [.int x1, .int x3, .int (4 + (j : Nat))])) p3 (.tup [.int x2, .int x3, .int (4 + (j : Nat))]))) (a := l5) (o := .lst [.ref p1, .ref p2, .ref p3])
      revert sF tn hl5'
      generalize upd (upd (upd (upd H4 p1 (.tup [.int x1, .int x2, .int (4 + (j : Nat))])) p2 (.tup [.int x1, .int x3, .int (4 + (j : Nat))])) p3 (.tup [.int x2, .int x3, .int (4 + (j : Nat))])) l5 (.lst [.ref p1, .ref p2, .ref p3]) = H5
      intro sF tn hl5'
      refine ⟨l, l5, _, _, rfl, rfl, sF _ _ hl4, hl5', ?_, fun l6 hl6 => ?_⟩
      · have := List.length_eraseIdx_le ys i
        exact Nat.le_trans (by simp; omega : _ ≤ 100) (by decide)
      · have sG := same_new (o := .lst (ys.eraseIdx i ++ [.ref p1, .ref p2, .ref p3])) hl6
        have b6 : But r H H5 := b4.trans sF.but
        obtain ⟨ps, pl2⟩ := part_surf sf hti (v := 4 + (j : Nat)) (by omega)
        have hl6H : H l6 = none := by
          by_cases z : l6 = r
          · obtain ⟨xs, hx⟩ := (hr4.mono sF).lst
            rw [z, hx] at hl6; cases hl6
          · cases e : H l6 with
            | none => rfl
            | some o => rw [b6 _ _ z e] at hl6; cases hl6
        refine ⟨l6, _, _, _, _, _, _, rfl, b6.new hl6, (hr4.mono sF).mono sG, upd_same, hl6H, papp ((ty4.mono sF.keep).mono sG.keep) (tn.mono sG.keep), ?_, ?_⟩
        · have e : ((4 : Int) + ((j + 1 : Nat) : Int)) = 4 + (j : Nat) + 1 := by omega
          rw [e]
          exact ps
        · rw [pl2]; omega
    · rintro σ H2 ⟨l, ys, T1, v3, v4, v5, v6, rfl, b2, hr2, hl2, hl0, ty, sf, len⟩
      refine ⟨_, rfl, r, _, sc, ns, rfl, hr2, by omega, by omega, fun H3 k b3 hr3 hk0 hk => ⟨_, rfl, by omega, by omega, ?_⟩⟩
      have b13 : But r H H3 := b2.trans b3
      refine for_rng (n := k.toNat) (fun j σ H' => ∃ l ys T v3 v4 v5 v6 v7 v8 v9, σ = [some (.ref r), some (.int many), some (.ref l), v3, v4, v5, v6, v7, v8, v9] ∧ But r H H' ∧ RowOk K H' r sc ns ∧ H' l = some (.lst ys) ∧ H l = none ∧ TL H' ys T ∧ SurfL T 29 ∧ T.length ≤ 12)
        ⟨l, ys, T1, v3, v4, v5, v6, none, none, none, rfl, b13, hr3, b3 _ _ (rne hl0) hl2, hl0, ty.mono (b3.keep hr2.lst), sf.mono (by omega), by omega⟩ ?_ ?_
      · rintro j σ H4 hj ⟨l, ys, T1, v3, v4, v5, v6, v7, v8, v9, rfl, b4, hr4, hl4, hl0, ty, sf, len⟩
        have len3 : ∀ t ∈ T1, t.length = 3 := fun t ht => (sf.tri t ht).len
        refine ⟨_, rfl, l, ys, T1, rfl, .inl (.of hl4), ty, len3, by omega, fun H5 d kvs s5 hd0 hd wd => ?_⟩
        obtain ⟨G, hG, nG, hE, lG, mG⟩ := edges_of_dict wd
        refine ⟨_, rfl, _, rfl, d, kvs, rfl, .inl hd, fun l1 bs hl1 hb => ?_⟩
        have tl := keys_TL hb hG
        have sL := same_new (o := .lst (bs.map V.ref)) hl1
        unfold tNil
        refine sortT (K := K) (.inl (.of upd_same)) (tl.mono sL.keep) (fun t ht => ?_) fun l2 zs E hl2 tz pm wk => ?_
        · obtain ⟨u, hu⟩ := (mG t).mp ht
          intro e
          have := edge_len len3 hu
          rw [e] at this
          cases this
        · have eE := hE E pm wk
          have s56 := (s5.trans sL).new (o := .lst zs) hl2
          have b6 : But r H _ := b4.trans s56.but
          have hr6 := hr4.mono s56
          have hl6 := s56 _ _ hl4
          have ty6 := ty.mono s56.keep
          have hz6 := upd_same (H := upd H5 l1 (.lst (bs.map V.ref))) (a := l2) (o := .lst zs)
          have l2r : l2 ≠ r := fun z => by
            obtain ⟨xs, hx⟩ := (hr4.mono (s5.trans sL)).lst
            rw [z, hx] at hl2; cases hl2
          revert b6 hr6 hl6 ty6 hz6 tz
          generalize upd (upd H5 l1 (.lst (bs.map V.ref))) l2 (.lst zs) = H6
          intro tz b6 hr6 hl6 ty6 hz6
          have lzs := pl tz
          have lE := edges_len sf eE
          have nE := List.length_pos_iff.mpr (edges_ne sf eE)
          refine ⟨r, l2, zs, sc, ns, rfl, hr6, hz6, l2r, by omega, by omega, fun H7 x i b7 hr7 hx => ?_⟩
          obtain ⟨e, hei, tx⟩ := pget tz hx
          obtain ⟨t, het⟩ := (eE.2 e).mp (List.mem_of_getElem? hei)
          have k7 : Keep H6 H7 := b7.keep hr6.lst
          have hl7 := b7 _ _ (rne hl0) hl6
          refine ⟨_, rfl, _, rfl, l, x, ys, e, T1, rfl, .inl (.of hl7), ty6.mono k7, tx.mono k7, len3, by omega, edge_len len3 het, fun H8 y R s8 hy pmR wkR => ?_⟩
          obtain ⟨ra, vr, rfl, hra, tr⟩ := hy
          obtain ⟨sR, lR⟩ := flipM_surf sf het
          refine ⟨ra, vr, rfl, .inr (.of hra), fun l9 hl9 => ?_⟩
          have s89 := same_new (o := .lst vr) hl9
          have b8 : But r H H8 := (b6.trans b7).trans s8.but
          have hl9H : H l9 = none := by
            by_cases z : l9 = r
            · obtain ⟨xs, hx⟩ := (hr7.mono s8).lst
              rw [z, hx] at hl9; cases hl9
            · cases e : H l9 with
              | none => rfl
              | some o => rw [b8 _ _ z e] at hl9; cases hl9
          exact ⟨l9, vr, R, _, _, _, _, _, _, _, rfl, b8.new hl9, (hr7.mono s8).mono s89, upd_same, hl9H, tr.mono s89.keep, sR.perm pmR, by rw [pmR.length_eq, lR]; exact len⟩
      · rintro σ H4 ⟨l, ys, T1, v3, v4, v5, v6, v7, v8, v9, rfl, b4, hr4, hl4, hl0, ty, sf, len⟩
        refine ⟨_, rfl, ?_⟩
        unfold tNil
        refine sortT (K := K) (.inl (.of hl4)) ty (fun t ht e => by have := (sf.tri t ht).len; rw [e] at this; cases this) fun p2 zs2 R hp2 tz pm2 wk => ?_
        exact ⟨p2, zs2, rfl, .inl ⟨.of upd_same, fun l3 hl3 => q _ _ R ((b4.new hp2).new hl3) ((hr4.mono (same_new hp2)).mono (same_new hl3)) ⟨l3, zs2, rfl, upd_same, tz.mono (keep_new hl3)⟩ (surfT_of sf (by omega) (by omega) pm2 wk)⟩⟩
end
end Fl

set_option Elab.async false
set_option linter.all false
set_option maxRecDepth 100000
set_option maxHeartbeats 4000000
namespace Fl
open PySem PySem.Spec PyProof.Rows L2
section
variable {P : Program} {w : World} {K : PySem.W.Frag} {mg : Str → Option Value} {base : Heap} {A : Ad}
/-- written triples -/
def tTris : List (Int × Int × Int) → TA
  | [] => tNil
  | p :: L => tCons (tTup (tCons (tC (.int p.1)) (tCons (tC (.int p.2.1)) (tCons (tC (.int p.2.2)) tNil)))) (tTris L)
def lTri (L : List (Int × Int × Int)) : List (List Int) := L.map fun p => [p.1, p.2.1, p.2.2]
theorem tris_read : ∀ (L : List (Int × Int × Int)) (σ : L2.St) (H : Hp) (Q : List V → Hp → Prop), (∀ H' vs, Same H H' → TL H' vs (lTri L) → Q vs H') → tTris L σ H Q
  | [], σ, H, Q, q => q H [] (Same.refl _) .nil
  | p :: L, σ, H, Q, q => ⟨(by show 3 ≤ sizeLine; decide), fun a ha => tris_read L σ _ _ fun H' vs s h => q H' _ ((same_new ha).trans s) (.cons ⟨a, rfl, s _ _ upd_same⟩ h)⟩
theorem seq_tris {g : TG} {rest : TS} {D : Ends} {σ : L2.St} {H : Hp} (L : List (Int × Int × Int)) (hl : L.length ≤ 1000) (q : ∀ H' p vs, Same H H' → H' p = some (.tup vs) → TL H' vs (lTri L) → g (.ref p) σ H' (rest D)) : tSeq (tAsg (tTup (tTris L)) g) rest D σ H := by
  refine tris_read L σ H _ fun H' vs s h => ⟨?_, fun p hp => q _ p vs (s.new hp) upd_same (h.mono (keep_new hp))⟩
  have := pl h
  unfold lTri at this
  rw [List.length_map] at this
  rw [this]
  exact Nat.le_trans hl (by decide)
def torA (j : Nat) : List Int := match j with | 0 => [0, 1, 3] | 1 => [1, 2, 4] | 2 => [2, 3, 5] | 3 => [3, 4, 6] | 4 => [0, 4, 5] | 5 => [1, 5, 6] | _ => [0, 2, 6]
def torB (j : Nat) : List Int := match j with | 0 => [0, 2, 3] | 1 => [1, 3, 4] | 2 => [2, 4, 5] | 3 => [3, 5, 6] | 4 => [0, 4, 6] | 5 => [0, 1, 5] | _ => [1, 2, 6]
def torT (j : Nat) : List (List Int) := (List.range j).flatMap fun i => [torA i, torB i]
theorem torA_ok : ∀ j, j < 7 → (torA j).Perm [(j : Int), Int.fmod (j + 1) 7, Int.fmod (j + 3) 7] ∧ (torA j).Pairwise (· ≤ ·) := by decide +kernel
theorem torB_ok : ∀ j, j < 7 → (torB j).Perm [(j : Int), Int.fmod (j + 2) 7, Int.fmod (j + 3) 7] ∧ (torB j).Pairwise (· ≤ ·) := by decide +kernel
theorem torT_perm : (torT 7).Perm torusU := by decide +kernel
theorem torT_succ (j : Nat) : torT (j + 1) = torT j ++ [torA j] ++ [torB j] := by
  unfold torT
  rw [List.range_succ, List.flatMap_append]
  simp
theorem torT_len : ∀ j, (torT j).length = 2 * j
  | 0 => rfl
  | j + 1 => by
    rw [torT_succ, List.length_append, List.length_append, torT_len j]
    simp
    omega
theorem wk_base : Wk baseU := by unfold Wk; decide +kernel
theorem wk_plane : Wk planeU := by unfold Wk; decide +kernel
theorem wk_torus : Wk torusU := by unfold Wk; decide +kernel
/-- a surface of the menu -/
structure MenuOk (U : List (List Int)) : Prop where
  wk : Wk U
  ex : ∃ (k o0 o1 o2 : Int) (Ut : List (List Int)), U = [o0, o1, o2] :: Ut ∧ SurfL U k ∧ Opens (MT U) o0 o1 o2 ∧ k ≤ 7 ∧ U.length ≤ 14
theorem menu_base : MenuOk baseU := ⟨wk_base, 4, 0, 1, 2, _, rfl, base_surf, base_op, by omega, by decide⟩
theorem menu_plane : MenuOk planeU := ⟨wk_plane, 6, 0, 1, 2, _, rfl, plane_surf, plane_op, by omega, by decide⟩
theorem menu_torus : MenuOk torusU := ⟨wk_torus, 7, 0, 1, 3, _, rfl, torus_surf, torus_op, by omega, by decide⟩
/-- the menu stands at lm -/
def Menu (H : Hp) (lm : Addr) : Prop := ∃ vm, H lm = some (.lst vm) ∧ vm.length = 3 ∧ ∀ x ∈ vm, ∃ px vx U, x = .ref px ∧ H px = some (.tup vx) ∧ TL H vx U ∧ MenuOk U
theorem Menu.but {H H' : Hp} {lm r : Addr} (m : Menu H lm) (b : But r H H') (hne : lm ≠ r) (hr : ∃ xs, H r = some (.lst xs)) : Menu H' lm := by
  obtain ⟨vm, h1, h2, h3⟩ := m
  have k := b.keep hr
  refine ⟨vm, b _ _ hne h1, h2, fun x hx => ?_⟩
  obtain ⟨px, vx, U, e, h4, h5, h6⟩ := h3 x hx
  exact ⟨px, vx, U, e, k _ _ h4, h5.mono k, h6⟩
theorem Menu.mono {H H' : Hp} {lm : Addr} (m : Menu H lm) (s : Same H H') : Menu H' lm := by
  obtain ⟨vm, h1, h2, h3⟩ := m
  refine ⟨vm, s _ _ h1, h2, fun x hx => ?_⟩
  obtain ⟨px, vx, U, e, h4, h5, h6⟩ := h3 x hx
  exact ⟨px, vx, U, e, s _ _ h4, h5.mono s.keep, h6⟩
def BP (H : Hp) (pb pp : Addr) (vb vp : List V) : Prop := H pb = some (.tup vb) ∧ TL H vb baseU ∧ H pp = some (.tup vp) ∧ TL H vp planeU
theorem BP.keep {H H' : Hp} {pb pp : Addr} {vb vp : List V} (b : BP H pb pp vb vp) (k : Keep H H') : BP H' pb pp vb vp := ⟨k _ _ b.1, b.2.1.mono k, k _ _ b.2.2.1, b.2.2.2.mono k⟩
theorem surf_ne {T : List (List Int)} {n : Int} (S : SurfL T n) : ∀ t ∈ T, t ≠ [] := fun t ht e => by have := (S.tri t ht).len; rw [e] at this; cases this
theorem menu_ne {U : List (List Int)} (m : MenuOk U) : ∀ t ∈ U, t ≠ [] := by
  obtain ⟨k, o0, o1, o2, Ut, e, sf, _⟩ := m.ex
  exact surf_ne sf
theorem tor_ne : ∀ t ∈ torT 7, t ≠ [] := fun t ht => surf_ne torus_surf t (torT_perm.mem_iff.mp ht)
theorem none_of {H H' : Hp} {r p : Addr} (b : But r H H') (hr : ∃ xs, H' r = some (.lst xs)) (hp : H' p = none) : H p = none ∧ p ≠ r := by
  have hne : p ≠ r := fun z => by obtain ⟨xs, hx⟩ := hr; rw [z, hx] at hp; cases hp
  refine ⟨?_, hne⟩
  cases e : H p with
  | none => rfl
  | some o => rw [b _ _ hne e] at hp; cases hp
/-- xs[:i] + xs[i + 1:] of a list -/
theorem cut_outL {K : PySem.W.Frag} {σ : L2.St} {H : Hp} {i j : Nat} {a : Addr} {ys : List V} {m : Nat} {Q : VK} (hi : σ[i]? = some (some (.ref a))) (hj : σ[j]? = some (some (.int (m : Nat)))) (ha : H a = some (.lst ys)) (hl : ys.length ≤ 1000)
    (q : ∀ H' p, Same H H' → H p = none → H' p = some (.lst (ys.eraseIdx m)) → Q (.ref p) H') : tOp rCat (tSl (rSlL K) (tVar i) tNoPart (tPart (tVar j))) (tSl (rSlL K) (tVar i) (tPart (tOp (rI0 fun i j => V.int (i + j)) (tVar j) (tC (V.int 1)))) tNoPart) σ H Q := by
  refine ⟨_, hi, _, hj, _, rfl, a, ys, rfl, .of ha, fun p1 hp1 => ?_⟩
  have s1 := same_new (o := .lst (cutV ys none (some (m : Nat)))) hp1
  refine ⟨_, hi, _, hj, _, _, rfl, rfl, _, rfl, a, ys, rfl, .of (s1 _ _ ha), fun p2 hp2 => ?_⟩
  have s2 := same_new (o := .lst (cutV ys (some ((m : Nat) + 1)) none)) hp2
  have e1 : cutV ys none (some (m : Nat)) = ys.take m := cut_to ys m
  have e2 : cutV ys (some ((m : Int) + 1)) none = ys.drop (m + 1) := by
    have := cut_from ys (m + 1)
    rw [← this]
    rfl
  refine ⟨p1, p2, _, _, rfl, rfl, s2 _ _ upd_same, upd_same, ?_, fun p3 hp3 => ?_⟩
  · rw [e1, e2, List.length_take, List.length_drop]
    exact Nat.le_trans (by omega : _ ≤ 2000) (by decide)
  · refine q _ p3 ((s1.trans s2).new hp3) ((s1.trans s2).free hp3) ?_
    rw [upd_same, e1, e2, List.eraseIdx_eq_take_drop_succ]
theorem asg_sort_cat {K : PySem.W.Frag} {σ : L2.St} {H : Hp} {i j : Nat} {a : Addr} {ys : List V} {m : Nat} {te2 : TE} {g : TG} {D : Ends} (hi : σ[i]? = some (some (.ref a))) (hj : σ[j]? = some (some (.int (m : Nat)))) (ha : H a = some (.lst ys)) (hl : ys.length ≤ 1000)
    (q : ∀ H' p, Same H H' → H p = none → H' p = some (.lst (ys.eraseIdx m)) → te2 σ H' fun y H2 => rCat (.ref p) y H2 fun z H3 => rSortX K [z] H3 fun v H4 => g v σ H4 D.nx) :
    tAsg (tCB (rSortX K) (tCons (tOp rCat (tOp rCat (tSl (rSlL K) (tVar i) tNoPart (tPart (tVar j))) (tSl (rSlL K) (tVar i) (tPart (tOp (rI0 fun i j => V.int (i + j)) (tVar j) (tC (V.int 1)))) tNoPart)) te2) tNil)) g D σ H :=
  cut_outL (Q := fun x H1 => te2 σ H1 fun y H2 => rCat x y H2 fun z H3 => rSortX K [z] H3 fun v H4 => g v σ H4 D.nx) hi hj ha hl q
theorem seq_asg_cut {K : PySem.W.Frag} {σ : L2.St} {H : Hp} {i j : Nat} {a : Addr} {ys : List V} {m : Nat} {rest : TS} {g : TG} {D : Ends} (hi : σ[i]? = some (some (.ref a))) (hj : σ[j]? = some (some (.int (m : Nat)))) (ha : H a = some (.lst ys)) (hl : ys.length ≤ 1000)
    (q : ∀ H' p, Same H H' → H p = none → H' p = some (.lst (ys.eraseIdx m)) → g (.ref p) σ H' (rest D)) :
    tSeq (tAsg (tOp rCat (tSl (rSlL K) (tVar i) tNoPart (tPart (tVar j))) (tSl (rSlL K) (tVar i) (tPart (tOp (rI0 fun i j => V.int (i + j)) (tVar j) (tC (V.int 1)))) tNoPart)) g) rest D σ H :=
  cut_outL (Q := fun x H1 => g x σ H1 (rest D)) hi hj ha hl q
def last3 (t : List Int) : Int := t.getD 2 0
theorem surf_max {T : List (List Int)} {n M : Int} (S : SurfL T n) (hM : M ∈ T.map last3) (hle : ∀ y, y ∈ T.map last3 → y ≤ M) : SurfL T (M + 1) ∧ M + 1 ≤ n := by
  refine ⟨⟨fun t ht => ?_, S.nd, S.sr, S.ne⟩, ?_⟩
  · obtain ⟨a, b, c, rfl, h0, h1, h2, h3⟩ := S.tri t ht
    have := hle c (List.mem_map.mpr ⟨_, ht, rfl⟩)
    exact ⟨a, b, c, rfl, h0, h1, h2, by omega⟩
  · obtain ⟨t, ht, rfl⟩ := List.mem_map.mp hM
    obtain ⟨a, b, c, rfl, h0, h1, h2, h3⟩ := S.tri t ht
    show c + 1 ≤ n
    omega
def spSurface (K : PySem.W.Frag) : Sp := fun vs H Q _ => ∃ r sc ns, vs = [.ref r] ∧ RowOk K H r sc ns ∧ ∀ H' y T, But r H H' → RowOk K H' r sc ns → TT' H' y T → SurfT T → Q y H'
theorem ok_surface (T : Tx K mg A) (G__law_taken : FnOk P w K mg base CX0 1 A.f__law_taken A.fd__law_taken ["_law_row", "_law_many"] (spTaken K)) (G__law_pick : FnOk P w K mg base CX0 2 A.f__law_pick A.fd__law_pick ["_law_row", "_law_things"] (spPick K)) :
    FnOk P w K mg base CX0 3 A.f__law_surface A.fd__law_surface ["_law_row"] (spSurface K) := by
  refine T.F__law_surface.ok sc__law_surface (fun vs H Q E h => ?_) (fun cdv Ar outer s H vs Q E hr h => ⟨_, (pss_cons (ps_set (i := 1) sc__law_surface.nd rfl (by first | exact Or.inl rfl | exact Or.inr rfl) (pe_tup (pa_cons (pe_tup (pa_cons pe_int (pa_cons pe_int (pa_cons pe_int pa_nil)))) (pa_cons (pe_tup (pa_cons pe_int (pa_cons pe_int (pa_cons pe_int pa_nil)))) (pa_cons (pe_tup (pa_cons pe_int (pa_cons pe_int (pa_cons pe_int pa_nil)))) (pa_cons (pe_tup (pa_cons pe_int (pa_cons pe_int (pa_cons pe_int pa_nil)))) pa_nil))))))
    (pss_cons (ps_set (i := 2) sc__law_surface.nd rfl (by first | exact Or.inl rfl | exact Or.inr rfl) (pe_tup (pa_cons (pe_tup (pa_cons pe_int (pa_cons pe_int (pa_cons pe_int pa_nil)))) (pa_cons (pe_tup (pa_cons pe_int (pa_cons pe_int (pa_cons pe_int pa_nil)))) (pa_cons (pe_tup (pa_cons pe_int (pa_cons pe_int (pa_cons pe_int pa_nil)))) (pa_cons (pe_tup (pa_cons pe_int (pa_cons pe_int (pa_cons pe_int pa_nil)))) (pa_cons (pe_tup (pa_cons pe_int (pa_cons pe_int (pa_cons pe_int pa_nil)))) (pa_cons (pe_tup (pa_cons pe_int (pa_cons pe_int (pa_cons pe_int pa_nil)))) (pa_cons (pe_tup (pa_cons pe_int (pa_cons pe_int (pa_cons pe_int pa_nil)))) (pa_cons (pe_tup (pa_cons pe_int (pa_cons pe_int (pa_cons pe_int pa_nil)))) (pa_cons (pe_tup (pa_cons pe_int (pa_cons pe_int (pa_cons pe_int pa_nil)))) (pa_cons (pe_tup (pa_cons pe_int (pa_cons pe_int (pa_cons pe_int pa_nil)))) pa_nil))))))))))))
    (pss_cons (ps_set (i := 3) sc__law_surface.nd rfl (by first | exact Or.inl rfl | exact Or.inr rfl) (pe_lst pa_nil))
    (pss_cons (ps_for PassesOwn.never rfl (pi_range1 (by rfl) (T.nb "range" (by decide)) (pa_cons pe_int pa_nil)) (pg_name (i := 4) sc__law_surface.nd rfl (by first | exact Or.inl rfl | exact Or.inr rfl))
    (pss_cons (ps_expr (pe_bm PySem.F.plainAttrs_list PySem.F.slot_list_append PySem.F.type_list_append mt_append (pv 3) (pa_cons (pe_callTy (call_tuple_ofK K) (by rfl) (T.nb "tuple" (by decide)) (by decide +kernel) (pa_cons (pe_callB (cr_sortNK K) (by rfl) (T.nb "sorted" (by decide)) (by decide +kernel) (pa_cons (pe_lst (pa_cons (pv 4) (pa_cons (pe_op op_modN (pe_callTy call_int1 (by rfl) (T.nb "int" (by decide)) (by decide +kernel) (pa_cons (pe_op op_add (pv 4) pe_int) pa_nil)) pe_int) (pa_cons (pe_op op_modN (pe_callTy call_int1 (by rfl) (T.nb "int" (by decide)) (by decide +kernel) (pa_cons (pe_op op_add (pv 4) pe_int) pa_nil)) pe_int) pa_nil)))) pa_nil)) pa_nil)) pa_nil)))
    (pss_one (ps_expr (pe_bm PySem.F.plainAttrs_list PySem.F.slot_list_append PySem.F.type_list_append mt_append (pv 3) (pa_cons (pe_callTy (call_tuple_ofK K) (by rfl) (T.nb "tuple" (by decide)) (by decide +kernel) (pa_cons (pe_callB (cr_sortNK K) (by rfl) (T.nb "sorted" (by decide)) (by decide +kernel) (pa_cons (pe_lst (pa_cons (pv 4) (pa_cons (pe_op op_modN (pe_callTy call_int1 (by rfl) (T.nb "int" (by decide)) (by decide +kernel) (pa_cons (pe_op op_add (pv 4) pe_int) pa_nil)) pe_int) (pa_cons (pe_op op_modN (pe_callTy call_int1 (by rfl) (T.nb "int" (by decide)) (by decide +kernel) (pa_cons (pe_op op_add (pv 4) pe_int) pa_nil)) pe_int) pa_nil)))) pa_nil)) pa_nil)) pa_nil))))))
    (pss_cons (ps_set (i := 5) sc__law_surface.nd rfl (by first | exact Or.inl rfl | exact Or.inr rfl) (pe_lst (pa_cons (pv 1) (pa_cons (pv 2) (pa_cons (pe_callTy (call_tuple_ofK K) (by rfl) (T.nb "tuple" (by decide)) (by decide +kernel) (pa_cons (pe_callB (cr_sortXK K) (by rfl) (T.nb "sorted" (by decide)) (by decide +kernel) (pa_cons (pv 3) pa_nil)) pa_nil)) pa_nil)))))
    (pss_cons (ps_set (i := 6) sc__law_surface.nd rfl (by first | exact Or.inl rfl | exact Or.inr rfl) (pe_callB (cr_sortXK K) (by rfl) (T.nb "sorted" (by decide)) (by decide +kernel) (pa_cons (pe_call G__law_pick (hr.mono (by first | decide | exact Nat.le_refl _)) (by rfl) T.g__law_pick T.k__law_pick T.bd__law_pick .nil pass0 (pa_cons (pv 0) (pa_cons (pv 5) pa_nil))) pa_nil)))
    (pss_cons (ps_for PassesOwn.never rfl (pi_range1 (by rfl) (T.nb "range" (by decide)) (pa_cons (pe_call G__law_taken (hr.mono (by first | decide | exact Nat.le_refl _)) (by rfl) T.g__law_taken T.k__law_taken T.bd__law_taken .nil pass0 (pa_cons (pv 0) (pa_cons pe_int pa_nil))) pa_nil)) (pg_name (i := 7) sc__law_surface.nd rfl (by first | exact Or.inl rfl | exact Or.inr rfl))
    (pss_cons (ps_par (i := 8) (j := 9) rfl sc__law_surface.nd rfl rfl (by decide) rfl rfl (pa_cons (pe_callB (cr_sortXK K) (by rfl) (T.nb "sorted" (by decide)) (by decide +kernel) (pa_cons (pe_call G__law_pick (hr.mono (by first | decide | exact Nat.le_refl _)) (by rfl) T.g__law_pick T.k__law_pick T.bd__law_pick .nil pass0 (pa_cons (pv 0) (pa_cons (pv 5) pa_nil))) pa_nil)) (pa_cons (pe_op op_add (pe_callB (cr_maxK K rfl) (by rfl) (T.nb "max" (by decide)) (by decide +kernel) (pa_cons (pe_lc (own := [("_law_top", 16)]) (g := (gName 16)) rfl sc__law_surface.nd (pi_listK K (pv 6)) (blkOk_by (N := N__law_surface) (sc := defScope s__law_surface) (by decide +kernel)) (fun _ _ _ _ _ => (pg_name (i := 16) sc__law_surface.nd rfl (by first | exact Or.inl rfl | exact Or.inr rfl))) (fun _ _ _ _ _ => pts_nil) (fun _ _ _ _ _ => (pe_ix (ix_tupK K) (pv 16) pe_int (fun _ _ => rfl)))) pa_nil)) pe_int) pa_nil)) (by rfl))
    (pss_cons (ps_set (i := 10) sc__law_surface.nd rfl (by first | exact Or.inl rfl | exact Or.inr rfl) (pe_call G__law_taken (hr.mono (by first | decide | exact Nat.le_refl _)) (by rfl) T.g__law_taken T.k__law_taken T.bd__law_taken .nil pass0 (pa_cons (pv 0) (pa_cons (pe_callB (call_len_seqK K) (by rfl) (T.nb "len" (by decide)) PySem.boot_len (pa_cons (pv 6) pa_nil)) pa_nil))))
    (pss_cons (ps_set (i := 11) sc__law_surface.nd rfl (by first | exact Or.inl rfl | exact Or.inr rfl) (pe_dictZip rfl (by rfl) (T.nb "dict" (by decide)) (by rfl) (T.nb "zip" (by decide)) (pa_cons (pe_ix (ix_listK K) (pv 8) pe_int (fun _ _ => rfl)) (pa_cons (pe_ix (ix_listK K) (pv 6) (pv 10) (fun _ _ => rfl)) pa_nil))))
    (pss_cons (ps_for PassesOwn.never rfl (pi_range1 (by rfl) (T.nb "range" (by decide)) (pa_cons (pe_op op_add (pe_callB (cr_maxK K rfl) (by rfl) (T.nb "max" (by decide)) (by decide +kernel) (pa_cons (pe_lc (own := [("_law_top", 16)]) (g := (gName 16)) rfl sc__law_surface.nd (pi_listK K (pv 8)) (blkOk_by (N := N__law_surface) (sc := defScope s__law_surface) (by decide +kernel)) (fun _ _ _ _ _ => (pg_name (i := 16) sc__law_surface.nd rfl (by first | exact Or.inl rfl | exact Or.inr rfl))) (fun _ _ _ _ _ => pts_nil) (fun _ _ _ _ _ => (pe_ix (ix_tupK K) (pv 16) pe_int (fun _ _ => rfl)))) pa_nil)) pe_int) pa_nil)) (pg_name (i := 12) sc__law_surface.nd rfl (by first | exact Or.inl rfl | exact Or.inr rfl))
    (pss_one (ps_if (pt_cmp (pc_dnotin (hu_of hr) (pv 12) (pv 11))) (pss_one (ps_asg (pe_tup (pa_cons (pv 9) (pa_cons (pe_op op_add (pv 9) pe_int) pa_nil))) (pg_tupK K rfl (pgs_cons (pg_sub (pv 11) (pv 12) (set_dict (hu_of hr))) (pgs_cons (pg_name (i := 9) sc__law_surface.nd rfl (by first | exact Or.inl rfl | exact Or.inr rfl)) pgs_nil))))) pss_nil)))
    (pss_cons (ps_set (i := 6) sc__law_surface.nd rfl (by first | exact Or.inl rfl | exact Or.inr rfl) (pe_op op_cat (pe_slice (sl_listK K) (pv 6) po_none (po_some (pv 10))) (pe_slice (sl_listK K) (pv 6) (po_some (pe_op op_add (pv 10) pe_int)) po_none)))
    (pss_one (ps_set (i := 6) sc__law_surface.nd rfl (by first | exact Or.inl rfl | exact Or.inr rfl) (pe_callB (cr_sortXK K) (by rfl) (T.nb "sorted" (by decide)) (by decide +kernel) (pa_cons (pe_op op_cat (pv 6) (pe_lc (own := [("_law_top", 16)]) (g := (gName 16)) rfl sc__law_surface.nd (pi_listK K (pe_slice (sl_listK K) (pv 8) (po_some pe_int) po_none)) (blkOk_by (N := N__law_surface) (sc := defScope s__law_surface) (by decide +kernel)) (fun _ _ _ _ _ => (pg_name (i := 16) sc__law_surface.nd rfl (by first | exact Or.inl rfl | exact Or.inr rfl))) (fun _ _ _ _ _ => pts_nil) (fun _ _ _ _ _ => (pe_callTy (call_tuple_ofK K) (by rfl) (T.nb "tuple" (by decide)) (by decide +kernel) (pa_cons (pe_callB (cr_sortNK K) (by rfl) (T.nb "sorted" (by decide)) (by decide +kernel) (pa_cons (pe_lc (own := [("_law_vertex", 12)]) (g := (gName 12)) rfl sc__law_surface.nd (pi_tupK K (pv 16)) (blkOk_by (N := N__law_surface) (sc := { kind := .function, names := [(PySem.Str.ofString ".0", .local), (PySem.Str.ofString "_law_top", .local), (PySem.Str.ofString "tuple", .globalImplicit), (PySem.Str.ofString "sorted", .globalImplicit), (PySem.Str.ofString "_law_names", .cell)], isGenerator := false, isCoroutine := false, more := [] }) (by decide +kernel)) (fun _ _ _ _ _ => (pg_name (i := 12) sc__law_surface.nd rfl (by first | exact Or.inl rfl | exact Or.inr rfl))) (fun _ _ _ _ _ => pts_nil) (fun _ _ _ _ _ => (pe_dget (hu_of hr) (pv 11) (pv 12) (fun _ _ => rfl)))) pa_nil)) pa_nil))))) pa_nil))))))))))
    (pss_cons (ps_for PassesOwn.never rfl (pi_range1 (by rfl) (T.nb "range" (by decide)) (pa_cons (pe_call G__law_taken (hr.mono (by first | decide | exact Nat.le_refl _)) (by rfl) T.g__law_taken T.k__law_taken T.bd__law_taken .nil pass0 (pa_cons (pv 0) (pa_cons pe_int pa_nil))) pa_nil)) (pg_name (i := 7) sc__law_surface.nd rfl (by first | exact Or.inl rfl | exact Or.inr rfl))
    (pss_cons (ps_par (i := 10) (j := 9) rfl sc__law_surface.nd rfl rfl (by decide) rfl rfl (pa_cons (pe_call G__law_taken (hr.mono (by first | decide | exact Nat.le_refl _)) (by rfl) T.g__law_taken T.k__law_taken T.bd__law_taken .nil pass0 (pa_cons (pv 0) (pa_cons (pe_callB (call_len_seqK K) (by rfl) (T.nb "len" (by decide)) PySem.boot_len (pa_cons (pv 6) pa_nil)) pa_nil))) (pa_cons (pe_op op_add (pe_callB (cr_maxK K rfl) (by rfl) (T.nb "max" (by decide)) (by decide +kernel) (pa_cons (pe_lc (own := [("_law_top", 16)]) (g := (gName 16)) rfl sc__law_surface.nd (pi_listK K (pv 6)) (blkOk_by (N := N__law_surface) (sc := defScope s__law_surface) (by decide +kernel)) (fun _ _ _ _ _ => (pg_name (i := 16) sc__law_surface.nd rfl (by first | exact Or.inl rfl | exact Or.inr rfl))) (fun _ _ _ _ _ => pts_nil) (fun _ _ _ _ _ => (pe_ix (ix_tupK K) (pv 16) pe_int (fun _ _ => rfl)))) pa_nil)) pe_int) pa_nil)) (by rfl))
    (pss_cons (ps_asg (pe_ix (ix_listK K) (pv 6) (pv 10) (fun _ _ => rfl)) (pg_tupK K rfl (pgs_cons (pg_name (i := 13) sc__law_surface.nd rfl (by first | exact Or.inl rfl | exact Or.inr rfl)) (pgs_cons (pg_name (i := 14) sc__law_surface.nd rfl (by first | exact Or.inl rfl | exact Or.inr rfl)) (pgs_cons (pg_name (i := 15) sc__law_surface.nd rfl (by first | exact Or.inl rfl | exact Or.inr rfl)) pgs_nil)))))
    (pss_one (ps_set (i := 6) sc__law_surface.nd rfl (by first | exact Or.inl rfl | exact Or.inr rfl) (pe_callB (cr_sortXK K) (by rfl) (T.nb "sorted" (by decide)) (by decide +kernel) (pa_cons (pe_op op_cat (pe_op op_cat (pe_slice (sl_listK K) (pv 6) po_none (po_some (pv 10))) (pe_slice (sl_listK K) (pv 6) (po_some (pe_op op_add (pv 10) pe_int)) po_none)) (pe_lst (pa_cons (pe_tup (pa_cons (pv 13) (pa_cons (pv 14) (pa_cons (pv 9) pa_nil)))) (pa_cons (pe_tup (pa_cons (pv 13) (pa_cons (pv 15) (pa_cons (pv 9) pa_nil)))) (pa_cons (pe_tup (pa_cons (pv 14) (pa_cons (pv 15) (pa_cons (pv 9) pa_nil)))) pa_nil))))) pa_nil)))))))
    (pss_one (ps_ret (pe_callTy (call_tuple_ofK K) (by rfl) (T.nb "tuple" (by decide)) (by decide +kernel) (pa_cons (pv 6) pa_nil)))))))))))), ?_⟩)
  · obtain ⟨r, sc, ns, rfl, _⟩ := h; rfl
  · obtain ⟨r, sc, ns, rfl, hrow, q⟩ := h
    refine seq_tris [(0, 1, 2), (0, 1, 3), (0, 2, 3), (1, 2, 3)] (by decide) fun H1 pb vb s1 hb tb => ?_
    refine seq_tris [(0, 1, 2), (0, 1, 3), (0, 2, 4), (0, 3, 5), (0, 4, 5), (1, 2, 5), (1, 3, 4), (1, 4, 5), (2, 3, 4), (2, 3, 5)] (by decide) fun H2 pp vp s2 hp tp => ?_
    have tb : TL H1 vb baseU := tb
    have tp : TL H2 vp planeU := tp
    refine ⟨(by show 0 ≤ sizeLine; decide), fun lt hlt => ?_⟩
    have s3 := same_new (o := .lst []) hlt
    have s03 := (s1.trans s2).trans s3
    have hltH : H lt = none := (s1.trans s2).free hlt
    have bp3 : BP (upd H2 lt (.lst [])) pb pp vb vp := BP.keep ⟨s2 _ _ hb, tb.mono s2.keep, hp, tp⟩ s3.keep
    refine ⟨7, rfl, by decide, by decide, for_rng (n := 7) (fun j σ H' => ∃ ys v4, σ = [some (.ref r), some (.ref pb), some (.ref pp), some (.ref lt), v4, none, none, none, none, none, none, none, none, none, none, none, none] ∧ Same H H' ∧ BP H' pb pp vb vp ∧ H' lt = some (.lst ys) ∧ TL H' ys (torT j))
      ⟨[], none, rfl, s03, bp3, upd_same, .nil⟩ ?_ ?_⟩
    · rintro j σ H4 hj ⟨ys, v4, rfl, s4, bp4, hl4, ty4⟩
      have lys : ys.length = 2 * j := by
        rw [pl ty4, torT_len]
      have step : ∀ (H5 : Hp) (y : V) (t : List Int) (ys5 : List V) (T5 : List (List Int)), Same H H5 → BP H5 pb pp vb vp → H5 lt = some (.lst ys5) → TL H5 ys5 T5 → Ti H5 y t →
          Same H (upd H5 lt (.lst (ys5 ++ [y]))) ∧ BP (upd H5 lt (.lst (ys5 ++ [y]))) pb pp vb vp ∧ TL (upd H5 lt (.lst (ys5 ++ [y]))) (ys5 ++ [y]) (T5 ++ [t]) ∧ upd H5 lt (.lst (ys5 ++ [y])) lt = some (.lst (ys5 ++ [y])) := fun H5 y t ys5 T5 s5 h1 h3 h4 h5 => by
        have k := keep_lst (o := .lst (ys5 ++ [y])) h3
        exact ⟨(s5.but.upd).same hltH, h1.keep k, psnoc (h4.mono k) (h5.mono k), upd_same⟩
      refine ⟨_, rfl, .inl ⟨rfl, _, .of hl4⟩, _, rfl, _, rfl, _, _, rfl, rfl, .inl ⟨_, rfl, _, _, rfl, rfl, (show (7 : Int) ≠ 0 by decide), _, rfl, _, _, rfl, rfl, .inl ⟨_, rfl, _, _, rfl, rfl, (show (7 : Int) ≠ 0 by decide), (by show 3 ≤ sizeLine; decide), fun p1 hp1 => ?_⟩⟩⟩
      refine ⟨p1, [(j : Int), Int.fmod (j + 1) 7, Int.fmod (j + 3) 7], rfl, .inl (.of upd_same), fun ms l2 pm pw hl2 => ⟨l2, _, rfl, .inl ⟨.of upd_same, fun l3 hl3 => ?_⟩⟩⟩
      obtain ⟨a1, a2⟩ := torA_ok j hj
      have em : ms = torA j := le_perm_eq pw a2 (pm.trans a1.symm)
      subst em
      have sA := ((same_new (o := .lst _) hp1).new (o := .lst ((torA j).map V.int)) hl2).new (o := .tup ((torA j).map V.int)) hl3
      obtain ⟨b1, b2, b4, b5⟩ := step _ (.ref l3) (torA j) ys (torT j) (s4.trans sA) (bp4.keep sA.keep) (sA _ _ hl4) (ty4.mono sA.keep) ⟨l3, rfl, upd_same⟩
      refine ⟨lt, ys, _, rfl, rfl, sA _ _ hl4, by rw [lys]; exact Nat.lt_of_le_of_lt (by omega : _ ≤ 14) (by decide), ?_⟩
      refine ⟨_, rfl, .inl ⟨rfl, _, .of b5⟩, _, rfl, _, rfl, _, _, rfl, rfl, .inl ⟨_, rfl, _, _, rfl, rfl, (show (7 : Int) ≠ 0 by decide), _, rfl, _, _, rfl, rfl, .inl ⟨_, rfl, _, _, rfl, rfl, (show (7 : Int) ≠ 0 by decide), (by show 3 ≤ sizeLine; decide), fun p1 hp1 => ?_⟩⟩⟩
      refine ⟨p1, [(j : Int), Int.fmod (j + 2) 7, Int.fmod (j + 3) 7], rfl, .inl (.of upd_same), fun ms l2 pm pw hl2 => ⟨l2, _, rfl, .inl ⟨.of upd_same, fun l3 hl3 => ?_⟩⟩⟩
      obtain ⟨a1, a2⟩ := torB_ok j hj
      have em : ms = torB j := le_perm_eq pw a2 (pm.trans a1.symm)
      subst em
      have sB := ((same_new (o := .lst _) hp1).new (o := .lst ((torB j).map V.int)) hl2).new (o := .tup ((torB j).map V.int)) hl3
      obtain ⟨c1, c2, c4, c5⟩ := step _ (.ref l3) (torB j) _ _ (b1.trans sB) (b2.keep sB.keep) (sB _ _ b5) (b4.mono sB.keep) ⟨l3, rfl, upd_same⟩
      refine ⟨lt, _, _, rfl, rfl, sB _ _ b5, by rw [List.length_append, lys]; exact Nat.lt_of_le_of_lt (by simp; omega : _ ≤ 15) (by decide), _, _, rfl, c1, c2, c5, ?_⟩
      rw [torT_succ]
      exact c4
    · rintro σ H4 ⟨ys, v4, rfl, s4, bp4, hl4, ty4⟩
      refine ⟨_, rfl, _, rfl, _, rfl, lt, ys, dec H4, rfl, .inl (.of hl4), tupI_of ty4 tor_ne, fun zs l1 pm pw hl1 => ⟨l1, zs, rfl, .inl ⟨.of upd_same, fun l2 hl2 => ⟨(by show 3 ≤ sizeLine; decide), fun lm hlm => ?_⟩⟩⟩⟩
      obtain ⟨R, tz, pR, wR⟩ := sorted_TL ty4 pm pw
      have eR : R = torusU := wR.perm wk_torus (pR.trans torT_perm)
      subst eR
      have sA := same_new (o := .lst zs) hl1
      have sB := same_new (o := .tup zs) hl2
      have sC := same_new (o := .lst [.ref pb, .ref pp, .ref l2]) hlm
      have sABC := (sA.trans sB).trans sC
      have hlmH : H lm = none := (s4.trans (sA.trans sB)).free hlm
      have mn : Menu (upd (upd (upd H4 l1 (.lst zs)) l2 (.tup zs)) lm (.lst [.ref pb, .ref pp, .ref l2])) lm := by
        refine ⟨_, upd_same, rfl, fun x hx => ?_⟩
        simp only [List.mem_cons, List.not_mem_nil, or_false] at hx
        rcases hx with rfl | rfl | rfl
        · exact ⟨pb, vb, baseU, rfl, sABC _ _ bp4.1, bp4.2.1.mono sABC.keep, menu_base⟩
        · exact ⟨pp, vp, planeU, rfl, sABC _ _ bp4.2.2.1, bp4.2.2.2.mono sABC.keep, menu_plane⟩
        · exact ⟨l2, zs, torusU, rfl, sC _ _ upd_same, tz.mono sABC.keep, menu_torus⟩
      have S5 := s4.trans sABC
      have lmr := (none_of (s4.trans (sA.trans sB)).but (hrow.mono (s4.trans (sA.trans sB))).lst hlm).2
      revert mn S5
      generalize upd (upd (upd H4 l1 (.lst zs)) l2 (.tup zs)) lm (.lst [.ref pb, .ref pp, .ref l2]) = H5
      intro mn S5
      have hr5 := hrow.mono S5
      obtain ⟨vm, hvm, lvm, hit⟩ := id mn
      refine ⟨_, rfl, _, rfl, r, lm, vm, sc, ns, rfl, hr5, hvm, lmr, by omega, by omega, fun H6 x j b6 hr6 hx => ?_⟩
      obtain ⟨px, vx, U, rfl, hpx, hU, mU⟩ := hit x (List.mem_of_getElem? hx)
      have k6 : Keep H5 H6 := b6.keep hr5.lst
      refine ⟨px, vx, dec H6, rfl, .inr (.of (k6 _ _ hpx)), tupI_of (hU.mono k6) (menu_ne mU), fun zs7 l7 pm7 pw7 hl7 => ?_⟩
      obtain ⟨R, tz7, pR7, wR7⟩ := sorted_TL (hU.mono k6) pm7 pw7
      have eR : R = U := wR7.perm mU.wk pR7
      subst eR
      have s7 := same_new (o := .lst zs7) hl7
      have b07 : But r H H6 := S5.but.trans b6
      obtain ⟨l7H, l7r⟩ := none_of b07 hr6.lst hl7
      have hr7 := hr6.mono s7
      have mn7 := (mn.but b6 lmr hr5.lst).mono s7
      refine ⟨_, rfl, r, _, sc, ns, rfl, hr7, by omega, by omega, fun H8 k b8 hr8 hk0 hk => ⟨_, rfl, by omega, by omega, ?_⟩⟩
      have b08 : But r H H8 := (b07.trans s7.but).trans b8
      have k8 := b8.keep hr7.lst
      obtain ⟨k0, o0, o1, o2, Ut, eU, sU, opU, k7, l14⟩ := mU.ex
      refine for_rng (n := k.toNat) (fun j σ H' => ∃ lf ys T n v7 v8 v9 v10 v11 v12, σ = [some (.ref r), some (.ref pb), some (.ref pp), some (.ref lt), v4, some (.ref lm), some (.ref lf), v7, v8, v9, v10, v11, v12, none, none, none, none] ∧ But r H H' ∧ RowOk K H' r sc ns ∧ Menu H' lm ∧ H' lf = some (.lst ys) ∧ H lf = none ∧ TL H' ys T ∧ SurfL T n ∧ Wk T ∧ n ≤ 7 + 4 * (j : Nat) ∧ T.length ≤ 14 + 12 * j)
        ⟨l7, zs7, R, k0, none, none, none, none, none, none, rfl, b08, hr8, mn7.but b8 lmr hr7.lst, b8 _ _ l7r upd_same, l7H, (tz7.mono s7.keep).mono k8, sU, wR7, by omega, by omega⟩ ?_ ?_
      · rintro j σ H9 hj ⟨lf, ys, T1, n, v7, v8, v9, v10, v11, v12, rfl, b9, hr9, mn9, hlf, hlf0, ty, sf, wk, hn, hlen⟩
        have hrH : ∃ xs, H r = some (.lst xs) := hrow.lst
        have lfr : lf ≠ r := fun z => by obtain ⟨xs, hx⟩ := hrH; rw [z, hx] at hlf0; cases hlf0
        obtain ⟨vm, hvm, lvm, hit⟩ := id mn9
        refine ⟨_, rfl, _, rfl, r, lm, vm, sc, ns, rfl, hr9, hvm, lmr, by omega, by omega, fun H10 x i b10 hr10 hx => ?_⟩
        obtain ⟨px, vx, U, rfl, hpx, hU, mU2⟩ := hit x (List.mem_of_getElem? hx)
        have k10 := b10.keep hr9.lst
        refine ⟨px, vx, dec H10, rfl, .inr (.of (k10 _ _ hpx)), tupI_of (hU.mono k10) (menu_ne mU2), fun zs l1 pm pw hl1 => ?_⟩
        obtain ⟨R2, tz, pR, wR⟩ := sorted_TL (hU.mono k10) pm pw
        have eR : R2 = U := wR.perm mU2.wk pR
        subst eR
        have s11 := same_new (o := .lst zs) hl1
        have hr11 := hr10.mono s11
        have b11 : But r H (upd H10 l1 (.lst zs)) := (b9.trans b10).trans s11.but
        have mn11 : Menu (upd H10 l1 (.lst zs)) lm := (mn9.but b10 lmr hr9.lst).mono s11
        have hlf11 := s11 _ _ (b10 _ _ lfr hlf)
        have ty11 := (ty.mono k10).mono s11.keep
        have tz11 := tz.mono s11.keep
        have hl11 : upd H10 l1 (.lst zs) l1 = some (.lst zs) := upd_same
        have l1r : l1 ≠ r := (none_of (b9.trans b10) hr10.lst hl1).2
        revert hr11 b11 mn11 hlf11 ty11 tz11 hl11
        generalize upd H10 l1 (.lst zs) = H11
        intro hr11 b11 mn11 hlf11 ty11 tz11 hl11
        have lys := pl ty
        have hT0 : 0 < T1.length := List.length_pos_iff.mpr sf.ne
        refine ⟨_, rfl, lf, rfl, ⟨_, .of hlf11⟩, fun D hD => lc_map T1 Ti (fun _ y n => y = V.int n) last3 hD (src_listT (.of hlf11) ty11) (fun _ _ _ _ _ h => h) (Nat.lt_of_le_of_lt (by omega : _ ≤ 100) (by decide)) ?_ gm_name ?_⟩
        · intro i x t H13 Ny ht hx sm hy
          obtain ⟨a, b, c, rfl, h0, h1, h2, h3⟩ := sf.tri t (List.mem_of_getElem? ht)
          obtain ⟨tb, rfl, htb⟩ := hx
          exact ⟨rfl, _, rfl, tb, _, 2, _, rfl, rfl, .of htb, rfl, hy _ _ (Same.refl _) rfl⟩
        · intro H12 ws sm12 hD12 hp12
          rw [peq hp12] at hD12
          refine ⟨D, _, rfl, .of hD12, by rw [List.length_map]; exact hT0, fun M hM hMle => ⟨_, _, rfl, rfl, _, _, rfl, ?_⟩⟩
          obtain ⟨sM, hMn⟩ := surf_max sf hM hMle
          have hr12 := hr11.mono sm12
          have hlf12 := sm12 _ _ hlf11
          have ty12 := ty11.mono sm12.keep
          refine ⟨_, rfl, _, rfl, lf, ys, rfl, .inl (.of hlf12), r, _, sc, ns, rfl, hr12, by omega, by omega, fun H13 kk b13 hr13 hkk0 hkk => ?_⟩
          have k13 := b13.keep hr12.lst
          have hlf13 := b13 _ _ lfr hlf12
          have ty13 := ty12.mono k13
          have hl13 := b13 _ _ l1r (sm12 _ _ hl11)
          have tz13 := (tz11.mono sm12.keep).mono k13
          have b013 : But r H H13 := (b11.trans sm12.but).trans b13
          have mn13 : Menu H13 lm := (mn11.mono sm12).but b13 lmr hr12.lst
          obtain ⟨i, rfl⟩ := Int.eq_ofNat_of_zero_le hkk0
          have hi : i < ys.length := by omega
          obtain ⟨x, hx⟩ : ∃ x, ys[i]? = some x := ⟨ys[i], by simp [hi]⟩
          obtain ⟨t, hti, tx⟩ := pget ty13 hx
          obtain ⟨x1, x2, x3, rfl, h0, h1', h2', h3'⟩ := sM.tri t (List.mem_of_getElem? hti)
          obtain ⟨tb, rfl, htb⟩ := tx
          obtain ⟨k0, o0, o1, o2, Ut, eU, sU, opU, k7, l14⟩ := mU2.ex
          subst eU
          obtain ⟨z0, hz0, tz0⟩ := pget2 tz13 (i := 0) (b := [o0, o1, o2]) rfl
          obtain ⟨zb, rfl, hzb⟩ := tz0
          obtain ⟨_, _, _, eo, p0, p1, p2, p3⟩ := sU.tri [o0, o1, o2] (by simp)
          injection eo with eo1 eo2
          injection eo2 with eo2 eo3
          injection eo3 with eo3 _
          subst eo1 eo2 eo3
          refine ⟨_, rfl, l1, zs, 0, _, rfl, rfl, .of hl13, atI_nat hz0, _, rfl, _, rfl, lf, ys, _, _, rfl, rfl, .of hlf13, atI_nat hx, zb, tb, [Sum.inl o0, Sum.inl o1, Sum.inl o2], [.int x1, .int x2, .int x3], rfl, .of hzb, .of htb, rfl, ?_, fun dn hdn => ?_⟩
          · simp only [List.nodup_cons, List.mem_cons, Sum.inl.injEq, List.not_mem_nil, or_false, not_false_eq_true, List.nodup_nil, and_true]
            omega
          · have s14 := same_new (o := .dK ([Sum.inl o0, Sum.inl o1, Sum.inl o2].zip [V.int x1, V.int x2, V.int x3])) hdn
            have hdn14 : upd H13 dn (.dK ([Sum.inl o0, Sum.inl o1, Sum.inl o2].zip [V.int x1, V.int x2, V.int x3])) dn = some (.dK ([o0, o1, o2].map fun v => ((Sum.inl v : Key), V.int ((fun v => if v = o0 then x1 else if v = o1 then x2 else x3) v)))) := by
              rw [upd_same]
              have c1 : ¬ o1 = o0 := by omega
              have c2 : ¬ o2 = o0 := by omega
              have c3 : ¬ o2 = o1 := by omega
              simp [c1, c2, c3]
            revert s14 hdn14
            generalize upd H13 dn (.dK ([Sum.inl o0, Sum.inl o1, Sum.inl o2].zip [V.int x1, V.int x2, V.int x3])) = H14
            intro s14 hdn14
            have hl14 := s14 _ _ hl13
            have tz14 := tz13.mono s14.keep
            refine ⟨_, rfl, l1, rfl, ⟨_, .of hl14⟩, fun D2 hD2 => lc_map ([o0, o1, o2] :: Ut) Ti (fun _ y n => y = V.int n) last3 hD2 (src_listT (.of hl14) tz14) (fun _ _ _ _ _ h => h) (Nat.lt_of_le_of_lt (by omega : _ ≤ 100) (by decide)) ?_ gm_name ?_⟩
            · intro i x t H15 Ny ht hx sm hy
              obtain ⟨a, b, c, rfl, h0, h1, h2, h3⟩ := sU.tri t (List.mem_of_getElem? ht)
              obtain ⟨tb, rfl, htb⟩ := hx
              exact ⟨rfl, _, rfl, tb, _, 2, _, rfl, rfl, .of htb, rfl, hy _ _ (Same.refl _) rfl⟩
            · intro H15 ws2 sm15 hD15 hp15
              rw [peq hp15] at hD15
              refine ⟨D2, _, rfl, .of hD15, by simp, fun Mo hMo hMole => ⟨_, _, rfl, rfl, Mo + 1, rfl, ?_⟩⟩
              obtain ⟨sMo, hMok⟩ := surf_max sU hMo hMole
              have hMo0 : o2 < Mo + 1 := by
                obtain ⟨_, _, _, eo, q0, q1, q2, q3⟩ := sMo.tri [o0, o1, o2] (by simp)
                injection eo with eo1 eo2
                injection eo2 with eo2 eo3
                injection eo3 with eo3 _
                omega
              refine ⟨by omega, by omega, ?_⟩
              have s1315 := s14.trans sm15
              refine for_rng (n := (Mo + 1).toNat) (fun v σ H' => ∃ (Vs : List Int) (g : Int → Int) (most : Int) (v12 : Option V), σ = [some (.ref r), some (.ref pb), some (.ref pp), some (.ref lt), v4, some (.ref lm), some (.ref lf), some (.int (j : Nat)), some (.ref l1), some (.int most), some (.int (i : Nat)), some (.ref dn), v12, none, none, none, none] ∧ Same H13 H' ∧ Marks H' dn Vs g ∧ Vs.Nodup ∧ (∀ u, u ∈ Vs ↔ u = o0 ∨ u = o1 ∨ u = o2 ∨ (0 ≤ u ∧ u < (v : Nat))) ∧ g o0 = x1 ∧ g o1 = x2 ∧ g o2 = x3 ∧
                  (∀ u ∈ Vs, u ≠ o0 → u ≠ o1 → u ≠ o2 → M + 1 ≤ g u ∧ g u < most) ∧ (∀ u ∈ Vs, ∀ w ∈ Vs, g u = g w → u = w) ∧ M + 1 ≤ most ∧ most + 3 = M + 1 + (Vs.length : Nat))
                ⟨[o0, o1, o2], _, M + 1, v12, rfl, s1315, sm15 _ _ hdn14, by simp; omega, fun u => by simp; omega, by simp, ?_, ?_, fun u hu h1 h2 h3 => by simp at hu; omega, ?_, by omega, by simp⟩ ?_ ?_
              · have c1 : ¬ o1 = o0 := by omega
                simp [c1]
              · have c2 : ¬ o2 = o0 := by omega
                have c3 : ¬ o2 = o1 := by omega
                simp [c2, c3]
              · intro u hu w' hw e
                have c1 : ¬ o1 = o0 := by omega
                have c2 : ¬ o2 = o0 := by omega
                have c3 : ¬ o2 = o1 := by omega
                simp only [List.mem_cons, List.not_mem_nil, or_false] at hu hw
                rcases hu with rfl | rfl | rfl <;> rcases hw with rfl | rfl | rfl <;> simp [c1, c2, c3] at e ⊢ <;> omega
              · rintro v σ H16 hv ⟨Vs, g, most, v12, rfl, s16, hm16, nd, hVs, g0, g1, g2, fr, inj, hmost, hcount⟩
                have hV7 : ∀ u ∈ Vs, u ∈ vsB 7 := fun u hu => mem_vsB.mpr (by have := (hVs u).mp hu; omega)
                have lV : Vs.length ≤ 7 := nodup_le nd hV7
                refine ⟨_, rfl, _, rfl, dn, _, rfl, .inl ⟨_, Sum.inl (v : Int), .inl hm16, rfl, rfl⟩, _, rfl, ?_⟩
                by_cases hin : (v : Int) ∈ Vs
                · rw [marks_get hin]
                  refine iteF ⟨Vs, g, most, _, rfl, s16, hm16, nd, fun u => ?_, g0, g1, g2, fr, inj, hmost, hcount⟩
                  have := (hVs v).mp hin
                  rw [hVs u]
                  omega
                · rw [marks_no hin]
                  refine iteT ⟨_, rfl, _, rfl, _, _, rfl, rfl, (by show 2 ≤ sizeLine; decide), fun tp htp => ?_⟩
                  have s17 := same_new (o := .tup [.int most, .int (most + 1)]) htp
                  have hm17 : Marks _ dn Vs g := s17 _ _ hm16
                  have hlen : (Vs.map fun v => ((Sum.inl v : Key), V.int (g v))).length < sizeLine := by
                    rw [List.length_map]
                    exact Nat.lt_of_le_of_lt lV (by decide)
                  refine ⟨tp, _, rfl, .of upd_same, rfl, _, _, rfl, _, rfl, _, rfl, dn, _, rfl, .inl ⟨_, Sum.inl (v : Int), hm17, rfl, hlen, rfl⟩, _, _, rfl, rfl, ?_⟩
                  have hno := fun z => hin ((hVs v).mpr z)
                  refine ⟨Vs ++ [(v : Int)], fun u => if u = (v : Int) then most else g u, most + 1, _, rfl, ((s16.trans s17).but.upd).same hdn, ?_, ?_, fun u => ?_, ?_, ?_, ?_, fun u hu h1 h2 h3 => ?_, fun u hu w' hw e => ?_, by omega, by rw [List.length_append]; simp; omega⟩
                  · show upd _ _ _ _ = _
                    have e1 : (Vs.map fun u => ((Sum.inl u : Key), V.int (g u))) = Vs.map fun u => ((Sum.inl u : Key), V.int (if u = (v : Int) then most else g u)) := List.map_congr_left fun u hu => by
                      have : u ≠ (v : Int) := fun z => hin (z ▸ hu)
                      simp [this]
                    have e2 : [((Sum.inl (v : Int) : Key), V.int most)] = [(v : Int)].map fun u => ((Sum.inl u : Key), V.int (if u = (v : Int) then most else g u)) := by simp
                    rw [upd_same, putK_new _ (marks_no hin), e1, e2, ← List.map_append]
                  · rw [List.nodup_append]
                    refine ⟨nd, by simp, fun u hu w' hw => ?_⟩
                    have : w' = (v : Int) := by simpa using hw
                    subst this
                    exact fun z => hin (z ▸ hu)
                  · rw [List.mem_append, hVs u, List.mem_singleton]
                    omega
                  · have : ¬ o0 = (v : Int) := fun z => hno (.inl z.symm)
                    simp [this, g0]
                  · have : ¬ o1 = (v : Int) := fun z => hno (.inr (.inl z.symm))
                    simp [this, g1]
                  · have : ¬ o2 = (v : Int) := fun z => hno (.inr (.inr (.inl z.symm)))
                    simp [this, g2]
                  · by_cases c : u = (v : Int)
                    · simp [c]; omega
                    · have hu' : u ∈ Vs := by
                        rcases List.mem_append.mp hu with h | h
                        · exact h
                        · exact absurd (by simpa using h) c
                      have := fr u hu' h1 h2 h3
                      simp [c]; omega
                  · have gl : ∀ u ∈ Vs, g u < most := fun u hu => by
                      by_cases c0 : u = o0
                      · rw [c0, g0]; omega
                      · by_cases c1 : u = o1
                        · rw [c1, g1]; omega
                        · by_cases c2 : u = o2
                          · rw [c2, g2]; omega
                          · exact (fr u hu c0 c1 c2).2
                    have mem : ∀ u, u ∈ Vs ++ [(v : Int)] → u ≠ (v : Int) → u ∈ Vs := fun u hu c => by
                      rcases List.mem_append.mp hu with h | h
                      · exact h
                      · exact absurd (by simpa using h) c
                    by_cases c : u = (v : Int) <;> by_cases c' : w' = (v : Int)
                    · rw [c, c']
                    · have := gl w' (mem w' hw c')
                      simp [c, c'] at e; omega
                    · have := gl u (mem u hu c)
                      simp [c, c'] at e; omega
                    · simp [c, c'] at e
                      exact inj u (mem u hu c) w' (mem w' hw c') e
              · rintro σ H16 ⟨Vs, g, most, v12, rfl, s16, hm16, nd, hVs, g0, g1, g2, fr, inj, hmost, hcount⟩
                have hV7 : ∀ u ∈ Vs, u ∈ vsB 7 := fun u hu => mem_vsB.mpr (by have := (hVs u).mp hu; omega)
                have lV : Vs.length ≤ 7 := nodup_le nd hV7
                have hin : ∀ u, 0 ≤ u → u < Mo + 1 → u ∈ Vs := fun u h1 h2 => (hVs u).mpr (by omega)
                obtain ⟨sN, lN⟩ := sum_surf sM sMo opU (List.mem_of_getElem? hti) g0 g1 g2 (fun u w' h1 h2 h3 h4 e => inj u (hin u h1 h2) w' (hin w' h3 h4) e) (m := most) (fun u h1 h2 h3 h4 h5 => fr u (hin u h1 h2) h3 h4 h5) hmost
                have hlf16 := s16 _ _ hlf13
                refine seq_asg_cut (i := 6) (j := 10) rfl rfl hlf16 (by omega) fun H17 p s17 hp0 hp => ?_
                have s1417 := s16.trans s17
                have hl17 := s1417 _ _ hl13
                have tz17 := tz13.mono s1417.keep
                have hm17 : Marks H17 dn Vs g := s17 _ _ hm16
                have ty17 := ty13.mono s1417.keep
                refine ⟨_, rfl, _, rfl, 1, rfl, l1, zs, rfl, .of hl17, fun l8 hl8 => ?_⟩
                have s8 := same_new (o := .lst (cutV zs (some 1) none)) hl8
                have hl8' : upd H17 l8 (.lst (cutV zs (some 1) none)) l8 = some (.lst (zs.drop 1)) := by
                  rw [upd_same, show cutV zs (some 1) none = zs.drop 1 from cut_from zs 1]
                have tzd : TL (upd H17 l8 (.lst (cutV zs (some 1) none))) (zs.drop 1) Ut := pdrop (tz17.mono s8.keep) 1
                have hm18 : Marks (upd H17 l8 (.lst (cutV zs (some 1) none))) dn Vs g := s8 _ _ hm17
                have hp18 := s8 _ _ hp
                have ty18 := ty17.mono s8.keep
                have sF8 := s1417.trans s8
                revert hl8' tzd hm18 hp18 ty18 sF8
                generalize upd H17 l8 (.lst (cutV zs (some 1) none)) = H18
                intro hl8' tzd hm18 hp18 ty18 sF8
                refine ⟨l8, rfl, ⟨_, .of hl8'⟩, fun D9 hD9 => lc_map Ut Ti Ti (fun u => isort (u.map g)) hD9 (src_listT (.of hl8') tzd) (fun _ _ _ _ k h => h.mono k) (Nat.lt_of_le_of_lt (by simp at l14; omega : _ ≤ 100) (by decide)) ?_ gm_name ?_⟩
                · intro i9 x9 u H19 Ny hu hx9 sm9 hy9
                  obtain ⟨ub, rfl, hub⟩ := hx9
                  obtain ⟨a, b, c, rfl, q0, q1, q2, q3⟩ := sMo.tri u (by simp [List.mem_of_getElem? hu])
                  refine ⟨rfl, _, rfl, ub, rfl, ⟨_, .of hub⟩, fun D10 hD10 => lc_map [a, b, c] (fun _ x n => x = V.int n) (fun _ y n => y = V.int n) g hD10 (src_tupI (.of hub)) (fun _ _ _ _ _ h => h) (by show 3 < sizeLine; decide) ?_ gm_name ?_⟩
                  · intro i10 x10 m H20 Nz hm hx10 sm10 hz
                    subst hx10
                    have hmem : m ∈ Vs := by
                      have h3 : m ∈ [a, b, c] := List.mem_of_getElem? hm
                      simp only [List.mem_cons, List.not_mem_nil, or_false] at h3
                      exact hin m (by omega) (by omega)
                    have hm20 : Marks H20 dn Vs g := sm10 _ _ (sm9 _ _ hm18)
                    exact ⟨rfl, _, rfl, _, rfl, dn, _, rfl, .inl ⟨_, Sum.inl m, .inl hm20, rfl, (marks_get hmem).symm⟩, hz _ _ (Same.refl _) rfl⟩
                  · intro H20 ws3 sm20 hD20 hp20
                    rw [peq hp20] at hD20
                    refine ⟨D10, _, rfl, .inl (.of hD20), fun ms l3 pm3 pw3 hl3 => ?_⟩
                    have e3 : ms = isort ([a, b, c].map g) := isort_eq pm3 pw3
                    subst e3
                    exact ⟨l3, _, rfl, .inl ⟨.of upd_same, fun l4 hl4 => hy9 _ _ ((sm20.new hl3).new hl4) ⟨l4, rfl, upd_same⟩⟩⟩
                · intro H19 ws4 sm19 hD19 hp19
                  have tyE : TL H19 (ys.eraseIdx i) (T1.eraseIdx i) := perase (ty18.mono sm19.keep) i
                  refine ⟨p, D9, _, _, rfl, rfl, sm19 _ _ hp18, hD19, ?_, fun l6 hl6 => ?_⟩
                  · have a1 := List.length_eraseIdx_le ys i
                    have a2 := pl hp19
                    rw [List.length_map] at a2
                    simp at l14
                    exact Nat.le_trans (by omega : _ ≤ 200) (by decide)
                  · have s20 := same_new (o := .lst (ys.eraseIdx i ++ ws4)) hl6
                    have tyF : TL (upd H19 l6 (.lst (ys.eraseIdx i ++ ws4))) (ys.eraseIdx i ++ ws4) (T1.eraseIdx i ++ renT g Ut) := papp (tyE.mono s20.keep) (TL.mono hp19 s20.keep)
                    have pE : (T1.eraseIdx i ++ renT g Ut).Perm (T1.erase [x1, x2, x3] ++ renT g Ut) := (erase_perm hti).append_right _
                    have sNp := sN.perm pE
                    refine ⟨l6, _, dec _, rfl, .inl (.of upd_same), tupI_of tyF (surf_ne sNp), fun zs2 l7 pm2 pw2 hl7 => ?_⟩
                    obtain ⟨R3, tz3, pR3, wR3⟩ := sorted_TL tyF pm2 pw2
                    have s21 := same_new (o := .lst zs2) hl7
                    have sAll := (sF8.trans sm19).trans s20
                    have bE : But r H _ := b013.trans sAll.but
                    have hrE := hr13.mono sAll
                    obtain ⟨l7H, _⟩ := none_of bE hrE.lst hl7
                    refine ⟨l7, zs2, R3, most, _, _, _, _, _, _, rfl, bE.new hl7, hrE.mono s21, (mn13.mono sAll).mono s21, upd_same, l7H, tz3.mono s21.keep, sNp.perm pR3, wR3, by omega, ?_⟩
                    rw [pR3.length_eq, pE.length_eq]
                    simp at l14 lN ⊢
                    omega
      · rintro σ H9 ⟨lf, ys, T1, n, v7, v8, v9, v10, v11, v12, rfl, b9, hr9, mn9, hlf, hlf0, ty, sf, wk, hn, hlen⟩
        refine ⟨_, rfl, r, _, sc, ns, rfl, hr9, by omega, by omega, fun H10 k2 b10 hr10 hk20 hk2 => ⟨_, rfl, by omega, by omega, ?_⟩⟩
        have lfr : lf ≠ r := fun z => by obtain ⟨xs, hx⟩ := hrow.lst; rw [z, hx] at hlf0; cases hlf0
        refine for_rng (n := k2.toNat) (fun j σ H' => ∃ lf ys T n v7 v8 v9 v10 v11 v12 v13 v14 v15, σ = [some (.ref r), some (.ref pb), some (.ref pp), some (.ref lt), v4, some (.ref lm), some (.ref lf), v7, v8, v9, v10, v11, v12, v13, v14, v15, none] ∧ But r H H' ∧ RowOk K H' r sc ns ∧ H' lf = some (.lst ys) ∧ H lf = none ∧ TL H' ys T ∧ SurfL T n ∧ Wk T ∧ n ≤ 15 + (j : Nat) ∧ T.length ≤ 38 + 2 * j)
          ⟨lf, ys, T1, n, v7, v8, v9, v10, v11, v12, none, none, none, rfl, b9.trans b10, hr10, b10 _ _ lfr hlf, hlf0, ty.mono (b10.keep hr9.lst), sf, wk, by omega, by omega⟩ ?_ ?_
        · rintro j2 σ H11 hj ⟨lf, ys, T1, n, v7, v8, v9, v10, v11, v12, v13, v14, v15, rfl, b11, hr11, hlf, hlf0, ty, sf, wk, hn, hlen⟩
          have lfr : lf ≠ r := fun z => by obtain ⟨xs, hx⟩ := hrow.lst; rw [z, hx] at hlf0; cases hlf0
          have lys := pl ty
          have hT0 : 0 < T1.length := List.length_pos_iff.mpr sf.ne
          refine ⟨_, rfl, _, rfl, lf, ys, rfl, .inl (.of hlf), r, _, sc, ns, rfl, hr11, by omega, by omega, fun H12 kk b12 hr12 hkk0 hkk => ?_⟩
          have k12 := b12.keep hr11.lst
          have hlf12 := b12 _ _ lfr hlf
          have ty12 := ty.mono k12
          refine ⟨_, rfl, lf, rfl, ⟨_, .of hlf12⟩, fun D hD => lc_map T1 Ti (fun _ y n => y = V.int n) last3 hD (src_listT (.of hlf12) ty12) (fun _ _ _ _ _ h => h) (Nat.lt_of_le_of_lt (by omega : _ ≤ 100) (by decide)) ?_ gm_name ?_⟩
          · intro i x t H13 Ny ht hx sm hy
            obtain ⟨a, b, c, rfl, h0, h1, h2, h3⟩ := sf.tri t (List.mem_of_getElem? ht)
            obtain ⟨tb, rfl, htb⟩ := hx
            exact ⟨rfl, _, rfl, tb, _, 2, _, rfl, rfl, .of htb, rfl, hy _ _ (Same.refl _) rfl⟩
          · intro H13 zs sm hD13 hp13
            rw [peq hp13] at hD13
            refine ⟨D, _, rfl, .of hD13, by rw [List.length_map]; exact hT0, fun M hM hMle => ⟨_, _, rfl, rfl, _, _, rfl, ?_⟩⟩
            obtain ⟨sM, hMn⟩ := surf_max sf hM hMle
            obtain ⟨i, rfl⟩ := Int.eq_ofNat_of_zero_le hkk0
            have hi : i < ys.length := by omega
            obtain ⟨x, hx⟩ : ∃ x, ys[i]? = some x := ⟨ys[i], by simp [hi]⟩
            have hlf13 := sm _ _ hlf12
            have ty13 := ty12.mono sm.keep
            obtain ⟨t, hti, tx⟩ := pget ty13 hx
            obtain ⟨x1, x2, x3, rfl, h0, h1', h2', h3'⟩ := sM.tri t (List.mem_of_getElem? hti)
            obtain ⟨tb, rfl, htb⟩ := tx
            refine ⟨_, rfl, _, rfl, lf, ys, _, _, rfl, rfl, .of hlf13, atI_nat hx, tb, _, rfl, .of htb, rfl, _, _, rfl, _, _, rfl, _, _, rfl, rfl, ?_⟩
            refine asg_sort_cat (i := 6) (j := 10) rfl rfl hlf13 (by omega) fun H14 p s14 hp0 hp => ?_
            refine ⟨_, rfl, _, rfl, _, rfl, (by show 3 ≤ sizeLine; decide), fun p1 hp1 => ⟨_, rfl, _, rfl, _, rfl, (by show 3 ≤ sizeLine; decide), fun p2 hp2 => ⟨_, rfl, _, rfl, _, rfl, (by show 3 ≤ sizeLine; decide), fun p3 hp3 => ⟨(by show 3 ≤ sizeLine; decide), fun l5 hl5 => ?_⟩⟩⟩⟩
            have sA := same_new (o := .tup [.int x1, .int x2, .int (M + 1)]) hp1
            have sB := same_new (o := .tup [.int x1, .int x3, .int (M + 1)]) hp2
            have sC := same_new (o := .tup [.int x2, .int x3, .int (M + 1)]) hp3
            have sD := same_new (o := .lst [.ref p1, .ref p2, .ref p3]) hl5
            have sF := ((sA.trans sB).trans sC).trans sD
            have tn : TL (upd _ l5 (.lst [.ref p1, .ref p2, .ref p3])) [.ref p1, .ref p2, .ref p3] [[x1, x2, M + 1], [x1, x3, M + 1], [x2, x3, M + 1]] :=
              .cons ⟨p1, rfl, sD _ _ (sC _ _ (sB _ _ upd_same))⟩ (.cons ⟨p2, rfl, sD _ _ (sC _ _ upd_same)⟩ (.cons ⟨p3, rfl, sD _ _ upd_same⟩ .nil))
            have hl5' := upd_same (H := (upd (upd (upd H14 p1 (.tup [.int x1, .int x2, .int (M + 1)])) p2 (.tup [.int x1, .int x3, .int (M + 1)])) p3 (.tup [.int x2, .int x3, .int (M + 1)]))) (a := l5) (o := .lst [.ref p1, .ref p2, .ref p3])
            revert sF tn hl5'
            generalize upd (upd (upd (upd H14 p1 (.tup [.int x1, .int x2, .int (M + 1)])) p2 (.tup [.int x1, .int x3, .int (M + 1)])) p3 (.tup [.int x2, .int x3, .int (M + 1)])) l5 (.lst [.ref p1, .ref p2, .ref p3]) = H15
            intro sF tn hl5'
            have s1215 := (sm.trans s14).trans sF
            have hr15 := hr12.mono s1215
            have b15 : But r H H15 := (b11.trans b12).trans s1215.but
            refine ⟨p, l5, _, _, rfl, rfl, sF _ _ hp, hl5', ?_, fun l6 hl6 => ?_⟩
            · have := List.length_eraseIdx_le ys i
              exact Nat.le_trans (by simp; omega : _ ≤ 100) (by decide)
            · have sG := same_new (o := .lst (ys.eraseIdx i ++ [.ref p1, .ref p2, .ref p3])) hl6
              obtain ⟨ps, pl2⟩ := part_surf sM hti (v := M + 1) (by omega)
              have tyF : TL (upd H15 l6 (.lst (ys.eraseIdx i ++ [.ref p1, .ref p2, .ref p3]))) (ys.eraseIdx i ++ [.ref p1, .ref p2, .ref p3]) (T1.eraseIdx i ++ [[x1, x2, M + 1], [x1, x3, M + 1], [x2, x3, M + 1]]) :=
                papp (perase (ty13.mono ((s14.trans sF).trans sG).keep) i) (tn.mono sG.keep)
              refine ⟨l6, _, dec _, rfl, .inl (.of upd_same), tupI_of tyF (surf_ne ps), fun zs2 l7 pm2 pw2 hl7 => ?_⟩
              obtain ⟨R2, tz2, pR2, wR2⟩ := sorted_TL tyF pm2 pw2
              have sH := same_new (o := .lst zs2) hl7
              have hr16 := (hr15.mono sG).mono sH
              have b16 := (b15.new (o := .lst (ys.eraseIdx i ++ [.ref p1, .ref p2, .ref p3])) hl6)
              obtain ⟨l7H, _⟩ := none_of b16 (hr15.mono sG).lst hl7
              exact ⟨l7, zs2, R2, M + 2, _, _, _, _, _, _, _, _, _, rfl, b16.new hl7, hr16, upd_same, l7H, tz2.mono sH.keep, (ps.perm pR2).mono (by omega), wR2, by omega, by rw [pR2.length_eq, pl2]; omega⟩
        · rintro σ H11 ⟨lf, ys, T1, n, v7, v8, v9, v10, v11, v12, v13, v14, v15, rfl, b11, hr11, hlf, hlf0, ty, sf, wk, hn, hlen⟩
          exact ⟨_, rfl, lf, ys, rfl, .inl ⟨.of hlf, fun l3 hl3 => q _ _ T1 (b11.new hl3) (hr11.mono (same_new hl3)) ⟨l3, ys, rfl, upd_same, ty.mono (keep_new hl3)⟩ (surfT_of sf (by omega) (by omega) (.refl _) wk)⟩⟩
end
end Fl

set_option Elab.async false
set_option linter.all false
set_option maxHeartbeats 1000000
namespace Fl
/-! the complex of a surface's triangles -/
theorem part3 {a b c : Int} {x : List Int} : Part x [a, b, c] ↔ x = [a] ∨ x = [b] ∨ x = [a, b] ∨ x = [c] ∨ x = [a, c] ∨ x = [b, c] ∨ x = [a, b, c] := by
  rw [← mem_partsOf]
  have : partsOf [a, b, c] = [[a], [b], [a, b], [c], [a, c], [b, c], [a, b, c]] := rfl
  rw [this]
  simp
section
variable {T F : List (List Int)} {n : Int}
theorem face_len (h : ∀ t ∈ T, Tri n t) (hF : Faces T F) : ∀ x ∈ F, x.length ≤ 3 := fun x hx => by
  obtain ⟨t, ht, hp⟩ := (hF.2 x).mp hx
  have := hp.2.length_le
  rw [(h t ht).len] at this
  exact this
theorem mem_inner (h : ∀ t ∈ T, Tri n t) (hF : Faces T F) {x : List Int} : (x ∈ F ∧ ¬ Inner F x) ↔ x ∈ T := by
  constructor
  · rintro ⟨hx, hn⟩
    obtain ⟨t, ht, hp⟩ := (hF.2 x).mp hx
    obtain ⟨a, b, c, rfl, h0, h1, h2, h3⟩ := h t ht
    have inF : ∀ y, Part y [a, b, c] → y ∈ F := fun y hy => (hF.2 y).mpr ⟨_, ht, hy⟩
    rcases part3.mp hp with rfl | rfl | rfl | rfl | rfl | rfl | rfl
    · exact absurd ⟨[a, b], inF _ (part3.mpr (by simp)), 1, by simp, rfl⟩ hn
    · exact absurd ⟨[a, b], inF _ (part3.mpr (by simp)), 0, by simp, rfl⟩ hn
    · exact absurd ⟨[a, b, c], inF _ (part3.mpr (by simp)), 2, by simp, rfl⟩ hn
    · exact absurd ⟨[a, c], inF _ (part3.mpr (by simp)), 0, by simp, rfl⟩ hn
    · exact absurd ⟨[a, b, c], inF _ (part3.mpr (by simp)), 1, by simp, rfl⟩ hn
    · exact absurd ⟨[a, b, c], inF _ (part3.mpr (by simp)), 0, by simp, rfl⟩ hn
    · exact ht
  · intro hx
    have l3 := (h x hx).len
    refine ⟨(hF.2 x).mpr ⟨x, hx, Part.refl (fun e => by rw [e] at l3; cases l3)⟩, fun ⟨y, hy, i, hi, e⟩ => ?_⟩
    have hl := face_len h hF y hy
    have := cutAt_len hi
    rw [← e, l3] at this
    omega
theorem tops_eq (h : ∀ t ∈ T, Tri n t) (srt : Srt T) (hF : Faces T F) {T' : List (List Int)} (hT : Tops F T') : T' = T :=
  hT.1.ext srt fun x => by rw [hT.2, mem_inner h hF]
theorem simp3 {t : List Int} (h : Tri 31 t) {x : List Int} (hp : Part x t) : simpB x = true := by
  obtain ⟨a, b, c, rfl, h0, h1, h2, h3⟩ := h
  rcases part3.mp hp with rfl | rfl | rfl | rfl | rfl | rfl | rfl <;> simp [simpB, ascB] <;> omega
theorem cx0_of (h : ∀ t ∈ T, Tri 31 t) (hF : Faces T F) (hl : T.length ≤ 400) : Cx0 F T :=
  ⟨fun x y hy hp => by
    obtain ⟨t, ht, hp2⟩ := (hF.2 y).mp hy
    exact (hF.2 x).mpr ⟨t, ht, hp.trans hp2⟩, fun x hx => by
    obtain ⟨t, ht, hp⟩ := (hF.2 x).mp hx
    exact simp3 (h t ht) hp, fun t ht => (h t ht).len, hl⟩
/-- few faces -/
theorem few_tri (h : ∀ t ∈ T, Tri 31 t) (hl : T.length ≤ 57) : Few T := by
  intro F' nd hF'
  have sub : ∀ x ∈ F', x ∈ T.flatMap partsOf := fun x hx => by
    obtain ⟨s, hs, hp⟩ := hF' x hx
    exact List.mem_flatMap.mpr ⟨s, hs, mem_partsOf.mpr hp⟩
  refine Nat.le_trans (nodup_le nd sub) ?_
  have : ∀ L : List (List Int), (∀ t ∈ L, Tri 31 t) → (L.flatMap partsOf).length ≤ L.length * 7 := by
    intro L
    induction L with
    | nil => intro _; simp
    | cons t L ih =>
      intro hL
      have h1 := ih fun u hu => hL u (by simp [hu])
      obtain ⟨a, b, c, rfl, _⟩ := hL t (by simp)
      rw [List.flatMap_cons, List.length_append, List.length_cons]
      have h2 : (partsOf [a, b, c]).length = 7 := rfl
      omega
  have := this T h
  omega
theorem good_of (h : ∀ t ∈ T, Tri 31 t) (hl : T.length ≤ 57) : Good T := ⟨by omega, fun s hs => by
  have l3 := (h s hs).len
  exact simp3 (h s hs) (Part.refl (fun e => by rw [e] at l3; cases l3)), few_tri h hl⟩
theorem sz3_of (h : ∀ t ∈ T, Tri n t) (hne : T ≠ []) (hF : Faces T F) : Sz3 F := by
  obtain ⟨t, ht⟩ := List.exists_mem_of_ne_nil _ hne
  exact ⟨⟨t, ((mem_inner h hF).mpr ht).1, (h t ht).len⟩, face_len h hF⟩
end
end Fl

set_option Elab.async false
set_option linter.all false
set_option maxHeartbeats 1000000
namespace Fl
section
variable {T F : List (List Int)} {n : Int} (S : SurfL T n) (hF : Faces T F)
include S hF
theorem vert_mt {x : Int} : [x] ∈ F ↔ ∃ p q, MT T x p q := by
  rw [hF.2]
  constructor
  · rintro ⟨t, ht, hp⟩
    obtain ⟨a, b, c, rfl, h0, h1, h2, h3⟩ := S.tri t ht
    rcases part3.mp hp with h | h | h | h | h | h | h <;> simp at h
    · subst h; exact ⟨b, c, x, b, c, ht, by simp [P3]⟩
    · subst h; exact ⟨a, c, a, x, c, ht, by simp [P3]⟩
    · subst h; exact ⟨a, b, a, b, x, ht, by simp [P3]⟩
  · rintro ⟨p, q, a, b, c, ht, hp⟩
    refine ⟨_, ht, part3.mpr ?_⟩
    rcases hp with h | h | h | h | h | h <;> simp [h.1]
theorem edge_mt {x y : Int} : [x, y] ∈ F ↔ x < y ∧ ∃ q, MT T x y q := by
  rw [hF.2]
  constructor
  · rintro ⟨t, ht, hp⟩
    obtain ⟨a, b, c, rfl, h0, h1, h2, h3⟩ := S.tri t ht
    rcases part3.mp hp with h | h | h | h | h | h | h <;> simp at h
    · obtain ⟨rfl, rfl⟩ := h; exact ⟨h1, c, x, y, c, ht, by simp [P3]⟩
    · obtain ⟨rfl, rfl⟩ := h; exact ⟨by omega, b, x, b, y, ht, by simp [P3]⟩
    · obtain ⟨rfl, rfl⟩ := h; exact ⟨h2, a, a, x, y, ht, by simp [P3]⟩
  · rintro ⟨hxy, q, a, b, c, ht, hp⟩
    obtain ⟨a', b', c', e, h0, h1, h2, h3⟩ := S.tri _ ht
    injection e with e1 e2
    injection e2 with e2 e3
    injection e3 with e3 _
    subst e1 e2 e3
    refine ⟨_, ht, part3.mpr ?_⟩
    rcases hp with h | h | h | h | h | h <;> obtain ⟨rfl, rfl, rfl⟩ := h <;> simp <;> omega
theorem conn_of : ConnP F := fun f hf x y hx hy => by
  refine S.sr.conn f (fun a b c m => ?_) x y ((vert_mt S hF).mp hx) ((vert_mt S hF).mp hy)
  have bb := mt_bd S.tri m
  by_cases h : a < b
  · exact hf a b ((edge_mt S hF).mpr ⟨h, c, m⟩)
  · exact (hf b a ((edge_mt S hF).mpr ⟨by omega, c, S.sr.s1 _ _ _ m⟩)).symm
theorem ne_of : ∃ v, [v] ∈ F := by
  obtain ⟨t, ht⟩ := List.exists_mem_of_ne_nil _ S.ne
  obtain ⟨a, b, c, rfl, _⟩ := S.tri t ht
  exact ⟨a, (vert_mt S hF).mpr ⟨b, c, a, b, c, ht, by simp [P3]⟩⟩
end
theorem two_of {T : List (List Int)} {n : Int} (S : SurfL T n) : ∀ e t, (e, t) ∈ pairsOf T → (atE (pairsOf T) e).length = 2 := fun e t h => by
  obtain ⟨x, y, z, w, rfl, hxy, mz, mw, hwz, hu⟩ := flip_cases S h
  exact two_len S mz mw hwz hu hxy
theorem dual_of {T : List (List Int)} {n : Int} (S : SurfL T n) : DualT T := fun f hf t ht u hu => by
  obtain ⟨a, b, c, rfl, h0, h1, h2, h3⟩ := S.tri t ht
  obtain ⟨a', b', c', rfl, k0, k1, k2, k3⟩ := S.tri u hu
  have q := S.sr.dual (fun x y z => f (isort [x, y, z])) (fun x y z _ => by rw [iso_p3.mpr (show P3 y x z x y z by simp [P3])]) (fun x y z _ => by rw [iso_p3.mpr (show P3 x z y x y z by simp [P3])]) (fun x y z w m1 m2 => by
    have b := mt_bd S.tri m1
    by_cases h : x < y
    · exact hf _ _ [x, y] ((pair_mt S.tri).mpr ⟨x, y, z, rfl, h, m1, rfl⟩) ((pair_mt S.tri).mpr ⟨x, y, w, rfl, h, m2, rfl⟩)
    · have e1 : isort [x, y, z] = isort [y, x, z] := iso_p3.mpr (by simp [P3])
      have e2 : isort [x, y, w] = isort [y, x, w] := iso_p3.mpr (by simp [P3])
      exact hf _ _ [y, x] ((pair_mt S.tri).mpr ⟨y, x, z, rfl, by omega, S.sr.s1 _ _ _ m1, e1⟩) ((pair_mt S.tri).mpr ⟨y, x, w, rfl, by omega, S.sr.s1 _ _ _ m2, e2⟩)) a b c a' b' c' ⟨a, b, c, ht, by simp [P3]⟩ ⟨a', b', c', hu, by simp [P3]⟩
  simp only [asc_iso h1 h2, asc_iso k1 k2] at q
  exact q
theorem orH_of {T : List (List Int)} {n : Int} (S : SurfL T n) (hl : T.length ≤ 400) : OrH T := ⟨S.nd, fun t ht => (S.tri t ht).tri3, two_of S, S.ne, dual_of S, hl⟩
end Fl

set_option Elab.async false
set_option linter.all false
set_option maxHeartbeats 1000000
namespace Fl
section
variable {T F : List (List Int)} {n : Int} (S : SurfL T n) (hF : Faces T F)
include S hF
theorem link_sub {v : Int} {s : List Int} (h : s ∈ linkOf F v) : (∃ x, s = [x] ∧ ∃ z, MT T v x z) ∨ ∃ x y, s = [x, y] ∧ x < y ∧ MT T v x y := by
  unfold linkOf at h
  obtain ⟨u, hu, rfl⟩ := List.mem_map.mp h
  obtain ⟨hu1, hu2⟩ := List.mem_filter.mp hu
  have hu2 := of_decide_eq_true hu2
  obtain ⟨t, ht, hp⟩ := (hF.2 u).mp hu1
  obtain ⟨a, b, c, rfl, h0, h1, h2, h3⟩ := S.tri t ht
  unfold rst at hu2 ⊢
  rcases part3.mp hp with rfl | rfl | rfl | rfl | rfl | rfl | rfl
  · by_cases e : a = v <;> simp [e] at hu2
  · by_cases e : b = v <;> simp [e] at hu2
  · by_cases e1 : a = v
    · subst e1; have : ¬ b = a := by omega
      simp [this]
      exact ⟨c, a, b, c, ht, by simp [P3]⟩
    · by_cases e2 : b = v
      · subst e2
        simp [e1]
        exact ⟨c, a, b, c, ht, by simp [P3]⟩
      · simp [e1, e2] at hu2
  · by_cases e : c = v <;> simp [e] at hu2
  · by_cases e1 : a = v
    · subst e1; have : ¬ c = a := by omega
      simp [this]
      exact ⟨b, a, b, c, ht, by simp [P3]⟩
    · by_cases e2 : c = v
      · subst e2
        simp [e1]
        exact ⟨b, a, b, c, ht, by simp [P3]⟩
      · simp [e1, e2] at hu2
  · by_cases e1 : b = v
    · subst e1; have : ¬ c = b := by omega
      simp [this]
      exact ⟨a, a, b, c, ht, by simp [P3]⟩
    · by_cases e2 : c = v
      · subst e2
        simp [e1]
        exact ⟨a, a, b, c, ht, by simp [P3]⟩
      · simp [e1, e2] at hu2
  · by_cases e1 : a = v
    · subst e1; have q1 : ¬ b = a := by omega
      have q2 : ¬ c = a := by omega
      refine .inr ⟨b, c, by simp [q1, q2], h2, a, b, c, ht, by simp [P3]⟩
    · by_cases e2 : b = v
      · subst e2; have q2 : ¬ c = b := by omega
        refine .inr ⟨a, c, by simp [e1, q2], by omega, a, b, c, ht, by simp [P3]⟩
      · by_cases e3 : c = v
        · subst e3
          refine .inr ⟨a, b, by simp [e1, e2], h1, a, b, c, ht, by simp [P3]⟩
        · simp [e1, e2, e3] at hu2
theorem link_has {v x y : Int} (m : MT T v x y) (hxy : x < y) : [x, y] ∈ linkOf F v := by
  have bb := mt_bd S.tri m
  have key : ∀ t, t ∈ T → rst t v = [x, y] → t.length = 3 → [x, y] ∈ linkOf F v := fun t ht e h3 => by
    unfold linkOf
    refine List.mem_map.mpr ⟨t, List.mem_filter.mpr ⟨((mem_inner S.tri hF).mpr ht).1, decide_eq_true ?_⟩, e⟩
    rw [e, h3]
    exact ⟨Nat.succ_pos _, rfl⟩
  obtain ⟨a, b, c, ht, hp⟩ := m
  obtain ⟨a', b', c', e, h0, h1, h2, h3⟩ := S.tri _ ht
  injection e with e1 e2
  injection e2 with e2 e3
  injection e3 with e3 _
  subst e1 e2 e3
  refine key _ ht ?_ rfl
  unfold rst
  rcases hp with h | h | h | h | h | h <;> obtain ⟨rfl, rfl, rfl⟩ := h
  · have q1 : ¬ x = v := by omega
    have q2 : ¬ y = v := by omega
    simp [q1, q2]
  · omega
  · have q1 : ¬ x = v := by omega
    have q2 : ¬ y = v := by omega
    simp [q1, q2]
  · omega
  · have q1 : ¬ x = v := by omega
    have q2 : ¬ y = v := by omega
    simp [q1, q2]
  · omega
theorem link_of : ∀ v, [v] ∈ F → ∀ F' T' F2, Faces (linkOf F v) F' → Tops F' T' → Faces T' F2 → (∃ x, [x] ∈ F2) ∧ ConnP F2 := fun v hv F' T' F2 hF' hT' hF2 => by
  have len2 : ∀ x ∈ F', x.length ≤ 2 := fun x hx => by
    obtain ⟨s, hs, hp⟩ := (hF'.2 x).mp hx
    have := hp.2.length_le
    rcases link_sub S hF hs with ⟨y, rfl, _⟩ | ⟨y, z, rfl, _⟩
    · simp at this; omega
    · simpa using this
  have e2 : ∀ x y, x < y → MT T v x y → [x, y] ∈ F2 := fun x y hxy m => by
    have h1 : [x, y] ∈ F' := (hF'.2 _).mpr ⟨_, link_has S hF m hxy, Part.refl (by simp)⟩
    have h2 : [x, y] ∈ T' := (hT'.2 _).mpr ⟨h1, fun ⟨u, hu, i, hi, e⟩ => by
      have a1 := len2 u hu
      have a2 := cutAt_len hi
      rw [← e] at a2
      simp at a2
      omega⟩
    exact (hF2.2 _).mpr ⟨_, h2, Part.refl (by simp)⟩
  have v2 : ∀ x, [x] ∈ F2 → ∃ z, MT T v x z := fun x hx => by
    obtain ⟨s, hs, hp⟩ := (hF2.2 _).mp hx
    obtain ⟨u, hu, hp2⟩ := (hF'.2 s).mp ((hT'.2 s).mp hs).1
    have hp3 := hp.2.trans hp2.2
    have hm : x ∈ u := List.singleton_sublist.mp hp3
    rcases link_sub S hF hu with ⟨y, rfl, z, m⟩ | ⟨y, z, rfl, _, m⟩
    · have : x = y := by simpa using hm
      subst this
      exact ⟨z, m⟩
    · simp at hm
      rcases hm with rfl | rfl
      · exact ⟨z, m⟩
      · exact ⟨y, S.sr.s2 _ _ _ m⟩
  refine ⟨?_, fun f hf x y hx hy => ?_⟩
  · obtain ⟨p, q, m⟩ := (vert_mt S hF).mp hv
    have bb := mt_bd S.tri m
    have up : ∀ a b, [a, b] ∈ F2 → ∃ x, [x] ∈ F2 := fun a b h => by
      obtain ⟨s, hs, hp⟩ := (hF2.2 _).mp h
      exact ⟨a, (hF2.2 _).mpr ⟨s, hs, (part1 a b).1.trans hp⟩⟩
    by_cases h : p < q
    · exact up _ _ (e2 p q h m)
    · exact up _ _ (e2 q p (by omega) (S.sr.s2 _ _ _ m))
  · refine S.sr.link v f (fun a b m => ?_) x y (v2 x hx) (v2 y hy)
    have bb := mt_bd S.tri m
    by_cases h : a < b
    · exact hf a b (e2 a b h m)
    · exact (hf b a (e2 b a (by omega) (S.sr.s2 _ _ _ m))).symm
end
theorem srf_of {T F : List (List Int)} (S : SurfL T 31) (hF : Faces T F) (hl : T.length ≤ 400) : Srf F T :=
  { toCx0 := cx0_of S.tri hF hl, conn := conn_of S hF, ne := ne_of S hF, two := two_of S, link := link_of S hF }
end Fl

set_option Elab.async false
set_option linter.all false
set_option maxHeartbeats 1000000
namespace Fl
/-! signs of triangles and orientations -/
def pB (x y z : Int) : Bool := (decide (x < y)) ^^ ((decide (y < z)) ^^ (decide (x < z)))
theorem pB1 {x y z : Int} (h1 : x ≠ y) (h2 : y ≠ z) (h3 : x ≠ z) : pB y x z = !pB x y z := by
  unfold pB
  by_cases a : x < y <;> by_cases b : y < z <;> by_cases c : x < z <;> simp [a, b, c, show (y < x) = ¬ (x < y) by simp; omega]
theorem pB2 {x y z : Int} (h1 : x ≠ y) (h2 : y ≠ z) (h3 : x ≠ z) : pB x z y = !pB x y z := by
  unfold pB
  by_cases a : x < y <;> by_cases b : y < z <;> by_cases c : x < z <;> simp [a, b, c, show (z < y) = ¬ (y < z) by simp; omega]
theorem sgn_pB {x y z : Int} (hxy : x < y) (h2 : y ≠ z) (h3 : x ≠ z) : sgnE (isort [x, y, z]) [x, y] = if pB x y z = true then 1 else -1 := by
  by_cases b : y < z
  · have c : x < z := by omega
    rw [asc_iso hxy b]
    have e : cutAt [x, y, z] 1 = [x, z] := rfl
    unfold sgnE pB
    rw [e]
    simp [hxy, b, c, h2]
  · by_cases c : x < z
    · have e0 : isort [x, y, z] = [x, z, y] := by
        rw [iso_p3.mpr (show P3 x y z x z y by simp [P3]), asc_iso c (by omega)]
      rw [e0]
      have e : cutAt [x, z, y] 1 = [x, y] := rfl
      unfold sgnE pB
      rw [e]
      simp [hxy, b, c]
    · have e0 : isort [x, y, z] = [z, x, y] := by
        rw [iso_p3.mpr (show P3 x y z z x y by simp [P3]), asc_iso (by omega) hxy]
      rw [e0]
      have e : cutAt [z, x, y] 1 = [z, y] := rfl
      unfold sgnE pB
      rw [e]
      simp [hxy, b, c, h3]
theorem orb_to {T : List (List Int)} {n : Int} (S : SurfL T n) (h : OrbT T) : Orble (MT T) := by
  obtain ⟨s, hs⟩ := h
  have i1 : ∀ x y z, isort [y, x, z] = isort [x, y, z] := fun x y z => iso_p3.mpr (by simp [P3])
  have i2 : ∀ x y z, isort [x, z, y] = isort [x, y, z] := fun x y z => iso_p3.mpr (by simp [P3])
  let o : Int → Int → Int → Bool := fun x y z => !(pB x y z ^^ decide (s (isort [x, y, z]) = 1))
  have a1 : ∀ x y z, MT T x y z → o y x z = !o x y z := fun x y z m => by
    have bb := mt_bd S.tri m
    show (!(pB y x z ^^ decide (s (isort [y, x, z]) = 1))) = !(!(pB x y z ^^ decide (s (isort [x, y, z]) = 1)))
    rw [i1, pB1 (by omega) (by omega) (by omega)]
    cases pB x y z <;> simp
  have a2 : ∀ x y z, MT T x y z → o x z y = !o x y z := fun x y z m => by
    have bb := mt_bd S.tri m
    show (!(pB x z y ^^ decide (s (isort [x, z, y]) = 1))) = !(!(pB x y z ^^ decide (s (isort [x, y, z]) = 1)))
    rw [i2, pB2 (by omega) (by omega) (by omega)]
    cases pB x y z <;> simp
  have co : ∀ x y z w, x < y → MT T x y z → MT T x y w → z ≠ w → o x y w = !o x y z := fun x y z w hxy m1 m2 hne => by
    have b1 := mt_bd S.tri m1
    have b2 := mt_bd S.tri m2
    have hd : isort [x, y, z] ≠ isort [x, y, w] := fun e => by
      rcases iso_p3.mp e with h | h | h | h | h | h <;> omega
    have q := hs.2 _ _ [x, y] ((pair_mt S.tri).mpr ⟨x, y, z, rfl, hxy, m1, rfl⟩) ((pair_mt S.tri).mpr ⟨x, y, w, rfl, hxy, m2, rfl⟩) hd
    rw [sgn_pB hxy (by omega) (by omega), sgn_pB hxy (by omega) (by omega)] at q
    have p1 := hs.1 _ ((mt_iso S.tri).mp m1)
    have p2 := hs.1 _ ((mt_iso S.tri).mp m2)
    show (!(pB x y w ^^ decide (s (isort [x, y, w]) = 1))) = !(!(pB x y z ^^ decide (s (isort [x, y, z]) = 1)))
    rcases p1 with p1 | p1 <;> rcases p2 with p2 | p2 <;> rw [p1, p2] at q ⊢ <;> cases hz : pB x y z <;> cases hw : pB x y w <;> simp [hz, hw] at q ⊢
  refine ⟨o, a1, a2, fun x y z w m1 m2 hne => ?_⟩
  have b1 := mt_bd S.tri m1
  by_cases h : x < y
  · exact co x y z w h m1 m2 hne
  · have q := co y x z w (by omega) (S.sr.s1 _ _ _ m1) (S.sr.s1 _ _ _ m2) hne
    rw [a1 x y w m2, a1 x y z m1] at q
    simpa using q
def sgnO (o : Int → Int → Int → Bool) (t : List Int) : Int := match t with
  | [a, b, c] => if o a b c then 1 else -1
  | _ => 1
theorem orb_from {T : List (List Int)} {n : Int} (S : SurfL T n) (h : Orble (MT T)) : OrbT T := by
  obtain ⟨o, a1, a2, co⟩ := h
  refine ⟨sgnO o, fun t ht => ?_, fun t u e ht hu hne => ?_⟩
  · obtain ⟨a, b, c, rfl, _⟩ := S.tri t ht
    show (if o a b c then (1 : Int) else -1) = 1 ∨ _
    cases h : o a b c <;> simp [sgnO, h]
  · have val : ∀ x y z, x < y → MT T x y z → sgnO o (isort [x, y, z]) * sgnE (isort [x, y, z]) [x, y] = if o x y z then 1 else -1 := fun x y z hxy m => by
      have bb := mt_bd S.tri m
      rw [sgn_pB hxy (by omega) (by omega)]
      by_cases b : y < z
      · have c : x < z := by omega
        rw [asc_iso hxy b]
        simp [sgnO, pB, hxy, b, c]
      · by_cases c : x < z
        · have e0 : isort [x, y, z] = [x, z, y] := by
            rw [iso_p3.mpr (show P3 x y z x z y by simp [P3]), asc_iso c (by omega)]
          rw [e0]
          have := a2 x y z m
          simp [sgnO, pB, hxy, b, c, this]
          cases o x y z <;> simp
        · have e0 : isort [x, y, z] = [z, x, y] := by
            rw [iso_p3.mpr (show P3 x y z z x y by simp [P3]), asc_iso (by omega) hxy]
          rw [e0]
          have q1 := a2 x y z m
          have q2 := a1 x z y (S.sr.s2 _ _ _ m)
          have : o z x y = o x y z := by rw [q2, q1]; simp
          simp [sgnO, pB, hxy, b, c, this]
    obtain ⟨x, y, z, rfl, hxy, m1, rfl⟩ := (pair_mt S.tri).mp ht
    obtain ⟨x', y', w, e, _, m2, rfl⟩ := (pair_mt S.tri).mp hu
    injection e with e1 e2
    injection e2 with e2 _
    subst e1 e2
    have hzw : z ≠ w := fun q => hne (by rw [q])
    rw [val x y w hxy m2, val x y z hxy m1, co x y z w m1 m2 hzw]
    cases o x y z <;> simp
theorem orb_iff {T : List (List Int)} {n : Int} (S : SurfL T n) : OrbT T ↔ Orble (MT T) := ⟨orb_to S, orb_from S⟩
end Fl

set_option Elab.async false
set_option linter.all false
set_option maxHeartbeats 1000000
namespace Fl
/-! the flip of an edge, as the program and as the law do it -/
section
variable {T F : List (List Int)} (S : SurfL T 31) (hF : Faces T F) {x y z w : Int} (hxy : x < y) (mz : MT T x y z) (mw : MT T x y w) (hwz : w ≠ z) (hu : ∀ u, MT T x y u → u = z ∨ u = w)
include S hF hxy mz mw hwz hu
theorem iso2 (a b : Int) : isort [a, b] = if a < b then [a, b] else [b, a] := by
  split
  · exact (isort_eq (.refl _) (by simp; omega)).symm
  · exact (isort_eq (.swap _ _ _) (by simp; omega)).symm
/-- the tips are an edge -/
theorem tips_in : tipsS T [x, y] ∈ F ↔ ∃ q, MT T z w q := by
  rw [tipsS_eq S mz mw hwz hu hxy, iso2 S hF hxy mz mw hwz hu]
  split
  · rw [edge_mt S hF]
    exact ⟨fun h => h.2, fun h => ⟨by assumption, h⟩⟩
  · rw [edge_mt S hF]
    constructor
    · rintro ⟨_, q, m⟩; exact ⟨q, S.sr.s1 _ _ _ m⟩
    · rintro ⟨q, m⟩; exact ⟨by omega, q, S.sr.s1 _ _ _ m⟩
/-- the law's flip leaves all as it was just where the tips are an edge -/
theorem flip_same (hT : Wk T) {R : List (List Int)} (pR : R.Perm (flipM T [x, y])) (wR : Wk R) : R = T ↔ ∃ q, MT T z w q := by
  obtain ⟨f1, f2⟩ := flipM_eq S mz mw hwz hu
  constructor
  · intro e
    refine Classical.byContradiction fun hno => ?_
    have hmem : isort [z, w, x] ∈ R := by
      rw [pR.mem_iff, f2 hno]
      exact List.mem_append.mpr (.inr (by simp [newT]))
    rw [e] at hmem
    exact hno ⟨x, (mt_iso S.tri).mpr hmem⟩
  · intro h
    rw [f1 h] at pR
    exact wR.perm hT pR
/-- the program's flip has the law's triangles -/
theorem flipS_eq (hno : ¬ ∃ q, MT T z w q) : flipS T [x, y] = flipM T [x, y] := by
  rw [(flipM_eq S mz mw hwz hu).2 hno]
  unfold flipS
  rw [tipsS_eq S mz mw hwz hu hxy, flip_new S mz mw hwz hu]
  congr 1
  apply List.filter_congr
  intro t ht
  have h1 : t ∈ atE (pairsOf T) [x, y] ↔ t ∈ someL T [x, y] := by
    rw [mem_some S mz mw hwz hu, mem_atE, pair_mt S.tri]
    constructor
    · rintro ⟨x', y', q, e, _, m, rfl⟩
      injection e with e1 e2
      injection e2 with e2 _
      subst e1 e2
      rcases hu q m with rfl | rfl
      · exact .inl rfl
      · exact .inr rfl
    · rintro (rfl | rfl)
      · exact ⟨x, y, z, rfl, hxy, mz, rfl⟩
      · exact ⟨x, y, w, rfl, hxy, mw, rfl⟩
  simp [h1]
end
end Fl

set_option Elab.async false
set_option linter.all false
set_option maxHeartbeats 1000000
namespace Fl
section
variable {T : List (List Int)} (S : SurfL T 31) {x y z w : Int} (hxy : x < y) (mz : MT T x y z) (mw : MT T x y w) (hwz : w ≠ z) (hu : ∀ u, MT T x y u → u = z ∨ u = w) (hno : ¬ ∃ q, MT T z w q)
include S hxy mz mw hwz hu hno
theorem after_flip {R : List (List Int)} (pR : R.Perm (flipM T [x, y])) : CanFlip (MT T) x y z w ∧ SurfL R 31 ∧ (∀ p q r, MT R p q r ↔ flipR (MT T) x y z w p q r) ∧ R.length = T.length ∧ (OrbT R ↔ OrbT T) := by
  rw [(flipM_eq S mz mw hwz hu).2 hno] at pR
  obtain ⟨cf, s2, hM, hl⟩ := flip_surf S mz mw hwz hu hno
  have sR := s2.perm pR
  have hMR : ∀ p q r, MT R p q r ↔ flipR (MT T) x y z w p q r := fun p q r => (MT.congr (fun t => pR.mem_iff) p q r).trans (hM p q r)
  refine ⟨cf, sR, hMR, by rw [pR.length_eq, hl], ?_⟩
  rw [orb_iff sR, orb_iff S, ← flip_orble_iff S.sr cf]
  exact ⟨orble_iff hMR, orble_iff fun p q r => (hMR p q r).symm⟩
/-- the vertices stay -/
theorem vert_flip (p : Int) : (∃ q r, flipR (MT T) x y z w p q r) ↔ ∃ q r, MT T p q r := by
  obtain ⟨cf, _, hM, _⟩ := flip_surf S mz mw hwz hu hno
  have b1 := mt_bd S.tri mz
  have b2 := mt_bd S.tri mw
  constructor
  · rintro ⟨q, r, ⟨m, _⟩ | h | h⟩
    · exact ⟨q, r, m⟩
    · rcases h with h | h | h | h | h | h <;> rw [h.1]
      · exact ⟨y, z, mz⟩
      · exact ⟨y, z, mz⟩
      · exact ⟨x, y, mt_p3 (by simp [P3]) mz⟩
      · exact ⟨x, y, mt_p3 (by simp [P3]) mz⟩
      · exact ⟨x, y, mt_p3 (by simp [P3]) mw⟩
      · exact ⟨x, y, mt_p3 (by simp [P3]) mw⟩
    · rcases h with h | h | h | h | h | h <;> rw [h.1]
      · exact ⟨x, z, mt_p3 (by simp [P3]) mz⟩
      · exact ⟨x, z, mt_p3 (by simp [P3]) mz⟩
      · exact ⟨x, y, mt_p3 (by simp [P3]) mz⟩
      · exact ⟨x, y, mt_p3 (by simp [P3]) mz⟩
      · exact ⟨x, y, mt_p3 (by simp [P3]) mw⟩
      · exact ⟨x, y, mt_p3 (by simp [P3]) mw⟩
  · rintro ⟨q, r, m⟩
    by_cases h1 : P3 p q r x y z
    · have : p = x ∨ p = y ∨ p = z := by rcases h1 with h | h | h | h | h | h <;> simp [h.1]
      rcases this with rfl | rfl | rfl
      · exact ⟨z, w, .inr (.inl (by simp [P3]))⟩
      · exact ⟨z, w, .inr (.inr (by simp [P3]))⟩
      · exact ⟨x, w, .inr (.inl (by simp [P3]))⟩
    · by_cases h2 : P3 p q r x y w
      · have : p = x ∨ p = y ∨ p = w := by rcases h2 with h | h | h | h | h | h <;> simp [h.1]
        rcases this with rfl | rfl | rfl
        · exact ⟨z, w, .inr (.inl (by simp [P3]))⟩
        · exact ⟨z, w, .inr (.inr (by simp [P3]))⟩
        · exact ⟨x, z, .inr (.inl (by simp [P3]))⟩
      · exact ⟨q, r, .inl ⟨m, h1, h2⟩⟩
end
end Fl

set_option Elab.async false
set_option linter.all false
set_option maxHeartbeats 1000000
namespace Fl
section
variable {T : List (List Int)} (S : SurfL T 31) {x y z w : Int} (hxy : x < y) (mz : MT T x y z) (mw : MT T x y w) (hwz : w ≠ z) (hu : ∀ u, MT T x y u → u = z ∨ u = w) (hno : ¬ ∃ q, MT T z w q)
include S hxy mz mw hwz hu hno
/-- the edges behind a flip -/
theorem edge_flip (p q : Int) : (∃ r, flipR (MT T) x y z w p q r) ↔ ((∃ r, MT T p q r) ∧ ¬ (p = x ∧ q = y) ∧ ¬ (p = y ∧ q = x)) ∨ (p = z ∧ q = w) ∨ (p = w ∧ q = z) := by
  have b1 := mt_bd S.tri mz
  have b2 := mt_bd S.tri mw
  constructor
  · rintro ⟨r, ⟨m, n1, n2⟩ | h | h⟩
    · refine .inl ⟨⟨r, m⟩, fun ⟨e1, e2⟩ => ?_, fun ⟨e1, e2⟩ => ?_⟩
      · subst e1 e2
        rcases hu r m with rfl | rfl
        · exact n1 (by simp [P3])
        · exact n2 (by simp [P3])
      · subst e1 e2
        rcases hu r (S.sr.s1 _ _ _ m) with rfl | rfl
        · exact n1 (by simp [P3])
        · exact n2 (by simp [P3])
    · rcases h with h | h | h | h | h | h <;> obtain ⟨rfl, rfl, rfl⟩ := h
      · exact .inl ⟨⟨y, mt_p3 (by simp [P3]) mz⟩, by omega, by omega⟩
      · exact .inl ⟨⟨y, mt_p3 (by simp [P3]) mw⟩, by omega, by omega⟩
      · exact .inl ⟨⟨y, mt_p3 (by simp [P3]) mz⟩, by omega, by omega⟩
      · exact .inr (.inl ⟨rfl, rfl⟩)
      · exact .inl ⟨⟨y, mt_p3 (by simp [P3]) mw⟩, by omega, by omega⟩
      · exact .inr (.inr ⟨rfl, rfl⟩)
    · rcases h with h | h | h | h | h | h <;> obtain ⟨rfl, rfl, rfl⟩ := h
      · exact .inl ⟨⟨x, mt_p3 (by simp [P3]) mz⟩, by omega, by omega⟩
      · exact .inl ⟨⟨x, mt_p3 (by simp [P3]) mw⟩, by omega, by omega⟩
      · exact .inl ⟨⟨x, mt_p3 (by simp [P3]) mz⟩, by omega, by omega⟩
      · exact .inr (.inl ⟨rfl, rfl⟩)
      · exact .inl ⟨⟨x, mt_p3 (by simp [P3]) mw⟩, by omega, by omega⟩
      · exact .inr (.inr ⟨rfl, rfl⟩)
  · rintro (⟨⟨r, m⟩, n1, n2⟩ | ⟨rfl, rfl⟩ | ⟨rfl, rfl⟩)
    · by_cases h1 : P3 p q r x y z
      · rcases h1 with h | h | h | h | h | h <;> obtain ⟨rfl, rfl, rfl⟩ := h
        · exact absurd ⟨rfl, rfl⟩ n1
        · exact ⟨w, .inr (.inl (by simp [P3]))⟩
        · exact absurd ⟨rfl, rfl⟩ n2
        · exact ⟨w, .inr (.inr (by simp [P3]))⟩
        · exact ⟨w, .inr (.inl (by simp [P3]))⟩
        · exact ⟨w, .inr (.inr (by simp [P3]))⟩
      · by_cases h2 : P3 p q r x y w
        · rcases h2 with h | h | h | h | h | h <;> obtain ⟨rfl, rfl, rfl⟩ := h
          · exact absurd ⟨rfl, rfl⟩ n1
          · exact ⟨z, .inr (.inl (by simp [P3]))⟩
          · exact absurd ⟨rfl, rfl⟩ n2
          · exact ⟨z, .inr (.inr (by simp [P3]))⟩
          · exact ⟨z, .inr (.inl (by simp [P3]))⟩
          · exact ⟨z, .inr (.inr (by simp [P3]))⟩
        · exact ⟨r, .inl ⟨m, h1, h2⟩⟩
    · exact ⟨x, .inr (.inl (by simp [P3]))⟩
    · exact ⟨x, .inr (.inl (by simp [P3]))⟩
end
end Fl

set_option Elab.async false
set_option linter.all false
set_option maxHeartbeats 1000000
namespace Fl
/-! the numbers of faces behind a flip, and the way back -/
theorem len_swap {A B : List (List Int)} {e f : List Int} (nA : A.Nodup) (nB : B.Nodup) (he : e ∈ A) (hf : f ∉ A) (h : ∀ x, x ∈ B ↔ (x ∈ A ∧ x ≠ e) ∨ x = f) : B.length = A.length := by
  have p : B.Perm (f :: A.erase e) := (List.perm_ext_iff_of_nodup nB (List.nodup_cons.mpr ⟨fun z => hf (List.mem_of_mem_erase z), nA.erase e⟩)).mpr fun x => by
    rw [h, List.mem_cons, nA.mem_erase_iff]
    constructor
    · rintro (⟨h1, h2⟩ | h1)
      · exact .inr ⟨h2, h1⟩
      · exact .inl h1
    · rintro (h1 | ⟨h1, h2⟩)
      · exact .inr h1
      · exact .inl ⟨h2, h1⟩
  rw [p.length_eq, List.length_cons, List.length_erase_of_mem he]
  have := List.length_pos_of_mem he
  omega
theorem len_same {A B : List (List Int)} (nA : A.Nodup) (nB : B.Nodup) (h : ∀ x, x ∈ B ↔ x ∈ A) : B.length = A.length :=
  ((List.perm_ext_iff_of_nodup nB nA).mpr h).length_eq
theorem one_only {A : List (List Int)} {f : List Int} (nA : A.Nodup) (h : ∀ x, x ∈ A ↔ x = f) : A = [f] :=
  List.perm_singleton.mp ((List.perm_ext_iff_of_nodup nA (by simp)).mpr fun x => by rw [h]; simp)
theorem cnt_def {F : List (List Int)} {k : Nat} : cnt F k = ((F.filter fun x => decide (x.length = k)).length : Nat) := rfl
theorem cnt3_of {T F : List (List Int)} {n : Int} (S : SurfL T n) (hF : Faces T F) : cnt F 3 = T.length := by
  rw [cnt_def]
  congr 1
  refine len_same S.nd (hF.1.filter _) fun x => ?_
  rw [List.mem_filter, decide_eq_true_iff]
  constructor
  · rintro ⟨hx, h3⟩
    obtain ⟨t, ht, hp⟩ := (hF.2 x).mp hx
    obtain ⟨a, b, c, rfl, _⟩ := S.tri t ht
    rcases part3.mp hp with rfl | rfl | rfl | rfl | rfl | rfl | rfl <;> first | exact ht | simp at h3
  · intro hx
    exact ⟨((mem_inner S.tri hF).mpr hx).1, (S.tri x hx).len⟩
theorem xlen1 {x : List Int} (h : x.length = 1) : ∃ p, x = [p] := by
  match x, h with
  | [p], _ => exact ⟨p, rfl⟩
theorem xlen2 {x : List Int} (h : x.length = 2) : ∃ p q, x = [p, q] := by
  match x, h with
  | [p, q], _ => exact ⟨p, q, rfl⟩
theorem isort2 (a b : Int) : isort [a, b] = if a < b then [a, b] else [b, a] := by
  split
  · exact (isort_eq (.refl _) (by simp; omega)).symm
  · exact (isort_eq (.swap _ _ _) (by simp; omega)).symm
section
variable {T : List (List Int)} (S : SurfL T 31) {x y z w : Int} (hxy : x < y) (mz : MT T x y z) (mw : MT T x y w) (hwz : w ≠ z) (hu : ∀ u, MT T x y u → u = z ∨ u = w) (hno : ¬ ∃ q, MT T z w q)
  {R : List (List Int)} (pR : R.Perm (flipM T [x, y]))
include S hxy mz mw hwz hu hno pR
theorem edge_iff (p q : Int) (hpq : p < q) : (∃ r, MT R p q r) ↔ ((∃ r, MT T p q r) ∧ [p, q] ≠ [x, y]) ∨ [p, q] = isort [z, w] := by
  obtain ⟨cf, sR, hM, _⟩ := after_flip S hxy mz mw hwz hu hno pR
  have e : (∃ r, MT R p q r) ↔ ∃ r, flipR (MT T) x y z w p q r := exists_congr fun r => hM p q r
  rw [e, edge_flip S hxy mz mw hwz hu hno, isort2]
  constructor
  · rintro (⟨h, n1, n2⟩ | ⟨rfl, rfl⟩ | ⟨rfl, rfl⟩)
    · exact .inl ⟨h, fun z => n1 (by injection z with z1 z2; injection z2 with z2 _; exact ⟨z1, z2⟩)⟩
    · right; rw [if_pos hpq]
    · right; rw [if_neg (by omega)]
  · rintro (⟨h, n1⟩ | h)
    · exact .inl ⟨h, fun ⟨a, b⟩ => n1 (by rw [a, b]), fun ⟨a, b⟩ => by omega⟩
    · right
      split at h
      · left; injection h with z1 z2; injection z2 with z2 _; exact ⟨z1, z2⟩
      · right; injection h with z1 z2; injection z2 with z2 _; exact ⟨z1, z2⟩
theorem cnt_flip {F F2 : List (List Int)} (hF : Faces T F) (hF2 : Faces R F2) : cnt F2 1 = cnt F 1 ∧ cnt F2 2 = cnt F 2 ∧ cnt F2 3 = cnt F 3 := by
  obtain ⟨cf, sR, hM, hl, _⟩ := after_flip S hxy mz mw hwz hu hno pR
  refine ⟨?_, ?_, by rw [cnt3_of sR hF2, cnt3_of S hF, hl]⟩
  · rw [cnt_def, cnt_def]
    congr 1
    refine len_same (hF.1.filter _) (hF2.1.filter _) fun u => ?_
    simp only [List.mem_filter, decide_eq_true_iff]
    refine and_congr_left fun h1 => ?_
    obtain ⟨p, rfl⟩ := xlen1 h1
    rw [vert_mt sR hF2, vert_mt S hF, ← vert_flip S hxy mz mw hwz hu hno]
    exact exists_congr fun a => exists_congr fun b => hM p a b
  · rw [cnt_def, cnt_def]
    congr 1
    refine len_swap (e := [x, y]) (f := isort [z, w]) (hF.1.filter _) (hF2.1.filter _) ?_ ?_ fun u => ?_
    · simp only [List.mem_filter, decide_eq_true_iff]
      exact ⟨(edge_mt S hF).mpr ⟨hxy, z, mz⟩, rfl⟩
    · simp only [List.mem_filter, decide_eq_true_iff]
      rintro ⟨h, _⟩
      rw [isort2] at h
      split at h
      · exact hno ((edge_mt S hF).mp h).2
      · obtain ⟨_, q, m⟩ := (edge_mt S hF).mp h
        exact hno ⟨q, S.sr.s1 _ _ _ m⟩
    · simp only [List.mem_filter, decide_eq_true_iff]
      constructor
      · rintro ⟨h, h2⟩
        obtain ⟨p, q, rfl⟩ := xlen2 h2
        obtain ⟨hpq, m⟩ := (edge_mt sR hF2).mp h
        rcases (edge_iff S hxy mz mw hwz hu hno pR p q hpq).mp m with ⟨m, n⟩ | e
        · exact .inl ⟨⟨(edge_mt S hF).mpr ⟨hpq, m⟩, rfl⟩, n⟩
        · exact .inr e
      · rintro (⟨⟨h, h2⟩, n⟩ | rfl)
        · obtain ⟨p, q, rfl⟩ := xlen2 h2
          obtain ⟨hpq, m⟩ := (edge_mt S hF).mp h
          exact ⟨(edge_mt sR hF2).mpr ⟨hpq, (edge_iff S hxy mz mw hwz hu hno pR p q hpq).mpr (.inl ⟨m, n⟩)⟩, rfl⟩
        · have e := isort2 z w
          split at e <;> rw [e]
          · exact ⟨(edge_mt sR hF2).mpr ⟨by assumption, (edge_iff S hxy mz mw hwz hu hno pR z w (by assumption)).mpr (.inr e.symm)⟩, rfl⟩
          · exact ⟨(edge_mt sR hF2).mpr ⟨by omega, (edge_iff S hxy mz mw hwz hu hno pR w z (by omega)).mpr (.inr e.symm)⟩, rfl⟩
/-- the fresh edge -/
theorem fresh_flip {E G : List (List Int)} (hE : ∀ e, e ∈ E ↔ ∃ t, (e, t) ∈ pairsOf T) (nG : G.Nodup) (hG : ∀ e, e ∈ G ↔ ∃ t, (e, t) ∈ pairsOf R) : (G.filter fun e => decide (e ∉ E)) = [isort [z, w]] := by
  obtain ⟨cf, sR, hM, hl, _⟩ := after_flip S hxy mz mw hwz hu hno pR
  have mE : ∀ {U : List (List Int)} {n : Int}, SurfL U n → ∀ u, (∃ t, (u, t) ∈ pairsOf U) ↔ ∃ p q, u = [p, q] ∧ p < q ∧ ∃ r, MT U p q r := fun SU u => by
    constructor
    · rintro ⟨t, h⟩
      obtain ⟨p, q, r, e, h1, m, _⟩ := (pair_mt SU.tri).mp h
      exact ⟨p, q, e, h1, r, m⟩
    · rintro ⟨p, q, e, h1, r, m⟩
      exact ⟨_, (pair_mt SU.tri).mpr ⟨p, q, r, e, h1, m, rfl⟩⟩
  refine one_only (nG.filter _) fun u => ?_
  simp only [List.mem_filter, decide_eq_true_iff]
  rw [hG, hE, mE sR, mE S]
  have b1 := mt_bd S.tri mz
  have b2 := mt_bd S.tri mw
  constructor
  · rintro ⟨⟨p, q, rfl, hpq, m⟩, n⟩
    rcases (edge_iff S hxy mz mw hwz hu hno pR p q hpq).mp m with ⟨m, _⟩ | e
    · exact absurd ⟨p, q, rfl, hpq, m⟩ n
    · exact e
  · intro e
    have e2 := isort2 z w
    split at e2
    · rw [e, e2]
      refine ⟨⟨z, w, rfl, by assumption, (edge_iff S hxy mz mw hwz hu hno pR z w (by assumption)).mpr (.inr e2.symm)⟩, ?_⟩
      rintro ⟨p, q, e3, h1, m⟩
      injection e3 with z1 z2; injection z2 with z2 _
      subst z1 z2
      exact hno m
    · rw [e, e2]
      refine ⟨⟨w, z, rfl, by omega, (edge_iff S hxy mz mw hwz hu hno pR w z (by omega)).mpr (.inr e2.symm)⟩, ?_⟩
      rintro ⟨p, q, e3, h1, r, m⟩
      injection e3 with z1 z2; injection z2 with z2 _
      subst z1 z2
      exact hno ⟨r, S.sr.s1 _ _ _ m⟩
/-- the way back -/
theorem back_flip : ∃ c d a b, isort [z, w] = [c, d] ∧ c < d ∧ MT R c d a ∧ MT R c d b ∧ b ≠ a ∧ (∀ u, MT R c d u → u = a ∨ u = b) ∧ (¬ ∃ q, MT R a b q) ∧ ∀ t, t ∈ flipM R [c, d] ↔ t ∈ T := by
  obtain ⟨cf, sR, hM, hl, _⟩ := after_flip S hxy mz mw hwz hu hno pR
  obtain ⟨cb, hB⟩ := flip_back S.sr cf
  have mc : MT R z w x := (hM _ _ _).mpr cb.mc
  have md : MT R z w y := (hM _ _ _).mpr cb.md
  have two : ∀ u, MT R z w u → u = x ∨ u = y := fun u m => by
    obtain ⟨v, hv, _, hu2⟩ := sR.sr.two z w x mc
    have h1 := hu2 y md
    have h2 := hu2 u m
    omega
  have no : ¬ ∃ q, MT R x y q := fun ⟨q, m⟩ => cb.no q ((hM _ _ _).mp m)
  have fin : ∀ (c d : Int), c < d → MT R c d x → MT R c d y → (∀ u, MT R c d u → u = x ∨ u = y) → (∀ p q r, flipR (MT R) c d x y p q r ↔ MT T p q r) → ∀ t, t ∈ flipM R [c, d] ↔ t ∈ T := by
    intro c d hcd m1 m2 tw hf t
    obtain ⟨_, sP, hP, _⟩ := after_flip sR hcd m1 m2 (by omega) tw no (.refl _)
    have hPT : ∀ p q r, MT (flipM R [c, d]) p q r ↔ MT T p q r := fun p q r => (hP p q r).trans (hf p q r)
    constructor
    · intro ht
      obtain ⟨a, b, e, rfl, h0, h1, h2, _⟩ := sP.tri t ht
      exact (mt_asc S.tri h1 h2).mp ((hPT _ _ _).mp ((mt_asc sP.tri h1 h2).mpr ht))
    · intro ht
      obtain ⟨a, b, e, rfl, h0, h1, h2, _⟩ := S.tri t ht
      exact (mt_asc sP.tri h1 h2).mp ((hPT _ _ _).mpr ((mt_asc S.tri h1 h2).mpr ht))
  have e2 := isort2 z w
  split at e2
  · rename_i hlt
    refine ⟨z, w, x, y, e2, hlt, mc, md, by omega, two, no, fin z w hlt mc md two fun p q r => ?_⟩
    rw [← hB p q r]
    unfold flipR
    rw [hM]
    exact Iff.rfl
  · have hlt : w < z := by omega
    refine ⟨w, z, x, y, e2, hlt, sR.sr.s1 _ _ _ mc, sR.sr.s1 _ _ _ md, by omega, fun u m => two u (sR.sr.s1 _ _ _ m), no, fin w z hlt (sR.sr.s1 _ _ _ mc) (sR.sr.s1 _ _ _ md) (fun u m => two u (sR.sr.s1 _ _ _ m)) fun p q r => ?_⟩
    rw [← hB p q r]
    unfold flipR
    rw [hM]
    have s : ∀ {a b c a' b' c' : Int}, P3 p q r a b c → P3 a b c a' b' c' → P3 p q r a' b' c' := fun {a b c a' b' c'} h1 h2 => p3_perm.mpr ((p3_perm.mp h1).trans (p3_perm.mp h2))
    have g1 : ∀ u, P3 p q r w z u ↔ P3 p q r z w u := fun u => ⟨fun h => s h (by simp [P3]), fun h => s h (by simp [P3])⟩
    have g2 : P3 p q r w x y ∨ P3 p q r z x y ↔ P3 p q r z x y ∨ P3 p q r w x y := Or.comm
    rw [g1, g1, g2]
    exact Iff.rfl
end
end Fl

set_option Elab.async false
set_option linter.all false
set_option maxHeartbeats 1000000
namespace Fl
/-! what the law needs of a surface -/
theorem dedup_ex (L : List (List Int)) : ∃ D : List (List Int), D.Nodup ∧ ∀ x, x ∈ D ↔ x ∈ L := by
  induction L with
  | nil => exact ⟨[], List.nodup_nil, by simp⟩
  | cons a L ih =>
    obtain ⟨D, h1, h2⟩ := ih
    by_cases h : a ∈ D
    · exact ⟨D, h1, fun x => by rw [h2, List.mem_cons]; exact ⟨.inr, fun z => z.elim (fun e => by rw [e, ← h2]; exact h) id⟩⟩
    · exact ⟨a :: D, List.nodup_cons.mpr ⟨h, h1⟩, fun x => by rw [List.mem_cons, List.mem_cons, h2]⟩
section
variable {T F : List (List Int)} (s : SurfT T) (hF : Faces T F)
include s
theorem SurfT.s31 : SurfL T 31 := s.surf.mono (by decide)
theorem good_T : Good T := good_of s.s31.tri (by have := s.len; omega)
theorem edgeT_len {e t : List Int} (he : (e, t) ∈ pairsOf T) : e.length = 2 ∧ simpB e = true := by
  obtain ⟨x, y, z, rfl, hxy, m, _⟩ := (pair_mt s.surf.tri).mp he
  have b := mt_bd s.surf.tri m
  refine ⟨rfl, ?_⟩
  simp [simpB, ascB]
  omega
theorem no_edge29 : ¬ ∃ t, ([0, 29], t) ∈ pairsOf T := fun ⟨t, he⟩ => by
  obtain ⟨x, y, z, e, hxy, m, _⟩ := (pair_mt s.surf.tri).mp he
  have b := mt_bd s.surf.tri m
  injection e with e1 e2
  injection e2 with e2 _
  omega
theorem no_len {e : List Int} (h : e.length ≠ 2) : ¬ ∃ t, (e, t) ∈ pairsOf T := fun ⟨t, he⟩ => h (edgeT_len s he).1
include hF
theorem srf_T : Srf F T := srf_of s.s31 hF (by have := s.len; omega)
theorem orH_T : OrH T := orH_of s.s31 (by have := s.len; omega)
theorem sz3_T : Sz3 F := sz3_of s.s31.tri s.surf.ne hF
theorem tops_T {T' : List (List Int)} (h : Tops F T') : T' = T := tops_eq s.s31.tri s.srt hF h
/-- the edges that the law holds for due are those that the program finds -/
theorem due_iff {e t : List Int} (he : (e, t) ∈ pairsOf T) {R : List (List Int)} (pR : R.Perm (flipM T e)) (wR : Wk R) : R = T ↔ tipsS T e ∈ F := by
  obtain ⟨x, y, z, w, rfl, hxy, mz, mw, hwz, hu⟩ := flip_cases s.s31 he
  rw [flip_same s.s31 hF hxy mz mw hwz hu s.srt.wk pR wR, tips_in s.s31 hF hxy mz mw hwz hu]
/-- behind a flip -/
theorem flip_pack {e t : List Int} (he : (e, t) ∈ pairsOf T) (hno : tipsS T e ∉ F) {R : List (List Int)} (pR : R.Perm (flipM T e)) (wR : Wk R) :
    SurfT R ∧ Good (flipS T e) ∧ (∀ F2 T2, Faces (flipS T e) F2 → Tops F2 T2 → Faces R F2 ∧ T2 = R) ∧ (∀ F2, Faces R F2 → cnt F2 1 = cnt F 1 ∧ cnt F2 2 = cnt F 2 ∧ cnt F2 3 = cnt F 3) ∧ (OrbT R ↔ OrbT T) ∧
    ∃ f, (∀ E G : List (List Int), (∀ e, e ∈ E ↔ ∃ t, (e, t) ∈ pairsOf T) → G.Nodup → (∀ e, e ∈ G ↔ ∃ t, (e, t) ∈ pairsOf R) → (G.filter fun e => decide (e ∉ E)) = [f]) ∧ (∃ t, (f, t) ∈ pairsOf R) ∧ (∀ F2, Faces R F2 → tipsS R f ∉ F2) ∧ Good (flipS R f) ∧
      ∀ F3 T3, Faces (flipS R f) F3 → Tops F3 T3 → T3 = T := by
  obtain ⟨x, y, z, w, rfl, hxy, mz, mw, hwz, hu⟩ := flip_cases s.s31 he
  have hn : ¬ ∃ q, MT T z w q := fun h => hno ((tips_in s.s31 hF hxy mz mw hwz hu).mpr h)
  obtain ⟨sF, lF⟩ := flipM_surf s.surf he
  have l42 := s.len
  have sR : SurfT R := surfT_of sF (by decide) (by omega) pR wR
  have eS := flipS_eq s.s31 hF hxy mz mw hwz hu hn
  have s31 := s.s31
  have tF : ∀ t ∈ flipM T [x, y], Tri 31 t := fun t ht => (sF.tri t ht).mono (by decide)
  refine ⟨sR, by rw [eS]; exact good_of tF (by omega), fun F2 T2 h1 h2 => ?_, fun F2 h => cnt_flip s31 hxy mz mw hwz hu hn pR hF h, (after_flip s31 hxy mz mw hwz hu hn pR).2.2.2.2, isort [z, w], fun E G h1 h2 h3 => fresh_flip s31 hxy mz mw hwz hu hn pR h1 h2 h3, ?_⟩
  · rw [eS] at h1
    have h1' : Faces R F2 := ⟨h1.1, fun u => by rw [h1.2]; exact exists_congr fun t => by rw [pR.mem_iff]⟩
    exact ⟨h1', tops_eq sR.s31.tri sR.srt h1' h2⟩
  · obtain ⟨c, d, a, b, e1, hcd, ma, mb, hba, hu2, hn2, hm⟩ := back_flip s31 hxy mz mw hwz hu hn pR
    rw [e1]
    have hF2 : ∃ F2, Faces R F2 := by
      obtain ⟨D, d1, d2⟩ := dedup_ex (R.flatMap partsOf)
      refine ⟨D, d1, fun u => ?_⟩
      rw [d2, List.mem_flatMap]
      exact exists_congr fun t => by rw [mem_partsOf]
    have hp : ([c, d], isort [c, d, a]) ∈ pairsOf R := (pair_mt sR.s31.tri).mpr ⟨c, d, a, rfl, hcd, ma, rfl⟩
    obtain ⟨sB, lB⟩ := flipM_surf sR.surf hp
    obtain ⟨F2, hF2⟩ := hF2
    have eB := flipS_eq sR.s31 hF2 hcd ma mb hba hu2 hn2
    refine ⟨⟨_, hp⟩, fun F2 h2 h => hn2 ((tips_in sR.s31 h2 hcd ma mb hba hu2).mp h), ?_, fun F3 T3 h3 h4 => ?_⟩
    · rw [eB]
      have := sR.len
      exact good_of (fun t ht => (sB.tri t ht).mono (by decide)) (by omega)
    · rw [eB] at h3
      have h3' : Faces T F3 := ⟨h3.1, fun u => by rw [h3.2]; exact exists_congr fun t => by rw [hm]⟩
      exact tops_eq s31.tri s.srt h3' h4
end
/-- a triangle less: no surface any more -/
theorem tail_pack {T : List (List Int)} (s : SurfT T) : Good T.tail ∧ ∀ F' T', Faces T.tail F' → Tops F' T' → T' = T.tail ∧ Cx0 F' T.tail ∧ Flat F' T.tail := by
  have l42 := s.len
  have tri : ∀ t ∈ T.tail, Tri 31 t := fun t ht => s.s31.tri t (List.mem_of_mem_tail ht)
  have ll : T.tail.length ≤ 42 := by rw [List.length_tail]; omega
  refine ⟨good_of tri (by omega), fun F' T' hF hT => ⟨tops_eq tri ?_ hF hT, cx0_of tri hF (by omega), ?_⟩⟩
  · cases h : T with
    | nil => exact .nil
    | cons a b => have := s.srt; rw [h] at this; exact (List.pairwise_cons.mp this).2
  · have ne := s.surf.ne
    have nd := s.surf.nd
    have two := two_of s.surf
    have S := s.surf
    cases h : T with
    | nil => exact absurd h ne
    | cons t0 T' =>
      obtain ⟨a, b, c, et, h0, h1, h2, h3⟩ := S.tri t0 (by rw [h]; simp)
      have mc : MT T a b c := ⟨a, b, c, by rw [h, et]; simp, by simp [P3]⟩
      obtain ⟨w, hw, mw, _⟩ := two_mt S mc
      have hp0 : ([a, b], t0) ∈ cutsOf t0 := by rw [et]; exact cuts3.mpr (by simp)
      have hpw : ([a, b], isort [a, b, w]) ∈ pairsOf T := (pair_mt S.tri).mpr ⟨a, b, w, rfl, h1, mw, rfl⟩
      have hne : isort [a, b, w] ≠ t0 := fun e => by
        rw [et, ← asc_iso h1 h2] at e
        have p := iso_p3.mp e
        have bd := mt_bd S.tri mc
        have bd2 := mt_bd S.tri mw
        simp only [P3] at p
        omega
      have l2 := two [a, b] _ hpw
      have ep : pairsOf T = cutsOf t0 ++ pairsOf T' := by rw [h]; rfl
      rw [ep] at hpw l2
      refine ⟨[a, b], isort [a, b, w], (List.mem_append.mp hpw).resolve_left (fun z => ?_), ?_⟩
      · unfold cutsOf at z
        obtain ⟨m, _, e⟩ := List.mem_map.mp z
        injection e with _ e
        exact hne e.symm
      · have e2 : atE (cutsOf t0 ++ pairsOf T') [a, b] = atE (cutsOf t0) [a, b] ++ atE (pairsOf T') [a, b] := by
          unfold atE
          rw [List.filter_append, List.map_append]
        rw [e2, List.length_append] at l2
        have : t0 ∈ atE (cutsOf t0) [a, b] := mem_atE.mpr hp0
        have := List.length_pos_of_mem this
        show (atE (pairsOf T') [a, b]).length ≠ 2
        omega
end Fl

set_option Elab.async false
set_option linter.all false
set_option maxRecDepth 100000
set_option maxHeartbeats 4000000
namespace Fl
open PySem PySem.Spec PyProof.Rows L2
theorem pss_or {X : Cx} {b : List Stmt} {P1 P2 : Prop} {t1 t2 : TS} (h1 : P1 → PSs X b t1) (h2 : P2 → PSs X b t2) : PSs X b (fun D σ H => (P1 ∧ t1 D σ H) ∨ (P2 ∧ t2 D σ H)) :=
  ⟨fun pins s σ H D I h => h.elim (fun q => (h1 q.1).run pins s σ H D I q.2) fun q => (h2 q.1).run pins s σ H D I q.2⟩
def suiteOf (b : List Stmt) : List Stmt := match b with
  | .Try _ [.ExceptHandler _ _ c _] _ _ _ :: _ => c
  | _ => []
/-- what _law_error makes of the reading of its work -/
def TErr (cNF cNS : Addr) : (XK → Hp → VK → Prop) → Hp → VK → Prop := fun tl H Q =>
  tl (fun cls d H' => (cls = .ref cNF ∧ d = none ∧ Q (.str "flip") H') ∨ (cls = .ref cNS ∧ d = none ∧ Q (.str "surface") H')) H (fun _ H' => Q (.str "") H')
def TsE (K : PySem.W.Frag) (D a cNF cNS : Addr) : TS := fun E σ H => ∃ b1 b2, PySem.W.kitOne K (.ref D) (.ref cNF) = some b1 ∧ PySem.W.kitOne K (.ref D) (.ref cNS) = some b2 ∧ (∃ σ0 : L2.St, σ = σ0.set 1 (some (.ref a))) ∧
  ((b1 = true ∧ b2 = false ∧ E.rt (.str "flip") H) ∨ (b1 = false ∧ b2 = true ∧ E.rt (.str "surface") H))
section
variable {X : Cx} {A : Ad}
theorem err_suite (T : Tx X.K X.mg A) {f : Addr} {cdg : Value} {s : Shared} {H : Hp} {D a : Addr} {oe : Obj} {pn : List (Addr × Obj)} (C : ExcC X.K D) (hz : Zc (.ref D) none oe) (hf : ∃ vs, oe.data = .fields vs)
    {b : List Stmt} {t : TS} (hb : PSs ((cxOf C8.CX0 X.prog X.w X.K X.mg X.base N__law_error "_law_error" (defScope s__law_error) f cdg X.A X.stack s H C8.E0).nox.suite a ((a, oe) :: pn)) b t)
    (hq : ∀ E σ H, σ[1]? = some (some (.ref a)) → TsE X.K D a A.cNF A.cNS E σ H → t E σ H) : PSs ((cxOf C8.CX0 X.prog X.w X.K X.mg X.base N__law_error "_law_error" (defScope s__law_error) f cdg X.A X.stack s H C8.E0).nox.suite a ((a, oe) :: pn)) b (TsE X.K D a A.cNF A.cNS) :=
  ⟨fun pins s σ H E I h => hb.run pins s σ H E I (hq E σ H (by
    obtain ⟨_, _, _, _, ⟨σ0, e⟩, _⟩ := h
    have l : σ.length = 2 := I.len
    rw [e] at l ⊢
    rw [List.length_set] at l
    rw [List.getElem?_set_self (by omega)]) h)⟩
theorem err_gives (T : Tx X.K X.mg A) (q : Str) (cdg : Value) : LamX.GivesTo X N__law_error "_law_error" (defScope s__law_error) A.f__law_error cdg (defBody s__law_error) "_law_work" q (TErr A.cNF A.cNS) := by
  intro f c' s H Q tl act hc h
  have rd : ∀ {D a : Addr} {oe : Obj} {pn : List (Addr × Obj)}, ExcC X.K D → Zc (.ref D) none oe → (∃ vs, oe.data = .fields vs) → PSs ((cxOf C8.CX0 X.prog X.w X.K X.mg X.base N__law_error "_law_error" (defScope s__law_error) A.f__law_error cdg X.A X.stack s H C8.E0).nox.suite a ((a, oe) :: pn)) (suiteOf (defBody s__law_error)) (TsE X.K D a A.cNF A.cNS) := fun {D a oe pn} C hz hf =>
    err_suite T C hz hf (pss_cons (ps_if (PW.pt (pw_and (pt_val (pe_callB (call_isE C hz hf) (by rfl) (T.nb "isinstance" (by decide)) (by decide +kernel) (pa_cons (pv 1) (pa_cons (pe_glob (v := .ref A.cNF) rfl T.g_NotFlip rfl) pa_nil))))
      (pw_and1 (pt_not (pt_val (pe_callB (call_isE C hz hf) (by rfl) (T.nb "isinstance" (by decide)) (by decide +kernel) (pa_cons (pv 1) (pa_cons (pe_glob (v := .ref A.cNS) rfl T.g_NotSurface rfl) pa_nil)))))))) (pss_one (ps_ret pe_str)) pss_nil)
      (pss_one (ps_ret (pe_ifExp (pt_val (pe_callB (call_isE C hz hf) (by rfl) (T.nb "isinstance" (by decide)) (by decide +kernel) (pa_cons (pv 1) (pa_cons (pe_glob (v := .ref A.cNS) rfl T.g_NotSurface rfl) pa_nil)))) pe_str pe_str)))) (fun E σ H hs ⟨b1, b2, k1, k2, _, h⟩ => by
        rcases h with ⟨rfl, rfl, h⟩ | ⟨rfl, rfl, h⟩
        · refine ⟨_, hs, .ref A.cNF, .ref A.cNF, true, rfl, (fun u r => r), k1, true, rfl, iteT ?_⟩
          refine ⟨_, hs, .ref A.cNS, .ref A.cNS, false, rfl, (fun u r => r), k2, false, rfl, ?_⟩
          exact iteT h
        · refine ⟨_, hs, .ref A.cNF, .ref A.cNF, false, rfl, (fun u r => r), k1, false, rfl, iteF ?_⟩
          refine ⟨_, hs, .ref A.cNS, .ref A.cNS, true, rfl, (fun u r => r), k2, true, rfl, ?_⟩
          exact iteT h)
  refine ⟨_, pss_cons (ps_try_as (X := (cxOf C8.CX0 X.prog X.w X.K X.mg X.base N__law_error "_law_error" (defScope s__law_error) A.f__law_error cdg X.A X.stack s H C8.E0).nox) (c := .ref A.cS) (i := 1)
      (tb := fun W D σ H => ∃ Ech : XK, (∀ cls d σ' H', Ech cls d H' → W cls d σ' H') ∧ σ = L2.start N__law_error [.ref f] ∧ H c' = some (LamX.CodeO c' q) ∧ tl Ech H (fun _ H' => D.nx σ H'))
      (ts := fun a cls d D σ H => ((cls = .ref A.cNF ∧ d = none) ∧ TsE X.K A.cNF a A.cNF A.cNS D σ H) ∨ ((cls = .ref A.cNS ∧ d = none) ∧ TsE X.K A.cNS a A.cNF A.cNS D σ H))
      (Wout := fun _ _ _ _ => False)
      rfl rfl sc__law_error.nd rfl rfl ⟨rfl, by decide, .inl T.g_ShapeError⟩ LamX.takes0 (fun W pn xe tk _ => ?body) (fun a oe cls d pn hz hf => pss_or (fun hc => ?s1) (fun hc => ?s2))) (pss_one (ps_ret pe_str)), ?_⟩
  case body =>
    refine ⟨fun pins s' σ H' D I h' => ?_⟩
    obtain ⟨Ech, hW, h1, h2, h3⟩ := h'
    have hp := act W pn xe Ech ⟨263, 8, 263, 17⟩ ⟨263, 8, 263, 19⟩ tk hW
    have hq := pss_one (ps_expr (pos := ⟨263, 8, 263, 19⟩) hp)
    exact hq.run pins s' σ H' D I ⟨by rw [h1]; rfl, h2, h3⟩
  case s1 =>
    obtain ⟨rfl, rfl⟩ := hc
    exact rd T.ec_NF hz hf
  case s2 =>
    obtain ⟨rfl, rfl⟩ := hc
    exact rd T.ec_NS hz hf
  refine ⟨fun cls d H' => (cls = .ref A.cNF ∧ d = none ∧ Q (.str "flip") H') ∨ (cls = .ref A.cNS ∧ d = none ∧ Q (.str "surface") H'), ?_, rfl, hc, h⟩
  rintro cls d σ' H' (⟨rfl, rfl, q⟩ | ⟨rfl, rfl, q⟩)
  · refine ⟨true, T.xs_NF, fun _ a ha => .inl ⟨⟨rfl, rfl⟩, true, false, T.k_FF, T.k_FS, ⟨σ', rfl⟩, .inl ⟨rfl, rfl, q⟩⟩, fun h => nomatch h⟩
  · refine ⟨true, T.xs_NS, fun _ a ha => .inr ⟨⟨rfl, rfl⟩, false, true, T.k_SF, T.k_SS, ⟨σ', rfl⟩, .inr ⟨rfl, rfl, q⟩⟩, fun h => nomatch h⟩
theorem pe_err (T : Tx X.K X.mg A) {c P : Addr} {k : Nat} {params : Arguments} {body : Expr} {scope : Scope} {t : XK → TE} {p lpos pos : Pos} (TB : LamX.TabB X.base X.mg c P) (hcode : X.env.code = .ref c) (hr : Room (k + 2) X.A) (hg : Gl X "_law_error")
    (L : LamX.LamS X.env.scope scope) (hdef : defaultsOf params X.env = ([], [])) (hbind : ∀ (q : Str) (cl : List (Str × Addr)) (pm cv ctv : Value), bindArgs (PySem.W.kla_fn "<lambda>" q params body scope cl pm cv ctv) ⟨[], []⟩ = pure [])
    (hbody : ∀ (A : Around) (outer : List Env) (s : Shared) (H : Hp) (E : XK) (f c' : Addr), Room k (A.deeper (LamX.lamEnv X scope s.heap.objs.size f c')) → PE (LamX.lamCx X A outer s H E scope f c') body (t E)) :
    PE X (.Call (.Name "_law_error" p) [.Lambda params body scope lpos] [] pos) (LamX.tLam [(P, X.env.qual ++ "<lambda>")] (TErr A.cNF A.cNS) t) := by
  obtain ⟨oc, od, kV, doc, pm, an, cdv, ct, osl, e, lk, hcd⟩ := T.F__law_error.ex
  have hb := T.bd__law_error
  rw [e] at lk hb
  exact LamX.pe_lamcall hg T.g__law_error T.k__law_error lk hcd hb sc__law_error rfl (.inl rfl) (err_gives T _ cdv) TB hcode (by simp) (fun p hp _ => by simp at hp; rw [hp]) hr L hdef hbind hbody
end
/-- a def whose code object's address is known -/
structure FunC (K : PySem.W.Frag) (x qual : Str) (st : Stmt) (f : Addr) (fd : FuncData) (c : Addr) : Prop where
  ex : ∃ (oc : Value) (od : Option Addr) (kV doc pm : Value) (an : Option Addr) (ct : Value) (osl : Array (Option Value)),
    fd = PySem.W.fnOf x qual (defArgs st) (defBody st) (defScope st) .none kV doc pm an (.ref c) ct ∧ K.lookup f = some ⟨oc, od, .func fd, osl⟩ ∧ PySem.W.codeIn K (.ref c) qual = true
theorem FunC.ok {P : Program} {w : World} {K : PySem.W.Frag} {mg : Str → Option Value} {base : Heap} {x qual : Str} {st : Stmt} {f c : Addr} {fd : FuncData} {N ps : List Str} {k : Nat} {sp : Sp} (F : FunC K x qual st f fd c) (S : FnScope N ps (defScope st)) (len : ∀ vs H Q E, sp vs H Q E → vs.length = ps.length)
    (hbody : ∀ (A : Around) (outer : List Env) (s : Shared) (H : Hp) (vs : List V) (Q : VK) (E : XK), Room k (A.deeper (envOfC qual (defScope st) s.heap.objs.size f (.ref c))) → sp vs H Q E →
      ∃ t, PSs (cxOf CX0 P w K mg base N qual (defScope st) f (.ref c) A outer s H E).nox (defBody st) t ∧ t { nx := fun _ H' => Q .non H', rt := Q } (start N vs) H) : FnOk P w K mg base CX0 (k + 1) f fd ps sp := by
  obtain ⟨oc, od, kV, doc, pm, an, ct, osl, rfl, lk, hcd⟩ := F.ex
  refine fn_of lk hcd S len fun A outer s H vs Q E hr hsp => ?_
  obtain ⟨t, h, q⟩ := hbody A outer s H vs Q E hr hsp
  exact ⟨t, h.nox, q⟩
end Fl

set_option Elab.async false
set_option linter.all false
set_option maxRecDepth 100000
set_option maxHeartbeats 4000000
namespace Fl
open PySem PySem.Spec PyProof.Rows L2
/-! ### what stands while the law runs -/
/-- all but the row and the tables stands -/
def Gm (r : Addr) (H H' : Hp) : Prop := ∀ b o, b ≠ r → H b = some o → (∀ ps, o ≠ .tbl ps) → H' b = some o
theorem gm_same {r : Addr} {H H' : Hp} (s : Same H H') : Gm r H H' := fun b o _ h _ => s b o h
theorem gm_but {r : Addr} {H H' : Hp} (s : But r H H') : Gm r H H' := fun b o n h _ => s b o n h
theorem gm_ext {r : Addr} {H H' : Hp} (s : LamX.ExtN H H') : Gm r H H' := fun b o _ h t => s b o h t
theorem Gm.trans {r : Addr} {H H1 H2 : Hp} (a : Gm r H H1) (b : Gm r H1 H2) : Gm r H H2 := fun c o n h t => b c o n (a c o n h t) t
theorem ext_keep {H H' : Hp} (e : LamX.ExtN H H') : Keep H H' := fun a xs h => e a _ h (fun ps z => nomatch z)
theorem ext_same {H H' : Hp} (e : Same H H') : LamX.ExtN H H' := fun a o h _ => e a o h
theorem tabs_but {Tq : List (Addr × Str)} {r : Addr} {H H' : Hp} (t : LamX.Tabs Tq H) (b : But r H H') (hr : ∃ xs, H r = some (.lst xs)) : LamX.Tabs Tq H' := fun p hp => by
  obtain ⟨ps, h1, h2, h3⟩ := t p hp
  obtain ⟨xs, hr⟩ := hr
  refine ⟨ps, b _ _ (fun z => by rw [z, hr] at h1; cases h1) h1, h2, fun pos cv hc => ?_⟩
  obtain ⟨c, e1, e2⟩ := h3 pos cv hc
  exact ⟨c, e1, b _ _ (fun z => by rw [z, hr] at e2; unfold LamX.CodeO at e2; cases e2) e2⟩
theorem RowOk.ext {K : PySem.W.Frag} {H H' : Hp} {r sc : Addr} {ns : List Int} (h : RowOk K H r sc ns) (s : LamX.ExtN H H') : RowOk K H' r sc ns := by
  obtain ⟨i, x, rr, h1, h2, h3⟩ := h
  refine ⟨i, x, rr, s _ _ h1 (fun ps z => nomatch z), ?_, h3⟩
  rcases h2 with (h | ⟨ob, h⟩) | h
  · exact .inl (.inl (s _ _ h (fun ps z => nomatch z)))
  · exact .inl (.inr ⟨ob, s _ _ h (fun ps z => nomatch z)⟩)
  · exact .inr h
theorem Gm.keep {r : Addr} {H H' : Hp} (g : Gm r H H') (hr : ∃ xs, H r = some (.lst xs)) : Keep H H' := fun a xs h => by
  obtain ⟨ys, hr⟩ := hr
  exact g a _ (fun z => by rw [z, hr] at h; cases h) h (fun ps z => nomatch z)
theorem Gm.shp {r C p : Addr} {H H' : Hp} {F T : List (List Int)} (g : Gm r H H') (hr : ∃ xs, H r = some (.lst xs)) (h : Shp C H p F T) : Shp C H' p F T := by
  obtain ⟨dx, d, kvs, t, h1, h2, h3, h4, h5⟩ := h
  have k := g.keep hr
  obtain ⟨ys, hr⟩ := hr
  exact ⟨dx, d, kvs, t, g _ _ (fun z => by rw [z, hr] at h1; cases h1) h1 (fun ps z => nomatch z), g _ _ (fun z => by rw [z, hr] at h2; cases h2) h2 (fun ps z => nomatch z), h3, h4.mono k, h5⟩
structure Lw (K : PySem.W.Frag) (C Pt : Addr) (q : Str) (H : Hp) (r sc : Addr) (ns : List Int) (y : V) (p le ld : Addr) (T F E D : List (List Int)) : Prop where
  row : RowOk K H r sc ns
  tops : TT' H y T
  shp : Shp C H p F T
  edg : ∃ ye, H le = some (.lst ye) ∧ TL H ye E
  due : ∃ yd, H ld = some (.lst yd) ∧ TL H yd D
  tab : LamX.Tabs [(Pt, q)] H
  ne : le ≠ r
  nd : ld ≠ r
section
variable {K : PySem.W.Frag} {C Pt : Addr} {q : Str} {H H' : Hp} {r sc : Addr} {ns : List Int} {y : V} {p le ld : Addr} {T F E D : List (List Int)}
theorem Lw.step (l : Lw K C Pt q H r sc ns y p le ld T F E D) (g : Gm r H H') (row : RowOk K H' r sc ns) (tab : LamX.Tabs [(Pt, q)] H') : Lw K C Pt q H' r sc ns y p le ld T F E D := by
  have hr := l.row.lst
  have k := g.keep hr
  obtain ⟨ye, e1, e2⟩ := l.edg
  obtain ⟨yd, d1, d2⟩ := l.due
  exact ⟨row, l.tops.mono k, g.shp hr l.shp, ⟨ye, g _ _ l.ne e1 (fun ps z => nomatch z), e2.mono k⟩, ⟨yd, g _ _ l.nd d1 (fun ps z => nomatch z), d2.mono k⟩, tab, l.ne, l.nd⟩
theorem Lw.same (l : Lw K C Pt q H r sc ns y p le ld T F E D) (s : Same H H') : Lw K C Pt q H' r sc ns y p le ld T F E D := l.step (gm_same s) (l.row.mono s) (l.tab.ext s)
theorem Lw.but (l : Lw K C Pt q H r sc ns y p le ld T F E D) (s : But r H H') (row : RowOk K H' r sc ns) : Lw K C Pt q H' r sc ns y p le ld T F E D := l.step (gm_but s) row (tabs_but l.tab s l.row.lst)
theorem Lw.ext (l : Lw K C Pt q H r sc ns y p le ld T F E D) (s : LamX.ExtN H H') (tab : LamX.Tabs [(Pt, q)] H') : Lw K C Pt q H' r sc ns y p le ld T F E D := l.step (gm_ext s) (l.row.ext s) tab
end
/-! ### alike -/
theorem al_int {sp : Sp} {i : Int} {H : Hp} {Q : VK} {E : XK} (q : ∀ H', Same H H' → Q (.bl true) H') : spAl sp [.int i, .int i] H Q E := .inl ⟨i, rfl, q⟩
theorem al_ti {sp : Sp} {x y : V} {t : List Int} {H : Hp} {Q : VK} {E : XK} (hx : Ti H x t) (hy : Ti H y t) (hl : t.length ≤ 2000) (q : ∀ H', Same H H' → Q (.bl true) H') : spAl (spAl sp) [x, y] H Q E := by
  obtain ⟨a, rfl, ha⟩ := hx
  obtain ⟨b, rfl, hb⟩ := hy
  refine .inr ⟨a, b, _, _, rfl, .inr ⟨ha, hb⟩, rfl, by rw [List.length_map]; exact hl, fun H2 s i x y h1 h2 Q2 q2 => ?_, q⟩
  rw [h1] at h2
  injection h2 with h2
  subst h2
  have hm := List.mem_of_getElem? h1
  obtain ⟨n, _, rfl⟩ := List.mem_map.mp hm
  exact al_int q2
theorem al_items {sp : Sp} {xs ys : List V} {T : List (List Int)} {H : Hp} (hx : TL H xs T) (hy : TL H ys T) (hl : ∀ t ∈ T, t.length ≤ 2000) :
    ∀ H2, Same H H2 → ∀ (i : Nat) (x y : V), xs[i]? = some x → ys[i]? = some y → ∀ Q2 : VK, (∀ H3, Same H2 H3 → Q2 (.bl true) H3) → spAl (spAl sp) [x, y] H2 Q2 E0 := fun H2 s i x y h1 h2 Q2 q2 => by
  obtain ⟨t, ht, tx⟩ := pget hx h1
  obtain ⟨u, hu, ty⟩ := pget hy h2
  rw [ht] at hu
  injection hu with hu
  subst hu
  exact al_ti (tx.mono s.keep) (ty.mono s.keep) (hl _ (List.mem_of_getElem? ht)) q2
theorem al_tt {sp : Sp} {x y : V} {T : List (List Int)} {H : Hp} {Q : VK} {E : XK} (hx : TT' H x T) (hy : TT' H y T) (hT : T.length ≤ 2000) (hl : ∀ t ∈ T, t.length ≤ 2000) (q : ∀ H', Same H H' → Q (.bl true) H') : spAl (spAl (spAl sp)) [x, y] H Q E := by
  obtain ⟨a, xs, rfl, ha, tx⟩ := hx
  obtain ⟨b, ys, rfl, hb, ty⟩ := hy
  have l1 := pl tx
  have l2 := pl ty
  exact .inr ⟨a, b, _, _, rfl, .inr ⟨ha, hb⟩, by omega, by omega, al_items tx ty hl, q⟩
theorem al_ll {sp : Sp} {a b : Addr} {xs ys : List V} {T : List (List Int)} {H : Hp} {Q : VK} {E : XK} (ha : H a = some (.lst xs)) (tx : TL H xs T) (hb : H b = some (.lst ys)) (ty : TL H ys T) (hT : T.length ≤ 2000) (hl : ∀ t ∈ T, t.length ≤ 2000)
    (q : ∀ H', Same H H' → Q (.bl true) H') : spAl (spAl (spAl sp)) [.ref a, .ref b] H Q E := by
  have l1 := pl tx
  have l2 := pl ty
  exact .inr ⟨a, b, _, _, rfl, .inl ⟨ha, hb⟩, by omega, by omega, al_items tx ty hl, q⟩
/-! ### kinds, words -/
theorem dp_kind {K : PySem.W.Frag} {H : Hp} {a : Addr} {o : Bool} {k : Int} (h : H a = some (.tup [.bl o, .int k])) : Dp K H (.ref a) (.tuple [.bool o, .int k]) := .tup (.of h) (.cons (.bl o) (.cons (.int k) .nil))
theorem neKind {K : PySem.W.Frag} {H : Hp} {a b : Addr} {o : Bool} {k : Int} {Q : VK} (h1 : H a = some (.tup [.bl o, .int k])) (h2 : H b = some (.tup [.bl o, .int k])) (q : Q (.bl false) H) : rNeD K (.ref a) (.ref b) H Q := by
  refine ⟨_, _, dp_kind h1, dp_kind h2, ?_, ?_, ?_⟩
  · cases o <;> rfl
  · cases o <;> rfl
  · have : PyData.eqv (.tuple [.bool o, .int k]) (.tuple [.bool o, .int k]) = true := by
      show (PyData.eqv (.bool o) (.bool o) && (PyData.eqv (.int k) (.int k) && true)) = true
      have e1 : PyData.eqv (.bool o) (.bool o) = true := by cases o <;> rfl
      have e2 : PyData.eqv (.int k) (.int k) = true := by
        show (k == k) = true
        simp
      rw [e1, e2]
      rfl
    rw [this]
    exact q
end Fl

set_option Elab.async false
set_option linter.all false
set_option maxRecDepth 100000
set_option maxHeartbeats 4000000
namespace Fl
open PySem PySem.Spec PyProof.Rows L2
theorem flip_good {T F : List (List Int)} (s : SurfT T) (hF : Faces T F) {e t : List Int} (he : (e, t) ∈ pairsOf T) (hno : tipsS T e ∉ F) : Good (flipS T e) := by
  obtain ⟨x, y, z, w, rfl, hxy, mz, mw, hwz, hu⟩ := flip_cases s.s31 he
  have hn : ¬ ∃ q, MT T z w q := fun h => hno ((tips_in s.s31 hF hxy mz mw hwz hu).mpr h)
  obtain ⟨sF, lF⟩ := flipM_surf s.s31 he
  have l42 := s.len
  rw [flipS_eq s.s31 hF hxy mz mw hwz hu hn]
  exact good_of sF.tri (by omega)
/-- one turn of the law at an edge that may be flipped -/
def rdFound (K : PySem.W.Frag) (C : Addr) : TS :=
  tSeq (tAsg (tCall (spFlipped C) [] E0 (tCons (tVar 11) (tCons (tVar 4) tNil))) (gName 7))
    (tSeq
      (tIfS
        (tOr
          (tNot (tB (tCall (spAl (spAl (spAl fun _ _ _ _ => False))) [] E0 (tCons (tProp C (getSp C (Str.ofString "tops")) [] E0 (tVar 7)) (tCons (tCall (spLawFlipped K) [] E0 (tCons (tVar 2) (tCons (tVar 4) tNil))) tNil)))))
          (tTest (tOp (rNeD K) (tCall (spKind C) [] E0 (tCons (tVar 7) tNil)) (tCall (spKind C) [] E0 (tCons (tVar 11) tNil)))))
        (tRet (tC (V.bl false))) tNext)
      (tSeq
        (tAsg (tLc (iKeys (tLockR (tCall (spRims K) [] E0 (tCons (tProp C (getSp C (Str.ofString "tops")) [] E0 (tVar 7)) tNil)))) (gName 12) (tTest (tOp (rNotInD K) (tVar 12) (tVar 3))) (tVar 12) [12]) (gName 8))
        (tIfS
          (tOr
            (tTest (tOp (rNeD K) (tCall (spCounts_of C) [] E0 (tCons (tVar 7) tNil)) (tCall (spCounts_of C) [] E0 (tCons (tVar 11) tNil))))
            (tOr (tTest (tOp rNe (tCB (rLenS K) (tCons (tVar 8) tNil)) (tC (V.int 1))))
              (tNot (tTest (tOp (rEqG (DIns C (SameTops C))) (tCall (spFlipped C) [] E0 (tCons (tVar 7) (tCons (tOp (rIxL K) (tVar 8) (tC (V.int 0))) tNil))) (tVar 11))))))
          (tRet (tC (V.bl false))) tNext)))
section
variable {K : PySem.W.Frag} {C Pt : Addr} {q : Str} {H : Hp} {r sc : Addr} {ns : List Int} {y : V} {p le ld : Addr} {T F E D : List (List Int)}
theorem found_step (s : SurfT T) (hF : Faces T F) (hE : EdgesOf T E) (hD : D = E.filter fun e => decide (tipsS T e ∉ F)) (l : Lw K C Pt q H r sc ns y p le ld T F E D) {e : List Int} (he : e ∈ D) {ev : V} (hev : Ti H ev e)
    {a : Addr} {v6 v7 v8 v9 v10 v12 : Option V} {Dn : Ends} (nx : ∀ (H' : Hp) (u7 u8 : Option V), Same H H' → Dn.nx [some (.ref a), some (.ref r), some y, some (.ref le), some ev, some (.ref ld), v6, u7, u8, v9, v10, some (.ref p), v12] H') :
    rdFound K C Dn [some (.ref a), some (.ref r), some y, some (.ref le), some ev, some (.ref ld), v6, v7, v8, v9, v10, some (.ref p), v12] H := by
  rw [hD, List.mem_filter, decide_eq_true_iff] at he
  obtain ⟨heE, htips⟩ := he
  obtain ⟨t0, ht0⟩ := (hE.2 e).mp heE
  obtain ⟨ya, yx, rfl, hya, tya⟩ := l.tops
  obtain ⟨ye, hle, tye⟩ := l.edg
  have l42 := s.len
  have ee := edgeT_len s ht0
  have tri3 : ∀ t ∈ T, t.length = 3 := fun t ht => (s.s31.tri t ht).len
  unfold rdFound
  refine ⟨_, rfl, _, rfl, p, ev, e, F, T, rfl, hev, l.shp, srf_T s hF, ee.2, ⟨t0, ht0⟩, htips, flip_good s hF ht0 htips, fun H1 p2 F2 T2 s1 hp0 sh2 hF2 hT2 => ?_⟩
  obtain ⟨dx2, d2, kv2, t2, i1, i2, i3, i4, i5⟩ := id sh2
  refine ⟨_, rfl, p2, dx2, _, rfl, i1, p2, dx2, _, _, rfl, i1, flds_tops _ _, ?_⟩
  refine ⟨_, rfl, _, rfl, ya, ev, yx, e, T, rfl, .inr (.of (s1 _ _ hya)), tya.mono s1.keep, hev.mono s1.keep, tri3, by omega, ee.1, fun H2 y2 R s2 ty2 pR wR => ?_⟩
  obtain ⟨sR, _, hback, hcnt, horb, f, hfresh, ⟨tf, hf⟩, hfno, gf, hfin⟩ := flip_pack s hF ht0 htips pR wR
  obtain ⟨hF2', eT2⟩ := hback F2 T2 hF2 hT2
  subst eT2
  have l42R := sR.len
  have tri3R : ∀ t ∈ T2, t.length = 3 := fun t ht => (sR.s31.tri t ht).len
  unfold tNil
  refine al_tt (i4.mono s2.keep) ty2 (by omega) (fun t ht => by rw [tri3R t ht]; decide) fun H3 s3 => ⟨true, rfl, iteF ?_⟩
  have s13 := s2.trans s3
  have s03 := s1.trans s13
  refine ⟨_, rfl, p2, F2, T2, rfl, sh2.mono s13, srf_T sR hF2', sz3_T sR hF2', orH_T sR hF2', fun H4 k1 o1 s4 ho1 hk1 => ?_⟩
  refine ⟨_, rfl, p, F, T, rfl, l.shp.mono (s03.trans s4), srf_T s hF, sz3_T s hF, orH_T s hF, fun H5 k2 o2 s5 ho2 hk2 => ?_⟩
  obtain ⟨c1, c2, c3⟩ := hcnt F2 hF2'
  have eo : o1 = o2 := by
    rw [Bool.eq_iff_iff, ho1, ho2, horb]
  rw [c1, c2, c3, eo] at hk1
  refine neKind (s5 _ _ hk1) hk2 ⟨_, rfl, iteF ?_⟩
  have s35 := s4.trans s5
  have s15 := s13.trans s35
  have s05 := s1.trans s15
  have i15 := s15 _ _ i1
  -- the fresh edges
  obtain ⟨ta, tx, rfl, ht2, tt2⟩ := i4
  refine ⟨_, rfl, p2, dx2, _, rfl, i15, p2, dx2, _, _, rfl, i15, flds_tops _ _, ?_⟩
  refine ⟨ta, tx, T2, rfl, .inr (.of (s15 _ _ ht2)), tt2.mono s15.keep, tri3R, by omega, fun H6 dd kvd s6 hd0 hdd wd => ?_⟩
  obtain ⟨G, hG, nG, _, lG, mG⟩ := edges_of_dict wd
  refine ⟨dd, _, hdd, trivial, fun od => ⟨dd, od, rfl, .inr ⟨kvd, upd_same, fun Dl hDl => ?_⟩⟩⟩
  have nDd : Dl ≠ dd := fun z => by rw [z, upd_same] at hDl; cases hDl
  have s5d : Same H5 (upd H6 dd (.frz od (.dT kvd))) := fun b o hb => by
    rw [upd_ne (ne_of_none hb hd0)]
    exact s6 b o hb
  have lG2 : G.length ≤ 1000 := by
    rw [pairs_len tri3R] at lG
    omega
  refine lc_gen G Ti Ti (fun e => decide (e ∉ E)) id hDl (src_keysT upd_same hG) (fun _ _ _ _ k h => h.mono k) (small1000 lG2) ?_ ?_
  · intro i x t H7 Ny Nn _ hx sm hyy hn
    have s07 := (s05.trans s5d).trans sm
    refine ⟨rfl, _, rfl, _, rfl, notInTi hx (s07 _ _ hle) (tye.mono s07.keep) ⟨_, rfl, ?_⟩⟩
    by_cases h : t ∈ E
    · rw [decide_eq_true h]
      exact iteF (hn (by simp [h]) _ (Same.refl _))
    · rw [decide_eq_false h]
      exact iteT ⟨_, rfl, hyy (by simp [h]) _ _ (Same.refl _) hx⟩
  intro H7 zs sm hD7 hp
  rw [List.map_id, hfresh E G hE.2 nG mG] at hp
  have s57 := s5d.trans sm
  have s17 := s15.trans s57
  have s07 := s1.trans s17
  obtain ⟨z, rfl, tz⟩ : ∃ z, zs = [z] ∧ Ti H7 z f := by
    cases hp with
    | cons r h2 =>
      cases h2
      exact ⟨_, rfl, r⟩
  refine ⟨_, rfl, p2, F2, T2, rfl, sh2.mono s17, sz3_T sR hF2', fun H8 u1 s8 tu1 => ?_⟩
  refine ⟨_, rfl, p, F, T, rfl, l.shp.mono (s07.trans s8), sz3_T s hF, fun H9 u2 s9 tu2 => ?_⟩
  rw [c1, c2, c3] at tu1
  refine neTi (tu1.mono s9.keep) tu2 ⟨_, rfl, ?_⟩
  rw [decide_eq_true rfl]
  refine iteF ?_
  have s79 := s8.trans s9
  have s09 := s07.trans s79
  have s19 := s17.trans s79
  have hD9 := s79 _ _ hD7
  refine ⟨_, rfl, Dl, [z], rfl, .inl (.of hD9), rfl, _, rfl, iteF ?_⟩
  refine ⟨_, rfl, _, rfl, Dl, [z], 0, z, rfl, rfl, .of hD9, rfl, ?_⟩
  refine ⟨p2, z, f, F2, T2, rfl, tz.mono s79.keep, sh2.mono s19, srf_T sR hF2', (edgeT_len sR hf).2, ⟨tf, hf⟩, hfno F2 hF2', gf, fun H10 p3 F3 T3 s10 hp3 sh3 hF3 hT3 => ?_⟩
  have e3 := hfin F3 T3 hF3 hT3
  subst e3
  have shp10 := l.shp.mono (s09.trans s10)
  obtain ⟨dx3, _, _, _, j1, _⟩ := id sh3
  obtain ⟨dxp, _, _, _, j2, _⟩ := id shp10
  refine ⟨_, rfl, ⟨p3, p, dx3, dxp, _, _, rfl, rfl, j1, j2, F3, F, T3, sh3, shp10⟩, fun H11 s11 => ⟨true, rfl, iteF ?_⟩⟩
  exact nx _ _ _ ((s09.trans s10).trans s11)
end
end Fl

set_option Elab.async false
set_option linter.all false
set_option maxRecDepth 100000
set_option maxHeartbeats 4000000
namespace Fl
open PySem PySem.Spec PyProof.Rows L2
/-- what _law_error says of flipped(i, j) -/
def rdErrF (C cNS cNF Pt : Addr) (q : Str) (i j : Nat) : TE :=
  LamX.tLam [(Pt, q)] (TErr cNF cNS) fun E2 => tCallS (spFlippedX C cNS cNF) (fun σ => WE (fun cls d _ H => E2 cls d H) σ) (tCons (tVar i) (tCons (tVar j) tNil))
def rdErrS (C cNS cNF Pt : Addr) (q : Str) (i : Nat) : TE :=
  LamX.tLam [(Pt, q)] (TErr cNF cNS) fun E2 => tCallS (spFlipsX C cNS) (fun σ => WE (fun cls d _ H => E2 cls d H) σ) (tCons (tVar i) tNil)
def rdElse (C cNS cNF Pt : Addr) (q : Str) : TS :=
  tIfS (tTest (tOp rNe (rdErrF C cNS cNF Pt q 11 4) (tC (V.str (Str.ofString "flip"))))) (tRet (tC (V.bl false))) tNext
def rdTurn (K : PySem.W.Frag) (C cNS cNF Pt : Addr) (q : Str) : TS :=
  tSeq (tAsg (tCall (spPick K) [] E0 (tCons (tVar 1) (tCons (tVar 3) tNil))) (gName 4)) (tIfS (tTest (tOp (rInD K) (tVar 4) (tVar 5))) (rdFound K C) (rdElse C cNS cNF Pt q))
section
variable {K : PySem.W.Frag} {C cNS cNF Pt : Addr} {q : Str} {H : Hp} {r sc : Addr} {ns : List Int} {y : V} {p le ld : Addr} {T F E D : List (List Int)}
theorem errF_flip {i j : Nat} {σ : L2.St} {ev : V} {Q : VK} (tab : LamX.Tabs [(Pt, q)] H) (hi : σ[i]? = some (some (.ref p))) (hj : σ[j]? = some (some ev)) (sh : Shp C H p F T) (S : Srf F T)
    (hodd : ∀ H1, LamX.ExtN H H1 → NoTup H1 ev ∨ ∃ e, Ti H1 ev e ∧ e.length < 1000 ∧ (simpB e = false ∨ (¬ ∃ t, (e, t) ∈ pairsOf T) ∨ tipsS T e ∈ F))
    (hq : ∀ H', LamX.ExtN H H' → LamX.Tabs [(Pt, q)] H' → Q (.str "flip") H') : rdErrF C cNS cNF Pt q i j σ H Q := by
  refine ⟨tab, fun H1 e1 t1 => ?_⟩
  have sh1 : Shp C H1 p F T := by
    obtain ⟨dx, d, kvs, t, h1, h2, h3, h4, h5⟩ := sh
    exact ⟨dx, d, kvs, t, e1 _ _ h1 (fun ps z => nomatch z), e1 _ _ h2 (fun ps z => nomatch z), h3, h4.mono (ext_keep e1), h5⟩
  refine ⟨_, hi, _, hj, p, ev, F, T, rfl, sh1, S.toCx0, .inr ⟨S, hodd H1 e1, fun H2 s2 => ?_⟩⟩
  exact .inl ⟨rfl, rfl, hq H2 (e1.trans (ext_same s2)) (t1.ext s2)⟩
theorem errF_flat {i j : Nat} {σ : L2.St} {ev : V} {Q : VK} (tab : LamX.Tabs [(Pt, q)] H) (hi : σ[i]? = some (some (.ref p))) (hj : σ[j]? = some (some ev)) (sh : Shp C H p F T) (S : Cx0 F T) (fl : Flat F T)
    (hq : ∀ H', LamX.ExtN H H' → LamX.Tabs [(Pt, q)] H' → Q (.str "surface") H') : rdErrF C cNS cNF Pt q i j σ H Q := by
  refine ⟨tab, fun H1 e1 t1 => ?_⟩
  have sh1 : Shp C H1 p F T := by
    obtain ⟨dx, d, kvs, t, h1, h2, h3, h4, h5⟩ := sh
    exact ⟨dx, d, kvs, t, e1 _ _ h1 (fun ps z => nomatch z), e1 _ _ h2 (fun ps z => nomatch z), h3, h4.mono (ext_keep e1), h5⟩
  refine ⟨_, hi, _, hj, p, ev, F, T, rfl, sh1, S, .inl ⟨fl, fun H2 s2 => ?_⟩⟩
  exact .inr ⟨rfl, rfl, hq H2 (e1.trans (ext_same s2)) (t1.ext s2)⟩
theorem errS_flat {i : Nat} {σ : L2.St} {Q : VK} (tab : LamX.Tabs [(Pt, q)] H) (hi : σ[i]? = some (some (.ref p))) (sh : Shp C H p F T) (S : Cx0 F T) (fl : Flat F T)
    (hq : ∀ H', LamX.ExtN H H' → LamX.Tabs [(Pt, q)] H' → Q (.str "surface") H') : rdErrS C cNS cNF Pt q i σ H Q := by
  refine ⟨tab, fun H1 e1 t1 => ?_⟩
  have sh1 : Shp C H1 p F T := by
    obtain ⟨dx, d, kvs, t, h1, h2, h3, h4, h5⟩ := sh
    exact ⟨dx, d, kvs, t, e1 _ _ h1 (fun ps z => nomatch z), e1 _ _ h2 (fun ps z => nomatch z), h3, h4.mono (ext_keep e1), h5⟩
  refine ⟨_, hi, p, F, T, rfl, sh1, S, fl, fun H2 s2 => ?_⟩
  exact .inr ⟨rfl, rfl, hq H2 (e1.trans (ext_same s2)) (t1.ext s2)⟩
theorem edges_few {T E : List (List Int)} (s : SurfT T) (hE : EdgesOf T E) : E.length ≤ 126 ∧ 0 < E.length := by
  have tri3 : ∀ t ∈ T, t.length = 3 := fun t ht => (s.s31.tri t ht).len
  have l42 := s.len
  constructor
  · have sub : ∀ x ∈ E, x ∈ (pairsOf T).map (·.1) := fun x hx => by
      obtain ⟨t, ht⟩ := (hE.2 x).mp hx
      exact List.mem_map.mpr ⟨_, ht, rfl⟩
    have := nodup_le hE.1.nodup sub
    rw [List.length_map, pairs_len tri3] at this
    omega
  · obtain ⟨t, ht⟩ := List.exists_mem_of_ne_nil _ s.surf.ne
    obtain ⟨a, b, c, rfl, h0, h1, h2, h3⟩ := s.surf.tri t ht
    have : [a, b] ∈ E := (hE.2 _).mpr ⟨[a, b, c], List.mem_flatMap.mpr ⟨_, ht, cuts3.mpr (by simp)⟩⟩
    exact List.length_pos_of_mem this
/-- one turn -/
theorem turn_step (s : SurfT T) (hF : Faces T F) (hE : EdgesOf T E) (hD : D = E.filter fun e => decide (tipsS T e ∉ F)) (l : Lw K C Pt q H r sc ns y p le ld T F E D)
    {a : Addr} {v4 v6 v7 v8 v9 v10 v12 : Option V} {Dn : Ends} (nx : ∀ (H' : Hp) (u4 u7 u8 : Option V), Lw K C Pt q H' r sc ns y p le ld T F E D → Dn.nx [some (.ref a), some (.ref r), some y, some (.ref le), u4, some (.ref ld), v6, u7, u8, v9, v10, some (.ref p), v12] H') :
    rdTurn K C cNS cNF Pt q Dn [some (.ref a), some (.ref r), some y, some (.ref le), v4, some (.ref ld), v6, v7, v8, v9, v10, some (.ref p), v12] H := by
  obtain ⟨ye, hle, tye⟩ := l.edg
  have lE := pl tye
  obtain ⟨m1, m2⟩ := edges_few s hE
  refine ⟨_, rfl, _, rfl, r, le, ye, sc, ns, rfl, l.row, hle, l.ne, by omega, by omega, fun H1 x j b1 hr1 hx => ?_⟩
  have l1 := l.but b1 hr1
  obtain ⟨yd, hld, tyd⟩ := l1.due
  obtain ⟨ye1, hle1, tye1⟩ := l1.edg
  have k1 := b1.keep l.row.lst
  obtain ⟨e, hje, tx⟩ := pget (tye.mono k1) hx
  have heE := List.mem_of_getElem? hje
  refine ⟨_, rfl, _, rfl, inTi tx hld tyd ⟨_, rfl, ?_⟩⟩
  by_cases heD : e ∈ D
  · rw [decide_eq_true heD]
    exact iteT (found_step s hF hE hD l1 heD tx fun H' u7 u8 s' => nx H' _ u7 u8 (l1.same s'))
  · rw [decide_eq_false heD]
    refine iteF ?_
    have htips : tipsS T e ∈ F := Classical.byContradiction fun h => heD (by rw [hD, List.mem_filter, decide_eq_true_iff]; exact ⟨heE, h⟩)
    obtain ⟨t0, ht0⟩ := (hE.2 e).mp heE
    have ee := edgeT_len s ht0
    refine errF_flip l1.tab rfl rfl l1.shp (srf_T s hF) (fun H2 e2 => .inr ⟨e, tx.mono (ext_keep e2), by omega, .inr (.inr htips)⟩) fun H2 e2 t2 => ?_
    refine ⟨rfl, _, rfl, iteF ?_⟩
    exact nx H2 _ _ _ (l1.ext e2 t2)
end
end Fl

set_option Elab.async false
set_option linter.all false
set_option maxRecDepth 100000
set_option maxHeartbeats 4000000
namespace Fl
open PySem PySem.Spec PyProof.Rows L2
/-- a thing that may not be flipped -/
def OddOk (r : Addr) (T : List (List Int)) (H : Hp) (v : V) : Prop := (v = .non ∨ ∃ i, v = .int i) ∨ (∃ p xs, v = .ref p ∧ p ≠ r ∧ H p = some (.lst xs)) ∨ ∃ e, Ti H v e ∧ e.length < 1000 ∧ (simpB e = false ∨ ¬ ∃ t, (e, t) ∈ pairsOf T)
theorem OddOk.step {r : Addr} {T : List (List Int)} {H H' : Hp} {v : V} (h : OddOk r T H v) (g : Gm r H H') (hr : ∃ xs, H r = some (.lst xs)) : OddOk r T H' v := by
  rcases h with h | ⟨p, xs, rfl, h1, h2⟩ | ⟨e, h1, h2, h3⟩
  · exact .inl h
  · exact .inr (.inl ⟨p, xs, rfl, h1, g _ _ h1 h2 (fun ps z => nomatch z)⟩)
  · exact .inr (.inr ⟨e, h1.mono (g.keep hr), h2, h3⟩)
theorem OddOk.use {r : Addr} {T F : List (List Int)} {H : Hp} {v : V} (h : OddOk r T H v) : NoTup H v ∨ ∃ e, Ti H v e ∧ e.length < 1000 ∧ (simpB e = false ∨ (¬ ∃ t, (e, t) ∈ pairsOf T) ∨ tipsS T e ∈ F) := by
  rcases h with (h | h) | ⟨p, xs, rfl, h1, h2⟩ | ⟨e, h1, h2, h3⟩
  · exact .inl (.inl h)
  · exact .inl (.inr (.inl h))
  · exact .inl (.inr (.inr ⟨p, xs, rfl, h2⟩))
  · exact .inr ⟨e, h1, h2, h3.elim .inl fun z => .inr (.inl z)⟩
def rdOdds (K : PySem.W.Frag) : TE :=
  tCall (spPick K) [] E0 (tCons (tVar 1) (tCons
    (tLst (tCons (tC V.non) (tCons (tTup (tCons (tC (V.int 0)) (tCons (tC (V.int 29)) tNil))) (tCons (tLst (tCons (tC (V.int 0)) (tCons (tC (V.int 1)) tNil))) (tCons (tC (V.int 5)) (tCons (tTup (tCons (tC (V.int 0)) tNil))
      (tCons (tOp (rIxT K) (tVar 2) (tC (V.int 0))) (tCons (tTup (tCons (tC (V.int 1)) (tCons (tC (V.int 0)) tNil))) (tCons (tTup tNil) tNil)))))))))
    tNil))
def rdTail (K : PySem.W.Frag) (C cNS cNF Pt : Addr) (q : Str) : TS :=
  tSeq (tAsg (rdOdds K) (gName 10))
    (tSeq (tAsg (tMake C (spInit C) [] E0 (tCons (tSl (rSlA K) (tVar 2) (tPart (tC (V.int 1))) tNoPart) tNil)) (gName 9))
      (tSeq (tAsg (tLst (tCons (rdErrF C cNS cNF Pt q 11 10) tNil)) (gName 7))
        (tSeq (tAsg (tOp rCat (tVar 7) (tLst (tCons (rdErrS C cNS cNF Pt q 9) tNil))) (gName 7))
          (tSeq (tAsg (tOp rCat (tVar 7) (tLst (tCons (rdErrF C cNS cNF Pt q 9 10) tNil))) (gName 7))
            (tRet (tOp (rEqD K) (tVar 7) (tLst (tCons (tC (V.str (Str.ofString "flip"))) (tCons (tC (V.str (Str.ofString "surface"))) (tCons (tC (V.str (Str.ofString "surface"))) tNil))))))))))
section
variable {K : PySem.W.Frag} {C cNS cNF Pt : Addr} {q : Str} {H : Hp} {r sc : Addr} {ns : List Int} {y : V} {p le ld : Addr} {T F E D : List (List Int)}
theorem odds_ok (s : SurfT T) (hr : RowOk K H r sc ns) (hy : TT' H y T) {σ : L2.St} (h1 : σ[1]? = some (some (.ref r))) (h2 : σ[2]? = some (some y)) {Q : VK}
    (hq : ∀ H' v, But r H H' → RowOk K H' r sc ns → OddOk r T H' v → Q v H') : rdOdds K σ H Q := by
  obtain ⟨ya, yx, rfl, hya, tya⟩ := hy
  obtain ⟨xs, hrl⟩ := hr.lst
  cases hT : T with
  | nil => exact absurd hT s.surf.ne
  | cons t0 T' =>
  subst hT
  cases tya with
  | @cons x0 _ yx _ tx0 tyx =>
  refine ⟨_, h1, (by show 2 ≤ sizeLine; decide), fun p1 hp1 => ⟨(by show 2 ≤ sizeLine; decide), fun p2 hp2 => ⟨(by show 1 ≤ sizeLine; decide), fun p3 hp3 => ?_⟩⟩⟩
  have s1 := same_new (o := .tup [V.int 0, V.int 29]) hp1
  have s2 := s1.new (o := .lst [V.int 0, V.int 1]) hp2
  have s3 := s2.new (o := .tup [V.int 0]) hp3
  have i1 := (((same_new (o := .lst [V.int 0, V.int 1]) hp2).new (o := .tup [V.int 0]) hp3)) p1 _ (upd_same (H := H) (o := .tup [V.int 0, V.int 29]))
  have i2 := (same_new (o := .tup [V.int 0]) hp3) p2 _ (upd_same (o := .lst [V.int 0, V.int 1]))
  have i3 : upd (upd (upd H p1 (.tup [V.int 0, V.int 29])) p2 (.lst [V.int 0, V.int 1])) p3 (.tup [V.int 0]) p3 = some (.tup [V.int 0]) := upd_same
  revert s3 i1 i2 i3
  generalize upd (upd (upd H p1 (.tup [V.int 0, V.int 29])) p2 (.lst [V.int 0, V.int 1])) p3 (.tup [V.int 0]) = H3
  intro s3 i1 i2 i3
  refine ⟨_, h2, ya, _, ((0 : Nat) : Int), x0, rfl, rfl, .of (s3 _ _ hya), atI_nat rfl, ?_⟩
  refine ⟨(by show 2 ≤ sizeLine; decide), fun p4 hp4 => ⟨(by show 0 ≤ sizeLine; decide), fun p5 hp5 => ⟨(by show 8 ≤ sizeLine; decide), fun lp hlp => ?_⟩⟩⟩
  have s4 := same_new (o := .tup [V.int 1, V.int 0]) hp4
  have s5 := s4.new (o := .tup []) hp5
  have i4 := (same_new (o := .tup []) hp5) p4 _ (upd_same (o := .tup [V.int 1, V.int 0]))
  have i5 : upd (upd H3 p4 (.tup [V.int 1, V.int 0])) p5 (.tup []) p5 = some (.tup []) := upd_same
  revert s5 i4 i5 hlp
  generalize upd (upd H3 p4 (.tup [V.int 1, V.int 0])) p5 (.tup []) = H5
  intro hlp s5 i4 i5
  have sl := same_new (o := .lst [V.non, .ref p1, .ref p2, .int 5, .ref p3, x0, .ref p4, .ref p5]) hlp
  have sA := s3.trans (s5.trans sl)
  have nlr : lp ≠ r := fun z => by
    have := (s3.trans s5) _ _ hrl
    rw [← z, hlp] at this
    cases this
  refine ⟨r, lp, _, sc, ns, rfl, hr.mono sA, upd_same, nlr, by simp, by simp, fun H6 v j b6 hr6 hv => ?_⟩
  have g6 : Gm r H H6 := (gm_same sA).trans (gm_but b6)
  have k6 := b6.keep (hr.mono sA).lst
  refine hq H6 v ((sA.but).trans b6) hr6 ?_
  have e5 := s5.trans sl
  have hm := List.mem_of_getElem? hv
  simp only [List.mem_cons, List.mem_nil_iff, or_false] at hm
  have lx0 : t0.length = 3 := (s.s31.tri t0 (by simp)).len
  rcases hm with rfl | rfl | rfl | rfl | rfl | rfl | rfl | rfl
  · exact .inl (.inl rfl)
  · exact .inr (.inr ⟨[0, 29], ⟨p1, rfl, k6 _ _ (e5 _ _ i1)⟩, by decide, .inr (no_edge29 s)⟩)
  · refine .inr (.inl ⟨p2, _, rfl, ?_, b6 _ _ ?_ (e5 _ _ i2)⟩)
    · intro z
      rw [z, s1 _ _ hrl] at hp2
      cases hp2
    · intro z
      rw [z, s1 _ _ hrl] at hp2
      cases hp2
  · exact .inl (.inr ⟨5, rfl⟩)
  · exact .inr (.inr ⟨[0], ⟨p3, rfl, k6 _ _ (e5 _ _ i3)⟩, by decide, .inr (no_len s (by decide))⟩)
  · exact .inr (.inr ⟨t0, (tx0.mono (s3.trans e5).keep).mono k6, by omega, .inr (no_len s (by omega))⟩)
  · exact .inr (.inr ⟨[1, 0], ⟨p4, rfl, k6 _ _ (sl _ _ i4)⟩, by decide, .inl rfl⟩)
  · exact .inr (.inr ⟨[], ⟨p5, rfl, k6 _ _ (sl _ _ i5)⟩, by decide, .inl rfl⟩)
theorem odds_st (s : SurfT T) (hr : RowOk K H r sc ns) (hy : TT' H y T) {σ : L2.St} (h1 : σ[1]? = some (some (.ref r))) (h2 : σ[2]? = some (some y)) {g : TG} {rest : TS} {Dn : Ends}
    (hq : ∀ H' v, But r H H' → RowOk K H' r sc ns → OddOk r T H' v → g v σ H' (rest Dn)) : tSeq (tAsg (rdOdds K) g) rest Dn σ H := odds_ok (Q := fun x H1 => g x σ H1 (rest Dn)) s hr hy h1 h2 hq
theorem lst_st {te : TE} {σ : L2.St} {g : TG} {rest : TS} {Dn : Ends} {w : V}
    (h : ∀ Q : VK, (∀ H', LamX.ExtN H H' → LamX.Tabs [(Pt, q)] H' → Q w H') → te σ H Q)
    (hq : ∀ H' l, LamX.ExtN H H' → LamX.Tabs [(Pt, q)] H' → H' l = some (.lst [w]) → g (.ref l) σ H' (rest Dn)) : tSeq (tAsg (tLst (tCons te tNil)) g) rest Dn σ H :=
  h _ fun H1 e1 t1 => ⟨(by show 1 ≤ sizeLine; decide), fun l hl => hq _ l (e1.trans (ext_same (same_new hl))) (t1.ext (same_new hl)) upd_same⟩
theorem cat_st {te : TE} {σ : L2.St} {g : TG} {rest : TS} {Dn : Ends} {w : V} {l7 : Addr} {xs : List V} (h7 : σ[7]? = some (some (.ref l7))) (hl7 : H l7 = some (.lst xs)) (hl : xs.length ≤ 10)
    (h : ∀ Q : VK, (∀ H', LamX.ExtN H H' → LamX.Tabs [(Pt, q)] H' → Q w H') → te σ H Q)
    (hq : ∀ H' l, LamX.ExtN H H' → LamX.Tabs [(Pt, q)] H' → H' l = some (.lst (xs ++ [w])) → g (.ref l) σ H' (rest Dn)) : tSeq (tAsg (tOp rCat (tVar 7) (tLst (tCons te tNil))) g) rest Dn σ H :=
  ⟨_, h7, h _ fun H1 e1 t1 => ⟨(by show 1 ≤ sizeLine; decide), fun b hb => ⟨l7, b, xs, [w], rfl, rfl, (same_new hb) _ _ (e1 _ _ hl7 (fun ps z => nomatch z)), upd_same, Nat.le_trans (Nat.add_le_add_right hl 1) (by decide), fun l hn => by
    have s2 := (same_new (o := .lst [w]) hb).new (o := .lst (xs ++ [w])) hn
    exact hq _ l (e1.trans (ext_same s2)) (t1.ext s2) upd_same⟩⟩⟩
theorem tail_ok (s : SurfT T) (hF : Faces T F) (l : Lw K C Pt q H r sc ns y p le ld T F E D) {a : Addr} {v4 v6 v7 v8 v9 v10 v12 : Option V} {Dn : Ends} (fin : ∀ H', Dn.rt (.bl true) H') :
    rdTail K C cNS cNF Pt q Dn [some (.ref a), some (.ref r), some y, some (.ref le), v4, some (.ref ld), v6, v7, v8, v9, v10, some (.ref p), v12] H := by
  unfold rdTail
  refine odds_st s l.row l.tops rfl rfl fun H1 v b1 hr1 hv => ?_
  have l1 := l.but b1 hr1
  obtain ⟨ya, yx, rfl, hya, tya⟩ := l1.tops
  refine ⟨_, rfl, 1, rfl, ?_⟩
  unfold tNoPart
  refine slT (.of hya) fun H2 pt s2 _ hpt => ?_
  intro x dx hx hdx ndx
  have hp2 := hpt hya
  have e1 : cutV yx (some 1) none = yx.drop 1 := cut_from yx 1
  rw [e1] at hp2
  have tt2 : TL H2 (yx.drop 1) T.tail := by
    rw [← List.drop_one]
    have h : TL H1 (yx.drop 1) (T.drop 1) := pdrop tya 1
    exact h.mono s2.keep
  have s6 : Same H2 (upd H2 dx (.own x)) := same_new hdx
  have hx6 : (upd H2 dx (.own x)) x = none := by rw [upd_ne ndx.symm]; exact hx
  have s7 : Same H2 (upd (upd H2 dx (.own x)) x (.ins C dx [])) := s6.new hx6
  refine ⟨x, dx, pt, _, T.tail, rfl, upd_same, s7 _ _ hp2, tt2.mono s7.keep, (tail_pack s).1, fun H8 F2 T2 s8 sh2 hF2 hT2 => ⟨rfl, ?_⟩⟩
  obtain ⟨eT, cx, fl⟩ := (tail_pack s).2 F2 T2 hF2 hT2
  subst eT
  have s9 : Same H2 H8 := fun b o eb => by
    have nb : b ≠ x := fun z => by rw [z, hx] at eb; cases eb
    exact s8 b o nb (s7 b o eb)
  have s18 := s2.trans s9
  have l8 := l1.same s18
  have hv8 := hv.step (gm_same s18) l1.row.lst
  refine lst_st (fun Q hQ => errF_flip l8.tab rfl rfl l8.shp (srf_T s hF) (fun H' e => (hv8.step (gm_ext e) l8.row.lst).use) hQ) fun H9 l9 e9 t9 h9 => ?_
  have l9' := l8.ext e9 t9
  have sh9 := (gm_ext e9).shp l8.row.lst sh2
  refine cat_st rfl h9 (by simp) (fun Q hQ => errS_flat l9'.tab rfl sh9 cx fl hQ) fun H10 l10 e10 t10 h10 => ?_
  have l10' := l9'.ext e10 t10
  have sh10 := (gm_ext e10).shp l9'.row.lst sh9
  refine cat_st rfl h10 (by simp) (fun Q hQ => errF_flat l10'.tab rfl rfl sh10 cx fl hQ) fun H11 l11 e11 t11 h11 => ?_
  refine ⟨_, rfl, (by show 3 ≤ sizeLine; decide), fun lz hz => ?_⟩
  refine ⟨_, _, .lst (.of (same_new hz _ _ h11)) (.cons (.str _) (.cons (.str _) (.cons (.str _) .nil))), .lst (.of upd_same) (.cons (.str _) (.cons (.str _) (.cons (.str _) .nil))), by decide +kernel, by decide +kernel, ?_⟩
  have ee : PyData.eqv (.list [.str "flip", .str "surface", .str "surface"]) (.list [.str "flip", .str "surface", .str "surface"]) = true := by decide +kernel
  rw [ee]
  exact fin _
end
end Fl

set_option Elab.async false
set_option linter.all false
set_option maxRecDepth 100000
set_option maxHeartbeats 4000000
namespace Fl
open PySem PySem.Spec PyProof.Rows L2
def rdKeys : List V → Hp → VK → Prop := fun xs H Q => ∃ d kvs, xs = [V.ref d] ∧ Rd H d (HO.dT kvs) ∧ ∀ (p : Addr) (bs : List Addr), H p = none → IsKeys H kvs bs → Q (V.ref p) (upd H p (HO.lst (List.map V.ref bs)))
def rdMid (K : PySem.W.Frag) (C cNS cNF Pt : Addr) (q : Str) : TS :=
  tSeq
    (tAsg (tTup (tCons (tMake C (spInit C) [] E0 (tCons (tVar 2) tNil)) (tCons (tCB (rSortX K) (tCons (tCB rdKeys (tCons (tCall (spRims K) [] E0 (tCons (tVar 2) tNil)) tNil)) tNil)) tNil))) (gTup K 2 (gCons (gName 11) (gCons (gName 3) gNil))))
    (tSeq
      (tAsg (tLc (iList K (tVar 3)) (gName 4) (tTest (tOp (rNeD K) (tCall (spLawFlipped K) [] E0 (tCons (tVar 2) (tCons (tVar 4) tNil))) (tCB (rTupleOf K) (tCons (tCB (rSortX K) (tCons (tVar 2) tNil)) tNil)))) (tVar 4) [4]) (gName 5))
      (tSeq
        (tIfS (tNot (tB (tCall (spAl (spAl (spAl fun _ _ _ _ => False))) [] E0 (tCons (tCall (spFlips C) [] E0 (tCons (tVar 11) tNil)) (tCons (tVar 5) tNil))))) (tRet (tC (V.bl false))) tNext)
        (tSeq (tFor (iRng1 (tCons (tC (V.int 3)) tNil)) (gName 6) (rdTurn K C cNS cNF Pt q)) (rdTail K C cNS cNF Pt q))))
def rdLaw (K : PySem.W.Frag) (C cNS cNF Pt : Addr) (q : Str) : TS :=
  tSeq (tAsg (tLst (tCons (tVar 0) (tCons (tC (V.int 0)) (tCons (tC (V.int 3354)) (tCons (tC (V.int 0)) tNil))))) (gName 1))
    (tSeq
      (tAsg (tIf (tTest (tOp rEq (tCall (spTaken K) [] E0 (tCons (tVar 1) (tCons (tC (V.int 2)) tNil))) (tC (V.int 0)))) (tCall (spSurface K) [] E0 (tCons (tVar 1) tNil))
        (tCall (spSphere K) [] E0 (tCons (tVar 1) (tCons (tOp (rI0 fun i j => V.int (i + j)) (tC (V.int 4)) (tCall (spTaken K) [] E0 (tCons (tVar 1) (tCons (tC (V.int 5)) tNil)))) tNil)))) (gName 2))
      (rdMid K C cNS cNF Pt q))
section
variable {K : PySem.W.Frag} {C cNS cNF Pt : Addr} {q : Str} {H : Hp} {r sc : Addr} {ns : List Int} {y : V} {p le ld : Addr} {T F E D : List (List Int)}
theorem law_mid (s : SurfT T) (hr : RowOk K H r sc ns) (hy : TT' H y T) (tab : LamX.Tabs [(Pt, q)] H) {a : Addr} {Dn : Ends} (fin : ∀ H', Dn.rt (.bl true) H') :
    rdMid K C cNS cNF Pt q Dn [some (.ref a), some (.ref r), some y, none, none, none, none, none, none, none, none, none, none] H := by
  obtain ⟨ya, yx, rfl, hya, tya⟩ := hy
  have l42 := s.len
  have tri3 : ∀ t ∈ T, t.length = 3 := fun t ht => (s.s31.tri t ht).len
  have tne : ∀ t ∈ T, t ≠ [] := fun t ht e => by have := tri3 t ht; rw [e] at this; cases this
  unfold rdMid
  refine ⟨_, rfl, ?_⟩
  intro x dx hx hdx ndx
  have s6 : Same H (upd H dx (.own x)) := same_new hdx
  have hx6 : (upd H dx (.own x)) x = none := by rw [upd_ne ndx.symm]; exact hx
  have s7 : Same H (upd (upd H dx (.own x)) x (.ins C dx [])) := s6.new hx6
  refine ⟨x, dx, ya, _, T, rfl, upd_same, s7 _ _ hya, tya.mono s7.keep, good_T s, fun H1 F T2 b1 sh hF hT2 => ⟨rfl, ?_⟩⟩
  have eT := tops_T s hF hT2
  subst eT
  have s1 : Same H H1 := fun b o eb => by
    have nb : b ≠ x := fun z => by rw [z, hx] at eb; cases eb
    exact b1 b o nb (s7 b o eb)
  refine ⟨_, rfl, ya, yx, T2, rfl, .inr (.of (s1 _ _ hya)), tya.mono s1.keep, tri3, by omega, fun H2 d kvs s2 hd0 hd wd => ?_⟩
  obtain ⟨G, hG, nG, hE, lG, mG⟩ := edges_of_dict wd
  refine ⟨d, kvs, rfl, .inl hd, fun l bs hl hb => ?_⟩
  have tl := keys_TL hb hG
  have sL := same_new (o := .lst (bs.map V.ref)) hl
  unfold tNil
  refine sortT (K := K) (.inl (.of upd_same)) (tl.mono sL.keep) (fun t ht => ?_) fun le ye E hle te pm wk => ?_
  · obtain ⟨t', ht'⟩ := (mG t).mp ht
    intro e
    have := (edgeT_len s ht').1
    rw [e] at this
    cases this
  have hEE := hE E pm wk
  have s3 : Same H2 (upd (upd H2 l (.lst (bs.map V.ref))) le (.lst ye)) := sL.new hle
  have hle3 : upd (upd H2 l (.lst (bs.map V.ref))) le (.lst ye) le = some (.lst ye) := upd_same
  revert s3 hle3 te
  have nler : le ≠ r := fun z => by
    obtain ⟨xs, hrl⟩ := hr.lst
    have := sL _ _ ((s1.trans s2) _ _ hrl)
    rw [← z, hle] at this
    cases this
  generalize upd (upd H2 l (.lst (bs.map V.ref))) le (.lst ye) = H3
  intro te s3 hle3
  refine ⟨(by show 2 ≤ sizeLine; decide), fun tp htp => ?_⟩
  have s4 := same_new (o := .tup [V.ref x, V.ref le]) htp
  refine ⟨tp, _, rfl, .of upd_same, rfl, _, _, rfl, _, _, rfl, rfl, ?_⟩
  revert s4
  generalize upd H3 tp (.tup [V.ref x, V.ref le]) = H4
  intro s4
  have s04 := ((s1.trans s2).trans s3).trans s4
  have sh4 := sh.mono ((s2.trans s3).trans s4)
  have hle4 := s4 _ _ hle3
  have te4 := te.mono s4.keep
  obtain ⟨m1, m2⟩ := edges_few s hEE
  -- what is due
  refine ⟨_, rfl, le, rfl, ⟨_, .of hle4⟩, fun Dl hDl => lc_gen E Ti Ti (fun e => decide (tipsS T2 e ∉ F)) id hDl (src_listT (.of hle4) te4) (fun _ _ _ _ k h => h.mono k) (small1000 (by omega)) ?_ ?_⟩
  · intro i x2 t H5 Ny Nn hi hx2 sm hyy hn
    have s05 := s04.trans sm
    obtain ⟨t0, ht0⟩ := (hEE.2 t).mp (List.mem_of_getElem? hi)
    refine ⟨rfl, _, rfl, _, rfl, ya, x2, yx, t, T2, rfl, .inr (.of (s05 _ _ hya)), tya.mono s05.keep, hx2, tri3, by omega, (edgeT_len s ht0).1, fun H6 y2 R s6 ty2 pR wR => ?_⟩
    have s06 := s05.trans s6
    refine ⟨_, rfl, ?_⟩
    show rSortX K [V.ref ya] H6 _
    refine sortT (K := K) (.inr (.of (s06 _ _ hya))) (tya.mono s06.keep) tne fun l3 zs T3 hl3 tz pm3 wk3 => ?_
    have e3 := wk3.perm s.srt.wk pm3
    subst e3
    refine tupleL upd_same fun tp2 htp2 => ?_
    have k3 := (keep_new (o := .lst zs) hl3)
    have k4 : Keep (upd H6 l3 (.lst zs)) (upd (upd H6 l3 (.lst zs)) tp2 (.tup zs)) := keep_new htp2
    refine neTT ((ty2.mono k3).mono k4) ⟨tp2, zs, rfl, upd_same, tz.mono k4⟩ ⟨_, rfl, ?_⟩
    have s56 := s6.trans ((same_new (o := .lst zs) hl3).new (o := .tup zs) htp2)
    by_cases h : R = T3
    · rw [decide_eq_true h]
      have := (due_iff s hF ht0 pR wR).mp h
      exact iteF (hn (by simp [this]) _ s56)
    · rw [decide_eq_false h]
      have : tipsS T3 t ∉ F := fun z => h ((due_iff s hF ht0 pR wR).mpr z)
      exact iteT ⟨_, rfl, hyy (by simp [this]) _ _ s56 (hx2.mono s56.keep)⟩
  intro H5 yd sm hld td
  rw [List.map_id] at td
  have td : TL H5 yd (E.filter fun e => decide (tipsS T2 e ∉ F)) := td
  have s05 := s04.trans sm
  have nldr : Dl ≠ r := fun z => by
    obtain ⟨xs, hrl⟩ := hr.lst
    have := s04 _ _ hrl
    rw [← z, hDl] at this
    cases this
  -- the program finds the same
  refine ⟨_, rfl, x, F, T2, rfl, sh4.mono sm, srf_T s hF, fun H6 l6 y6 E6 s6 hl60 hl6 hE6 tl6 => ?_⟩
  have eE : E6 = E := hE6.1.ext hEE.1 fun e => by rw [hE6.2, hEE.2]
  subst eE
  have fl := List.length_filter_le (fun e => decide (tipsS T2 e ∉ F)) E6
  refine ⟨_, rfl, ?_⟩
  show spAl (spAl (spAl fun _ _ _ _ => False)) [.ref l6, .ref Dl] H6 _ _
  refine al_ll hl6 tl6 (s6 _ _ hld) (td.mono s6.keep) (by omega) (fun t ht => ?_) fun H7 s7 => ⟨true, rfl, iteF ?_⟩
  · have := (List.mem_filter.mp ht).1
    obtain ⟨t0, ht0⟩ := (hEE.2 t).mp this
    have := (edgeT_len s ht0).1
    omega
  have s57 := s6.trans s7
  have s07 := s05.trans s57
  have lw : Lw K C Pt q H7 r sc ns (.ref ya) x le Dl T2 F E6 (E6.filter fun e => decide (tipsS T2 e ∉ F)) :=
    ⟨hr.mono s07, ⟨ya, yx, rfl, s07 _ _ hya, tya.mono s07.keep⟩, sh4.mono (sm.trans s57), ⟨ye, (sm.trans s57) _ _ hle4, te4.mono (sm.trans s57).keep⟩, ⟨yd, s57 _ _ hld, td.mono s57.keep⟩, tab.ext s07, nler, nldr⟩
  -- three turns, and the end
  refine ⟨3, rfl, by decide, by decide, ?_⟩
  refine for_rng (n := 3) (fun j σ H' => ∃ v4 v6 v7 v8 v9 v10 v12, σ = [some (.ref a), some (.ref r), some (.ref ya), some (.ref le), v4, some (.ref Dl), v6, v7, v8, v9, v10, some (.ref x), v12] ∧ Lw K C Pt q H' r sc ns (.ref ya) x le Dl T2 F E6 (E6.filter fun e => decide (tipsS T2 e ∉ F)))
    ⟨none, none, none, none, none, none, none, rfl, lw⟩ ?_ ?_
  · rintro i σ H8 hi ⟨v4, v6, v7, v8, v9, v10, v12, rfl, l8⟩
    exact turn_step s hF hEE rfl l8 fun H9 u4 u7 u8 l9 => ⟨u4, _, u7, u8, v9, v10, v12, rfl, l9⟩
  · rintro σ H8 ⟨v4, v6, v7, v8, v9, v10, v12, rfl, l8⟩
    exact tail_ok s hF l8 fin
theorem law_ok {a : Addr} (hA : SqL K H a (List.map V.int ns)) (htb : H Pt = some (.tbl #[])) {Q : VK} {nx : L2.St → Hp → Prop} (fin : ∀ H', Q (.bl true) H') :
    rdLaw K C cNS cNF Pt q { nx := nx, rt := Q } (L2.start N_law [.ref a]) H := by
  unfold rdLaw
  refine ⟨_, rfl, (by show 4 ≤ sizeLine; decide), fun r hr => ?_⟩
  have s1 := same_new (o := .lst [V.ref a, V.int 0, V.int 3354, V.int 0]) hr
  have hrow : RowOk K (upd H r (.lst [V.ref a, V.int 0, V.int 3354, V.int 0])) r a ns := ⟨0, 3354, 0, upd_same, s1.seq hA, by decide⟩
  have tab : LamX.Tabs [(Pt, q)] (upd H r (.lst [V.ref a, V.int 0, V.int 3354, V.int 0])) := fun p hp => by
    have e : p = (Pt, q) := by simpa using hp
    subst e
    exact LamX.TabS.nil (s1 _ _ htb)
  refine ⟨_, rfl, r, 2, a, ns, rfl, hrow, by decide, by decide, fun H2 k b2 hr2 hk0 hk => ⟨rfl, _, rfl, ?_⟩⟩
  have tab2 := tabs_but tab b2 hrow.lst
  by_cases h : V.int k = V.int 0
  · rw [decide_eq_true h]
    refine iteT ⟨_, rfl, r, a, ns, rfl, hr2, fun H3 y T b3 hr3 hy s => ?_⟩
    exact law_mid s hr3 hy (tabs_but tab2 b3 hr2.lst) fin
  · rw [decide_eq_false h]
    refine iteF ⟨_, rfl, _, rfl, r, 5, a, ns, rfl, hr2, by decide, by decide, fun H3 k3 b3 hr3 hk3 hk5 => ⟨4, k3, rfl, rfl, ?_⟩⟩
    refine ⟨r, 4 + k3, a, ns, rfl, hr3, by omega, by omega, fun H4 y T b4 hr4 hy s => ?_⟩
    exact law_mid s hr4 hy (tabs_but (tabs_but tab2 b3 hr2.lst) b4 hr3.lst) fin
end
end Fl

set_option Elab.async false
set_option linter.all false
set_option maxRecDepth 100000
set_option maxHeartbeats 4000000
namespace Fl
open PySem PySem.Spec PyProof.Rows L2
section
variable {P : Program} {w : World} {K : PySem.W.Frag} {mg : Str → Option Value} {base : Heap} {A : Ad}
def spLaw (K : PySem.W.Frag) (Pt : Addr) : Sp := fun vs H Q _ => ∃ a ns, vs = [.ref a] ∧ SqL K H a (List.map V.int ns) ∧ ns.length ≤ 63 ∧ H Pt = some (.tbl #[]) ∧ ∀ H', Q (.bl true) H'
theorem ok_law (T : Tx K mg A) {lc Pt : Addr} (TB : LamX.TabB base mg lc Pt) (FL : FunC K "law" "law" s_law A.f_law A.fd_law lc)
    (G_eq : FnOk P w K mg base CX0 1 A.f_eq A.fd_eq ["self", "other"] (spEq (SameTops A.C)))
    (G_facets : FnOk P w K mg base CX0 1 A.f_facets A.fd_facets ["self"] (getSp A.C "tops"))
    (G_init : FnOk P w K mg base CX0 5 A.f_init A.fd_init ["self", "simplices"] (spInit A.C))
    (G_counts_of : FnOk P w K mg base CX0 2 A.f_counts_of A.fd_counts_of ["shape"] (spCounts_of A.C))
    (G_kind : FnOk P w K mg base CX0 10 A.f_kind A.fd_kind ["shape"] (spKind A.C))
    (G_flips : FnOk P w K mg base CX0 10 A.f_flips A.fd_flips ["shape"] (spFlips A.C))
    (GX_flips : FnOk P w K mg base (L2.CX P w) 10 A.f_flips A.fd_flips ["shape"] (spFlipsX A.C A.cNS))
    (G_flipped : FnOk P w K mg base CX0 10 A.f_flipped A.fd_flipped ["shape", "edge"] (spFlipped A.C))
    (GX_flipped : FnOk P w K mg base (L2.CX P w) 10 A.f_flipped A.fd_flipped ["shape", "edge"] (spFlippedX A.C A.cNS A.cNF))
    (G__law_taken : FnOk P w K mg base CX0 1 A.f__law_taken A.fd__law_taken ["_law_row", "_law_many"] (spTaken K))
    (G__law_pick : FnOk P w K mg base CX0 2 A.f__law_pick A.fd__law_pick ["_law_row", "_law_things"] (spPick K))
    (G__law_alike : FnOk P w K mg base CX0 3 A.f__law_alike A.fd__law_alike ["_law_found", "_law_due"] (spAl (spAl (spAl fun _ _ _ _ => False))))
    (G__law_surface : FnOk P w K mg base CX0 3 A.f__law_surface A.fd__law_surface ["_law_row"] (spSurface K))
    (G__law_sphere : FnOk P w K mg base CX0 3 A.f__law_sphere A.fd__law_sphere ["_law_row", "_law_many"] (spSphere K))
    (G__law_rims : FnOk P w K mg base CX0 1 A.f__law_rims A.fd__law_rims ["_law_tops"] (spRims K))
    (G__law_flipped : FnOk P w K mg base CX0 2 A.f__law_flipped A.fd__law_flipped ["_law_tops", "_law_edge"] (spLawFlipped K)) :
    FnOk P w K mg base CX0 13 A.f_law A.fd_law ["_law_script"] (spLaw K Pt) := by
  refine FL.ok sc_law (fun vs H Q E h => ?_) (fun Ar outer s H vs Q E hr h => ⟨_, (pss_cons (ps_set (i := 1) sc_law.nd rfl (by first | exact Or.inl rfl | exact Or.inr rfl) (pe_lst (pa_cons (pv 0) (pa_cons pe_int (pa_cons pe_int (pa_cons pe_int pa_nil))))))
    (pss_cons (ps_set (i := 2) sc_law.nd rfl (by first | exact Or.inl rfl | exact Or.inr rfl) (pe_ifExp (pt_cmpR op_eq (pe_call G__law_taken (hr.mono (by first | decide | exact Nat.le_refl _)) (by rfl) T.g__law_taken T.k__law_taken T.bd__law_taken .nil pass0 (pa_cons (pv 1) (pa_cons pe_int pa_nil))) pe_int (nomark _)) (pe_call G__law_surface (hr.mono (by first | decide | exact Nat.le_refl _)) (by rfl) T.g__law_surface T.k__law_surface T.bd__law_surface .nil pass0 (pa_cons (pv 1) pa_nil)) (pe_call G__law_sphere (hr.mono (by first | decide | exact Nat.le_refl _)) (by rfl) T.g__law_sphere T.k__law_sphere T.bd__law_sphere .nil pass0 (pa_cons (pv 1) (pa_cons (pe_op op_add pe_int (pe_call G__law_taken (hr.mono (by first | decide | exact Nat.le_refl _)) (by rfl) T.g__law_taken T.k__law_taken T.bd__law_taken .nil pass0 (pa_cons (pv 1) (pa_cons pe_int pa_nil)))) pa_nil)))))
    (pss_cons (ps_asg (pe_tup (pa_cons (pe_make T.mkC G_init (hr.mono (by decide)) (by rfl) T.g_Complex T.bd_init .nil pass0 (pa_cons (pv 2) pa_nil)) (pa_cons (pe_callB (cr_sortXK K) (by rfl) (T.nb "sorted" (by decide)) (by decide +kernel) (pa_cons (pe_callTy (call_list_dT rfl) (by rfl) (T.nb "list" (by decide)) (by decide +kernel) (pa_cons (pe_call G__law_rims (hr.mono (by first | decide | exact Nat.le_refl _)) (by rfl) T.g__law_rims T.k__law_rims T.bd__law_rims .nil pass0 (pa_cons (pv 2) pa_nil)) pa_nil)) pa_nil)) pa_nil))) (pg_tupK K rfl (pgs_cons (pg_name (i := 11) sc_law.nd rfl (by first | exact Or.inl rfl | exact Or.inr rfl)) (pgs_cons (pg_name (i := 3) sc_law.nd rfl (by first | exact Or.inl rfl | exact Or.inr rfl)) pgs_nil))))
    (pss_cons (ps_setLc (i := 5) (own := [("_law_edge", 4)]) (g := (gName 4)) rfl sc_law.nd rfl rfl (sw_true rfl rfl rfl (by decide +kernel)) (pi_listK K (pv 3)) (blkOk_by (N := N_law) (sc := defScope s_law) (by decide +kernel)) (fun _ _ _ _ _ => (pg_name (i := 4) sc_law.nd rfl (by first | exact Or.inl rfl | exact Or.inr rfl))) (fun _ _ _ _ _ => pts_one (pt_cmpR (op_neDK K hr.units) (pe_call G__law_flipped (hr.mono (by first | decide | exact Nat.le_refl _)) (by rfl) T.g__law_flipped T.k__law_flipped T.bd__law_flipped .nil pass0 (pa_cons (pv 2) (pa_cons (pv 4) pa_nil))) (pe_callTy (call_tuple_ofK K) (by rfl) (T.nb "tuple" (by decide)) (by decide +kernel) (pa_cons (pe_callB (cr_sortXK K) (by rfl) (T.nb "sorted" (by decide)) (by decide +kernel) (pa_cons (pv 2) pa_nil)) pa_nil)) (nomark _))) (fun _ _ _ _ _ => (pv 4)))
    (pss_cons (ps_if (pt_not (pt_val (pe_call G__law_alike (hr.mono (by first | decide | exact Nat.le_refl _)) (by rfl) T.g__law_alike T.k__law_alike T.bd__law_alike .nil pass0 (pa_cons (pe_call G_flips (hr.mono (by first | decide | exact Nat.le_refl _)) (by rfl) T.g_flips T.k_flips T.bd_flips .nil pass0 (pa_cons (pv 11) pa_nil)) (pa_cons (pv 5) pa_nil))))) (pss_one (ps_ret pe_bl)) pss_nil)
    (pss_cons (ps_for PassesOwn.never rfl (pi_range1 (by rfl) (T.nb "range" (by decide)) (pa_cons pe_int pa_nil)) (pg_name (i := 6) sc_law.nd rfl (by first | exact Or.inl rfl | exact Or.inr rfl))
    (pss_cons (ps_set (i := 4) sc_law.nd rfl (by first | exact Or.inl rfl | exact Or.inr rfl) (pe_call G__law_pick (hr.mono (by first | decide | exact Nat.le_refl _)) (by rfl) T.g__law_pick T.k__law_pick T.bd__law_pick .nil pass0 (pa_cons (pv 1) (pa_cons (pv 3) pa_nil))))
    (pss_one (ps_if (pt_cmpR (op_inDK K (hu65 hr)) (pv 4) (pv 5) (by rfl)) (pss_cons (ps_set (i := 7) sc_law.nd rfl (by first | exact Or.inl rfl | exact Or.inr rfl) (pe_call G_flipped (hr.mono (by first | decide | exact Nat.le_refl _)) (by rfl) T.g_flipped T.k_flipped T.bd_flipped .nil pass0 (pa_cons (pv 11) (pa_cons (pv 4) pa_nil))))
    (pss_cons (ps_if (PW.pt (pw_or (pt_not (pt_val (pe_call G__law_alike (hr.mono (by first | decide | exact Nat.le_refl _)) (by rfl) T.g__law_alike T.k__law_alike T.bd__law_alike .nil pass0 (pa_cons (pe_prop (pv 7) T.clC T.pfC G_facets (hr.mono (by decide)) T.bd_facets .nil pass0 rfl) (pa_cons (pe_call G__law_flipped (hr.mono (by first | decide | exact Nat.le_refl _)) (by rfl) T.g__law_flipped T.k__law_flipped T.bd__law_flipped .nil pass0 (pa_cons (pv 2) (pa_cons (pv 4) pa_nil))) pa_nil))))) (pw_or1 (pt_cmpR (op_neDK K hr.units) (pe_call G_kind (hr.mono (by first | decide | exact Nat.le_refl _)) (by rfl) T.g_kind T.k_kind T.bd_kind .nil pass0 (pa_cons (pv 7) pa_nil)) (pe_call G_kind (hr.mono (by first | decide | exact Nat.le_refl _)) (by rfl) T.g_kind T.k_kind T.bd_kind .nil pass0 (pa_cons (pv 11) pa_nil)) (nomark _))))) (pss_one (ps_ret pe_bl)) pss_nil)
    (pss_cons (ps_setLc (i := 8) (own := [("_law_other", 12)]) (g := (gName 12)) rfl sc_law.nd rfl rfl (sw_true rfl rfl rfl (by decide +kernel)) (pi_keys (pe_lockR (pe_call G__law_rims (hr.mono (by first | decide | exact Nat.le_refl _)) (by rfl) T.g__law_rims T.k__law_rims T.bd__law_rims .nil pass0 (pa_cons (pe_prop (pv 7) T.clC T.pfC G_facets (hr.mono (by decide)) T.bd_facets .nil pass0 rfl) pa_nil)))) (blkOk_by (N := N_law) (sc := defScope s_law) (by decide +kernel)) (fun _ _ _ _ _ => (pg_name (i := 12) sc_law.nd rfl (by first | exact Or.inl rfl | exact Or.inr rfl))) (fun _ _ _ _ _ => pts_one (pt_cmpR (op_notInDK K (hu65 hr)) (pv 12) (pv 3) (by rfl))) (fun _ _ _ _ _ => (pv 12)))
    (pss_one (ps_if (PW.pt (pw_or (pt_cmpR (op_neDK K hr.units) (pe_call G_counts_of (hr.mono (by first | decide | exact Nat.le_refl _)) (by rfl) T.g_counts_of T.k_counts_of T.bd_counts_of .nil pass0 (pa_cons (pv 7) pa_nil)) (pe_call G_counts_of (hr.mono (by first | decide | exact Nat.le_refl _)) (by rfl) T.g_counts_of T.k_counts_of T.bd_counts_of .nil pass0 (pa_cons (pv 11) pa_nil)) (nomark _)) (pw_or (pt_cmpR op_ne (pe_callB (call_len_seqK K) (by rfl) (T.nb "len" (by decide)) PySem.boot_len (pa_cons (pv 8) pa_nil)) pe_int (nomark _)) (pw_or1 (pt_not (pt_cmpR (op_eqG (rcG_ins G_eq T.eqC T.eqF T.bd_eq pass0) (hr.mono (by decide))) (pe_call G_flipped (hr.mono (by first | decide | exact Nat.le_refl _)) (by rfl) T.g_flipped T.k_flipped T.bd_flipped .nil pass0 (pa_cons (pv 7) (pa_cons (pe_ix (ix_listK K) (pv 8) pe_int (fun _ _ => rfl)) pa_nil))) (pv 11) (nomark _))))))) (pss_one (ps_ret pe_bl)) pss_nil))))) (pss_one (ps_if (pt_cmpR op_ne (pe_err (k := 10) T TB rfl (hr.mono (by decide)) (by rfl) (LamX.lamS_by (sc := defScope s_law) (by decide +kernel)) rfl (fun _ _ _ _ _ => rfl) (fun A2 outer2 s2 H2 E2 f2 c2 hr2 => pe_callS GX_flipped hr2 (by rfl) T.g_flipped T.k_flipped T.bd_flipped (fun σ => passAt (takes_of rfl rfl rfl rfl) σ) (pa_cons (pv 11) (pa_cons (pv 4) pa_nil)))) pe_str (nomark _)) (pss_one (ps_ret pe_bl)) pss_nil))))))
    (pss_cons (ps_set (i := 10) sc_law.nd rfl (by first | exact Or.inl rfl | exact Or.inr rfl) (pe_call G__law_pick (hr.mono (by first | decide | exact Nat.le_refl _)) (by rfl) T.g__law_pick T.k__law_pick T.bd__law_pick .nil pass0 (pa_cons (pv 1) (pa_cons (pe_lst (pa_cons pe_non (pa_cons (pe_tup (pa_cons pe_int (pa_cons pe_int pa_nil))) (pa_cons (pe_lst (pa_cons pe_int (pa_cons pe_int pa_nil))) (pa_cons pe_int (pa_cons (pe_tup (pa_cons pe_int pa_nil)) (pa_cons (pe_ix (ix_tupK K) (pv 2) pe_int (fun _ _ => rfl)) (pa_cons (pe_tup (pa_cons pe_int (pa_cons pe_int pa_nil))) (pa_cons (pe_tup pa_nil) pa_nil))))))))) pa_nil))))
    (pss_cons (ps_set (i := 9) sc_law.nd rfl (by first | exact Or.inl rfl | exact Or.inr rfl) (pe_make T.mkC G_init (hr.mono (by decide)) (by rfl) T.g_Complex T.bd_init .nil pass0 (pa_cons (pe_slice (sl_tupAK K) (pv 2) (po_some pe_int) po_none) pa_nil)))
    (pss_cons (ps_set (i := 7) sc_law.nd rfl (by first | exact Or.inl rfl | exact Or.inr rfl) (pe_lst (pa_cons (pe_err (k := 10) T TB rfl (hr.mono (by decide)) (by rfl) (LamX.lamS_by (sc := defScope s_law) (by decide +kernel)) rfl (fun _ _ _ _ _ => rfl) (fun A2 outer2 s2 H2 E2 f2 c2 hr2 => pe_callS GX_flipped hr2 (by rfl) T.g_flipped T.k_flipped T.bd_flipped (fun σ => passAt (takes_of rfl rfl rfl rfl) σ) (pa_cons (pv 11) (pa_cons (pv 10) pa_nil)))) pa_nil)))
    (pss_cons (ps_set (i := 7) sc_law.nd rfl (by first | exact Or.inl rfl | exact Or.inr rfl) (pe_op op_cat (pv 7) (pe_lst (pa_cons (pe_err (k := 10) T TB rfl (hr.mono (by decide)) (by rfl) (LamX.lamS_by (sc := defScope s_law) (by decide +kernel)) rfl (fun _ _ _ _ _ => rfl) (fun A2 outer2 s2 H2 E2 f2 c2 hr2 => pe_callS GX_flips hr2 (by rfl) T.g_flips T.k_flips T.bd_flips (fun σ => passAt (takes_of rfl rfl rfl rfl) σ) (pa_cons (pv 9) pa_nil))) pa_nil))))
    (pss_cons (ps_set (i := 7) sc_law.nd rfl (by first | exact Or.inl rfl | exact Or.inr rfl) (pe_op op_cat (pv 7) (pe_lst (pa_cons (pe_err (k := 10) T TB rfl (hr.mono (by decide)) (by rfl) (LamX.lamS_by (sc := defScope s_law) (by decide +kernel)) rfl (fun _ _ _ _ _ => rfl) (fun A2 outer2 s2 H2 E2 f2 c2 hr2 => pe_callS GX_flipped hr2 (by rfl) T.g_flipped T.k_flipped T.bd_flipped (fun σ => passAt (takes_of rfl rfl rfl rfl) σ) (pa_cons (pv 9) (pa_cons (pv 10) pa_nil)))) pa_nil))))
    (pss_one (ps_ret (pe_cmpR (op_eqDK K hr.units) (pv 7) (pe_lst (pa_cons pe_str (pa_cons pe_str (pa_cons pe_str pa_nil)))) (nomark _))))))))))))))), ?_⟩)
  · obtain ⟨a, ns, rfl, _⟩ := h; rfl
  · obtain ⟨a, ns, rfl, hA, hl, htb, q⟩ := h
    have e := law_ok (K := K) (C := A.C) (cNS := A.cNS) (cNF := A.cNF) (Pt := Pt) (q := (cxOf CX0 P w K mg base N_law (Str.ofString "law") (defScope s_law) A.f_law (Value.ref lc) Ar outer s H E).nox.env.qual ++ Str.ofString "<lambda>") (nx := fun _ H' => Q .non H') hA htb q
    exact e
end
end Fl

set_option Elab.async false
set_option linter.all false
set_option maxRecDepth 100000
set_option maxHeartbeats 4000000
namespace Fl
open PySem PySem.Spec PyProof.Rows L2
theorem fn_no {P : Program} {w : World} {K : PySem.W.Frag} {mg : Str → Option Value} {base : Heap} {f : Addr} {fd : FuncData} {ps : List Str} : FnOk P w K mg base CX0 0 f fd ps (fun _ _ _ _ => False) :=
  ⟨fun _ _ _ _ h => h.elim, fun _ _ _ _ _ _ _ _ _ _ _ _ _ h => h.elim⟩
theorem law_all {P : Program} {w : World} {K : PySem.W.Frag} {mg : Str → Option Value} {base : Heap} {A : Ad} (T : Tx K mg A) {lc Pt : Addr} (TB : LamX.TabB base mg lc Pt) (FL : FunC K "law" "law" s_law A.f_law A.fd_law lc) :
    FnOk P w K mg base CX0 13 A.f_law A.fd_law ["_law_script"] (spLaw K Pt) := by
  have G_is_integer := ok_is_integer (P := P) (w := w) (base := base) T
  have G_is_in := ok_is_in (P := P) (w := w) (base := base) T G_is_integer
  have G_is_list := ok_is_list (P := P) (w := w) (base := base) T
  have G_is_ascending := ok_is_ascending (P := P) (w := w) (base := base) T G_is_list G_is_in
  have G_is_simplex := ok_is_simplex (P := P) (w := w) (base := base) T G_is_ascending
  have G_parts_of := ok_parts_of (P := P) (w := w) (base := base) T
  have G_generated := ok_generated (P := P) (w := w) (base := base) T G_parts_of
  have G_maximal := ok_maximal (P := P) (w := w) (base := base) T
  have G_init := ok_init (P := P) (w := w) (base := base) T G_is_list G_is_simplex G_generated G_maximal
  have G_facets := ok_facets (P := P) (w := w) (base := base) T
  have G_eq := ok_eq (P := P) (w := w) (base := base) T
  have G_need_complex := ok_need_complex (P := P) (w := w) (base := base) T
  have G_made := ok_made (P := P) (w := w) (base := base) T G_generated G_maximal G_init
  have G_vertices_in := ok_vertices_in (P := P) (w := w) (base := base) T
  have G_counts_in := ok_counts_in (P := P) (w := w) (base := base) T
  have G_counts_of := ok_counts_of (P := P) (w := w) (base := base) T G_need_complex G_counts_in
  have G__law_rims := ok_rims (P := P) (w := w) (base := base) T
  have G_walls_of := ok_walls_of (P := P) (w := w) (base := base) T G_facets
  have G_tips_of := ok_tips_of (P := P) (w := w) (base := base) T
  have G_link_in := ok_link_in (P := P) (w := w) (base := base) T
  have G_components := ok_components (P := P) (w := w) (base := base) T G_need_complex G_vertices_in
  have G_is_surface_in := ok_is_surface_in (P := P) (w := w) (base := base) T G_facets G_components G_walls_of G_made G_link_in G_vertices_in
  have G_tidy := ok_tidy (P := P) (w := w) (base := base) T
  have G_boundary_in := ok_boundary_in (P := P) (w := w) (base := base) T G_tidy
  have G_orient := ok_orient (P := P) (w := w) (base := base) T G_facets G_walls_of G_boundary_in
  have G_need_surface := ok_need_surface (P := P) (w := w) (base := base) T G_need_complex G_is_surface_in
  have GX_need_surface := okX_need_surface (P := P) (w := w) (base := base) T G_need_complex G_is_surface_in
  have G_kind_of := ok_kind_of (P := P) (w := w) (base := base) T
  have G_kind := ok_kind (P := P) (w := w) (base := base) T G_need_surface G_counts_in G_orient G_kind_of
  have G_flips_in := ok_flips_in (P := P) (w := w) (base := base) T G_walls_of G_tips_of
  have G_flips := ok_flips (P := P) (w := w) (base := base) T G_need_surface G_flips_in
  have GX_flips := okX_flips (P := P) (w := w) (base := base) T GX_need_surface G_flips_in
  have G_flipped_in := ok_flipped_in (P := P) (w := w) (base := base) T G_facets G_walls_of G_tips_of G_init
  have G_flipped := ok_flipped (P := P) (w := w) (base := base) T G_need_surface G_is_simplex G_flips_in G_flipped_in
  have GX_flipped := okX_flipped (P := P) (w := w) (base := base) T GX_need_surface G_is_simplex G_flips_in G_flipped_in
  have G__law_taken := ok_taken (P := P) (w := w) (base := base) T
  have G__law_pick := ok_pick (P := P) (w := w) (base := base) T G__law_taken
  have G__law_within := ok_within (P := P) (w := w) (base := base) T
  have G__law_flipped := ok_law_flipped (P := P) (w := w) (base := base) T G__law_within
  have G__law_alike := ok_alike (P := P) (w := w) (base := base) T (ok_alike T (ok_alike T (fn_no)))
  have G__law_sphere := ok_sphere (P := P) (w := w) (base := base) T G__law_taken G__law_pick G__law_rims G__law_flipped
  have G__law_surface := ok_surface (P := P) (w := w) (base := base) T G__law_taken G__law_pick
  exact ok_law T TB FL G_eq G_facets G_init G_counts_of G_kind G_flips GX_flips G_flipped GX_flipped G__law_taken G__law_pick G__law_alike G__law_surface G__law_sphere G__law_rims G__law_flipped
end Fl

set_option Elab.async false
set_option linter.all false
set_option maxRecDepth 100000
set_option maxHeartbeats 4000000
namespace Fl
open PySem PySem.Spec PyProof.Rows L2
def FunAt (K : PySem.W.Frag) (x : Str) (st : Stmt) : Prop := ∃ f fd, PySem.W.nsIn K mainGlobals x = some (some (.ref f)) ∧ Fun K x x st f fd
def AllNone (K : PySem.W.Frag) : List Str → Prop
  | [] => True
  | x :: r => PySem.W.nsIn K mainGlobals x = some none ∧ AllNone K r
theorem AllNone.mem {K : PySem.W.Frag} : ∀ {l : List Str}, AllNone K l → ∀ x ∈ l, PySem.W.nsIn K mainGlobals x = some none
  | [], _, x, hx => by cases hx
  | y :: r, h, x, hx => by
    rcases List.mem_cons.mp hx with rfl | hx
    · exact h.1
    · exact AllNone.mem h.2 x hx
def CplxAt (K : PySem.W.Frag) : Prop := ∃ C fI fdI pf fF fdF fE fdE, PySem.W.nsIn K mainGlobals "Complex" = some (some (.ref C)) ∧ Cls K C ∧ Mk K C fI ∧ Fun K "__init__" "Complex.__init__" s_init fI fdI ∧ NoAttr K C "faces" ∧ NoAttr K C "tops" ∧ PropOf K C "facets" pf fF ∧ Fun K "facets" "Complex.facets" s_facets fF fdF ∧
  PySem.W.kitOne K (.ref C) (.ref C) = some true ∧ PySem.W.findIn K (.ref C) "__class__" = some (some (.builtin "object.__class__")) ∧ PySem.W.specialIn K (.builtin "object.__class__") "__get__" = some (some (.builtin "getset_descriptor.__get__")) ∧ PySem.W.takesIn K (.builtin "object.__class__") = some true ∧
  PySem.W.mroIn K C (.type "object") = some true ∧ PySem.W.findIn K (.ref C) "__eq__" = some (some (.ref fE)) ∧ PySem.W.isFn K (.ref fE) = true ∧ Fun K "__eq__" "Complex.__eq__" s_eq fE fdE
theorem kit_self {K : PySem.W.Frag} {C : Addr} : PySem.W.kitOne K (.ref C) (.ref C) = some true := if_pos (beq_self_eq_true _)
theorem kit_of {K : PySem.W.Frag} {D C : Addr} {b : Bool} (ne : (Value.ref D == Value.ref C) = false) (hd : PySem.W.hasDictIn K C = true) (ht : PySem.W.typeIn K (.ref C) = some (.type "type")) (hs : PySem.W.subIn K (.ref D) (.ref C) = some b) : PySem.W.kitOne K (.ref D) (.ref C) = some b := by
  obtain ⟨cd, hc, _⟩ := PySem.W.any_some hd
  have e2 : ((PySem.W.clsIn K C).isSome && PySem.W.typeIn K (.ref C) == some (.type "type")) = true := by rw [hc, ht] <;> rfl
  show (if (Value.ref D == Value.ref C) = true then some true else if ((PySem.W.clsIn K C).isSome && PySem.W.typeIn K (.ref C) == some (.type "type")) = true then PySem.W.subIn K (.ref D) (.ref C) else none) = some b
  rw [if_neg (by rw [ne]; decide), if_pos e2]
  exact hs
structure ErrC (K : PySem.W.Frag) (c : Addr) : Prop where
  x : PySem.W.excIn K c [.type "ValueError", .type "Exception", .type "BaseException", .type "object"] "ValueError.__new__" = true
  kp : PySem.W.keepIn K (.ref c) = true
  b : PySem.W.subIn K (.ref c) (.type "BaseException") = some true
  t : PySem.W.typeIn K (.ref c) = some (.type "type")
  ec : ExcC K c
def ErrAt (K : PySem.W.Frag) : Prop := ∃ cS cNS cNF, PySem.W.nsIn K mainGlobals "ShapeError" = some (some (.ref cS)) ∧ PySem.W.nsIn K mainGlobals "NotSurface" = some (some (.ref cNS)) ∧ PySem.W.nsIn K mainGlobals "NotFlip" = some (some (.ref cNF)) ∧
  ErrC K cNS ∧ ErrC K cNF ∧ PySem.W.exmOne K (.ref cNS) (.ref cS) = some true ∧ PySem.W.exmOne K (.ref cNF) (.ref cS) = some true ∧
  PySem.W.kitOne K (.ref cNF) (.ref cNF) = some true ∧ PySem.W.kitOne K (.ref cNF) (.ref cNS) = some false ∧ PySem.W.kitOne K (.ref cNS) (.ref cNF) = some false ∧ PySem.W.kitOne K (.ref cNS) (.ref cNS) = some true
def IntAt (K : PySem.W.Frag) (x : Str) (n : Int) : Prop := ∃ t, PySem.W.nsIn K mainGlobals x = some (some (.int n t))
def LawC (K : PySem.W.Frag) (P : Addr) : Prop := ∃ f c, PySem.W.nsIn K mainGlobals "law" = some (some (.ref f)) ∧ (∃ (oc : Value) (od : Option Addr) (kV doc pm : Value) (an : Option Addr) (ct : Value) (osl : Array (Option Value)),
  K.lookup f = some ⟨oc, od, .func (PySem.W.fnOf "law" "law" (defArgs s_law) (defBody s_law) (defScope s_law) .none kV doc pm an (.ref c) ct), osl⟩) ∧ PySem.W.codeIn K (.ref c) "law" = true ∧ PySem.W.keepIn K (.ref f) = true ∧ PySem.W.codeHdIn K c P = true ∧ K.lookup P = none
theorem all_mk {l : PySem.W.OpenLaw} {w : World} {K : PySem.W.Frag} {h : Heap} {mg : Str → Option Value} {fa P : Addr} (X : K.In h) (G : h.Ns mainGlobals mg) (hfa : mg "law" = some (.ref fa)) (tb : h.get? P = some { cls := .none, data := .fields #[] })
    (a_is_integer : FunAt K "is_integer" s_is_integer)
    (a_is_in : FunAt K "is_in" s_is_in)
    (a_is_list : FunAt K "is_list" s_is_list)
    (a_is_ascending : FunAt K "is_ascending" s_is_ascending)
    (a_is_simplex : FunAt K "is_simplex" s_is_simplex)
    (a_parts_of : FunAt K "parts_of" s_parts_of)
    (a_generated : FunAt K "generated" s_generated)
    (a_maximal : FunAt K "maximal" s_maximal)
    (a_need_complex : FunAt K "need_complex" s_need_complex)
    (a_made : FunAt K "made" s_made)
    (a_vertices_in : FunAt K "vertices_in" s_vertices_in)
    (a_counts_in : FunAt K "counts_in" s_counts_in)
    (a_counts_of : FunAt K "counts_of" s_counts_of)
    (a_tidy : FunAt K "tidy" s_tidy)
    (a_boundary_in : FunAt K "boundary_in" s_boundary_in)
    (a_walls_of : FunAt K "walls_of" s_walls_of)
    (a_orient : FunAt K "orient" s_orient)
    (a_link_in : FunAt K "link_in" s_link_in)
    (a_components : FunAt K "components" s_components)
    (a_is_surface_in : FunAt K "is_surface_in" s_is_surface_in)
    (a_need_surface : FunAt K "need_surface" s_need_surface)
    (a_kind_of : FunAt K "kind_of" s_kind_of)
    (a_kind : FunAt K "kind" s_kind)
    (a_tips_of : FunAt K "tips_of" s_tips_of)
    (a_flips_in : FunAt K "flips_in" s_flips_in)
    (a_flips : FunAt K "flips" s_flips)
    (a_flipped_in : FunAt K "flipped_in" s_flipped_in)
    (a_flipped : FunAt K "flipped" s_flipped)
    (a__law_taken : FunAt K "_law_taken" s__law_taken)
    (a__law_pick : FunAt K "_law_pick" s__law_pick)
    (a__law_alike : FunAt K "_law_alike" s__law_alike)
    (a__law_within : FunAt K "_law_within" s__law_within)
    (a__law_surface : FunAt K "_law_surface" s__law_surface)
    (a__law_rims : FunAt K "_law_rims" s__law_rims)
    (a__law_sphere : FunAt K "_law_sphere" s__law_sphere)
    (a__law_flipped : FunAt K "_law_flipped" s__law_flipped)
    (a__law_error : FunAt K "_law_error" s__law_error)
    (aC : CplxAt K) (aE : ErrAt K) (a1 : IntAt K "MOST_VERTEX" 30) (a2 : IntAt K "MOST_LENGTH" 8) (a3 : IntAt K "MOST_FACES" 400) (nb : AllNone K blts) (aL : LawC K P) : LamX.LawAtS l w K CX0 13 63 "_law_script" mg fa h := by
  obtain ⟨f_is_integer, fd_is_integer, n_is_integer, F_is_integer⟩ := a_is_integer
  obtain ⟨f_is_in, fd_is_in, n_is_in, F_is_in⟩ := a_is_in
  obtain ⟨f_is_list, fd_is_list, n_is_list, F_is_list⟩ := a_is_list
  obtain ⟨f_is_ascending, fd_is_ascending, n_is_ascending, F_is_ascending⟩ := a_is_ascending
  obtain ⟨f_is_simplex, fd_is_simplex, n_is_simplex, F_is_simplex⟩ := a_is_simplex
  obtain ⟨f_parts_of, fd_parts_of, n_parts_of, F_parts_of⟩ := a_parts_of
  obtain ⟨f_generated, fd_generated, n_generated, F_generated⟩ := a_generated
  obtain ⟨f_maximal, fd_maximal, n_maximal, F_maximal⟩ := a_maximal
  obtain ⟨f_need_complex, fd_need_complex, n_need_complex, F_need_complex⟩ := a_need_complex
  obtain ⟨f_made, fd_made, n_made, F_made⟩ := a_made
  obtain ⟨f_vertices_in, fd_vertices_in, n_vertices_in, F_vertices_in⟩ := a_vertices_in
  obtain ⟨f_counts_in, fd_counts_in, n_counts_in, F_counts_in⟩ := a_counts_in
  obtain ⟨f_counts_of, fd_counts_of, n_counts_of, F_counts_of⟩ := a_counts_of
  obtain ⟨f_tidy, fd_tidy, n_tidy, F_tidy⟩ := a_tidy
  obtain ⟨f_boundary_in, fd_boundary_in, n_boundary_in, F_boundary_in⟩ := a_boundary_in
  obtain ⟨f_walls_of, fd_walls_of, n_walls_of, F_walls_of⟩ := a_walls_of
  obtain ⟨f_orient, fd_orient, n_orient, F_orient⟩ := a_orient
  obtain ⟨f_link_in, fd_link_in, n_link_in, F_link_in⟩ := a_link_in
  obtain ⟨f_components, fd_components, n_components, F_components⟩ := a_components
  obtain ⟨f_is_surface_in, fd_is_surface_in, n_is_surface_in, F_is_surface_in⟩ := a_is_surface_in
  obtain ⟨f_need_surface, fd_need_surface, n_need_surface, F_need_surface⟩ := a_need_surface
  obtain ⟨f_kind_of, fd_kind_of, n_kind_of, F_kind_of⟩ := a_kind_of
  obtain ⟨f_kind, fd_kind, n_kind, F_kind⟩ := a_kind
  obtain ⟨f_tips_of, fd_tips_of, n_tips_of, F_tips_of⟩ := a_tips_of
  obtain ⟨f_flips_in, fd_flips_in, n_flips_in, F_flips_in⟩ := a_flips_in
  obtain ⟨f_flips, fd_flips, n_flips, F_flips⟩ := a_flips
  obtain ⟨f_flipped_in, fd_flipped_in, n_flipped_in, F_flipped_in⟩ := a_flipped_in
  obtain ⟨f_flipped, fd_flipped, n_flipped, F_flipped⟩ := a_flipped
  obtain ⟨f__law_taken, fd__law_taken, n__law_taken, F__law_taken⟩ := a__law_taken
  obtain ⟨f__law_pick, fd__law_pick, n__law_pick, F__law_pick⟩ := a__law_pick
  obtain ⟨f__law_alike, fd__law_alike, n__law_alike, F__law_alike⟩ := a__law_alike
  obtain ⟨f__law_within, fd__law_within, n__law_within, F__law_within⟩ := a__law_within
  obtain ⟨f__law_surface, fd__law_surface, n__law_surface, F__law_surface⟩ := a__law_surface
  obtain ⟨f__law_rims, fd__law_rims, n__law_rims, F__law_rims⟩ := a__law_rims
  obtain ⟨f__law_sphere, fd__law_sphere, n__law_sphere, F__law_sphere⟩ := a__law_sphere
  obtain ⟨f__law_flipped, fd__law_flipped, n__law_flipped, F__law_flipped⟩ := a__law_flipped
  obtain ⟨f__law_error, fd__law_error, n__law_error, F__law_error⟩ := a__law_error
  obtain ⟨C, fI, fdI, pf, fF, fdF, fE, fdE, nC, clC, mkC, FI, nF, nT, pfC, FF, isC, i1, i2, i3, i4, eqC, eqF, FE⟩ := aC
  obtain ⟨cS, cNS, cNF, nS, nNS, nNF, eNS, eNF, x1, x2, k1, k2, k3, k4⟩ := aE
  obtain ⟨t1, a1⟩ := a1
  obtain ⟨t2, a2⟩ := a2
  obtain ⟨t3, a3⟩ := a3
  obtain ⟨fL, c, nL, ⟨oc, od, kV, doc, pm, an, ct, osl, lk⟩, cd, kp, hd, ln⟩ := aL
  have e := hfa.symm.trans (PySem.W.mg_of X G nL)
  cases e
  let A : Ad := { f_is_integer := f_is_integer, fd_is_integer := fd_is_integer, f_is_in := f_is_in, fd_is_in := fd_is_in, f_is_list := f_is_list, fd_is_list := fd_is_list, f_is_ascending := f_is_ascending, fd_is_ascending := fd_is_ascending, f_is_simplex := f_is_simplex, fd_is_simplex := fd_is_simplex, f_parts_of := f_parts_of, fd_parts_of := fd_parts_of, f_generated := f_generated, fd_generated := fd_generated, f_maximal := f_maximal, fd_maximal := fd_maximal, f_need_complex := f_need_complex, fd_need_complex := fd_need_complex, f_made := f_made, fd_made := fd_made, f_vertices_in := f_vertices_in, fd_vertices_in := fd_vertices_in, f_counts_in := f_counts_in, fd_counts_in := fd_counts_in, f_counts_of := f_counts_of, fd_counts_of := fd_counts_of, f_tidy := f_tidy, fd_tidy := fd_tidy, f_boundary_in := f_boundary_in, fd_boundary_in := fd_boundary_in, f_walls_of := f_walls_of, fd_walls_of := fd_walls_of, f_orient := f_orient, fd_orient := fd_orient, f_link_in := f_link_in, fd_link_in := fd_link_in, f_components := f_components, fd_components := fd_components, f_is_surface_in := f_is_surface_in, fd_is_surface_in := fd_is_surface_in, f_need_surface := f_need_surface, fd_need_surface := fd_need_surface, f_kind_of := f_kind_of, fd_kind_of := fd_kind_of, f_kind := f_kind, fd_kind := fd_kind, f_tips_of := f_tips_of, fd_tips_of := fd_tips_of, f_flips_in := f_flips_in, fd_flips_in := fd_flips_in, f_flips := f_flips, fd_flips := fd_flips, f_flipped_in := f_flipped_in, fd_flipped_in := fd_flipped_in, f_flipped := f_flipped, fd_flipped := fd_flipped, f__law_taken := f__law_taken, fd__law_taken := fd__law_taken, f__law_pick := f__law_pick, fd__law_pick := fd__law_pick, f__law_alike := f__law_alike, fd__law_alike := fd__law_alike, f__law_within := f__law_within, fd__law_within := fd__law_within, f__law_surface := f__law_surface, fd__law_surface := fd__law_surface, f__law_rims := f__law_rims, fd__law_rims := fd__law_rims, f__law_sphere := f__law_sphere, fd__law_sphere := fd__law_sphere, f__law_flipped := f__law_flipped, fd__law_flipped := fd__law_flipped, f__law_error := f__law_error, fd__law_error := fd__law_error, f_init := fI, fd_init := fdI, f_facets := fF, fd_facets := fdF, f_eq := fE, fd_eq := fdE, f_law := fa, fd_law := PySem.W.fnOf "law" "law" (defArgs s_law) (defBody s_law) (defScope s_law) .none kV doc pm an (.ref c) ct, C := C, pf := pf, cS := cS, cNC := 0, cNS := cNS, cNF := cNF, cBS := 0, cTM := 0 }
  have T : Tx K mg A := {
    nb := fun x hx => PySem.W.mg_none_of X G (nb.mem x hx),
    F_is_integer := F_is_integer, g_is_integer := PySem.W.mg_of X G n_is_integer,
    F_is_in := F_is_in, g_is_in := PySem.W.mg_of X G n_is_in,
    F_is_list := F_is_list, g_is_list := PySem.W.mg_of X G n_is_list,
    F_is_ascending := F_is_ascending, g_is_ascending := PySem.W.mg_of X G n_is_ascending,
    F_is_simplex := F_is_simplex, g_is_simplex := PySem.W.mg_of X G n_is_simplex,
    F_parts_of := F_parts_of, g_parts_of := PySem.W.mg_of X G n_parts_of,
    F_generated := F_generated, g_generated := PySem.W.mg_of X G n_generated,
    F_maximal := F_maximal, g_maximal := PySem.W.mg_of X G n_maximal,
    F_need_complex := F_need_complex, g_need_complex := PySem.W.mg_of X G n_need_complex,
    F_made := F_made, g_made := PySem.W.mg_of X G n_made,
    F_vertices_in := F_vertices_in, g_vertices_in := PySem.W.mg_of X G n_vertices_in,
    F_counts_in := F_counts_in, g_counts_in := PySem.W.mg_of X G n_counts_in,
    F_counts_of := F_counts_of, g_counts_of := PySem.W.mg_of X G n_counts_of,
    F_tidy := F_tidy, g_tidy := PySem.W.mg_of X G n_tidy,
    F_boundary_in := F_boundary_in, g_boundary_in := PySem.W.mg_of X G n_boundary_in,
    F_walls_of := F_walls_of, g_walls_of := PySem.W.mg_of X G n_walls_of,
    F_orient := F_orient, g_orient := PySem.W.mg_of X G n_orient,
    F_link_in := F_link_in, g_link_in := PySem.W.mg_of X G n_link_in,
    F_components := F_components, g_components := PySem.W.mg_of X G n_components,
    F_is_surface_in := F_is_surface_in, g_is_surface_in := PySem.W.mg_of X G n_is_surface_in,
    F_need_surface := F_need_surface, g_need_surface := PySem.W.mg_of X G n_need_surface,
    F_kind_of := F_kind_of, g_kind_of := PySem.W.mg_of X G n_kind_of,
    F_kind := F_kind, g_kind := PySem.W.mg_of X G n_kind,
    F_tips_of := F_tips_of, g_tips_of := PySem.W.mg_of X G n_tips_of,
    F_flips_in := F_flips_in, g_flips_in := PySem.W.mg_of X G n_flips_in,
    F_flips := F_flips, g_flips := PySem.W.mg_of X G n_flips,
    F_flipped_in := F_flipped_in, g_flipped_in := PySem.W.mg_of X G n_flipped_in,
    F_flipped := F_flipped, g_flipped := PySem.W.mg_of X G n_flipped,
    F__law_taken := F__law_taken, g__law_taken := PySem.W.mg_of X G n__law_taken,
    F__law_pick := F__law_pick, g__law_pick := PySem.W.mg_of X G n__law_pick,
    F__law_alike := F__law_alike, g__law_alike := PySem.W.mg_of X G n__law_alike,
    F__law_within := F__law_within, g__law_within := PySem.W.mg_of X G n__law_within,
    F__law_surface := F__law_surface, g__law_surface := PySem.W.mg_of X G n__law_surface,
    F__law_rims := F__law_rims, g__law_rims := PySem.W.mg_of X G n__law_rims,
    F__law_sphere := F__law_sphere, g__law_sphere := PySem.W.mg_of X G n__law_sphere,
    F__law_flipped := F__law_flipped, g__law_flipped := PySem.W.mg_of X G n__law_flipped,
    F__law_error := F__law_error, g__law_error := PySem.W.mg_of X G n__law_error,
    F_init := FI, F_facets := FF, F_eq := FE, F_law := fun_mk lk cd kp, g_law := hfa,
    e_MOST_VERTEX := ⟨t1, PySem.W.mg_of X G a1⟩, e_MOST_LENGTH := ⟨t2, PySem.W.mg_of X G a2⟩, e_MOST_FACES := ⟨t3, PySem.W.mg_of X G a3⟩,
    g_Complex := PySem.W.mg_of X G nC, clC := clC, mkC := mkC, nF := nF, nT := nT, pfC := pfC, isC := isC, inC1 := i1, inC2 := i2, inC3 := i3, inC4 := i4, eqC := eqC, eqF := eqF,
    g_NotSurface := PySem.W.mg_of X G nNS, x_NS := eNS.x, kp_NS := eNS.kp, b_NS := eNS.b, t_NS := eNS.t,
    g_NotFlip := PySem.W.mg_of X G nNF, x_NF := eNF.x, kp_NF := eNF.kp, b_NF := eNF.b, t_NF := eNF.t,
    g_ShapeError := PySem.W.mg_of X G nS, xs_NS := x1, xs_NF := x2, ec_NS := eNS.ec, ec_NF := eNF.ec, k_FF := k1, k_FS := k2, k_SF := k3, k_SS := k4 }
  refine ⟨PySem.W.fnOf "law" "law" (defArgs s_law) (defBody s_law) (defScope s_law) .none kV doc pm an (.ref c) ct, [(c, P)], spLaw K P, ?_, ?_, ?_, fun s u => .of_eq rfl, ?_, ?_⟩
  · intro p hp
    have e : p = (c, P) := by simpa using hp
    rw [e]; exact tb
  · intro p hp
    have e : p = (c, P) := by simpa using hp
    rw [e]; exact ln
  · intro p hp
    have e : p = (c, P) := by simpa using hp
    rw [e]; exact PySem.W.codeHd_of_K X hd
  · intro H a ns hl _ hT hS
    exact ⟨a, ns, rfl, hS, hl, hT (c, P) (by simp), fun _ => rfl⟩
  · intro base _ _ hTB
    exact law_all (A := A) T (hTB (c, P) (by simp)) ⟨oc, od, kV, doc, pm, an, ct, osl, rfl, lk, cd⟩
end Fl

open PySem PySem.W PyProof.Rows
set_option maxRecDepth 100000 in
set_option maxHeartbeats 0 in
theorem PySem.Challenge.cw_shapeholes_k54_whole_flips_holds : PySem.Challenge.rw_shapeholes_k54_whole_flips.Holds := by
  w_on; o_law; k_head; (case hw => w_witness2)
  k_fill
  refine LamX.walk_ofTs (l := PySem.Challenge.rw_shapeholes_k54_whole_flips) (n := 63) (k := 13) (x := "_law_script") (CX := fun _ => L2.CX0) rfl (by decide) rfl ⟨rfl, by decide, by decide⟩ (fun w h Y => PySem.W.km_in_of Y) ?F (fun _ _ _ _ _ h => h)
  case F =>
    intro w mg fa h Y KX G hmg
    have tb := PySem.W.km_tabs_of Y
    refine Fl.all_mk KX G hmg (P := 375) (tb 375 (by simp)) ?a_is_integer ?a_is_in ?a_is_list ?a_is_ascending ?a_is_simplex ?a_parts_of ?a_generated ?a_maximal ?a_need_complex ?a_made ?a_vertices_in ?a_counts_in ?a_counts_of ?a_tidy ?a_boundary_in ?a_walls_of ?a_orient ?a_link_in ?a_components ?a_is_surface_in ?a_need_surface ?a_kind_of ?a_kind ?a_tips_of ?a_flips_in ?a_flips ?a_flipped_in ?a_flipped ?a__law_taken ?a__law_pick ?a__law_alike ?a__law_within ?a__law_surface ?a__law_rims ?a__law_sphere ?a__law_flipped ?a__law_error ?aC ?aE ?a1 ?a2 ?a3 ?nb ?aL
    case a_is_integer => exact ⟨_, _, by k_is, L2.fun_mk (by k_is) (by k_is) (by k_is)⟩
    case a_is_in => exact ⟨_, _, by k_is, L2.fun_mk (by k_is) (by k_is) (by k_is)⟩
    case a_is_list => exact ⟨_, _, by k_is, L2.fun_mk (by k_is) (by k_is) (by k_is)⟩
    case a_is_ascending => exact ⟨_, _, by k_is, L2.fun_mk (by k_is) (by k_is) (by k_is)⟩
    case a_is_simplex => exact ⟨_, _, by k_is, L2.fun_mk (by k_is) (by k_is) (by k_is)⟩
    case a_parts_of => exact ⟨_, _, by k_is, L2.fun_mk (by k_is) (by k_is) (by k_is)⟩
    case a_generated => exact ⟨_, _, by k_is, L2.fun_mk (by k_is) (by k_is) (by k_is)⟩
    case a_maximal => exact ⟨_, _, by k_is, L2.fun_mk (by k_is) (by k_is) (by k_is)⟩
    case a_need_complex => exact ⟨_, _, by k_is, L2.fun_mk (by k_is) (by k_is) (by k_is)⟩
    case a_made => exact ⟨_, _, by k_is, L2.fun_mk (by k_is) (by k_is) (by k_is)⟩
    case a_vertices_in => exact ⟨_, _, by k_is, L2.fun_mk (by k_is) (by k_is) (by k_is)⟩
    case a_counts_in => exact ⟨_, _, by k_is, L2.fun_mk (by k_is) (by k_is) (by k_is)⟩
    case a_counts_of => exact ⟨_, _, by k_is, L2.fun_mk (by k_is) (by k_is) (by k_is)⟩
    case a_tidy => exact ⟨_, _, by k_is, L2.fun_mk (by k_is) (by k_is) (by k_is)⟩
    case a_boundary_in => exact ⟨_, _, by k_is, L2.fun_mk (by k_is) (by k_is) (by k_is)⟩
    case a_walls_of => exact ⟨_, _, by k_is, L2.fun_mk (by k_is) (by k_is) (by k_is)⟩
    case a_orient => exact ⟨_, _, by k_is, L2.fun_mk (by k_is) (by k_is) (by k_is)⟩
    case a_link_in => exact ⟨_, _, by k_is, L2.fun_mk (by k_is) (by k_is) (by k_is)⟩
    case a_components => exact ⟨_, _, by k_is, L2.fun_mk (by k_is) (by k_is) (by k_is)⟩
    case a_is_surface_in => exact ⟨_, _, by k_is, L2.fun_mk (by k_is) (by k_is) (by k_is)⟩
    case a_need_surface => exact ⟨_, _, by k_is, L2.fun_mk (by k_is) (by k_is) (by k_is)⟩
    case a_kind_of => exact ⟨_, _, by k_is, L2.fun_mk (by k_is) (by k_is) (by k_is)⟩
    case a_kind => exact ⟨_, _, by k_is, L2.fun_mk (by k_is) (by k_is) (by k_is)⟩
    case a_tips_of => exact ⟨_, _, by k_is, L2.fun_mk (by k_is) (by k_is) (by k_is)⟩
    case a_flips_in => exact ⟨_, _, by k_is, L2.fun_mk (by k_is) (by k_is) (by k_is)⟩
    case a_flips => exact ⟨_, _, by k_is, L2.fun_mk (by k_is) (by k_is) (by k_is)⟩
    case a_flipped_in => exact ⟨_, _, by k_is, L2.fun_mk (by k_is) (by k_is) (by k_is)⟩
    case a_flipped => exact ⟨_, _, by k_is, L2.fun_mk (by k_is) (by k_is) (by k_is)⟩
    case a__law_taken => exact ⟨_, _, by k_is, L2.fun_mk (by k_is) (by k_is) (by k_is)⟩
    case a__law_pick => exact ⟨_, _, by k_is, L2.fun_mk (by k_is) (by k_is) (by k_is)⟩
    case a__law_alike => exact ⟨_, _, by k_is, L2.fun_mk (by k_is) (by k_is) (by k_is)⟩
    case a__law_within => exact ⟨_, _, by k_is, L2.fun_mk (by k_is) (by k_is) (by k_is)⟩
    case a__law_surface => exact ⟨_, _, by k_is, L2.fun_mk (by k_is) (by k_is) (by k_is)⟩
    case a__law_rims => exact ⟨_, _, by k_is, L2.fun_mk (by k_is) (by k_is) (by k_is)⟩
    case a__law_sphere => exact ⟨_, _, by k_is, L2.fun_mk (by k_is) (by k_is) (by k_is)⟩
    case a__law_flipped => exact ⟨_, _, by k_is, L2.fun_mk (by k_is) (by k_is) (by k_is)⟩
    case a__law_error => exact ⟨_, _, by k_is, L2.fun_mk (by k_is) (by k_is) (by k_is)⟩
    case aC => exact ⟨_, _, _, _, _, _, _, _, by k_is, ⟨by k_is, by k_is, by k_is, by k_is⟩, ⟨by k_is, by k_is, by k_is, by k_is⟩, L2.fun_mk (by k_is) (by k_is) (by k_is), by show PySem.W.findIn _ _ _ = _; k_is, by show PySem.W.findIn _ _ _ = _; k_is, ⟨by k_is, by k_is, by k_is, ⟨_, by k_is⟩⟩, L2.fun_mk (by k_is) (by k_is) (by k_is), Fl.kit_self, by k_is, by k_is, by k_is, by k_is, by k_is, by k_is, L2.fun_mk (by k_is) (by k_is) (by k_is)⟩
    case aE => exact ⟨_, _, _, by k_is, by k_is, by k_is, ⟨by k_exc, by k_is, by k_is, by k_is, ⟨by k_is, by k_is, by k_is, by k_is, by k_is, by k_is, by k_is, by k_is⟩⟩, ⟨by k_exc, by k_is, by k_is, by k_is, ⟨by k_is, by k_is, by k_is, by k_is, by k_is, by k_is, by k_is, by k_is⟩⟩, PySem.W.exm_ref (by k_is) (by k_is) (by k_is) (by k_is), PySem.W.exm_ref (by k_is) (by k_is) (by k_is) (by k_is), Fl.kit_self, Fl.kit_of (by decide +kernel) (by k_is) (by k_is) (by k_is), Fl.kit_of (by decide +kernel) (by k_is) (by k_is) (by k_is), Fl.kit_self⟩
    case a1 => exact ⟨_, by k_is⟩
    case a2 => exact ⟨_, by k_is⟩
    case a3 => exact ⟨_, by k_is⟩
    case nb => exact ⟨by k_is, by k_is, by k_is, by k_is, by k_is, by k_is, by k_is, by k_is, by k_is, by k_is, by k_is, by k_is, by k_is, by k_is, by k_is, by k_is, trivial⟩
    case aL => exact ⟨_, _, by k_is, ⟨_, _, _, _, _, _, _, _, by k_is⟩, by k_is, by k_is, by kernel_rfl, by kernel_rfl⟩
