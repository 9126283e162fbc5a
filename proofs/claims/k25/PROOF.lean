import PyProof.Rows.All
import Wide.All
import OpenK.AllK
import Wide.FinOn
import HandS.ForMost
import HandS.Walk
import HandS.TupAny
import HandS.Conv
import HandS.Flow
import KE.GoesMore
import KE.GoesEnum
import KE.DataMinMax
import HandS.Evl
import HandS.Steps
import PySem.Challenge.RW_piecetrees_k25_whole_next_firm_is_none_j
set_option Elab.async false
set_option linter.all false
set_option maxRecDepth 100000
set_option maxHeartbeats 4000000
/-! K25Math: firm lots, and how they grow (no program in sight). -/
namespace K25
/-- both looks between two things -/
def gl (r : Nat → Nat → Int) (z u : Nat) : Int × Int := (r z u, r u z)
theorem gl_swap {r : Nat → Nat → Int} {z u v : Nat} (h : gl r z u = gl r z v) : gl r u z = gl r v z := by
  unfold gl at *
  injection h with h1 h2
  rw [h1, h2]
/-- S is a piece of X -/
def Pc (r : Nat → Nat → Int) (X S : Nat → Prop) : Prop := ∀ z u v, X z → ¬ S z → S u → S v → gl r z u = gl r z v
def Three (X : Nat → Prop) : Prop := ∃ a b c, X a ∧ X b ∧ X c ∧ a ≠ b ∧ a ≠ c ∧ b ≠ c
def Firm (r : Nat → Nat → Int) (X : Nat → Prop) : Prop :=
  Three X ∧ ∀ S : Nat → Prop, (∀ u, S u → X u) → Pc r X S → (∃ u v, S u ∧ S v ∧ u ≠ v) → ∀ z, X z → S z
/-- z sees X alike; z is like u -/
def Alike (r : Nat → Nat → Int) (X : Nat → Prop) (z : Nat) : Prop := ∀ u v, X u → X v → gl r z u = gl r z v
def Like (r : Nat → Nat → Int) (X : Nat → Prop) (u z : Nat) : Prop := ∀ v, X v → v ≠ u → gl r v z = gl r v u
section
variable {r : Nat → Nat → Int} {X Y : Nat → Prop} {x y z u w : Nat}
theorem Three.two (h : Three X) (u : Nat) : ∃ v v', X v ∧ X v' ∧ v ≠ u ∧ v' ≠ u ∧ v ≠ v' := by
  obtain ⟨a, b, c, ha, hb, hc, n1, n2, n3⟩ := h
  by_cases e : a = u
  · exact ⟨b, c, hb, hc, fun q => n1 (e.trans q.symm), fun q => n2 (e.trans q.symm), n3⟩
  · by_cases e2 : b = u
    · exact ⟨a, c, ha, hc, e, fun q => n3 (e2.trans q.symm), n2⟩
    · exact ⟨a, b, ha, hb, e, e2, n1⟩
theorem Three.other (h : Three X) (u w : Nat) : ∃ v, X v ∧ v ≠ u ∧ v ≠ w := by
  obtain ⟨v, v', h1, h2, n1, n2, n3⟩ := h.two u
  by_cases e : v = w
  · exact ⟨v', h2, n2, fun q => n3 (e.trans q.symm)⟩
  · exact ⟨v, h1, n1, e⟩
theorem Three.mono (h : Three X) (s : ∀ t, X t → Y t) : Three Y := by
  obtain ⟨a, b, c, ha, hb, hc, n⟩ := h
  exact ⟨a, b, c, s a ha, s b hb, s c hc, n⟩
theorem Pc.sub {S : Nat → Prop} (h : Pc r Y S) (s : ∀ t, X t → Y t) : Pc r X (fun t => S t ∧ X t) := fun z u v hz hn hu hv =>
  h z u v (s z hz) (fun q => hn ⟨q, hz⟩) hu.1 hv.1
theorem not_firm (t : Three X) (h : ¬ Firm r X) : ∃ S : Nat → Prop, (∀ u, S u → X u) ∧ Pc r X S ∧ (∃ u v, S u ∧ S v ∧ u ≠ v) ∧ ∃ z, X z ∧ ¬ S z :=
  Classical.byContradiction fun q => h ⟨t, fun S s p d z hz => Classical.byContradiction fun n => q ⟨S, s, p, d, z, hz, n⟩⟩
/-- the three ways to stand to a firm lot -/
theorem stands (f : Firm r X) (hz : ¬ X z) (h : ¬ Firm r (fun t => X t ∨ t = z)) : Alike r X z ∨ ∃ u, X u ∧ Like r X u z := by
  obtain ⟨S, s, p, ⟨a, b, ha, hb, nab⟩, t, ht, nt⟩ := not_firm (f.1.mono fun t h => .inl h) h
  by_cases d : ∃ u v, (S u ∧ X u) ∧ (S v ∧ X v) ∧ u ≠ v
  · have all : ∀ t, X t → S t ∧ X t := f.2 _ (fun _ q => q.2) (p.sub fun _ q => .inl q) d
    have nz : ¬ S z := by
      rcases ht with q | q
      · exact absurd (all t q).1 nt
      · rw [← q]; exact nt
    exact .inl fun u v hu hv => p z u v (.inr rfl) nz (all u hu).1 (all v hv).1
  · have one : ∀ v, S v → X v → ∀ u, S u → X u → u = v := fun v h1 h2 u h3 h4 => Classical.byContradiction fun n => d ⟨u, v, ⟨h3, h4⟩, ⟨h1, h2⟩, n⟩
    have key : ∀ w, S w → X w → S z → Alike r X z ∨ ∃ u, X u ∧ Like r X u z := fun w h1 h2 h3 =>
      .inr ⟨w, h2, fun v hv n => p v z w (.inl hv) (fun q => n (one w h1 h2 v q hv)) h3 h1⟩
    rcases s a ha with xa | ea
    · rcases s b hb with xb | eb
      · exact absurd (one b hb xb a ha xa) nab
      · exact key a ha xa (eb ▸ hb)
    · rcases s b hb with xb | eb
      · exact key b hb xb (ea ▸ ha)
      · exact absurd (ea.trans eb.symm) nab
theorem uniq (f : Firm r X) (hu : X u) (hw : X w) (l1 : Like r X u x) (l2 : Like r X w x) : u = w := Classical.byContradiction fun n => by
  have all := f.2 (fun t => t = u ∨ t = w) (fun t q => by rcases q with rfl | rfl <;> assumption) (fun z a b hz hn ha hb => by
    have nu : z ≠ u := fun q => hn (.inl q)
    have nw : z ≠ w := fun q => hn (.inr q)
    have e : gl r z u = gl r z w := (l1 z hz nu).symm.trans (l2 z hz nw)
    rcases ha with rfl | rfl <;> rcases hb with rfl | rfl
    · rfl
    · exact e
    · exact e.symm
    · rfl) ⟨u, w, .inl rfl, .inr rfl, n⟩
  obtain ⟨v, hv, n1, n2⟩ := f.1.other u w
  rcases all v hv with q | q
  · exact n1 q
  · exact n2 q
theorem sees_apart (f : Firm r X) (hu : X u) (h : ∀ v v', X v → X v' → v ≠ u → v' ≠ u → gl r u v = gl r u v') : False := by
  obtain ⟨v, v', h1, h2, n1, n2, n3⟩ := f.1.two u
  have all := f.2 (fun t => X t ∧ t ≠ u) (fun t q => q.1) (fun z a b hz hn ha hb => by
    have e : z = u := Classical.byContradiction fun q => hn ⟨hz, q⟩
    rw [e]
    exact h a b ha.1 hb.1 ha.2 hb.2) ⟨v, v', ⟨h1, n1⟩, ⟨h2, n2⟩, n3⟩ u hu
  exact all.2 rfl
/-- x is like u, y is not, and y tells u from x: both together make it firm -/
theorem pair_firm (f : Firm r X) (hu : X u) (hx : ¬ X x) (hy : ¬ X y) (nxy : x ≠ y) (lx : Like r X u x) (ly : ¬ Like r X u y) (ap : gl r y u ≠ gl r y x) :
    Firm r (fun t => X t ∨ t = x ∨ t = y) := by
  refine ⟨f.1.mono fun t h => .inl h, fun S s p ⟨a, b, ha, hb, nab⟩ => ?_⟩
  -- x in S and y in S and X in S is the end
  have fin : S x → S y → (∀ t, X t → S t) → ∀ z, (X z ∨ z = x ∨ z = y) → S z := fun h1 h2 h3 z hz => by
    rcases hz with q | rfl | rfl
    · exact h3 z q
    · exact h1
    · exact h2
  by_cases d : ∃ u v, (S u ∧ X u) ∧ (S v ∧ X v) ∧ u ≠ v
  · have all : ∀ t, X t → S t := fun t ht => (f.2 _ (fun _ q => q.2) (p.sub fun _ q => .inl q) d t ht).1
    have sx : S x := Classical.byContradiction fun nx => by
      refine sees_apart f hu fun v v' hv hv' n n' => ?_
      have e : gl r x v = gl r x v' := p x v v' (.inr (.inl rfl)) nx (all v hv) (all v' hv')
      exact (gl_swap (lx v hv n)).symm.trans (e.trans (gl_swap (lx v' hv' n')))
    have sy : S y := Classical.byContradiction fun ny => ap (p y u x (.inr (.inr rfl)) ny (all u hu) sx)
    exact fin sx sy all
  · exfalso
    have one : ∀ v, S v → X v → ∀ u, S u → X u → u = v := fun v h1 h2 u h3 h4 => Classical.byContradiction fun n => d ⟨u, v, ⟨h3, h4⟩, ⟨h1, h2⟩, n⟩
    have likeOf : ∀ w z, S w → X w → S z → Like r X w z := fun w z h1 h2 h3 v hv n => p v z w (.inl hv) (fun q => n (one w h1 h2 v q hv)) h3 h1
    by_cases ex : ∃ w, S w ∧ X w
    · obtain ⟨w, sw, xw⟩ := ex
      by_cases sx : S x
      · have e : u = w := uniq f hu xw lx (likeOf w x sw xw sx)
        subst e
        by_cases sy : S y
        · exact ly (likeOf u y sw xw sy)
        · exact ap (p y u x (.inr (.inr rfl)) sy sw sx)
      · by_cases sy : S y
        · have lwy := likeOf w y sw xw sy
          have nwu : w ≠ u := fun q => ly (q ▸ lwy)
          have e1 : gl r x w = gl r x y := p x w y (.inr (.inl rfl)) sx sw sy
          have e2 : gl r x w = gl r u w := gl_swap (lx w xw nwu)
          have e3 : gl r u y = gl r u w := lwy u hu (Ne.symm nwu)
          have e4 : gl r x y = gl r u y := e1.symm.trans (e2.trans e3.symm)
          have e5 : gl r y x = gl r y u := by
            unfold gl at *
            injection e4 with q1 q2
            rw [q1, q2]
          exact ap e5.symm
        · have hX : ∀ t, S t → X t := fun t ht => by
            rcases s t ht with q | rfl | rfl
            · exact q
            · exact absurd ht sx
            · exact absurd ht sy
          exact d ⟨a, b, ⟨ha, hX a ha⟩, ⟨hb, hX b hb⟩, nab⟩
    · have no : ∀ t, S t → ¬ X t := fun t h1 h2 => ex ⟨t, h1, h2⟩
      have xy : ∀ t, S t → t = x ∨ t = y := fun t ht => (s t ht).resolve_left (no t ht)
      have both : S x ∧ S y := by
        rcases xy a ha with rfl | rfl <;> rcases xy b hb with rfl | rfl
        · exact absurd rfl nab
        · exact ⟨ha, hb⟩
        · exact ⟨hb, ha⟩
        · exact absurd rfl nab
      refine ly fun v hv n => ?_
      have e : gl r v x = gl r v y := p v x y (.inl hv) (fun q => no v q hv) both.1 both.2
      exact e.symm.trans (lx v hv n)
/-- A firm lot within a greater one grows by one thing or two -/
theorem grows (f : Firm r X) (fy : Firm r Y) (s : ∀ t, X t → Y t) (hz : Y z) (nz : ¬ X z) :
    (∃ x, Y x ∧ ¬ X x ∧ Firm r (fun t => X t ∨ t = x)) ∨ ∃ x y, Y x ∧ ¬ X x ∧ Y y ∧ ¬ X y ∧ x ≠ y ∧ Firm r (fun t => X t ∨ t = x ∨ t = y) := Classical.byContradiction fun q => by
  have no1 : ∀ x, Y x → ¬ X x → ¬ Firm r (fun t => X t ∨ t = x) := fun x h1 h2 h3 => q (.inl ⟨x, h1, h2, h3⟩)
  have no2 : ∀ x y, Y x → ¬ X x → Y y → ¬ X y → x ≠ y → ¬ Firm r (fun t => X t ∨ t = x ∨ t = y) := fun x y h1 h2 h3 h4 h5 h6 => q (.inr ⟨x, y, h1, h2, h3, h4, h5, h6⟩)
  have noLike : ∀ u x, X u → Y x → ¬ X x → ¬ Like r X u x := fun u x hu hx nx lx => by
    have pu : ∀ t v, Y t → ¬ (t = u ∨ (Y t ∧ ¬ X t ∧ Like r X u t)) → (v = u ∨ (Y v ∧ ¬ X v ∧ Like r X u v)) → gl r t v = gl r t u := fun t v ht nt hv => by
      rcases hv with rfl | ⟨yv, nv, lv⟩
      · rfl
      · by_cases xt : X t
        · exact lv t xt fun e => nt (.inl e)
        · have nl : ¬ Like r X u t := fun l => nt (.inr ⟨ht, xt, l⟩)
          have nvt : v ≠ t := fun e => nl (e ▸ lv)
          refine Classical.byContradiction fun n => no2 v t yv nv ht xt nvt (pair_firm f hu nv xt nvt lv nl fun e => n e.symm)
    have all := fy.2 (fun t => t = u ∨ (Y t ∧ ¬ X t ∧ Like r X u t)) (fun t h => by
      rcases h with rfl | h
      · exact s _ hu
      · exact h.1) (fun t a b ht nt ha hb => (pu t a ht nt ha).trans (pu t b ht nt hb).symm) ⟨u, x, .inl rfl, .inr ⟨hx, nx, lx⟩, fun e => nx (e ▸ hu)⟩
    obtain ⟨v, hv, n1, _⟩ := f.1.other u u
    rcases all v (s v hv) with e | ⟨_, h, _⟩
    · exact n1 e
    · exact h hv
  have alike : ∀ x, Y x → ¬ X x → Alike r X x := fun x h1 h2 => (stands f h2 (no1 x h1 h2)).resolve_right fun ⟨u, hu, l⟩ => noLike u x hu h1 h2 l
  obtain ⟨a, b, c, ha, hb, _, n, _⟩ := id f.1
  exact nz (fy.2 X s (fun t u v ht nt hu hv => alike t ht nt u v hu hv) ⟨a, b, ha, hb, n⟩ z hz)
end
/-- other names: a table told by a one-to-one naming -/
theorem Firm.named {r r' : Nat → Nat → Int} {X X' : Nat → Prop} (f : Nat → Nat) (h1 : ∀ i, X' i → X (f i)) (h2 : ∀ u, X u → ∃ i, X' i ∧ f i = u) (inj : ∀ i j, X' i → X' j → f i = f j → i = j)
    (hr : ∀ i j, X' i → X' j → r' i j = r (f i) (f j)) : Firm r' X' ↔ Firm r X := by
  have hg : ∀ z u v, X' z → X' u → X' v → (gl r' z u = gl r' z v ↔ gl r (f z) (f u) = gl r (f z) (f v)) := fun z u v hz hu hv => by
    unfold gl
    rw [hr z u hz hu, hr u z hu hz, hr z v hz hv, hr v z hv hz]
  constructor
  · rintro ⟨⟨a, b, c, ha, hb, hc, n1, n2, n3⟩, h⟩
    refine ⟨⟨f a, f b, f c, h1 a ha, h1 b hb, h1 c hc, fun e => n1 (inj _ _ ha hb e), fun e => n2 (inj _ _ ha hc e), fun e => n3 (inj _ _ hb hc e)⟩, fun S s p ⟨u, v, su, sv, nuv⟩ z hz => ?_⟩
    obtain ⟨i, xi, rfl⟩ := h2 u (s u su)
    obtain ⟨j, xj, rfl⟩ := h2 v (s v sv)
    obtain ⟨k, xk, rfl⟩ := h2 z hz
    exact (h (fun t => X' t ∧ S (f t)) (fun t q => q.1) (fun t a b ht nt ha hb => (hg t a b ht ha.1 hb.1).mpr (p (f t) (f a) (f b) (h1 t ht) (fun q => nt ⟨ht, q⟩) ha.2 hb.2))
      ⟨i, j, ⟨xi, su⟩, ⟨xj, sv⟩, fun e => nuv (by rw [e])⟩ k xk).2
  · rintro ⟨⟨a, b, c, ha, hb, hc, n1, n2, n3⟩, h⟩
    obtain ⟨i, xi, rfl⟩ := h2 a ha
    obtain ⟨j, xj, rfl⟩ := h2 b hb
    obtain ⟨k, xk, rfl⟩ := h2 c hc
    refine ⟨⟨i, j, k, xi, xj, xk, fun e => n1 (by rw [e]), fun e => n2 (by rw [e]), fun e => n3 (by rw [e])⟩, fun S s p ⟨u, v, su, sv, nuv⟩ z hz => ?_⟩
    obtain ⟨t, ⟨xt, st, et⟩⟩ := h (fun u => ∃ i, X' i ∧ S i ∧ f i = u) (fun u ⟨i, xi, _, e⟩ => e ▸ h1 i xi) (fun t a b ht nt ⟨i, xi, si, ei⟩ ⟨j, xj, sj, ej⟩ => by
      obtain ⟨k, xk, rfl⟩ := h2 t ht
      subst ei ej
      exact (hg k i j xk xi xj).mp (p k i j xk (fun q => nt ⟨k, xk, q, rfl⟩) si sj))
      ⟨f u, f v, ⟨u, s u su, su, rfl⟩, ⟨v, s v sv, sv, rfl⟩, fun e => nuv (inj _ _ (s u su) (s v sv) e)⟩ (f z) (h1 z hz)
    exact (inj _ _ xt hz et) ▸ st
theorem Firm.congr {r : Nat → Nat → Int} {X Y : Nat → Prop} (h : ∀ t, X t ↔ Y t) : Firm r X ↔ Firm r Y := by
  rw [show X = Y from funext fun t => propext (h t)]
end K25
/-! K25Lots: closures, lots as lists, few lots, their order (no program in sight). -/
namespace K25
/-- z tells own from a -/
def toldB (r : Nat → Nat → Int) (a own z : Nat) : Bool := !decide (r z own = r z a) || !decide (r own z = r a z)
theorem toldB_iff {r : Nat → Nat → Int} {a own z : Nat} : toldB r a own z = true ↔ gl r z own ≠ gl r z a := by
  unfold toldB gl
  constructor
  · intro h e
    injection e with e1 e2
    rw [e1, e2] at h
    simp at h
  · intro h
    by_cases e1 : r z own = r z a
    · by_cases e2 : r own z = r a z
      · exact absurd (by rw [e1, e2]) h
      · simp [e2]
    · simp [e1]
theorem toldB_self {r : Nat → Nat → Int} {a z : Nat} : toldB r a a z = false := by unfold toldB; simp
abbrev Lt (L : List Nat) : Nat → Prop := fun t => t ∈ L
def Fills (r : Nat → Nat → Int) (L : List Nat) (a b : Nat) : Prop := ∀ S : Nat → Prop, (∀ u, S u → u ∈ L) → Pc r (Lt L) S → S a → S b → ∀ z ∈ L, S z
def Must (r : Nat → Nat → Int) (L : List Nat) (a b z : Nat) : Prop := z ∈ L ∧ ∀ S : Nat → Prop, (∀ u, S u → u ∈ L) → Pc r (Lt L) S → S a → S b → S z
section
variable {r : Nat → Nat → Int} {L : List Nat} {a b z own : Nat}
theorem Fills.symm (h : Fills r L a b) : Fills r L b a := fun S s p sa sb => h S s p sb sa
theorem must_a (h : a ∈ L) : Must r L a b a := ⟨h, fun _ _ _ sa _ => sa⟩
theorem must_b (h : b ∈ L) : Must r L a b b := ⟨h, fun _ _ _ _ sb => sb⟩
theorem must_step (ho : Must r L a b own) (hz : z ∈ L) (t : toldB r a own z = true) : Must r L a b z :=
  ⟨hz, fun S s p sa sb => Classical.byContradiction fun n => toldB_iff.mp t (p z own a hz n (ho.2 S s p sa sb) sa)⟩
theorem closed_fills (T : Nat → Prop) (s : ∀ t, T t → t ∈ L) (ta : T a) (tb : T b) (m : ∀ t, T t → Must r L a b t) (c : ∀ z ∈ L, ¬ T z → ∀ own, T own → toldB r a own z = false) : (∀ z ∈ L, T z) ↔ Fills r L a b := by
  constructor
  · exact fun h S s p sa sb z hz => (m z (h z hz)).2 S s p sa sb
  · intro h
    refine h T s (fun z u v hz nz hu hv => ?_) ta tb
    have e : ∀ u, T u → gl r z u = gl r z a := fun u hu => Classical.byContradiction fun n => by
      have := c z hz nz u hu
      rw [toldB_iff.mpr n] at this
      cases this
    exact (e u hu).trans (e v hv).symm
/-! ### the loop of _fills -/
structure Fi (r : Nat → Nat → Int) (L : List Nat) (a b : Nat) (left waiting : List Nat) : Prop where
  sub : ∀ z ∈ left, z ∈ L
  na : a ∉ left
  nb : b ∉ left
  wt : ∀ z ∈ waiting, z ∈ L ∧ z ∉ left
  must : ∀ z ∈ L, z ∉ left → Must r L a b z
  cl : ∀ own ∈ L, own ∉ left → own ∉ waiting → ∀ z ∈ left, toldB r a own z = false
def left0 (L : List Nat) (a b : Nat) : List Nat := L.filter fun t => !decide (t = a) && !decide (t = b)
theorem mem_left0 {t : Nat} : t ∈ left0 L a b ↔ t ∈ L ∧ t ≠ a ∧ t ≠ b := by unfold left0; simp [List.mem_filter]
theorem Fi.start (ha : a ∈ L) (hb : b ∈ L) : Fi r L a b (left0 L a b) [b] where
  sub := fun z h => (mem_left0.mp h).1
  na := fun h => (mem_left0.mp h).2.1 rfl
  nb := fun h => (mem_left0.mp h).2.2 rfl
  wt := fun z h => by
    rw [List.mem_singleton.mp h]
    exact ⟨hb, fun q => (mem_left0.mp q).2.2 rfl⟩
  must := fun z h n => by
    by_cases e : z = a
    · rw [e]; exact must_a ha
    · by_cases e2 : z = b
      · rw [e2]; exact must_b hb
      · exact absurd (mem_left0.mpr ⟨h, e, e2⟩) n
  cl := fun o h n n2 z hz => by
    have e : o = a := Classical.byContradiction fun q => n (mem_left0.mpr ⟨h, q, fun q2 => n2 (by rw [q2]; exact List.mem_singleton.mpr rfl)⟩)
    rw [e]
    exact toldB_self
theorem Fi.step {left waiting rest waiting' : List Nat} (h : Fi r L a b left waiting) (hw : ∀ z, z ∈ waiting ↔ z = own ∨ z ∈ rest) (hw' : ∀ z, z ∈ waiting' ↔ z ∈ rest ∨ z ∈ left.filter (toldB r a own ·)) :
    Fi r L a b (left.filter fun z => !toldB r a own z) waiting' := by
  have ho := h.wt own ((hw own).mpr (.inl rfl))
  have mo := h.must own ho.1 ho.2
  have nl : ∀ {z}, z ∉ left → z ∉ left.filter fun z => !toldB r a own z := fun n q => n (List.mem_filter.mp q).1
  refine ⟨fun z q => h.sub z (List.mem_filter.mp q).1, nl h.na, nl h.nb, fun z q => ?_, fun z hz n => ?_, fun o hm n n2 z hz => ?_⟩
  · rcases (hw' z).mp q with q | q
    · have := h.wt z ((hw z).mpr (.inr q))
      exact ⟨this.1, nl this.2⟩
    · obtain ⟨q1, q2⟩ := List.mem_filter.mp q
      refine ⟨h.sub z q1, fun q3 => ?_⟩
      have := (List.mem_filter.mp q3).2
      rw [q2] at this
      cases this
  · by_cases q : z ∈ left
    · have t : toldB r a own z = true := by
        cases e : toldB r a own z with
        | true => rfl
        | false => exact absurd (List.mem_filter.mpr ⟨q, by rw [e]; rfl⟩) n
      exact must_step mo hz t
    · exact h.must z hz q
  · obtain ⟨z1, z2⟩ := List.mem_filter.mp hz
    by_cases e : o = own
    · subst e
      cases q : toldB r a o z with
      | false => rfl
      | true => rw [q] at z2; cases z2
    · have nol : o ∉ left := fun q => by
        cases t : toldB r a own o with
        | true => exact n2 ((hw' o).mpr (.inr (List.mem_filter.mpr ⟨q, t⟩)))
        | false => exact n (List.mem_filter.mpr ⟨q, by rw [t]; rfl⟩)
      exact h.cl o hm nol (fun q => ((hw o).mp q).elim e fun q => n2 ((hw' o).mpr (.inl q))) z z1
theorem Fi.done {left waiting : List Nat} (ha : a ∈ L) (hb : b ∈ L) (h : Fi r L a b left waiting) (e : waiting = [] ∨ left = []) : left = [] ↔ Fills r L a b := by
  have key : (∀ z ∈ L, z ∉ left) ↔ left = [] := by
    constructor
    · intro q
      cases left with
      | nil => rfl
      | cons x t => exact absurd List.mem_cons_self (q x (h.sub x List.mem_cons_self))
    · intro q z _ m
      rw [q] at m
      cases m
  rw [← key]
  rcases e with e | e
  · have c := closed_fills (r := r) (L := L) (a := a) (b := b) (fun t => t ∈ L ∧ t ∉ left) (fun t q => q.1) ⟨ha, h.na⟩ ⟨hb, h.nb⟩ (fun t q => h.must t q.1 q.2) (fun z hz nz o ho => by
      refine h.cl o ho.1 ho.2 (by rw [e]; intro q; cases q) z (Classical.byContradiction fun q => nz ⟨hz, q⟩))
    exact ⟨fun q => c.mp fun z hz => ⟨hz, q z hz⟩, fun q z hz => (c.mpr q z hz).2⟩
  · subst e
    exact ⟨fun _ S s p sa sb z hz => (h.must z hz (by intro q; cases q)).2 S s p sa sb, fun _ z _ q => nomatch q⟩
/-! ### reckoned -/
def fillsGo (r : Nat → Nat → Int) (a : Nat) : Nat → List Nat → List Nat → Bool
  | 0, left, _ => left.isEmpty
  | n + 1, left, w => match w with
    | [] => left.isEmpty
    | own :: w' => fillsGo r a n (left.filter fun z => !toldB r a own z) (left.filter (toldB r a own ·) ++ w')
theorem filter_len (p : Nat → Bool) : ∀ l : List Nat, (l.filter p).length + (l.filter fun z => !p z).length = l.length
  | [] => rfl
  | x :: t => by
    have ih := filter_len p t
    cases e : p x with
    | true => simp [List.filter_cons, e]; omega
    | false => simp [List.filter_cons, e]; omega
theorem fillsGo_iff (ha : a ∈ L) (hb : b ∈ L) : ∀ (n : Nat) (left w : List Nat), left.length + w.length ≤ n → Fi r L a b left w → (fillsGo r a n left w = true ↔ Fills r L a b)
  | 0, left, w, hn, h => by
    have e : left = [] := List.length_eq_zero_iff.mp (by omega)
    rw [← h.done ha hb (.inr e)]
    simp [fillsGo]
  | n + 1, left, [], hn, h => by
    rw [← h.done ha hb (.inl rfl)]
    simp [fillsGo]
  | n + 1, left, own :: w, hn, h => by
    have f := filter_len (toldB r a own ·) left
    refine fillsGo_iff ha hb n _ _ ?_ (h.step (own := own) (rest := w) (fun z => by simp) (fun z => by simp [or_comm]))
    rw [List.length_append]
    rw [List.length_cons] at hn
    omega
def fillsB (r : Nat → Nat → Int) (L : List Nat) (a b : Nat) : Bool := fillsGo r a (L.length + 1) (left0 L a b) [b]
theorem fillsB_iff (ha : a ∈ L) (hb : b ∈ L) : fillsB r L a b = true ↔ Fills r L a b :=
  fillsGo_iff ha hb _ _ _ (by
    have := List.length_filter_le (fun t => !decide (t = a) && !decide (t = b)) L
    unfold left0
    rw [List.length_singleton]
    omega) (Fi.start ha hb)
end
/-! ### firm lots -/
def FirmL (r : Nat → Nat → Int) (L : List Nat) : Prop := Firm r (Lt L)
theorem three_iff {L : List Nat} (nd : L.Nodup) : Three (Lt L) ↔ 3 ≤ L.length := by
  constructor
  · rintro ⟨a, b, c, ha, hb, hc, n1, n2, n3⟩
    obtain ⟨i, hi, ei⟩ := List.getElem_of_mem ha
    obtain ⟨j, hj, ej⟩ := List.getElem_of_mem hb
    obtain ⟨k, hk, ek⟩ := List.getElem_of_mem hc
    have x1 : i ≠ j := fun e => n1 (by subst e; exact ei.symm.trans ej)
    have x2 : i ≠ k := fun e => n2 (by subst e; exact ei.symm.trans ek)
    have x3 : j ≠ k := fun e => n3 (by subst e; exact ej.symm.trans ek)
    omega
  · intro h
    match L, nd, h with
    | a :: b :: c :: t, nd, _ =>
      simp only [List.nodup_cons, List.mem_cons, not_or] at nd
      exact ⟨a, b, c, by simp [Lt], by simp [Lt], by simp [Lt], nd.1.1, nd.1.2.1, nd.2.1.1⟩
theorem firm_fills {r : Nat → Nat → Int} {L : List Nat} (nd : L.Nodup) : FirmL r L ↔ 3 ≤ L.length ∧ ∀ a ∈ L, ∀ b ∈ L, a ≠ b → Fills r L a b := by
  unfold FirmL Firm
  rw [three_iff nd]
  refine and_congr_right fun _ => ?_
  constructor
  · exact fun h a ha b hb n S s p sa sb z hz => h S s p ⟨a, b, sa, sb, n⟩ z hz
  · exact fun h S s p ⟨u, v, su, sv, n⟩ z hz => h u (s u su) v (s v sv) n S s p su sv z hz
theorem firm_pairs {r : Nat → Nat → Int} {L : List Nat} (nd : L.Nodup) : FirmL r L ↔ 3 ≤ L.length ∧ ∀ (i j a b : Nat), i < j → L[i]? = some a → L[j]? = some b → Fills r L a b := by
  rw [firm_fills nd]
  refine and_congr_right fun _ => ?_
  constructor
  · intro h i j a b lt ha hb
    refine h a (List.mem_of_getElem? ha) b (List.mem_of_getElem? hb) fun e => ?_
    subst e
    obtain ⟨h1, e1⟩ := List.getElem?_eq_some_iff.mp ha
    obtain ⟨h2, e2⟩ := List.getElem?_eq_some_iff.mp hb
    have := (List.getElem_inj nd).mp (e1.trans e2.symm)
    omega
  · intro h a ha b hb n
    obtain ⟨i, hi, ei⟩ := List.getElem_of_mem ha
    obtain ⟨j, hj, ej⟩ := List.getElem_of_mem hb
    have ne : i ≠ j := fun e => n (by subst e; exact ei.symm.trans ej)
    rcases Nat.lt_or_gt_of_ne ne with lt | lt
    · exact h i j a b lt (by rw [List.getElem?_eq_getElem hi, ei]) (by rw [List.getElem?_eq_getElem hj, ej])
    · exact (h j i b a lt (by rw [List.getElem?_eq_getElem hj, ej]) (by rw [List.getElem?_eq_getElem hi, ei])).symm
def firmB (r : Nat → Nat → Int) (L : List Nat) : Bool := decide (3 ≤ L.length) && L.all fun a => L.all fun b => decide (a = b) || fillsB r L a b
theorem firmB_iff {r : Nat → Nat → Int} {L : List Nat} (nd : L.Nodup) : firmB r L = true ↔ FirmL r L := by
  rw [firm_fills nd]
  unfold firmB
  simp only [Bool.and_eq_true, decide_eq_true_eq, List.all_eq_true, Bool.or_eq_true]
  refine and_congr_right fun _ => ?_
  constructor
  · exact fun h a ha b hb n => (fillsB_iff ha hb).mp ((h a ha b hb).resolve_left n)
  · exact fun h a ha b hb => (Classical.em (a = b)).imp id fun n => (fillsB_iff ha hb).mpr (h a ha b hb n)
/-- the part of a lot, by the lot's own numbers -/
def partR (r : Nat → Nat → Int) (L : List Nat) : Nat → Nat → Int := fun i j => r (L.getD i 0) (L.getD j 0)
theorem firm_part {r : Nat → Nat → Int} {L : List Nat} (nd : L.Nodup) : FirmL (partR r L) (List.range L.length) ↔ FirmL r L := by
  have lt : ∀ i, Lt (List.range L.length) i → i < L.length := fun i h => List.mem_range.mp h
  have gd : ∀ i (h : i < L.length), L.getD i 0 = L[i] := fun i h => by rw [List.getD_eq_getElem?_getD, List.getElem?_eq_getElem h]; rfl
  refine Firm.named (fun i => L.getD i 0) (fun i h => ?_) (fun u h => ?_) (fun i j hi hj e => ?_) (fun _ _ _ _ => rfl)
  · rw [gd i (lt i h)]
    exact List.getElem_mem _
  · obtain ⟨i, hi, ei⟩ := List.getElem_of_mem h
    exact ⟨i, List.mem_range.mpr hi, (gd i hi).trans ei⟩
  · have hi := lt i hi
    have hj := lt j hj
    have e' : L.getD i 0 = L.getD j 0 := e
    rw [gd i hi, gd j hj] at e'
    exact (List.getElem_inj nd).mp e'
theorem firm_mem {r : Nat → Nat → Int} {L M : List Nat} (h : ∀ t, t ∈ L ↔ t ∈ M) : FirmL r L ↔ FirmL r M := Firm.congr h
/-- equal looks within the lot: one is firm as the other is -/
theorem firm_looks {r r' : Nat → Nat → Int} {L : List Nat} (h : ∀ i j, i ∈ L → j ∈ L → r' i j = r i j) : FirmL r' L ↔ FirmL r L :=
  Firm.named (fun i => i) (fun _ h => h) (fun u h => ⟨u, h, rfl⟩) (fun _ _ _ _ e => e) h
end K25
/-! K25Few: lots in order, few lots, what next_firm has to answer (no program in sight). -/
namespace K25
def begins (L : List Nat) : Nat := match L.getLast? with
  | none => 0
  | some t => t + 1
def lots (n : Nat) : Nat → List (List Nat)
  | 0 => [[]]
  | k + 1 => (lots n k).flatMap fun L => (List.range' (begins L) (n - begins L)).map fun t => L ++ [t]
structure Asc (n : Nat) (L : List Nat) : Prop where
  up : L.Pairwise (· < ·)
  lt : ∀ x ∈ L, x < n
theorem Asc.nd {n : Nat} {L : List Nat} (h : Asc n L) : L.Nodup := h.up.imp fun q => Nat.ne_of_lt q
theorem begins_snoc (M : List Nat) (t : Nat) : begins (M ++ [t]) = t + 1 := by unfold begins; rw [List.getLast?_concat]
theorem snoc_cases (L : List Nat) : L = [] ∨ ∃ M t, L = M ++ [t] := by
  rcases List.eq_nil_or_concat L with h | ⟨M, t, h⟩
  · exact .inl h
  · exact .inr ⟨M, t, by rw [h, List.concat_eq_append]⟩
theorem lt_begins {n : Nat} {L : List Nat} (h : Asc n L) : ∀ x ∈ L, x < begins L := by
  rcases snoc_cases L with rfl | ⟨M, t, rfl⟩
  · intro x hx; cases hx
  · intro x hx
    rw [begins_snoc]
    rcases List.mem_append.mp hx with hx | hx
    · have := (List.pairwise_append.mp h.up).2.2 x hx t (List.mem_singleton.mpr rfl)
      omega
    · rw [List.mem_singleton.mp hx]
      omega
theorem Asc.snoc {n t : Nat} {M : List Nat} : Asc n (M ++ [t]) ↔ Asc n M ∧ begins M ≤ t ∧ t < n := by
  constructor
  · intro h
    obtain ⟨u1, _, u3⟩ := List.pairwise_append.mp h.up
    refine ⟨⟨u1, fun x hx => h.lt x (List.mem_append_left _ hx)⟩, ?_, h.lt t (List.mem_append_right _ (List.mem_singleton.mpr rfl))⟩
    rcases snoc_cases M with rfl | ⟨M', y, rfl⟩
    · exact Nat.zero_le _
    · rw [begins_snoc]
      exact u3 y (List.mem_append_right _ (List.mem_singleton.mpr rfl)) t (List.mem_singleton.mpr rfl)
  · rintro ⟨h, h1, h2⟩
    refine ⟨List.pairwise_append.mpr ⟨h.up, List.pairwise_singleton .., fun x hx y hy => ?_⟩, fun x hx => ?_⟩
    · rw [List.mem_singleton.mp hy]
      exact Nat.lt_of_lt_of_le (lt_begins h x hx) h1
    · rcases List.mem_append.mp hx with hx | hx
      · exact h.lt x hx
      · rw [List.mem_singleton.mp hx]; exact h2
theorem mem_lots {n : Nat} : ∀ (k : Nat) (L : List Nat), L ∈ lots n k ↔ L.length = k ∧ Asc n L
  | 0, L => by
    unfold lots
    rw [List.mem_singleton]
    constructor
    · rintro rfl
      exact ⟨rfl, List.Pairwise.nil, fun _ h => nomatch h⟩
    · exact fun h => List.length_eq_zero_iff.mp h.1
  | k + 1, L => by
    unfold lots
    rw [List.mem_flatMap]
    constructor
    · rintro ⟨M, hM, h⟩
      obtain ⟨t, ht, rfl⟩ := List.mem_map.mp h
      obtain ⟨h1, h2⟩ := (mem_lots k M).mp hM
      have ⟨t1, t2⟩ := List.mem_range'_1.mp ht
      refine ⟨by rw [List.length_append, h1]; rfl, Asc.snoc.mpr ⟨h2, t1, by omega⟩⟩
    · rintro ⟨h1, h2⟩
      rcases snoc_cases L with rfl | ⟨M, t, rfl⟩
      · cases h1
      · obtain ⟨q1, q2, q3⟩ := Asc.snoc.mp h2
        rw [List.length_append, List.length_singleton] at h1
        exact ⟨M, (mem_lots k M).mpr ⟨by omega, q1⟩, List.mem_map.mpr ⟨t, List.mem_range'_1.mpr ⟨q2, by omega⟩, rfl⟩⟩
theorem len_begins {n : Nat} : ∀ (k : Nat) (L : List Nat), L.length = k → Asc n L → k ≤ begins L ∧ begins L ≤ n
  | 0, L, h, _ => by
    rw [List.length_eq_zero_iff.mp h]
    exact ⟨Nat.zero_le _, Nat.zero_le _⟩
  | k + 1, L, h, a => by
    rcases snoc_cases L with rfl | ⟨M, t, rfl⟩
    · cases h
    · obtain ⟨q1, q2, q3⟩ := Asc.snoc.mp a
      rw [List.length_append, List.length_singleton] at h
      have := len_begins k M (by omega) q1
      rw [begins_snoc]
      omega
theorem Asc.len {n : Nat} {L : List Nat} (a : Asc n L) : L.length ≤ n := let h := len_begins L.length L rfl a; Nat.le_trans h.1 h.2
def allLots (n : Nat) : List (List Nat) := (List.range (n + 1)).flatMap (lots n)
def firmLots (r : Nat → Nat → Int) (n : Nat) : List (List Nat) := (List.range' 3 (n - 2)).flatMap fun k => (lots n k).filter (firmB r)
theorem firmB_len {r : Nat → Nat → Int} {L : List Nat} (h : firmB r L = true) : 3 ≤ L.length := by
  unfold firmB at h
  rw [Bool.and_eq_true] at h
  exact of_decide_eq_true h.1
theorem mem_firmLots {r : Nat → Nat → Int} {n : Nat} {L : List Nat} : L ∈ firmLots r n ↔ Asc n L ∧ firmB r L = true := by
  unfold firmLots
  rw [List.mem_flatMap]
  constructor
  · rintro ⟨k, _, h⟩
    obtain ⟨h1, h2⟩ := List.mem_filter.mp h
    exact ⟨((mem_lots k L).mp h1).2, h2⟩
  · rintro ⟨h1, h2⟩
    have l1 := firmB_len h2
    have l2 := h1.len
    exact ⟨L.length, List.mem_range'_1.mpr ⟨l1, by omega⟩, List.mem_filter.mpr ⟨(mem_lots _ _).mpr ⟨rfl, h1⟩, h2⟩⟩
theorem filter_flatMap {α β : Type} (p : β → Bool) (f : α → List β) : ∀ l : List α, (l.flatMap f).filter p = l.flatMap fun x => (f x).filter p
  | [] => rfl
  | x :: t => by rw [List.flatMap_cons, List.filter_append, filter_flatMap p f t, List.flatMap_cons]
theorem filter_small {r : Nat → Nat → Int} {n k : Nat} (h : k < 3) : (lots n k).filter (firmB r) = [] := by
  rw [List.filter_eq_nil_iff]
  intro L hL q
  have := firmB_len q
  rw [((mem_lots k L).mp hL).1] at this
  omega
theorem firm_all (r : Nat → Nat → Int) (n : Nat) : (allLots n).filter (firmB r) = firmLots r n := by
  unfold allLots firmLots
  rw [filter_flatMap]
  match n with
  | 0 => rw [show List.range (0 + 1) = [0] from rfl, List.flatMap_singleton, filter_small (by decide)]; rfl
  | 1 => rw [show List.range (1 + 1) = [0, 1] from rfl, List.flatMap_cons, List.flatMap_singleton, filter_small (by decide), filter_small (by decide)]; rfl
  | n + 2 =>
    rw [List.range_eq_range', show n + 2 + 1 = 3 + n from by omega, show n + 2 - 2 = n from by omega, show List.range' 0 (3 + n) = List.range' 0 3 ++ List.range' 3 n from by rw [← List.range'_append (s := 0) (m := 3) (n := n) (step := 1)], List.flatMap_append]
    rw [show (List.range' 0 3).flatMap (fun x => (lots (n + 2) x).filter (firmB r)) = [] from by
      rw [show List.range' 0 3 = [0, 1, 2] from rfl, List.flatMap_cons, List.flatMap_cons, List.flatMap_singleton, filter_small (by decide), filter_small (by decide), filter_small (by decide)]; rfl]
    rfl
/-! ### few lots -/
def pairsTo (things : List Nat) (i : Nat) : List (List Nat) := (List.range i).flatMap fun j => (things.drop (j + 1)).map fun y => [things.getD j 0, y]
def fewL (things : List Nat) : List (List Nat) := (things.map fun x => [x]) ++ pairsTo things things.length
theorem getD_at {L : List Nat} {i : Nat} (h : i < L.length) : L.getD i 0 = L[i] := by rw [List.getD_eq_getElem?_getD, List.getElem?_eq_getElem h]; rfl
theorem asc_ix {L : List Nat} (h : L.Pairwise (· < ·)) {i j : Nat} (hij : i < j) (hj : j < L.length) : L[i]'(by omega) < L[j] := List.pairwise_iff_getElem.mp h i j (by omega) hj hij
theorem mem_pairs {things : List Nat} (h : things.Pairwise (· < ·)) {f : List Nat} : f ∈ pairsTo things things.length ↔ ∃ x y, x ∈ things ∧ y ∈ things ∧ x < y ∧ f = [x, y] := by
  unfold pairsTo
  rw [List.mem_flatMap]
  constructor
  · rintro ⟨j, hj, hf⟩
    obtain ⟨y, hy, rfl⟩ := List.mem_map.mp hf
    have hj := List.mem_range.mp hj
    obtain ⟨k, hk, rfl⟩ := List.getElem_of_mem hy
    rw [List.length_drop] at hk
    rw [List.getElem_drop, getD_at hj]
    exact ⟨_, _, List.getElem_mem hj, List.getElem_mem _, asc_ix h (by omega) (by omega), rfl⟩
  · rintro ⟨x, y, hx, hy, lt, rfl⟩
    obtain ⟨i, hi, rfl⟩ := List.getElem_of_mem hx
    obtain ⟨j, hj, rfl⟩ := List.getElem_of_mem hy
    have hij : i < j := by
      rcases Nat.lt_trichotomy i j with q | q | q
      · exact q
      · subst q; omega
      · have := asc_ix h q hi; omega
    refine ⟨i, List.mem_range.mpr hi, List.mem_map.mpr ⟨things[j], ?_, by rw [getD_at hi]⟩⟩
    rw [List.mem_iff_getElem]
    refine ⟨j - (i + 1), by rw [List.length_drop]; omega, ?_⟩
    rw [List.getElem_drop]
    congr 1
    omega
theorem mem_few {things : List Nat} (h : things.Pairwise (· < ·)) {f : List Nat} : f ∈ fewL things ↔ (∃ x, x ∈ things ∧ f = [x]) ∨ ∃ x y, x ∈ things ∧ y ∈ things ∧ x < y ∧ f = [x, y] := by
  unfold fewL
  rw [List.mem_append, mem_pairs h, List.mem_map]
  refine or_congr_left ?_
  exact ⟨fun ⟨x, hx, e⟩ => ⟨x, hx, e.symm⟩, fun ⟨x, hx, e⟩ => ⟨x, hx, e.symm⟩⟩
/-- tuples as they are compared -/
def tupLt : List Nat → List Nat → Bool
  | [], [] => false
  | [], _ :: _ => true
  | _ :: _, [] => false
  | a :: s, b :: t => if a = b then tupLt s t else decide (a < b)
def Ahead (f g : List Nat) : Prop := f.length < g.length ∨ (f.length = g.length ∧ tupLt f g = true)
theorem few_order {things : List Nat} (h : things.Pairwise (· < ·)) : (fewL things).Pairwise Ahead := by
  unfold fewL
  rw [List.pairwise_append]
  refine ⟨?_, ?_, fun f hf g hg => ?_⟩
  · rw [List.pairwise_map]
    refine h.imp fun {a b} q => .inr ⟨rfl, ?_⟩
    unfold tupLt
    rw [if_neg (by omega)]
    exact decide_eq_true q
  · unfold pairsTo
    rw [List.pairwise_flatMap]
    refine ⟨fun j hj => ?_, ?_⟩
    · rw [List.pairwise_map]
      refine (h.sublist (List.drop_sublist _ _)).imp fun {a b} q => .inr ⟨rfl, ?_⟩
      unfold tupLt
      rw [if_pos rfl]
      unfold tupLt
      rw [if_neg (by omega)]
      exact decide_eq_true q
    · refine List.pairwise_lt_range.imp_of_mem fun {i j} hi hj q f hf g hg => ?_
      have hi := List.mem_range.mp hi
      have hj := List.mem_range.mp hj
      obtain ⟨y, _, rfl⟩ := List.mem_map.mp hf
      obtain ⟨z, _, rfl⟩ := List.mem_map.mp hg
      have := asc_ix h q hj
      refine .inr ⟨rfl, ?_⟩
      rw [getD_at hi, getD_at hj]
      unfold tupLt
      rw [if_neg (by omega)]
      exact decide_eq_true this
  · obtain ⟨x, _, rfl⟩ := List.mem_map.mp hf
    obtain ⟨a, b, _, _, _, rfl⟩ := (mem_pairs h).mp hg
    exact .inl (by simp)
theorem find_first {α : Type} {R : α → α → Prop} {p : α → Bool} : ∀ {l : List α} {f : α}, l.Pairwise R → l.find? p = some f → ∀ g ∈ l, p g = true → g = f ∨ R f g
  | [], f, _, h, g, hg, _ => nomatch hg
  | x :: t, f, pw, h, g, hg, pg => by
    obtain ⟨h1, h2⟩ := List.pairwise_cons.mp pw
    cases e : p x with
    | true =>
      rw [List.find?_cons_of_pos e] at h
      cases h
      rcases List.mem_cons.mp hg with rfl | q
      · exact .inl rfl
      · exact .inr (h1 g q)
    | false =>
      rw [List.find?_cons_of_neg (by rw [e]; decide)] at h
      rcases List.mem_cons.mp hg with rfl | q
      · rw [e] at pg; cases pg
      · exact find_first h2 h g q pg
/-! ### what next_firm has to answer -/
def outside (n : Nat) (L : List Nat) : List Nat := (List.range n).filter fun t => !decide (t ∈ L)
def nextF (r : Nat → Nat → Int) (n : Nat) (L : List Nat) : Option (List Nat) := (fewL (outside n L)).find? fun f => firmB r (L ++ f)
def extra (L own : List Nat) : List Nat := own.filter fun t => !decide (t ∈ L)
/-- a told lot is a greater one -/
def isMore (L own : List Nat) : Bool := (L.filter fun t => !decide (t ∈ own)).isEmpty && !decide (own = L)
def more (r : Nat → Nat → Int) (n : Nat) (L : List Nat) : List (List Nat) := ((firmLots r n).filter (isMore L)).map (extra L)
theorem isMore_iff {L own : List Nat} : isMore L own = true ↔ (∀ t ∈ L, t ∈ own) ∧ own ≠ L := by
  unfold isMore
  rw [Bool.and_eq_true, List.isEmpty_iff, List.filter_eq_nil_iff]
  simp
theorem mem_outside {n t : Nat} {L : List Nat} : t ∈ outside n L ↔ t < n ∧ t ∉ L := by unfold outside; simp [List.mem_filter]
theorem outside_up (n : Nat) (L : List Nat) : (outside n L).Pairwise (· < ·) := List.pairwise_lt_range.sublist List.filter_sublist
theorem mem_extra {t : Nat} {L own : List Nat} : t ∈ extra L own ↔ t ∈ own ∧ t ∉ L := by unfold extra; simp [List.mem_filter]
theorem up_ext : ∀ {L M : List Nat}, L.Pairwise (· < ·) → M.Pairwise (· < ·) → (∀ t, t ∈ L ↔ t ∈ M) → L = M
  | [], [], _, _, _ => rfl
  | [], y :: M, _, _, h => nomatch (h y).mpr List.mem_cons_self
  | x :: L, [], _, _, h => nomatch (h x).mp List.mem_cons_self
  | x :: L, y :: M, hl, hm, h => by
    obtain ⟨l1, l2⟩ := List.pairwise_cons.mp hl
    obtain ⟨m1, m2⟩ := List.pairwise_cons.mp hm
    have e : x = y := by
      rcases List.mem_cons.mp ((h x).mp List.mem_cons_self) with q | q
      · exact q
      · rcases List.mem_cons.mp ((h y).mpr List.mem_cons_self) with q2 | q2
        · exact q2.symm
        · have a := l1 y q2
          have b := m1 x q
          omega
    subst e
    rw [up_ext l2 m2 fun t => ⟨fun q => ?_, fun q => ?_⟩]
    · rcases List.mem_cons.mp ((h t).mp (List.mem_cons_of_mem _ q)) with e | e
      · have := l1 t q; omega
      · exact e
    · rcases List.mem_cons.mp ((h t).mpr (List.mem_cons_of_mem _ q)) with e | e
      · have := m1 t q; omega
      · exact e
/-- a lot with few things outside of it, as a lot -/
def joined (n : Nat) (L f : List Nat) : List Nat := (List.range n).filter fun t => decide (t ∈ L ++ f)
theorem joined_asc (n : Nat) (L f : List Nat) : Asc n (joined n L f) := ⟨List.pairwise_lt_range.sublist List.filter_sublist, fun x h => List.mem_range.mp (List.mem_filter.mp h).1⟩
theorem mem_joined {n t : Nat} {L f : List Nat} (hL : ∀ x ∈ L, x < n) (hf : ∀ x ∈ f, x < n) : t ∈ joined n L f ↔ t ∈ L ++ f := by
  unfold joined
  rw [List.mem_filter, List.mem_range, decide_eq_true_eq]
  refine ⟨fun h => h.2, fun h => ⟨?_, h⟩⟩
  rcases List.mem_append.mp h with q | q
  · exact hL t q
  · exact hf t q
theorem few_facts {n : Nat} {L f : List Nat} (h : f ∈ fewL (outside n L)) : f.Pairwise (· < ·) ∧ (∀ x ∈ f, x < n ∧ x ∉ L) ∧ f ≠ [] ∧ f.length ≤ 2 := by
  rcases (mem_few (outside_up n L)).mp h with ⟨x, hx, rfl⟩ | ⟨x, y, hx, hy, lt, rfl⟩
  · refine ⟨List.pairwise_singleton .., fun z hz => ?_, by simp, by simp⟩
    rw [List.mem_singleton.mp hz]
    exact mem_outside.mp hx
  · refine ⟨?_, fun z hz => ?_, by simp, by simp⟩
    · rw [List.pairwise_cons]
      exact ⟨fun z hz => by rw [List.mem_singleton.mp hz]; exact lt, List.pairwise_singleton ..⟩
    · simp at hz
      rcases hz with rfl | rfl
      · exact mem_outside.mp hx
      · exact mem_outside.mp hy
theorem few_nd {n : Nat} {L f : List Nat} (hL : L.Nodup) (h : f ∈ fewL (outside n L)) : (L ++ f).Nodup := by
  obtain ⟨h1, h2, _, _⟩ := few_facts h
  rw [List.nodup_append]
  exact ⟨hL, h1.imp fun q => Nat.ne_of_lt q, fun a ha b hb e => (h2 b hb).2 (e ▸ ha)⟩
theorem firmB_mem {r : Nat → Nat → Int} {L M : List Nat} (h1 : L.Nodup) (h2 : M.Nodup) (h : ∀ t, t ∈ L ↔ t ∈ M) : firmB r L = firmB r M := by
  rw [Bool.eq_iff_iff, firmB_iff h1, firmB_iff h2]
  exact firm_mem h
section
variable {r : Nat → Nat → Int} {n : Nat} {L : List Nat}
theorem few_more (hL : Asc n L) {f : List Nat} (h : f ∈ fewL (outside n L)) (hf : firmB r (L ++ f) = true) : f ∈ more r n L := by
  obtain ⟨h1, h2, h3, _⟩ := few_facts h
  have mj : ∀ t, t ∈ joined n L f ↔ t ∈ L ++ f := fun t => mem_joined hL.lt fun x q => (h2 x q).1
  refine List.mem_map.mpr ⟨joined n L f, List.mem_filter.mpr ⟨mem_firmLots.mpr ⟨joined_asc .., ?_⟩, isMore_iff.mpr ⟨fun t ht => (mj t).mpr (List.mem_append_left _ ht), fun e => ?_⟩⟩, ?_⟩
  · rw [firmB_mem (joined_asc ..).nd (few_nd hL.nd h) mj]
    exact hf
  · obtain ⟨x, t, rfl⟩ := List.exists_cons_of_ne_nil h3
    have := (mj x).mpr (List.mem_append_right _ List.mem_cons_self)
    rw [e] at this
    exact (h2 x List.mem_cons_self).2 this
  · refine up_ext ((joined_asc ..).up.sublist List.filter_sublist) h1 fun t => ?_
    rw [mem_extra, mj, List.mem_append]
    constructor
    · rintro ⟨q | q, q2⟩
      · exact absurd q q2
      · exact q
    · exact fun q => ⟨.inr q, (h2 t q).2⟩
theorem more_few (hL : Asc n L) {g : List Nat} (h : g ∈ more r n L) : g ≠ [] ∧ (g.length ≤ 2 → g ∈ fewL (outside n L) ∧ firmB r (L ++ g) = true) := by
  obtain ⟨own, ho, rfl⟩ := List.mem_map.mp h
  obtain ⟨h1, h2⟩ := List.mem_filter.mp ho
  obtain ⟨a, fo⟩ := mem_firmLots.mp h1
  obtain ⟨s, ne⟩ := isMore_iff.mp h2
  have up : (extra L own).Pairwise (· < ·) := a.up.sublist List.filter_sublist
  have out : ∀ t ∈ extra L own, t ∈ outside n L := fun t ht => mem_outside.mpr ⟨a.lt t (mem_extra.mp ht).1, (mem_extra.mp ht).2⟩
  refine ⟨fun e => ne (up_ext a.up hL.up fun t => ⟨fun q => Classical.byContradiction fun n => ?_, s t⟩), fun hl => ?_⟩
  · have : t ∈ extra L own := mem_extra.mpr ⟨q, n⟩
    rw [e] at this
    cases this
  · have hf : extra L own ∈ fewL (outside n L) := by
      rw [mem_few (outside_up n L)]
      match e : extra L own, hl with
      | [], _ =>
        exfalso
        refine ne (up_ext a.up hL.up fun t => ⟨fun q => Classical.byContradiction fun n => ?_, s t⟩)
        have : t ∈ extra L own := mem_extra.mpr ⟨q, n⟩
        rw [e] at this
        cases this
      | [x], _ => exact .inl ⟨x, out x (by rw [e]; exact List.mem_cons_self), rfl⟩
      | [x, y], _ =>
        rw [e] at up
        exact .inr ⟨x, y, out x (by rw [e]; exact List.mem_cons_self), out y (by rw [e]; simp), (List.pairwise_cons.mp up).1 y (List.mem_singleton.mpr rfl), rfl⟩
    refine ⟨hf, ?_⟩
    rw [firmB_mem (few_nd hL.nd hf) a.nd fun t => ?_]
    · exact fo
    · rw [List.mem_append, mem_extra]
      exact ⟨fun q => q.elim (s t) fun q => q.1, fun q => (Classical.em (t ∈ L)).imp id fun n => ⟨q, n⟩⟩
theorem next_none (hL : Asc n L) (fL : firmB r L = true) : nextF r n L = none ↔ more r n L = [] := by
  constructor
  · intro h
    cases e : more r n L with
    | nil => rfl
    | cons g t =>
      exfalso
      have hg : g ∈ more r n L := by rw [e]; exact List.mem_cons_self
      obtain ⟨own, ho, rfl⟩ := List.mem_map.mp hg
      obtain ⟨h1, h2⟩ := List.mem_filter.mp ho
      obtain ⟨a, fo⟩ := mem_firmLots.mp h1
      obtain ⟨s, ne⟩ := isMore_iff.mp h2
      obtain ⟨z, hz⟩ := List.exists_mem_of_ne_nil _ (more_few hL hg).1
      have no := List.find?_eq_none.mp h
      have fin : ∀ f, f ∈ fewL (outside n L) → Firm r (fun t => t ∈ L ++ f) → False := fun f hf q => no f hf ((firmB_iff (few_nd hL.nd hf)).mpr q)
      rcases grows ((firmB_iff hL.nd).mp fL) ((firmB_iff a.nd).mp fo) s (mem_extra.mp hz).1 (mem_extra.mp hz).2 with ⟨x, hx, nx, q⟩ | ⟨x, y, hx, nx, hy, ny, nxy, q⟩
      · refine fin [x] ((mem_few (outside_up n L)).mpr (.inl ⟨x, mem_outside.mpr ⟨a.lt x hx, nx⟩, rfl⟩)) ((Firm.congr fun t => ?_).mpr q)
        simp [Lt]
      · have hx' := mem_outside.mpr ⟨a.lt x hx, nx⟩
        have hy' := mem_outside.mpr ⟨a.lt y hy, ny⟩
        rcases Nat.lt_or_gt_of_ne nxy with lt | lt
        · refine fin [x, y] ((mem_few (outside_up n L)).mpr (.inr ⟨x, y, hx', hy', lt, rfl⟩)) ((Firm.congr fun t => ?_).mpr q)
          simp [Lt]
        · refine fin [y, x] ((mem_few (outside_up n L)).mpr (.inr ⟨y, x, hy', hx', lt, rfl⟩)) ((Firm.congr fun t => ?_).mpr q)
          simp [Lt, or_comm]
  · intro h
    cases e : nextF r n L with
    | none => rfl
    | some f =>
      have hm := few_more (r := r) hL (List.mem_of_find?_eq_some e) (by have := List.find?_some e; exact this)
      rw [h] at hm
      cases hm
theorem next_some (hL : Asc n L) {f : List Nat} (h : nextF r n L = some f) : f ∈ more r n L ∧ f.length ≤ 2 ∧ f ≠ [] ∧ ∀ g ∈ more r n L, g = f ∨ Ahead f g := by
  have hf : f ∈ fewL (outside n L) := List.mem_of_find?_eq_some h
  have pf : firmB r (L ++ f) = true := by have := List.find?_some h; exact this
  obtain ⟨_, _, ne, l2⟩ := few_facts hf
  refine ⟨few_more hL hf pf, l2, ne, fun g hg => ?_⟩
  by_cases q : g.length ≤ 2
  · obtain ⟨g1, g2⟩ := (more_few hL hg).2 q
    exact find_first (few_order (outside_up n L)) h g g1 g2
  · exact .inr (.inl (by omega))
/-- the law's own words: the least of those of least length -/
theorem next_due (hL : Asc n L) {f m : List Nat} {k : Nat} (h : nextF r n L = some f) (hk : ∃ g ∈ more r n L, g.length = k) (kl : ∀ g ∈ more r n L, k ≤ g.length)
    (hm : m ∈ (more r n L).filter fun g => decide (g.length = k)) (least : ∀ g ∈ (more r n L).filter (fun g => decide (g.length = k)), tupLt g m = false) : k < 3 ∧ m = f := by
  obtain ⟨q1, q2, _, q3⟩ := next_some hL h
  obtain ⟨g, hg, rfl⟩ := hk
  have hk1 := kl f q1
  have hk2 : f.length ≤ g.length := by
    rcases q3 g hg with e | e | e
    · rw [e]; exact Nat.le_refl _
    · omega
    · omega
  obtain ⟨m1, m2⟩ := List.mem_filter.mp hm
  have m2 := of_decide_eq_true m2
  refine ⟨by omega, ?_⟩
  rcases q3 m m1 with e | e | e
  · exact e
  · omega
  · have := least f (List.mem_filter.mpr ⟨q1, decide_eq_true (by omega)⟩)
    rw [e.2] at this
    cases this
end
end K25
/-! K25Rules: rules that the layer lacks: enumerate of a tuple, sorted of a tuple, min of tuples of ints, repr of data, defs that are called where no guard stands. -/
namespace K25
open PySem PySem.Spec PyProof.Rows L2

/-! ### enumerate(tuple) -/
section
variable {prog : Program} {w : World} {A : Around} {E : Value → Shared → Prop} {s : Shared}
set_option maxHeartbeats 4000000 in
theorem enum_new1 {v : Value} {o : Obj} {G : Heap → Prop} (B : Begins v o G) :
    Meets (Builtin.«enumerate.__new__» ⟨[.type "enumerate", v], []⟩) (fun _ R s => G s.heap ∧
      R (.ok (.ret (.ref (s.heap.push o).objs.size))) { s with heap := (s.heap.push o).push { cls := .type "enumerate", data := .fields #[.none, .bool false, .ref s.heap.objs.size, rawInt 0, .none, .none] } }) :=
  .of_wp fun prog w A R s h => by
    obtain ⟨hp, gn, dr, tk, os⟩ := s
    obtain ⟨g1, h⟩ := h
    have hsub := sub_enumerate
    have beg : ∀ {A2 : Around} {E2 : Value → Shared → Prop} {Q2 : Value → Shared → Prop}, Q2 (.ref hp.objs.size) ⟨hp.push o, gn, dr, tk, os⟩ → wpAny (model prog w) A2 (pyIter v) Q2 E2 ⟨hp, gn, dr, tk, os⟩ :=
      fun k => B.iter prog w _ _ ⟨hp, gn, dr, tk, os⟩ _ g1 k
    wp_walk using beg
    refine wpAny_stack_any fun st0 => wpAny_pure ?_
    split
    · rename_i c0 _ _ _ _ _
      cases (c0 == Value.type "enumerate") <;> (wp_walk using beg; exact ⟨_, rfl, h⟩)
    · wp_walk using beg
      exact ⟨_, rfl, h⟩
theorem enum_call {v : Value} {o : Obj} {G : Heap → Prop} {Q : Value → Shared → Prop} (B : Begins v o G) (g1 : G s.heap)
    (h : ∀ h', IsEnum h' (s.heap.objs.size + 1) s.heap.objs.size 0 .none → h'.get? s.heap.objs.size = some o →
      (∀ b o, s.heap.get? b = some o → h'.get? b = some o) → Q (.ref (s.heap.objs.size + 1)) { s with heap := h' }) : wpAny (model prog w) A (call (.type "enumerate") [v]) Q E s := by
  have sz : (s.heap.push o).objs.size = s.heap.objs.size + 1 := Heap.size_push ..
  refine callType_new F.called_enumerate (by decide) (F.typeCall_enumerate_1 _) (F.newCall_enumerate_1 _) (fun ob => F.args_object_init_2 ob _) F.entry_enumerate_new (enum_new1 B) ⟨g1, ?_⟩
  show _ ∧ _
  rw [sz]
  have he : IsEnum ((s.heap.push o).push { cls := .type "enumerate", data := .fields #[.none, .bool false, .ref s.heap.objs.size, rawInt 0, .none, .none] }) (s.heap.objs.size + 1) s.heap.objs.size 0 .none := by
    have e := Heap.get?_push_size (s.heap.push o) (o := { cls := .type "enumerate", data := .fields #[.none, .bool false, .ref s.heap.objs.size, rawInt 0, .none, .none] }) rfl
    rw [sz] at e
    exact e
  exact ⟨⟨_, he, rfl⟩, h _ he (Heap.get?_push_of_some _ (Heap.get?_push_size _ B.free)) fun b ob z => Heap.get?_push_of_some _ (Heap.get?_push_of_some _ z)⟩
end
def IteT (K : PySem.W.Frag) (a : Addr) : It :=
  ⟨fun i H => ∃ (xs : List V) (x : V), SqT K H a xs ∧ xs[i]? = some x, fun i H v H' => ∃ T x, v = .ref T ∧ H T = none ∧ H' = upd H T (.tup [.int (i : Nat), x]) ∧ ∀ xs, SqT K H a xs → xs[i]? = some x,
    fun i H => ∃ xs : List V, SqT K H a xs ∧ xs.length = i⟩
theorem turn_enumT {P : Program} {w : World} {K : PySem.W.Frag} {elts : List Expr} {kk : Nat} {tpos : Pos} (a e it : Addr) (hai : a ≠ it) (hei : e ≠ it) (hea : e ≠ a) :
    Turn P w K (.Tuple elts kk tpos) (IteT K a) [e, it] e (fun i h => (∃ old, IsEnum h e it ((i : Nat) : Int) old) ∧ h.IsTupleIter it a i) where
  mem := by simp
  obj := fun i h st b hb => by
    obtain ⟨⟨old, he⟩, o, ho, hc, hd⟩ := st
    rcases List.mem_cons.mp hb with z | z
    · rw [z]
      exact ⟨_, he, fun v q => nomatch q⟩
    · rw [List.mem_singleton.mp z]
      exact ⟨o, ho, fun v q => by rw [hd] at q; cases q⟩
  keep := fun i h h' st k => ⟨⟨st.1.choose, k e (by simp) _ st.1.choose_spec⟩, st.2.at fun o q => k it (by simp) o q⟩
  item := by
    intro X hP hw hK hc i pins s σ H E I hf st hg
    subst hP hw hK
    obtain ⟨⟨old, he⟩, hit⟩ := st
    obtain ⟨xs, x, hq, hx⟩ := hg
    obtain ⟨its, rv, p, hz⟩ := I.tuple hq
    obtain ⟨u, hu, ru⟩ := rv.get hx
    have hT : s.heap.IsTuple a its.toArray := p
    have lt : i < its.toArray.size := by
      rw [List.size_toArray]
      exact (List.getElem?_eq_some_iff.mp hu).1
    have hel : e < s.heap.objs.size := Heap.lt_size he
    have hil : it < s.heap.objs.size := by obtain ⟨_, q, _⟩ := hit; exact Heap.lt_size q
    refine wpAny_pyNext_enum_itemC (Draws.tuple (A := X.A.in1) (I.ok.hd hc) it a hai its.toArray) he ⟨hit, hT⟩ lt hei (fun z => ?_) fun y h' tk hy ho st' hnew hsz hk => ?_
    · rcases List.mem_cons.mp z with q | q
      · exact hei q
      · exact hea (List.mem_singleton.mp q)
    have ey : y = u := by
      have hy' : its.toArray[i]? = some y := hy
      rw [List.getElem?_toArray, hu] at hy'
      exact (Option.some.inj hy').symm
    subst ey
    refine ⟨_, rfl, wpAny_letOwnedTupleGo_enum (s := { s with heap := h', toks := tk + 1 }) ho fun h2 he2 sb => ?_⟩
    have hnew2 : h2.get? s.heap.objs.size = some { cls := .type "tuple", data := .seq #[.int i tk, y] } := (sb.2 _ (Nat.ne_of_gt hel)).trans hnew
    have ok2 : ObjOk X.prog X.w (upd H s.heap.objs.size (.tup [.int (i : Nat), x])) h2 s.heap.objs.size (.tup [.int (i : Nat), x]) :=
      ⟨by show 2 ≤ sizeLine; decide, [.int i tk, y], .cons ⟨_, rfl⟩ (.cons ru .nil), ⟨_, hnew2, rfl, _, rfl⟩⟩
    have I1 : Inv X pins σ (upd H s.heap.objs.size (.tup [.int (i : Nat), x])) { s with heap := h2, toks := tk + 1 } :=
      I.turnedNew (ch := [e, it]) (fun b ob hb q => (sb.2 b fun z => hb (by simp [z])).trans (hk b ob (fun z => hb (by simp [z])) (fun z => hb (by simp [z])) q)) hf (Nat.le_refl _) ok2
    refine ⟨.ref s.heap.objs.size, _, I1, rfl, ⟨_, x, rfl, I.hok.fresh (Nat.le_refl _), rfl, fun ys hy => by rw [I.tuple_inj hy hq]; exact hx⟩, ⟨⟨y, ?_⟩, st'.1.at fun o q => (sb.2 it hei.symm).trans q⟩, fun b hb => ?_⟩
    · have e1 : ((i + 1 : Nat) : Int) = (i : Int) + 1 := by omega
      rw [e1]
      exact he2
    · have hb' : b < s.heap.objs.size := by
        rcases List.mem_cons.mp hb with z | z
        · rw [z]; exact hel
        · rw [List.mem_singleton.mp z]; exact hil
      rw [upd_ne (Nat.ne_of_lt hb')]
      exact (hf b hb).1
  done := by
    intro X hP hw hK hc i pins s σ H E I hf st hg
    subst hP hw hK
    obtain ⟨⟨old, he⟩, hit⟩ := st
    obtain ⟨xs, hq, hx⟩ := hg
    obtain ⟨its, rv, p, hz⟩ := I.tuple hq
    have hT : s.heap.IsTuple a its.toArray := p
    obtain ⟨f0, f1, f2, f3, f4, f5⟩ := hf it (by simp)
    have en : its.toArray.size = i := by rw [List.size_toArray, ← rv.length, hx]
    refine wpAny_pyNext_enum_endD (Draws.tuple (A := X.A.in1) (I.ok.hd hc) it a hai its.toArray) he ⟨by rw [en]; exact hit, hT⟩ fun h' eb => ⟨rfl, I.turned (t' := s.toks) (fun b o hb q => eb b o hb q) f0 f1 f3 f4 f5⟩
  self := fun A i s Q E st h => wpAny_pyIter_enum st.1.choose_spec h
def iEnumT (K : PySem.W.Frag) (ta : TA) : TI := fun σ H R => ta σ H fun vs H1 => ∃ a xs, vs = [.ref a] ∧ SqT K H1 a xs ∧ R (IteT K a) H1
theorem pi_enumT {X : Cx} {e : Expr} {ta : TA} {p pos tpos : Pos} {elts : List Expr} {kk : Nat} (hg : Gl X "enumerate") (hm : X.mg "enumerate" = none) (ha : PA X [e] ta) (hs : starEach [e] X.env = [(false, eval e X.env)] := by rfl) :
    PI X (.Tuple elts kk tpos) (.Call (.Name "enumerate" p) [e] [] pos) (iEnumT X.K ta) := by
  refine ⟨fun pins s σ H R I h => Call_ (ld_blt I hg hm boot_enumerate (PyProof.Rows.callWith_type1 (thn (ha.run pos pins s σ H _ I h) fun us s1 ⟨vs, H1, I1, r1, q1⟩ => ?_) hs rfl))⟩
  obtain ⟨a, xs, ex, hq, q⟩ := q1
  subst ex
  cases r1 with
  | cons r rr =>
    cases rr
    cases r
    obtain ⟨its, rv, p', hz⟩ := I1.tuple hq
    have hT : s1.heap.IsTuple a its.toArray := p'
    have hal : a < s1.heap.objs.size := p'.lt
    refine enum_call (begins_tuple a its.toArray) hT fun h' he hit hk => wpAny_pyIter_enum he ?_
    have I2 : Inv X pins σ H1 { s1 with heap := h' } := I1.kept (t' := s1.toks) hk
    refine ⟨s1.heap.objs.size + 1, [s1.heap.objs.size + 1, s1.heap.objs.size], _, _, H1, rfl, I2, turn_enumT a (s1.heap.objs.size + 1) s1.heap.objs.size (Nat.ne_of_lt hal) (Nat.succ_ne_self _) (Nat.ne_of_gt (Nat.lt_succ_of_lt hal)), ⟨⟨.none, he⟩, ⟨_, hit, rfl, rfl⟩⟩, fun b hb => ?_, q⟩
    have hle : s1.heap.objs.size ≤ b := by
      rcases List.mem_cons.mp hb with z | z
      · rw [z]; exact Nat.le_succ _
      · rw [List.mem_singleton.mp z]; exact Nat.le_refl _
    exact I1.fpOk hle (I1.hok.fresh hle)
theorem walk_enumT {K : PySem.W.Frag} {a : Addr} {xs : List V} : Walk (IteT K a) xs.length (fun H => SqT K H a xs) (YPair (fun i => some (.int (i : Nat))) (fun i => xs[i]?)) := by
  refine ⟨fun i _ hi q => ⟨xs, xs[i], q, by simp [hi]⟩, fun _ q => ⟨xs, q, rfl⟩, fun i H v H' _ q y => ?_⟩
  obtain ⟨T, x, h1, h2, h3, h4⟩ := y
  exact ⟨T, .int (i : Nat), x, h1, h2, h3, rfl, h4 xs q⟩

/-! ### sorted(tuple of ints) -/
theorem cr_sortedT {X : Cx} : CallR X (.builtin "sorted") (fun vs H Q => ∃ (a : Addr) (ns : List Int), vs = [V.ref a] ∧ SqT X.K H a (ns.map V.int) ∧ ns.length < 64 ∧
    ∀ (ns' : List Int) (p : Addr), ns'.Perm ns → H p = none → Q (.ref p) (upd H p (.lst (ns'.map V.int)))) := by
  intro pins s σ H vs us Q I r h
  obtain ⟨a, ns, rfl, hs, h64, q⟩ := h
  obtain ⟨its, rv, ⟨o, ho, hc, n, hd⟩, hz⟩ := I.tuple hs
  rw [Vals.ref1 r]
  have hi := rv.ints
  have hl : its.length < 64 := by rw [hi.length]; exact h64
  refine Calls.call_function_entry kind_sorted plain_sorted entry_sorted (args_sorted1 _) ?_
  unfold Builtin.«sorted»
  refine wpAny_bind (m := checkCount "sorted" 1 1 _) (wpAny_pure (wpAny_bind (wpAny_collect_seq a (.inr rfl) ho hc hd (fun h1 k1 => ?_) (by rw [List.size_toArray]; exact small64 hl))))
  refine wpAny_bind (wpAny_newList ?_)
  have hL : (h1.push (seqObj "list" its.toArray 0)).get? h1.objs.size = some (seqObj "list" its.toArray 0) := Heap.get?_push_size _ rfl
  have hL' : (h1.push (seqObj "list" its.toArray.toList.toArray 0)).get? h1.objs.size = some (seqObj "list" its.toArray 0) := by rw [Array.toArray_toList]; exact hL
  have I1 : Inv X pins σ H { s with heap := h1 } := I.kept (t' := s.toks) k1
  refine wpAny_bind (wpAny_holding (wpAny_call_entry slot_list_sort ⟨_, hL', rfl⟩ entry_list_sort (list_sort_tree hL' hi hl fun out ns' a1 a2 a3 => ⟨_, rfl, wpAny_pure ⟨_, rfl, ?_⟩⟩) (args_list_sort _)))
  obtain ⟨ep, he⟩ := sortedHeap_at (vs := its) (out := out) hL'
  have hlen : (ns'.map V.int).length ≤ sizeLine := by rw [List.length_map, a2.length_eq]; exact small64 h64
  have kp : ∀ b o, h1.get? b = some o → (sortedHeap (h1.push (seqObj "list" its.toArray.toList.toArray 0)) h1.objs.size its out).get? b = some o := fun b o e => by
    have lt : b < h1.objs.size := Heap.lt_size e
    rw [sortedHeap_old (Nat.ne_of_lt lt) (by rw [size_push']; exact Nat.lt_succ_of_lt lt)]
    exact Heap.get?_push_of_some _ e
  exact ⟨.ref h1.objs.size, upd H h1.objs.size (.lst (ns'.map V.int)), I1.laid (t' := s.toks) kp (Nat.le_refl _) ⟨hlen, out.toList, ep, vals_of_ints a1, he⟩, rfl, q ns' _ a2 (I1.hok.fresh (Nat.le_refl _))⟩

/-! ### min(list of tuples of ints) -/
def tLexLt (x y : List Int) : Bool := HT.lexLt x y
theorem tLex_trans : ∀ {x y z : List Int}, HT.lexLt x y = true → HT.lexLt y z = true → HT.lexLt x z = true
  | [], _, [], h, h2 => by
    cases ‹List Int› with
    | nil => exact h
    | cons b t => exact absurd h2 (by unfold HT.lexLt; simp)
  | [], _, _ :: _, _, _ => by unfold HT.lexLt; rfl
  | a :: s, [], _, h, _ => absurd h (by unfold HT.lexLt; simp)
  | a :: s, b :: t, [], _, h2 => absurd h2 (by unfold HT.lexLt; simp)
  | a :: s, b :: t, c :: u, h, h2 => by
    unfold HT.lexLt at h h2 ⊢
    by_cases e1 : a = b
    · subst e1
      rw [if_pos rfl] at h
      by_cases e2 : a = c
      · subst e2
        rw [if_pos rfl] at h2 ⊢
        exact tLex_trans h h2
      · rw [if_neg e2] at h2 ⊢
        exact h2
    · rw [if_neg e1] at h
      have l1 := of_decide_eq_true h
      by_cases e2 : b = c
      · subst e2
        rw [if_neg e1]
        exact h
      · rw [if_neg e2] at h2
        have l2 := of_decide_eq_true h2
        rw [if_neg (by omega)]
        exact decide_eq_true (by omega)
theorem tLex_irr : ∀ x : List Int, HT.lexLt x x = false
  | [] => rfl
  | a :: s => by
    unfold HT.lexLt
    rw [if_pos rfl]
    exact tLex_irr s
theorem argBest_facts (bt : Nat → Nat → Bool) (irr : ∀ i, bt i i = false) (tr : ∀ i j k, bt i j = true → bt j k = true → bt i k = true) : ∀ n, argBest bt n ≤ n ∧ ∀ j, j ≤ n → bt j (argBest bt n) = false
  | 0 => ⟨Nat.le_refl _, fun j hj => by rw [Nat.le_zero.mp hj]; exact irr 0⟩
  | n + 1 => by
    obtain ⟨h1, h2⟩ := argBest_facts bt irr tr n
    unfold argBest
    cases e : bt (n + 1) (argBest bt n) with
    | true =>
      rw [if_pos rfl]
      refine ⟨Nat.le_refl _, fun j hj => ?_⟩
      by_cases ej : j = n + 1
      · rw [ej]; exact irr _
      · cases q : bt j (n + 1) with
        | false => rfl
        | true =>
          have z := tr j (n + 1) _ q e
          rw [h2 j (by omega)] at z
          cases z
    | false =>
      rw [if_neg (by decide)]
      refine ⟨by omega, fun j hj => ?_⟩
      by_cases ej : j = n + 1
      · rw [ej]; exact e
      · exact h2 j (by omega)
/-- the items of a list: tuples of ints, each at its own place -/
def TupsAt (K : PySem.W.Frag) (H : Hp) (ps : List Addr) (Ls : List (List Int)) : Prop := ps.length = Ls.length ∧ ∀ (i : Nat) (p : Addr) (L : List Int), ps[i]? = some p → Ls[i]? = some L → SqT K H p (L.map V.int)
theorem cr_minT {X : Cx} (hc : X.calm = true) (hu : X.A.units + 1 < cLine) : CallR X (.builtin "min") (fun vs H Q => ∃ (a : Addr) (ps : List Addr) (Ls : List (List Int)), vs = [V.ref a] ∧ SqL X.K H a (ps.map V.ref) ∧ TupsAt X.K H ps Ls ∧ 0 < ps.length ∧
    ∀ (i : Nat) (p : Addr) (L : List Int), ps[i]? = some p → Ls[i]? = some L → (∀ M ∈ Ls, HT.lexLt M L = false) → Q (.ref p) H) := by
  intro pins s σ H vs us Q I r h
  obtain ⟨a, ps, Ls, rfl, hs, ⟨hlen, ht⟩, h0, q⟩ := h
  obtain ⟨its, rv, hl, hz⟩ := I.list hs
  rw [Vals.ref1 r]
  have hsz : its.toArray.size = Ls.length := by rw [List.size_toArray, ← rv.length, List.length_map, hlen]
  refine call_min_walkH (PySem.W.iter_listW (A := X.A.in1) (I.ok.hd hc) hl.isList fun s2 e W st hfp hw hk => ?_)
  have item : ∀ (i : Nat) (v : Value), its.toArray[i]? = some v → ∃ p L, ps[i]? = some p ∧ Ls[i]? = some L ∧ v = .ref p ∧ ∃ ws : List Value, IsTup s.heap p ws.toArray ∧ IntsAre ws.toArray.toList L := fun i v hv => by
    have hv' : its[i]? = some v := by rw [← List.getElem?_toArray]; exact hv
    have lt : i < ps.length := by
      have z := (List.getElem?_eq_some_iff.mp hv').1
      rw [← rv.length, List.length_map] at z
      exact z
    have hp : ps[i]? = some ps[i] := List.getElem?_eq_getElem lt
    have hL : Ls[i]? = some (Ls[i]'(by omega)) := List.getElem?_eq_getElem (by omega)
    obtain ⟨u, hu1, ru⟩ := rv.get (i := i) (x := .ref ps[i]) (by rw [List.getElem?_map, hp]; rfl)
    rw [hv'] at hu1
    cases hu1
    obtain ⟨ws, r1, p1, _⟩ := I.tuple (ht i _ _ hp hL)
    exact ⟨_, _, hp, hL, ru, ws, p1, intsAre_of r1⟩
  refine ⟨_, _, _, _, _, _, _, s.heap, (fun i j => HT.lexLt (Ls.getD i []) (Ls.getD j [])), rfl, W, st, hfp, by omega, hw, hk, fun i j vi vj s3 Q3 E3 k3 hi hj z => ?_, fun v s3 hP m => ?_⟩
  · obtain ⟨p, L, hp, hL, rfl, ws, t1, n1⟩ := item i vi hi
    obtain ⟨p2, L2, hp2, hL2, rfl, ws2, t2, n2⟩ := item j vj hj
    have z' : Q3 (.bool (HT.lexLt L L2)) s3 := by
      have z2 : Q3 (.bool (HT.lexLt (Ls.getD i []) (Ls.getD j []))) s3 := z
      rw [List.getD_eq_getElem?_getD, List.getD_eq_getElem?_getD, hL, hL2] at z2
      exact z2
    have tt : ∀ {p : Addr} {ws : List Value}, IsTup s.heap p ws.toArray → IsTup s3.heap p ws.toArray := fun {p ws} ⟨o, e, c⟩ => ⟨o, k3 _ _ e, c⟩
    exact HT.lt_tupInts (A := X.A.in1) (tt t1) (tt t2) n1 n2 (by show X.A.units + 1 < cLine; exact hu) z'
  · obtain ⟨h', tk, rfl, hk'⟩ := PySem.W.moved_old e rfl m
    obtain ⟨f1, f2⟩ := argBest_facts (fun i j => HT.lexLt (Ls.getD i []) (Ls.getD j [])) (fun i => tLex_irr _) (fun i j k => tLex_trans) (its.toArray.size - 1)
    obtain ⟨p, L, hp, hL, rfl, _⟩ := item _ v hP
    refine ⟨.ref p, H, I.kept (t' := tk) hk', rfl, q _ p L hp hL fun M hM => ?_⟩
    obtain ⟨j, hj, ej⟩ := List.getElem_of_mem hM
    have z := f2 j (by omega)
    have z' : HT.lexLt (Ls.getD j []) (Ls.getD (argBest (fun i j => HT.lexLt (Ls.getD i []) (Ls.getD j [])) (its.toArray.size - 1)) []) = false := z
    rw [List.getD_eq_getElem?_getD, List.getD_eq_getElem?_getD, hL, List.getElem?_eq_getElem hj, ej] at z'
    exact z'
/-! ### repr of data -/
theorem cr_repr {X : Cx} (hg : X.A.guards = some []) (hu : X.A.units + 64 < cLine) : CallR X (.builtin "repr") (fun vs H Q => ∃ (a : Addr) (d : PyData), vs = [V.ref a] ∧ Dp X.K H (.ref a) d ∧ d.showable = true ∧ d.hasDict = false ∧ d.depth ≤ 60 ∧
    d.shown.length ≤ sizeLine ∧ Q (.str d.shown) H) := by
  intro pins s σ H vs us Q I r h
  obtain ⟨a, d, rfl, hd, h1, h2, h3, h4, q⟩ := h
  rw [Vals.ref1 r]
  obtain ⟨as, rd⟩ := Dp.reads I d (.ref a) (.ref a) hd rfl
  exact repr_of_reads' rd h1 (fun z => by rw [h2] at z; cases z) hg (by omega) (fun _ _ z => z) (fun h' u tk k => ⟨.str d.shown, H, I.kept (t' := tk) k, ⟨_, rfl⟩, q⟩) h4

/-! ### a def that is called where no guard stands (repr wants to know) -/
structure FnG (P : Program) (w : World) (K : PySem.W.Frag) (mg : Str → Option Value) (base : Heap) (k : Nat) (f : Addr) (fd : FuncData) (ps : List Str) (sp : Sp) : Prop where
  len : ∀ vs H Q E, sp vs H Q E → vs.length = ps.length
  run : ∀ (A : Around) (outer : List Env) (s : Shared) (H : Hp) (args : Args) (us : List Value) (vs : List V) (Q : VK), A.guards = some [] → Room k A → Env0 P w K mg base A outer s H → BindsTo s fd args (ps.zip us) → Vals vs us → sp vs H Q E0 →
    codeAny (model P w) A (.call (.ref f) args) (CR CX0 outer P w H s Q E0) s
/-- a def that always keeps its promise keeps it here -/
theorem FnG.of {P : Program} {w : World} {K : PySem.W.Frag} {mg : Str → Option Value} {base : Heap} {k : Nat} {f : Addr} {fd : FuncData} {ps : List Str} {sp : Sp} (F : FnOk P w K mg base CX0 k f fd ps sp) : FnG P w K mg base k f fd ps sp :=
  ⟨F.len, fun A outer s H args us vs Q _ hr => F.run A outer s H args us vs Q E0 hr⟩
section
variable {P : Program} {w : World} {K : PySem.W.Frag} {mg : Str → Option Value} {base : Heap}
theorem fnG_of {x qual : Str} {st : Stmt} {f : Addr} {fd : FuncData} {N ps : List Str} {k : Nat} {sp : Sp} (F : Fun K x qual st f fd) (S : FnScope N ps (defScope st)) (len : ∀ vs H Q E, sp vs H Q E → vs.length = ps.length)
    (body : ∀ (cdv : Value) (A : Around) (outer : List Env) (s : Shared) (H : Hp) (vs : List V) (Q : VK), (A.deeper (envOfC qual (defScope st) s.heap.objs.size f cdv)).guards = some [] → Room k (A.deeper (envOfC qual (defScope st) s.heap.objs.size f cdv)) → sp vs H Q E0 →
      ∃ t, PSs (cxOf CX0 P w K mg base N qual (defScope st) f cdv A outer s H E0).nox (defBody st) t ∧ t { nx := fun _ H' => Q .non H', rt := Q } (start N vs) H) : FnG P w K mg base (k + 1) f fd ps sp := by
  obtain ⟨oc, od, kV, doc, pm, an, cdv, ct, osl, rfl, lk, hcd⟩ := F.ex
  refine ⟨len, fun A outer s H args us vs Q hg hr e0 hb rv hsp => ?_⟩
  have n0 := len _ _ _ _ hsp
  have kin : K.In s.heap := e0.mod.kin.keeps fun b o z => (e0.bs b o z).1
  have nol : s.heap.NoLimit := e0.mod.nolimit.keeps fun b o z => (e0.bs b o z).1
  have kinds : ∀ y ∈ ps.zip us, (defScope st).names.lookup y.1 = some .local ∨ ((defScope st).names.lookup y.1 = some .cell ∧ ((cellsFrom (s.heap.objs.size + 1) (defScope st).names []).lookup y.1).isSome = true) := fun y hy =>
    (S.par y.1 (List.of_mem_zip (a := y.1) (b := y.2) hy).1).imp id fun z => ⟨z, PySem.W.cellsFrom_some _ _ _ (.inl z)⟩
  refine codeAny_call_function hr.depth (kin _ _ lk) rfl S.co S.gen rfl (PySem.W.codeRec_of kin hcd) (hb _ _ _ _ (wpAny_newFunctionEnv_cells S.kind kinds fun env he s1 ic => ?_))
  subst he
  refine ⟨nol.keeps ic.toInCall.keep, codeAny_func ?_⟩
  obtain ⟨t, ht, tq⟩ := body cdv A outer s H vs Q hg (hr.deeper _) hsp
  have inv : Inv (cxOf CX0 P w K mg base N qual (defScope st) f cdv A outer s H E0) [] (start N vs) H s1 := inv_start S hr.hd e0 n0 rv ic
  refine wpAny_mono (ht.nox.run [] s1 (start N vs) H _ inv tq) (fun fl s' z => ?_) fun e s' z => z
  match fl, z with
  | .ret u, ⟨v, _, H', J, r, q⟩ => exact ⟨v, H', J.os, J.bare, J.base, J.hok, r, q⟩
  | .next, ⟨_, H', J, q⟩ => exact ⟨V.non, H', J.os, J.bare, J.base, J.hok, rfl, q⟩
  | .brk, ⟨_, _, _, q⟩ => exact q.elim
  | .cont, ⟨_, _, _, q⟩ => exact q.elim
end
section
variable {X : Cx} {k : Nat} {f : Addr} {fd : FuncData} {ps : List Str} {sp : Sp} {x : Str} {p pos : Pos} {e : Expr} {es : List Expr} {t : TA}
/-- f(e, ..), no defaults -/
theorem pe_callG (F : FnG X.prog X.w X.K X.mg X.base k f fd ps sp) (hgd : X.A.guards = some []) (hr : Room k X.A) (hg : Gl X x) (hm : X.mg x = some (.ref f)) (hk : PySem.W.keepIn X.K (.ref f) = true) (hb : Binds X.K fd ps [])
    (ha : PA X (e :: es) t) (hdb : (x == ("__debug__" : Str)) = false := by decide) (he : starEach (e :: es) X.env = (false, eval e X.env) :: starEach es X.env := by rfl) (hpl : (backTo pos (starEach es X.env)).any (·.1) = false := by rfl) :
    PE X (.Call (.Name x p) (e :: es) [] pos) (tCall sp [] E0 t) := by
  refine ⟨fun pins s σ H Q I h => wpAny_Call_Name_kw (ld_glob I hg hm ?_ hdb)⟩
  refine PySem.W.callWith_K (h₀ := X.base) I.ok.mod.kin hk (thn (ha.run pos pins s σ H _ I h) fun us s1 ⟨vs, H1, I1, r, q⟩ => ⟨I1.kIn, ?_⟩) he hpl
  have q' : sp vs H1 Q E0 := by
    have z : sp (vs ++ []) H1 Q E0 := q
    rw [List.append_nil] at z
    exact z
  have n1 : (us ++ []).length = ps.length := by rw [List.append_nil, ← r.length]; exact F.len _ _ _ _ q'
  have b1 := hb s1 us I1.kIn n1
  rw [List.append_nil] at b1
  refine wpAny_call (codeAny_mono (F.run X.A X.stack s1 H1 ⟨us, []⟩ us vs Q hgd hr I1.env0 b1 r q') fun z s' hq => ?_)
  match z, hq with
  | .ok (.ret u), hq => exact I1.after hq
end
/-- the law's own call, from its promise where no guard stands -/
theorem law_callG {P : Program} {w : World} {K : PySem.W.Frag} {mg mb : Str → Option Value} {k : Nat} {fa a : Addr} {fd : FuncData} {x : Str} {sp : Sp} {s1 : Shared} {vs : List Value} {ns : List Int}
    (KX : K.In s1.heap) (hns : s1.heap.Ns mainGlobals mg) (hb : s1.heap.Ns builtinsNs mb) (hbb : ∀ x : Str, x ≠ "__name__" → mb x = bootBuiltins x) (hlim : s1.heap.NoLimit) (hg : s1.gens = #[])
    (ha : s1.heap.get? a = some { cls := .type "list", data := .seq vs.toArray }) (hi : IntsAre vs ns) (hl : ns.length ≤ sizeLine) (hr : Room k callerA) (hgd : callerA.guards = some [])
    (F : ∀ base : Heap, K.In base → base.Ns mainGlobals mg → FnG P w K mg base k fa fd [x] sp) (hbind : ∀ (s : Shared) (u : Value), BindsTo s fd ⟨[u], []⟩ [(x, u)])
    (hsp : ∀ H : Hp, Only H → SqL K H a (ns.map V.int) → sp [.ref a] H (fun v _ => v = .bl true) E0) :
    codeAny (model P w) callerA (.call (.ref fa) ⟨[.ref a], []⟩) (fun r s' => r = .ok (.ret (.bool true)) ∧ OldK s1.heap s'.heap ∧ s'.os = s1.os ∧ AllBare s'.gens) s1 := by
  -- reuse the layer's own head: a def with the same promise at this one around
  have rv := vals_ints hi
  have core : ∀ H : Hp, Only H → SqL K H a (ns.map V.int) → HOk P w H s1.heap → (∀ b, H b ≠ none → b = a) → (H a ≠ none → K.lookup a = none) →
      codeAny (model P w) callerA (.call (.ref fa) ⟨[.ref a], []⟩) (fun r s' => r = .ok (.ret (.bool true)) ∧ OldK s1.heap s'.heap ∧ s'.os = s1.os ∧ AllBare s'.gens) s1 := by
    intro H only seq ok onlyA notK
    have isA : ∀ {b : Addr} {u : HO}, H b = some u → b = a := fun {b u} z => onlyA b (by rw [z]; exact fun q => nomatch q)
    have dict0 : ∀ {b : Addr} {o : Obj} {es : Array DictEntry} {ep : Nat}, s1.heap.get? b = some o → o.data = .dict es ep → H b = none := fun {b o es ep} z d => by
      cases q : H b with
      | none => rfl
      | some u =>
        have ea := isA q
        subst ea
        rw [ha] at z
        cases z
        exact absurd (show Data.seq vs.toArray _ = Data.dict es ep from d) (fun q => nomatch q)
    have hide : ∀ {b : Addr} {m : Str → Option Value}, s1.heap.Ns b m → (hidT s1.heap H).Ns b m := fun {b m} ⟨o, es, ep, z, d, rest⟩ => ⟨o, es, ep, hidT_get z (dict0 z d), d, rest⟩
    have kb : K.In (hidT s1.heap H) := fun b o z => hidT_get (KX b o z) (by
      cases q : H b with
      | none => rfl
      | some u =>
        have ea := isA q
        subst ea
        rw [notK (by rw [q]; exact fun z => nomatch z)] at z
        cases z)
    have md : Mod K mg (hidT s1.heap H) := ⟨kb, hide hns, ⟨mb, hide hb, hbb⟩, let ⟨mc, c1, c2⟩ := hlim; ⟨mc, hide c1, c2⟩⟩
    have env : Env0 P w K mg (hidT s1.heap H) callerA [] s1 H := ⟨rfl, md, fun b o z => of_hidT z, Nat.le_of_eq (hidT_size _ _), trivial, (fun b z => nomatch (show b ∈ ([] : List Addr) from z)), ok, .of_eq hg⟩
    refine codeAny_mono ((F _ kb (hide hns)).run callerA [] s1 H ⟨[.ref a], []⟩ [.ref a] [.ref a] _ hgd hr env (hbind s1 (.ref a)) (.cons rfl .nil) (hsp H only seq)) fun r s' z => ?_
    match r, z with
    | .ok (.ret u), ⟨v, H', os, bare, un, ok', r', q⟩ =>
      have ev : v = .bl true := q
      subst ev
      obtain rfl : u = Value.bool true := r'
      refine ⟨rfl, OldK.of_keep fun b o z => ?_, os, bare⟩
      cases e : H b with
      | none => exact un.keep b o z e (fun q => nomatch (show b ∈ ([] : List Addr) from q)) (by simp)
      | some u =>
        rcases only b with q | ⟨ob, xs, q⟩
        · rw [e] at q; cases q
        · obtain ⟨e1, _⟩ := ok b _ q
          obtain ⟨e2, _⟩ := ok' b _ (un.frzs b ob _ q)
          rw [z] at e1
          cases e1
          exact e2
  cases look : K.lookup a with
  | some o =>
    have e := KX a o look
    rw [ha] at e
    cases e
    exact core (fun _ => none) (fun _ => .inl rfl) (.inr ⟨_, vs.toArray, _, look, rfl, rfl, rfl, by rw [List.size_toArray, hi.length]; exact hl, by simpa using rv⟩) (fun b u z => nomatch (show (none : Option HO) = some u from z)) (fun b z => absurd rfl z) fun z => absurd rfl z
  | none =>
    have at_a : (fun b => if b = a then some (HO.frz { cls := .type "list", data := .seq vs.toArray } (.lst (ns.map V.int))) else none) a = some (HO.frz { cls := .type "list", data := .seq vs.toArray } (.lst (ns.map V.int))) := if_pos rfl
    refine core (fun b => if b = a then some (HO.frz { cls := .type "list", data := .seq vs.toArray } (.lst (ns.map V.int))) else none) (fun b => ?_) (.inl (.inr ⟨_, at_a⟩)) (fun b u z => ?_) (fun b z => Classical.byContradiction fun n => z (if_neg n)) fun _ => look
    · by_cases e : b = a
      · exact .inr ⟨_, _, if_pos e⟩
      · exact .inl (if_neg e)
    · by_cases e : b = a
      · subst e
        cases (at_a.symm.trans z)
        exact ⟨ha, by rw [List.length_map]; exact hl, vs, _, rv, ha⟩
      · exact nomatch ((if_neg e).symm.trans z : (none : Option HO) = some u)
/-- the goal that the head leaves, from the law's promise where no guard stands -/
theorem walkG_of {l : PySem.W.OpenLaw} {n k : Nat} {q : Program} {loose : List Str} {XP : (Str → Option Value) → Heap → Prop} {YP : World → Heap → Prop} {d : DefRec} {K : Params → PySem.W.Frag} {sp : PySem.W.Frag → Sp} {x : Str}
    (hn : l.most = some n) (hn2 : n ≤ sizeLine) (hdf : d.params.defaults = []) (hr : Room k callerA) (hgd : callerA.guards = some [])
    (hY : ∀ (w : World) (h : Heap), YP w h → (K w.params).In h)
    (F : ∀ (w : World) (mg : Str → Option Value) (fa : Addr) (h : Heap), (K w.params).In h → h.Ns mainGlobals mg → mg d.name = some (.ref fa) →
      ∃ fd : FuncData, (∀ (s : Shared) (u : Value), BindsTo s fd ⟨[u], []⟩ [(x, u)]) ∧ ∀ base : Heap, (K w.params).In base → base.Ns mainGlobals mg → FnG l.prog w (K w.params) mg base k fa fd [x] (sp (K w.params)))
    (hsp : ∀ (K : PySem.W.Frag) (H : Hp) (a : Addr) (ns : List Int), ns.length ≤ n → Only H → SqL K H a (ns.map V.int) → sp K [.ref a] H (fun v _ => v = .bl true) E0) :
    PySem.W.WalkO q loose XP YP l.row.toRowW d [] (fun f vs => PySem.call f vs) := by
  refine Att.attach_call hn hdf fun w s0 s1 mg mb fa o pm cd doc a vs ns G Y ho hd hcd hmg hobj hints hlen hgen => ?_
  obtain ⟨fd, bd, FG⟩ := F w mg fa _ (hY w _ Y) G.T.g hmg
  exact law_callG (hY w _ Y) G.T.g G.T.b G.T.builtins G.T.nolimit hgen hobj hints (Nat.le_trans hlen hn2) hr hgd FG bd fun H only seq => hsp (K w.params) H a ns hlen only seq
end K25
/-! K25Base: names of the built-ins, calls, heaps: lots, rows, tables, decks. -/
namespace K25
open PySem PySem.Spec PyProof.Rows L2 Evl

def topS (i : Nat) : Stmt := PySem.Challenge.pw_piecetrees_k25_whole_next_firm_is_none_j.main.body.getD i (.Pass ⟨0, 0, 0, 0⟩)
theorem bb_tuple : bootBuiltins "tuple" = some (.type "tuple") := by decide +kernel
theorem bb_list : bootBuiltins "list" = some (.type "list") := by decide +kernel
theorem bb_int : bootBuiltins "int" = some (.type "int") := by decide +kernel
theorem bb_sorted : bootBuiltins "sorted" = some (.builtin "sorted") := by decide +kernel
theorem bb_min : bootBuiltins "min" = some (.builtin "min") := by decide +kernel
theorem bb_repr : bootBuiltins "repr" = some (.builtin "repr") := by decide +kernel
/-- the built-ins' names are the built-ins' still -/
structure Txt (mg : Str → Option Value) : Prop where
  len : mg "len" = none
  range : mg "range" = none
  tuple : mg "tuple" = none
  list : mg "list" = none
  enumerate : mg "enumerate" = none
  sorted : mg "sorted" = none
  min : mg "min" = none
  int : mg "int" = none
  repr : mg "repr" = none
/-- a def of the text, called by its name -/
structure Cal (P : Program) (w : World) (K : PySem.W.Frag) (mg : Str → Option Value) (base : Heap) (k : Nat) (x : Str) (ps : List Str) (sp : Sp) : Prop where
  ex : ∃ f fd, FnOk P w K mg base CX0 k f fd ps sp ∧ mg x = some (.ref f) ∧ PySem.W.keepIn K (.ref f) = true ∧ Binds K fd ps []
structure CalG (P : Program) (w : World) (K : PySem.W.Frag) (mg : Str → Option Value) (base : Heap) (k : Nat) (x : Str) (ps : List Str) (sp : Sp) : Prop where
  ex : ∃ f fd, FnG P w K mg base k f fd ps sp ∧ mg x = some (.ref f) ∧ PySem.W.keepIn K (.ref f) = true ∧ Binds K fd ps []
section
variable {X : Cx} {k j : Nat} {ps : List Str} {sp : Sp} {x : Str} {p pos : Pos} {e : Expr} {es : List Expr} {t : TA}
theorem pe_cal (c : Cal X.prog X.w X.K X.mg X.base k x ps sp) (hr : Room j X.A) (hk : k ≤ j) (hg : Gl X x) (ha : PA X (e :: es) t) (hdb : (x == ("__debug__" : Str)) = false := by decide)
    (he : starEach (e :: es) X.env = (false, eval e X.env) :: starEach es X.env := by rfl) (hpl : (backTo pos (starEach es X.env)).any (·.1) = false := by rfl) : PE X (.Call (.Name x p) (e :: es) [] pos) (tCall sp [] E0 t) := by
  obtain ⟨f, fd, F, hm, kp, hb⟩ := c.ex
  exact pe_call F (hr.mono hk) hg hm kp hb .nil pass0 ha hdb he hpl
theorem pe_calG' (c : CalG X.prog X.w X.K X.mg X.base k x ps sp) (hgd : X.A.guards = some []) (hr : Room j X.A) (hk : k ≤ j) (hg : Gl X x) (ha : PA X (e :: es) t) (hdb : (x == ("__debug__" : Str)) = false := by decide)
    (he : starEach (e :: es) X.env = (false, eval e X.env) :: starEach es X.env := by rfl) (hpl : (backTo pos (starEach es X.env)).any (·.1) = false := by rfl) : PE X (.Call (.Name x p) (e :: es) [] pos) (tCall sp [] E0 t) := by
  obtain ⟨f, fd, F, hm, kp, hb⟩ := c.ex
  exact pe_callG F hgd (hr.mono hk) hg hm kp hb ha hdb he hpl
end

/-! ### the rules with the written part named (within a comprehension the context is another, K is the same) -/
section
variable {X : Cx} {K : PySem.W.Frag} {e l a : Expr} {es : List Expr} {te tl : TE} {t : TGs} {tg : Expr} {n : Nat} {kk : Nat} {pos apos cpos : Pos} {ta to : TE} {tA : TA}
theorem ix_listK (h : X.K = K) : IxR X (rIxL K) := h ▸ ix_list
theorem ix_tupK (h : X.K = K) : IxR X (rIxT K) := h ▸ ix_tup
theorem sl_listK (h : X.K = K) : SlR X (rSlL K) := h ▸ sl_list
theorem sl_tupK (h : X.K = K) : SlR X (rSlA K) := h ▸ sl_tupA
theorem op_inK (h : X.K = K) : OpR X (compareOp .In) (rIn K false) := h ▸ op_in_seq
theorem op_niK (h : X.K = K) : OpR X (compareOp .NotIn) (rIn K true) := h ▸ op_notIn_seq
theorem op_eqK (h : X.K = K) (hu : X.A.units + 64 < cLine) : OpR X (compareOp .Eq) (rEqD K) := h ▸ op_eqD hu
theorem op_neK (h : X.K = K) (hu : X.A.units + 64 < cLine) : OpR X (compareOp .NotEq) (rNeD K) := h ▸ op_neD hu
theorem op_catK (h : X.K = K) : OpR X (binaryOp .Add) (rCatA K) := h ▸ op_catA
def rLen2 (K : PySem.W.Frag) : List V → Hp → VK → Prop := fun xs H Q => ∃ p ys, xs = [.ref p] ∧ (SqL K H p ys ∨ SqT K H p ys) ∧ Q (.int ys.length) H
theorem call_lenK (h : X.K = K) : CallR X (.builtin "len") (rLen2 K) := h ▸ call_len_seq
def rList2 (K : PySem.W.Frag) : List V → Hp → VK → Prop := fun xs H Q => ∃ p ys, xs = [.ref p] ∧ (SqL K H p ys ∨ SqT K H p ys) ∧ ∀ l, H l = none → Q (.ref l) (upd H l (.lst ys))
theorem call_listK (h : X.K = K) : CallR X (.type "list") (rList2 K) := h ▸ call_list_of
def rTuple2 (K : PySem.W.Frag) : List V → Hp → VK → Prop := fun xs H Q => ∃ p ys, xs = [.ref p] ∧ ((SqL K H p ys ∧ ∀ l, H l = none → Q (.ref l) (upd H l (.tup ys))) ∨ (SqT K H p ys ∧ Q (.ref p) H))
theorem call_tupleK (h : X.K = K) : CallR X (.type "tuple") (rTuple2 K) := h ▸ call_tuple_of
def rSortT (K : PySem.W.Frag) : List V → Hp → VK → Prop := fun vs H Q => ∃ (a : Addr) (ns : List Int), vs = [V.ref a] ∧ SqT K H a (ns.map V.int) ∧ ns.length < 64 ∧
    ∀ (ns' : List Int) (p : Addr), ns'.Perm ns → H p = none → Q (.ref p) (upd H p (.lst (ns'.map V.int)))
theorem cr_sortK (h : X.K = K) : CallR X (.builtin "sorted") (rSortT K) := h ▸ cr_sortedT
theorem cr_minK (h : X.K = K) (hc : X.calm = true) : CallR X (.builtin "min") (rMin K) := h ▸ cr_min hc
def rMinT (K : PySem.W.Frag) : List V → Hp → VK → Prop := fun vs H Q => ∃ (a : Addr) (ps : List Addr) (Ls : List (List Int)), vs = [V.ref a] ∧ SqL K H a (ps.map V.ref) ∧ TupsAt K H ps Ls ∧ 0 < ps.length ∧
    ∀ (i : Nat) (p : Addr) (L : List Int), ps[i]? = some p → Ls[i]? = some L → (∀ M ∈ Ls, HT.lexLt M L = false) → Q (.ref p) H
theorem cr_minTK (h : X.K = K) (hc : X.calm = true) (hu : X.A.units + 1 < cLine) : CallR X (.builtin "min") (rMinT K) := h ▸ cr_minT hc hu
def rRepr (K : PySem.W.Frag) : List V → Hp → VK → Prop := fun vs H Q => ∃ (a : Addr) (d : PyData), vs = [V.ref a] ∧ Dp K H (.ref a) d ∧ d.showable = true ∧ d.hasDict = false ∧ d.depth ≤ 60 ∧
    d.shown.length ≤ sizeLine ∧ Q (.str d.shown) H
theorem cr_reprK (h : X.K = K) (hg : X.A.guards = some []) (hu : X.A.units + 64 < cLine) : CallR X (.builtin "repr") (rRepr K) := h ▸ cr_repr hg hu
theorem pi_listK (h : X.K = K) (hl : PE X l tl) : PI X tg l (iList K tl) := h ▸ pi_list hl
theorem pi_tupK (h : X.K = K) (hl : PE X l tl) : PI X tg l (iTup K tl) := h ▸ pi_tup hl
theorem pi_enumLK {p tpos : Pos} {elts : List Expr} (h : X.K = K) (hg : Gl X "enumerate") (hm : X.mg "enumerate" = none) (ha : PA X [e] tA) (hs : starEach [e] X.env = [(false, eval e X.env)] := by rfl) :
    PI X (.Tuple elts kk tpos) (.Call (.Name "enumerate" p) [e] [] pos) (iEnum K tA) := h ▸ pi_enum hg hm ha hs
theorem pi_enumTK {p tpos : Pos} {elts : List Expr} (h : X.K = K) (hg : Gl X "enumerate") (hm : X.mg "enumerate" = none) (ha : PA X [e] tA) (hs : starEach [e] X.env = [(false, eval e X.env)] := by rfl) :
    PI X (.Tuple elts kk tpos) (.Call (.Name "enumerate" p) [e] [] pos) (iEnumT K tA) := h ▸ pi_enumT hg hm ha hs
theorem pg_tupK (h : X.K = K) (hc : X.calm = true) (hs : PGs X es t) (hn : (assignEach es X.env).length = n := by rfl) (hst : (assignEach es X.env).findIdx? (·.1) = none := by rfl) : PG X (.Tuple es kk pos) (gTup K n t) := h ▸ pg_tup hc hs hn hst
def tTru2 (K : PySem.W.Frag) (ta : TE) : TT := fun σ H Q => ta σ H fun x H' => ∃ k, TruV K x H' k ∧ Q k H'
theorem pt_truK (h : X.K = K) (ha : PE X a ta) (he : ∀ whole, isTrue a X.env whole = (do let v ← whole; standAt a.pos; holding [v] (truthy v)) := by intro _; rfl) : PT X a (tTru2 K ta) := h ▸ pt_truth ha he
end
/-- a conditional as a test -/
def tIfT (t u v : TT) : TT := fun σ H Q => t σ H fun c H1 => if c = true then u σ H1 Q else v σ H1 Q
theorem pt_ifExp {X : Cx} {c a b : Expr} {pos : Pos} {t u v : TT} (hc : PT X c t) (ha : PT X a u) (hb : PT X b v) : PT X (.IfExp c a b pos) (tIfT t u v) := by
  refine ⟨fun pins s σ H Q I h => isTrue_IfExp (thn (hc.run pins s σ H _ I h) fun k s1 ⟨H1, I1, q⟩ => ?_)⟩
  cases k with
  | true =>
    have q' : u σ H1 Q := q
    exact ha.run pins s1 σ H1 Q I1 q'
  | false =>
    have q' : v σ H1 Q := q
    exact hb.run pins s1 σ H1 Q I1 q'
theorem et_if {t u v : TT} {σ : L2.St} {H : Hp} {b c : Bool} (h : EvT t σ H b) (h1 : b = true → EvT u σ H c) (h2 : b = false → EvT v σ H c) : EvT (tIfT t u v) σ H c := fun H1 e Q q => h H1 e _ fun H2 e2 => by
  cases b with
  | true =>
    show u σ H2 Q
    exact h1 rfl H2 (e.trans e2) Q fun H3 e3 => q H3 (e2.trans e3)
  | false =>
    show v σ H2 Q
    exact h2 rfl H2 (e.trans e2) Q fun H3 e3 => q H3 (e2.trans e3)

/-! ### heaps -/
abbrev nV (n : Nat) : V := .int (n : Int)
def lotV (L : List Nat) : List V := L.map nV
def rowV (n : Nat) (f : Nat → Int) : List V := (List.range n).map fun j => .int (f j)
theorem rowV_len (n : Nat) (f : Nat → Int) : (rowV n f).length = n := by unfold rowV; rw [List.length_map, List.length_range]
theorem rowV_at {n j : Nat} {f : Nat → Int} (h : j < n) : (rowV n f)[j]? = some (.int (f j)) := by
  unfold rowV
  rw [List.getElem?_map, List.getElem?_range h]
  rfl
theorem lotV_len (L : List Nat) : (lotV L).length = L.length := by unfold lotV; rw [List.length_map]
theorem lotV_at {L : List Nat} {i x : Nat} (h : L[i]? = some x) : (lotV L)[i]? = some (nV x) := by
  unfold lotV
  rw [List.getElem?_map, h]
  rfl
theorem of_lotV {L : List Nat} {i : Nat} {v : V} (h : (lotV L)[i]? = some v) : ∃ x, L[i]? = some x ∧ v = nV x := by
  unfold lotV at h
  rw [List.getElem?_map] at h
  cases e : L[i]? with
  | none => rw [e] at h; cases h
  | some x => rw [e] at h; exact ⟨x, rfl, (Option.some.inj h).symm⟩
/-- n rows of n looks each at a place of its own: kd says lists or tuples -/
def Mat (kd : List V → HO) (n : Nat) (M : Nat → Nat → Int) (H : Hp) (R : Addr) : Prop :=
  ∃ ps : List Addr, ps.length = n ∧ H R = some (kd (ps.map .ref)) ∧ ∀ (i : Nat) (p : Addr), ps[i]? = some p → H p = some (kd (rowV n (M i)))
theorem Mat.mono {kd : List V → HO} {n : Nat} {M : Nat → Nat → Int} {H H' : Hp} {R : Addr} (h : Mat kd n M H R) (e : Ex H H') : Mat kd n M H' R :=
  let ⟨ps, h1, h2, h3⟩ := h
  ⟨ps, h1, e _ _ h2, fun i p q => e _ _ (h3 i p q)⟩
def TabAt (n : Nat) (M : Nat → Nat → Int) (H : Hp) (t : Addr) : Prop := ∃ R, H t = some (.tup [nV n, .ref R]) ∧ Mat .tup n M H R
theorem TabAt.mono {n : Nat} {M : Nat → Nat → Int} {H H' : Hp} {R : Addr} (h : TabAt n M H R) (e : Ex H H') : TabAt n M H' R :=
  let ⟨r, h1, h2⟩ := h
  ⟨r, e _ _ h1, h2.mono e⟩
/-- lots, each a tuple at its place -/
def Tups (H : Hp) (ps : List Addr) (Ls : List (List Nat)) : Prop := ps.length = Ls.length ∧ ∀ (i : Nat) (p : Addr) (L : List Nat), ps[i]? = some p → Ls[i]? = some L → H p = some (.tup (lotV L))
def LotsAt (kd : List V → HO) (H : Hp) (a : Addr) (Ls : List (List Nat)) : Prop := ∃ ps : List Addr, H a = some (kd (ps.map .ref)) ∧ Tups H ps Ls
theorem Tups.mono {H H' : Hp} {ps : List Addr} {Ls : List (List Nat)} (h : Tups H ps Ls) (e : Ex H H') : Tups H' ps Ls := ⟨h.1, fun i p L q1 q2 => e _ _ (h.2 i p L q1 q2)⟩
theorem LotsAt.mono {kd : List V → HO} {H H' : Hp} {a : Addr} {Ls : List (List Nat)} (h : LotsAt kd H a Ls) (e : Ex H H') : LotsAt kd H' a Ls :=
  let ⟨ps, h1, h2⟩ := h
  ⟨ps, e _ _ h1, h2.mono e⟩
theorem Tups.snoc {H : Hp} {ps : List Addr} {Ls : List (List Nat)} {p : Addr} {L : List Nat} (h : Tups H ps Ls) (hp : H p = some (.tup (lotV L))) : Tups H (ps ++ [p]) (Ls ++ [L]) := by
  refine ⟨by rw [List.length_append, List.length_append, h.1]; rfl, fun i q M q1 q2 => ?_⟩
  by_cases lt : i < ps.length
  · rw [List.getElem?_append_left lt] at q1
    rw [List.getElem?_append_left (by rw [← h.1]; exact lt)] at q2
    exact h.2 i q M q1 q2
  · rw [List.getElem?_append_right (by omega)] at q1
    rw [List.getElem?_append_right (by rw [← h.1]; omega), ← h.1] at q2
    cases e : i - ps.length with
    | zero =>
      rw [e] at q1 q2
      cases q1
      cases q2
      exact hp
    | succ m =>
      rw [e] at q1
      simp at q1
theorem Tups.nil {H : Hp} : Tups H [] [] := ⟨rfl, fun i p L q => by simp at q⟩
theorem Tups.append {H : Hp} {ps qs : List Addr} {Ls Ms : List (List Nat)} (h : Tups H ps Ls) (h2 : Tups H qs Ms) : Tups H (ps ++ qs) (Ls ++ Ms) := by
  refine ⟨by rw [List.length_append, List.length_append, h.1, h2.1], fun i q M q1 q2 => ?_⟩
  by_cases lt : i < ps.length
  · rw [List.getElem?_append_left lt] at q1
    rw [List.getElem?_append_left (by rw [← h.1]; exact lt)] at q2
    exact h.2 i q M q1 q2
  · rw [List.getElem?_append_right (by omega)] at q1
    rw [List.getElem?_append_right (by rw [← h.1]; omega), ← h.1] at q2
    exact h2.2 _ q M q1 q2
/-- the deck: the great cells at l, a mixed number, a count -/
def Deck (a l : Addr) (H : Hp) : Prop := ∃ (ns : List Int) (w c : Int), H a = some (.lst [.ref l, .int w, .int c]) ∧ H l = some (.lst (ns.map V.int))
theorem Deck.ne {a l : Addr} {H : Hp} (h : Deck a l H) : a ≠ l := by
  obtain ⟨ns, w, c, h1, h2⟩ := h
  refine ne_of h1 h2 fun e => ?_
  injection e with e
  cases ns with
  | nil => cases e
  | cons n t => exact nomatch (List.cons.inj e).1
/-- H without the deck: what stands of it stays, whatever is drawn -/
def off (a l : Addr) (H : Hp) : Hp := fun b => if b = a ∨ b = l then none else H b
def Keep (a l : Addr) (H H' : Hp) : Prop := Ex (off a l H) H'
theorem off_at {a l b : Addr} {H : Hp} (h : b ≠ a) (h2 : b ≠ l) : off a l H b = H b := if_neg fun q => q.elim h h2
theorem off_some {a l b : Addr} {H : Hp} {o : HO} (h : off a l H b = some o) : b ≠ a ∧ b ≠ l ∧ H b = some o := by
  unfold off at h
  split at h
  · cases h
  · rename_i n
    exact ⟨fun e => n (.inl e), fun e => n (.inr e), h⟩
theorem Keep.of {a l : Addr} {H H' : Hp} (e : Ex H H') : Keep a l H H' := fun b o h => e b o (off_some h).2.2
theorem Keep.at {a l b : Addr} {H H' : Hp} {o : HO} (k : Keep a l H H') (h1 : b ≠ a) (h2 : b ≠ l) (h : H b = some o) : H' b = some o := k b o (by rw [off_at h1 h2]; exact h)
theorem Keep.trans {a l : Addr} {H H1 H2 : Hp} (k : Keep a l H H1) (k2 : Keep a l H1 H2) : Keep a l H H2 := fun b o h => k2.at (off_some h).1 (off_some h).2.1 (k b o h)
theorem Deck.mono {a l : Addr} {H H' : Hp} (h : Deck a l H) (e : Ex H H') : Deck a l H' :=
  let ⟨ns, w, c, h1, h2⟩ := h
  ⟨ns, w, c, e _ _ h1, e _ _ h2⟩
/-- fresh behind is fresh ahead, and no part of the deck -/
theorem Keep.free {a l p : Addr} {H H' : Hp} (k : Keep a l H H') (d : Deck a l H') (h : H' p = none) : H p = none ∧ p ≠ a ∧ p ≠ l := by
  obtain ⟨ns, w, c, h1, h2⟩ := d
  have na : p ≠ a := fun e => by rw [e, h1] at h; cases h
  have nl : p ≠ l := fun e => by rw [e, h2] at h; cases h
  refine ⟨?_, na, nl⟩
  cases e : H p with
  | none => rfl
  | some o => rw [k.at na nl e] at h; cases h
end K25
/-! K25Ev: readings evaluated: items of matrices, comprehensions over tuples and ranges, comprehensions that make objects. -/
namespace K25
open PySem PySem.Spec PyProof.Rows L2 Evl
section
variable {K : PySem.W.Frag} {σ : L2.St} {H H' : Hp} {ta tb tc te tl : TE} {t : TT} {x y z v : V}
theorem ev_ixT {p : Addr} {xs : List V} {i : Nat} (ha : Ev ta σ H (.ref p)) (hb : Ev tb σ H (nV i)) (h : H p = some (.tup xs)) (hi : xs[i]? = some v) : Ev (tOp (rIxT K) ta tb) σ H v := ev_op ha hb (rv_ixT (st_of h) (atI_nat hi))
theorem ev_ixL {p : Addr} {xs : List V} {i : Nat} (ha : Ev ta σ H (.ref p)) (hb : Ev tb σ H (nV i)) (h : H p = some (.lst xs)) (hi : xs[i]? = some v) : Ev (tOp (rIxL K) ta tb) σ H v := ev_op ha hb (rv_ixL (sq_of h) (atI_nat hi))
theorem ev_ix2T {n i j : Nat} {M : Nat → Nat → Int} {R : Addr} (m : Mat .tup n M H R) (hi : i < n) (hj : j < n) (ha : Ev ta σ H (.ref R)) (hb : Ev tb σ H (nV i)) (hc : Ev tc σ H (nV j)) : Ev (tOp (rIxT K) (tOp (rIxT K) ta tb) tc) σ H (.int (M i j)) := by
  obtain ⟨ps, h1, h2, h3⟩ := m
  have e : ps[i]? = some ps[i] := List.getElem?_eq_getElem (by omega)
  exact ev_ixT (ev_ixT ha hb h2 (by rw [List.getElem?_map, e]; rfl)) hc (h3 i _ e) (rowV_at hj)
theorem ev_ix2L {n i j : Nat} {M : Nat → Nat → Int} {R : Addr} (m : Mat .lst n M H R) (hi : i < n) (hj : j < n) (ha : Ev ta σ H (.ref R)) (hb : Ev tb σ H (nV i)) (hc : Ev tc σ H (nV j)) : Ev (tOp (rIxL K) (tOp (rIxL K) ta tb) tc) σ H (.int (M i j)) := by
  obtain ⟨ps, h1, h2, h3⟩ := m
  have e : ps[i]? = some ps[i] := List.getElem?_eq_getElem (by omega)
  exact ev_ixL (ev_ixL ha hb h2 (by rw [List.getElem?_map, e]; rfl)) hc (h3 i _ e) (rowV_at hj)
theorem ev_lenT {p : Addr} {xs : List V} (ha : Ev ta σ H (.ref p)) (h : H p = some (.tup xs)) : Ev (tCB (rLen2 K) (tCons ta tNil)) σ H (nV xs.length) := fun H1 e Q q =>
  ha H1 e _ fun H2 e2 => ⟨p, xs, rfl, Or.inr (ex_t (e.trans e2) (st_of h)), q H2 e2⟩
theorem ev_lenL {p : Addr} {xs : List V} (ha : Ev ta σ H (.ref p)) (h : H p = some (.lst xs)) : Ev (tCB (rLen2 K) (tCons ta tNil)) σ H (nV xs.length) := fun H1 e Q q =>
  ha H1 e _ fun H2 e2 => ⟨p, xs, rfl, Or.inl (ex_l (e.trans e2) (sq_of h)), q H2 e2⟩
theorem ev_I {f : Int → Int → V} {i j : Int} (ha : Ev ta σ H (.int i)) (hb : Ev tb σ H (.int j)) : Ev (tOp (rI0 f) ta tb) σ H (f i j) := ev_op ha hb rv_I0
theorem ev_IC {C : Int → Int → Prop} {f : Int → Int → V} {i j : Int} (ha : Ev ta σ H (.int i)) (hb : Ev tb σ H (.int j)) (c : C i j) : Ev (tOp (rI C f) ta tb) σ H (f i j) := ev_op ha hb (rv_I c)
theorem ev_addN {i j : Nat} (ha : Ev ta σ H (nV i)) (hb : Ev tb σ H (nV j)) : Ev (tOp (rI0 fun i j => .int (i + j)) ta tb) σ H (nV (i + j)) :=
  ev_is (ev_I (f := fun i j => .int (i + j)) ha hb) (by show V.int ((i : Int) + (j : Int)) = V.int ((i + j : Nat) : Int); rw [Int.natCast_add])
/-- tests of whole numbers -/
theorem et_eqI {i j : Int} (ha : Ev ta σ H (.int i)) (hb : Ev tb σ H (.int j)) : EvT (tTest (tOp rEq ta tb)) σ H (decide (i = j)) :=
  et_is (et_test (ev_op ha hb (rv_eq (x := .int i) (y := .int j) rfl))) (by rw [Bool.eq_iff_iff]; simp)
theorem et_neI {i j : Int} (ha : Ev ta σ H (.int i)) (hb : Ev tb σ H (.int j)) : EvT (tTest (tOp rNe ta tb)) σ H (!decide (i = j)) :=
  et_is (et_test (ev_op ha hb (rv_ne (x := .int i) (y := .int j) rfl))) (by rw [Bool.eq_iff_iff]; simp)
theorem et_I {f : Int → Int → Bool} {i j : Int} (ha : Ev ta σ H (.int i)) (hb : Ev tb σ H (.int j)) : EvT (tTest (tOp (rI0 fun i j => .bl (f i j)) ta tb)) σ H (f i j) := et_test (ev_I (f := fun i j => .bl (f i j)) ha hb)
/-- a number in a lot, not in a lot -/
theorem inV_lot {L : List Nat} {k : Nat} : inV (nV k) (lotV L) = decide (k ∈ L) := by
  rw [Bool.eq_iff_iff]
  unfold inV lotV
  rw [List.any_eq_true, decide_eq_true_eq]
  constructor
  · rintro ⟨y, hy, e⟩
    obtain ⟨m, hm, rfl⟩ := List.mem_map.mp hy
    have e' : m = k := by
      have q : (m : Int) = k := by simpa [eqV] using e
      omega
    rw [← e']
    exact hm
  · intro h
    exact ⟨nV k, List.mem_map.mpr ⟨k, h, rfl⟩, by simp [eqV]⟩
theorem flat_lot (L : List Nat) : (lotV L).all flatV = true := by
  unfold lotV
  rw [List.all_eq_true]
  intro y hy
  obtain ⟨m, _, rfl⟩ := List.mem_map.mp hy
  rfl
theorem et_niT {p : Addr} {L : List Nat} {k : Nat} (ha : Ev ta σ H (nV k)) (hb : Ev tb σ H (.ref p)) (h : H p = some (.tup (lotV L))) : EvT (tTest (tOp (rIn K true) ta tb)) σ H (!decide (k ∈ L)) :=
  et_is (et_test (ev_op ha hb (rv_niT (st_of h) rfl (flat_lot L)))) (by rw [inV_lot])
theorem et_niL {p : Addr} {L : List Nat} {k : Nat} (ha : Ev ta σ H (nV k)) (hb : Ev tb σ H (.ref p)) (h : H p = some (.lst (lotV L))) : EvT (tTest (tOp (rIn K true) ta tb)) σ H (!decide (k ∈ L)) :=
  et_is (et_test (ev_op ha hb (rv_niL (sq_of h) rfl (flat_lot L)))) (by rw [inV_lot])
theorem et_niU {L : List Nat} {k : Nat} (ha : Ev ta σ H (nV k)) (hb : EvU tb σ H (lotV L)) : EvT (tTest (tOp (rIn K true) ta tb)) σ H (!decide (k ∈ L)) :=
  et_is (et_test (ev_niU ha hb rfl (flat_lot L))) (by rw [inV_lot])
/-! ### new objects -/
def EvN (kd : List V → HO) (te : TE) (σ : L2.St) (H : Hp) (xs : List V) : Prop := ∀ H1, Ex H H1 → ∀ Q : VK, (∀ p H2, H1 p = none → Ex H1 H2 → H2 p = some (kd xs) → Q (.ref p) H2) → te σ H1 Q
theorem EvN.mono {kd : List V → HO} {xs : List V} (h : EvN kd te σ H xs) (e : Ex H H') : EvN kd te σ H' xs := fun H1 a Q q => h H1 (e.trans a) Q q
/-- tuple(a new list), list(..) -/
theorem eu_tupL {xs : List V} (h : EvL te σ H xs) : EvU (tCB (rTuple2 K) (tCons te tNil)) σ H xs := fun H1 e Q q =>
  h H1 e _ fun p H2 hp e2 h2 => ⟨p, xs, rfl, Or.inl ⟨sq_of h2, fun l hl => q l _ (fresh_back e2 hl) (e2.trans (Ex.new hl)) upd_same⟩⟩
theorem eu_tupl {p : Addr} {xs : List V} (h : Ev te σ H (.ref p)) (hp : H p = some (.lst xs)) : EvU (tCB (rTuple2 K) (tCons te tNil)) σ H xs := fun H1 e Q q =>
  h H1 e _ fun H2 e2 => ⟨p, xs, rfl, Or.inl ⟨sq_of ((e.trans e2) p _ hp), fun l hl => q l _ (fresh_back e2 hl) (e2.trans (Ex.new hl)) upd_same⟩⟩
theorem el_listOf {p : Addr} {xs : List V} (h : Ev te σ H (.ref p)) (hp : SqL K H p xs ∨ SqT K H p xs) : EvL (tCB (rList2 K) (tCons te tNil)) σ H xs := fun H1 e Q q =>
  h H1 e _ fun H2 e2 => ⟨p, xs, rfl, hp.imp (ex_l (e.trans e2)) (ex_t (e.trans e2)), fun l hl => q l _ (fresh_back e2 hl) (e2.trans (Ex.new hl)) upd_same⟩
/-- t + u of tuples, u made on the way, not empty -/
theorem eu_cat {p : Addr} {xs ys : List V} (ha : Ev ta σ H (.ref p)) (hb : EvU tb σ H ys) (h : H p = some (.tup xs)) (hy : ys ≠ []) (hz : xs.length + ys.length ≤ 100000) : ∀ H1, Ex H H1 → ∀ Q : VK, (∀ q H2, Ex H1 H2 → H2 q = some (.tup (xs ++ ys)) → H1 q = none → Q (.ref q) H2) → tOp (rCatA K) ta tb σ H1 Q := fun H1 e Q q =>
  ha H1 e _ fun H2 e2 => hb H2 (e.trans e2) _ fun r H3 nr e3 hr => ⟨p, r, xs, ys, rfl, rfl, st_of (((e.trans e2).trans e3) p _ h), st_of hr, sz_of hz,
    fun ex => by subst ex; exact q r H3 (e2.trans e3) (by rw [List.nil_append]; exact hr) (fresh_back e2 nr), fun _ ey => absurd ey hy,
    fun _ _ s ns => q s _ ((e2.trans e3).trans (Ex.new ns)) upd_same (fresh_back (e2.trans e3) ns)⟩
theorem eu_catN {p : Addr} {xs ys : List V} (ha : Ev ta σ H (.ref p)) (hb : EvU tb σ H ys) (h : H p = some (.tup xs)) (hy : ys ≠ []) (hz : xs.length + ys.length ≤ 100000) : EvU (tOp (rCatA K) ta tb) σ H (xs ++ ys) := fun H1 e Q q =>
  eu_cat ha hb h hy hz H1 e Q fun s H2 e2 h2 ns => q s H2 ns e2 h2
/-- list * int -/
theorem el_rep {xs : List V} {k : Nat} (ha : EvL ta σ H xs) (hb : Ev tb σ H (nV k)) (hk : k ≤ 1000) (hz : xs.length ≤ 10) : EvL (tOp rRep ta tb) σ H (List.replicate k xs).flatten := fun H1 e Q q =>
  ha H1 e _ fun p H2 np e2 hp => hb H2 (e.trans e2) _ fun H3 e3 => ⟨p, (k : Int), xs, rfl, rfl, e3 p _ hp, by omega, by omega, by
    rw [Int.toNat_natCast]
    exact sz_of (Nat.le_trans (Nat.mul_le_mul hz hk) (by decide)), fun l hl => q l _ (fresh_back (e2.trans e3) hl) ((e2.trans e3).trans (Ex.new hl)) (by rw [upd_same, Int.toNat_natCast])⟩
/-- tuple(range(n)), list(range(n)) -/
theorem rgV_nat (n : Nat) : rgV 0 (n : Int) = lotV (List.range n) := by
  unfold rgV lotV
  rw [show ((n : Int) - 0).toNat = n by omega]
  refine List.map_congr_left fun i _ => ?_
  show V.int (0 + (i : Int)) = V.int (i : Int)
  rw [Int.zero_add]
theorem eu_rg {n : Nat} (h : Ev te σ H (nV n)) (hn : n ≤ 100000) : EvU (tTupRg (tRg1 te)) σ H (lotV (List.range n)) := fun H1 e Q q =>
  h H1 e _ fun H2 e2 => ⟨(n : Int), rfl, .of_le (by omega) (by omega) (by omega) (by omega), fun l hl => by
    rw [rgV_nat]
    exact q l _ (fresh_back e2 hl) (e2.trans (Ex.new hl)) upd_same⟩
theorem el_rg {n : Nat} (h : Ev te σ H (nV n)) (hn : n ≤ 100000) : EvL (tLstRg (tRg1 te)) σ H (lotV (List.range n)) := fun H1 e Q q =>
  h H1 e _ fun H2 e2 => ⟨(n : Int), rfl, .of_le (by omega) (by omega) (by omega) (by omega), fun l hl => by
    rw [rgV_nat]
    exact q l _ (fresh_back e2 hl) (e2.trans (Ex.new hl)) upd_same⟩
/-! ### comprehensions over a tuple; comprehensions of new objects -/
theorem el_lcT {a : Addr} {xs : List V} {j : Nat} {vs : List Nat} (f : Nat → Bool) (v : Nat → V) (h : Ev tl σ H (.ref a)) (hx : SqT K H a xs) (hz : xs.length ≤ 40000) (hw : ∀ x, wipe ((wipe σ vs).set j (some x)) vs = wipe σ vs)
    (ht : ∀ (i : Nat) (x : V) H1, Ex H H1 → xs[i]? = some x → EvT t ((wipe σ vs).set j (some x)) H1 (f i)) (he : ∀ (i : Nat) (x : V) H1, Ex H H1 → xs[i]? = some x → f i = true → Ev te ((wipe σ vs).set j (some x)) H1 (v i)) :
    EvL (tLc (iTup K tl) (gName j) t te vs) σ H (given xs.length f v) := fun H0 e Q q => h H0 e _ fun H1 e1 => ⟨a, rfl, ⟨xs, ex_t (e.trans e1) hx⟩, fun Dl hD =>
  lc_tup (xs := xs) (Cw H1 f v Dl) ⟨hD, Ex.new hD, upd_same⟩ (fun i H' _ p => ex_t ((e.trans e1).trans p.2.1) hx) (fun i x H' hi p => ⟨hw x, cw_turn p (by have := (List.getElem?_eq_some_iff.mp hi).1; omega) (ht i x H1 (e.trans e1) hi) (fun hf => he i x H1 (e.trans e1) hi hf)⟩)
    (fun H' p => q Dl H' (fresh_back e1 p.1) (e1.trans p.2.1) p.2.2)⟩
/-- what a comprehension of n new objects leaves: the list at D, the objects at ps -/
structure News (kd : List V → HO) (H1 H2 : Hp) (n : Nat) (os : Nat → List V) (D : Addr) (ps : List Addr) : Prop where
  len : ps.length = n
  nd : ps.Nodup
  nD : H1 D = none
  out : D ∉ ps
  free : ∀ p ∈ ps, H1 p = none
  ex : Ex H1 H2
  lst : H2 D = some (.lst (ps.map .ref))
  obj : ∀ (i : Nat) (p : Addr), ps[i]? = some p → H2 p = some (kd (os i))
def EvNs (kd : List V → HO) (te : TE) (σ : L2.St) (H : Hp) (n : Nat) (os : Nat → List V) : Prop := ∀ H1, Ex H H1 → ∀ Q : VK, (∀ (D : Addr) (ps : List Addr) (H2 : Hp), News kd H1 H2 n os D ps → Q (.ref D) H2) → te σ H1 Q
theorem News.back {kd : List V → HO} {H0 H1 H2 : Hp} {n : Nat} {os : Nat → List V} {D : Addr} {ps : List Addr} (e : Ex H0 H1) (w : News kd H1 H2 n os D ps) : News kd H0 H2 n os D ps :=
  ⟨w.len, w.nd, fresh_back e w.nD, w.out, fun p hp => fresh_back e (w.free p hp), e.trans w.ex, w.lst, w.obj⟩
theorem News.snoc {kd : List V → HO} {H1 H2 H3 : Hp} {n : Nat} {os : Nat → List V} {D p : Addr} {ps : List Addr} (w : News kd H1 H2 n os D ps) (hp : H2 p = none) (e : Ex H2 H3) (h : H3 p = some (kd (os n))) :
    News kd H1 (upd H3 D (.lst (ps.map .ref ++ [.ref p]))) (n + 1) os D (ps ++ [p]) := by
  have npD : p ≠ D := fun q => by rw [q, w.lst] at hp; cases hp
  have nps : p ∉ ps := fun q => by
    obtain ⟨i, hi, ei⟩ := List.getElem_of_mem q
    have z := w.obj i p (by rw [List.getElem?_eq_getElem hi, ei])
    rw [hp] at z
    cases z
  refine ⟨by rw [List.length_append, w.len]; rfl, ?_, w.nD, ?_, ?_, Ex.mut (w.ex.trans e) w.nD, by rw [upd_same, List.map_append]; rfl, fun i q hq => ?_⟩
  · rw [List.nodup_append]
    exact ⟨w.nd, List.pairwise_singleton .., fun a ha b hb e => by rw [List.mem_singleton.mp hb] at e; exact nps (e ▸ ha)⟩
  · intro q
    rcases List.mem_append.mp q with q | q
    · exact w.out q
    · exact npD (List.mem_singleton.mp q).symm
  · intro q hq
    rcases List.mem_append.mp hq with z | z
    · exact w.free q z
    · rw [List.mem_singleton.mp z]
      exact fresh_back w.ex hp
  · by_cases lt : i < ps.length
    · rw [List.getElem?_append_left lt] at hq
      have z := w.obj i q hq
      rw [upd_ne (fun ee : q = D => w.out (by rw [← ee]; exact List.mem_of_getElem? hq))]
      exact e _ _ z
    · rw [List.getElem?_append_right (by omega)] at hq
      have ei : i = n := by
        have := (List.getElem?_eq_some_iff.mp hq).1
        rw [List.length_singleton] at this
        have := w.len
        omega
      subst ei
      rw [w.len, Nat.sub_self] at hq
      cases hq
      rw [upd_ne npD]
      exact h
theorem news_lc {J : It} {n : Nat} {G : Hp → Prop} {Y : Nat → Hp → V → Hp → Prop} {kd : List V → HO} {os : Nat → List V} {it : Nat → V} {j : Nat} {vs : List Nat} {H1 : Hp} {D : Addr} {Q : VK} (w : Walk J n G Y) (hG : ∀ H', Ex H1 H' → G H')
    (hy : ∀ i H x H', i < n → Y i H x H' → H' = H ∧ x = it i) (hn : n ≤ 40000) (hw : ∀ x, wipe ((wipe σ vs).set j (some x)) vs = wipe σ vs) (hD : H1 D = none)
    (he : ∀ (i : Nat) H2, Ex H1 H2 → i < n → EvN kd te ((wipe σ vs).set j (some (it i))) H2 (os i)) (q : ∀ D ps H2, News kd H1 H2 n os D ps → Q (.ref D) H2) :
    ∃ W : Nat → Nat → Hp → Prop, (∃ m, W 0 m (upd H1 D (.lst []))) ∧ ∀ i m H, W i m H →
      (J.stop i H ∧ Q (.ref D) H) ∨ (J.go i H ∧ ∃ Nx : Hp → Prop, (∀ H', Nx H' → ∃ m', m' < m ∧ W (i + 1) m' H') ∧ ∀ x H', J.yld i H x H' → gName j x (wipe σ vs) H' fun σ2 H2 => wipe σ2 vs = wipe σ vs ∧ tYes σ2 H2 fun b H3 =>
        if b = true then te σ2 H3 fun y H4 => ∃ acc, H4 D = some (.lst acc) ∧ acc.length < sizeLine ∧ Nx (upd H4 D (.lst (acc ++ [y]))) else Nx H3) := by
  refine lc_it w (Qd := fun H => Q (.ref D) H) (fun i H' => ∃ ps, News kd H1 H' i os D ps) ⟨[], ⟨rfl, List.nodup_nil, hD, List.not_mem_nil, (fun p hp => absurd hp List.not_mem_nil), Ex.new hD, upd_same, fun i p hp => absurd (List.mem_of_getElem? hp) List.not_mem_nil⟩⟩ (fun i H' _ p => hG H' p.choose_spec.ex) (fun i x H2 H3 hi p y => ?_) fun H' p => q D _ H' p.choose_spec
  obtain ⟨ps, nw⟩ := p
  obtain ⟨rfl, rfl⟩ := hy i H2 x H3 hi y
  refine ⟨hw _, ?_⟩
  show te _ H3 _
  refine he i H3 nw.ex hi H3 (Ex.refl H3) _ fun p H4 np e4 hp => ⟨ps.map .ref, e4 D _ nw.lst, ?_, ps ++ [p], nw.snoc np e4 hp⟩
  rw [List.length_map, nw.len]
  exact sz_lt (by omega)
theorem en_lcT {a : Addr} {xs : List V} {j : Nat} {vs : List Nat} {kd : List V → HO} (os : Nat → List V) (h : Ev tl σ H (.ref a)) (hx : SqT K H a xs) (hz : xs.length ≤ 40000) (hw : ∀ x, wipe ((wipe σ vs).set j (some x)) vs = wipe σ vs)
    (he : ∀ (i : Nat) (x : V) H1, Ex H H1 → xs[i]? = some x → EvN kd te ((wipe σ vs).set j (some x)) H1 (os i)) : EvNs kd (tLc (iTup K tl) (gName j) tYes te vs) σ H xs.length os := fun H0 e Q q => h H0 e _ fun H1 e1 =>
  ⟨a, rfl, ⟨xs, ex_t (e.trans e1) hx⟩, fun D hD => news_lc (it := fun i => xs.getD i .non) (walk_tup (xs := xs)) (fun H' e' => ex_t ((e.trans e1).trans e') hx)
    (fun i H x H' hi y => ⟨y.1, by rw [List.getD_eq_getElem?_getD, y.2]; rfl⟩) hz hw hD (fun i H2 e2 hi => he i _ H2 ((e.trans e1).trans e2) (by rw [List.getD_eq_getElem?_getD, List.getElem?_eq_getElem hi]; rfl)) fun D ps H2 w => q D ps H2 (w.back e1)⟩
theorem en_lcL {a : Addr} {xs : List V} {j : Nat} {vs : List Nat} {kd : List V → HO} (os : Nat → List V) (h : Ev tl σ H (.ref a)) (hx : SqL K H a xs) (hz : xs.length ≤ 40000) (hw : ∀ x, wipe ((wipe σ vs).set j (some x)) vs = wipe σ vs)
    (he : ∀ (i : Nat) (x : V) H1, Ex H H1 → xs[i]? = some x → EvN kd te ((wipe σ vs).set j (some x)) H1 (os i)) : EvNs kd (tLc (iList K tl) (gName j) tYes te vs) σ H xs.length os := fun H0 e Q q => h H0 e _ fun H1 e1 =>
  ⟨a, rfl, ⟨xs, ex_l (e.trans e1) hx⟩, fun D hD => news_lc (it := fun i => xs.getD i .non) (walk_list (xs := xs)) (fun H' e' => ex_l ((e.trans e1).trans e') hx)
    (fun i H x H' hi y => ⟨y.1, by rw [List.getD_eq_getElem?_getD, y.2]; rfl⟩) hz hw hD (fun i H2 e2 hi => he i _ H2 ((e.trans e1).trans e2) (by rw [List.getD_eq_getElem?_getD, List.getElem?_eq_getElem hi]; rfl)) fun D ps H2 w => q D ps H2 (w.back e1)⟩
theorem en_lcNL {xs : List V} {j : Nat} {vs : List Nat} {kd : List V → HO} (os : Nat → List V) (h : EvL tl σ H xs) (hz : xs.length ≤ 40000) (hw : ∀ x, wipe ((wipe σ vs).set j (some x)) vs = wipe σ vs)
    (he : ∀ (i : Nat) (x : V) H1, Ex H H1 → xs[i]? = some x → EvN kd te ((wipe σ vs).set j (some x)) H1 (os i)) : EvNs kd (tLc (iList K tl) (gName j) tYes te vs) σ H xs.length os := fun H0 e Q q => h H0 e _ fun a H1 na e1 hx =>
  ⟨a, rfl, ⟨xs, sq_of hx⟩, fun D hD => news_lc (it := fun i => xs.getD i .non) (walk_list (xs := xs)) (fun H' e' => sq_of (e' a _ hx))
    (fun i H x H' hi y => ⟨y.1, by rw [List.getD_eq_getElem?_getD, y.2]; rfl⟩) hz hw hD (fun i H2 e2 hi => he i _ H2 ((e.trans e1).trans e2) (by rw [List.getD_eq_getElem?_getD, List.getElem?_eq_getElem hi]; rfl)) fun D ps H2 w => q D ps H2 (w.back e1)⟩
theorem en_lcR {n j : Nat} {vs : List Nat} {ta : TA} {kd : List V → HO} (os : Nat → List V) (h : EvA ta σ H [nV n]) (hz : n ≤ 40000) (hw : ∀ x, wipe ((wipe σ vs).set j (some x)) vs = wipe σ vs)
    (he : ∀ (i : Nat) H1, Ex H H1 → i < n → EvN kd te ((wipe σ vs).set j (some (nV i))) H1 (os i)) : EvNs kd (tLc (iRng1 ta) (gName j) tYes te vs) σ H n os := fun H0 e Q q => h H0 e _ fun H1 e1 =>
  ⟨(n : Int), rfl, by omega, by omega, fun D hD => by
    rw [Int.toNat_natCast]
    exact news_lc (it := fun i => nV i) walk_range (fun H' e' => trivial) (fun i H x H' hi y => ⟨y.1, by rw [y.2]; show V.int (0 + (i : Int)) = V.int (i : Int); rw [Int.zero_add]⟩) hz hw hD (fun i H2 e2 hi => he i H2 ((e.trans e1).trans e2) hi) fun D ps H2 w => q D ps H2 (w.back e1)⟩
theorem en_lcR2 {lo n j : Nat} {vs : List Nat} {ta : TA} {kd : List V → HO} (os : Nat → List V) (h : EvA ta σ H [nV lo, nV n]) (hl : lo ≤ 40000) (hz : n ≤ 40000) (hw : ∀ x, wipe ((wipe σ vs).set j (some x)) vs = wipe σ vs)
    (he : ∀ (i : Nat) H1, Ex H H1 → i < n - lo → EvN kd te ((wipe σ vs).set j (some (nV (lo + i)))) H1 (os i)) : EvNs kd (tLc (iRng2 ta) (gName j) tYes te vs) σ H (n - lo) os := fun H0 e Q q => h H0 e _ fun H1 e1 =>
  ⟨(lo : Int), (n : Int), rfl, ⟨by omega, by omega, by omega, by omega⟩, fun D hD => by
    rw [show ((n : Int) - (lo : Int)).toNat = n - lo by omega]
    exact news_lc (it := fun i => nV (lo + i)) walk_range (fun H' e' => trivial) (fun i H x H' hi y => ⟨y.1, by rw [y.2]; show V.int ((lo : Int) + (i : Int)) = V.int ((lo + i : Nat) : Int); rw [Int.natCast_add]⟩) (by omega) hw hD (fun i H2 e2 hi => he i H2 ((e.trans e1).trans e2) hi) fun D ps H2 w => q D ps H2 (w.back e1)⟩
/-- tuple(such a comprehension) -/
theorem Ns_tuple {n : Nat} {kd : List V → HO} {os : Nat → List V} (h : EvNs kd te σ H n os) : ∀ H1, Ex H H1 → ∀ Q : VK, (∀ (T : Addr) (ps : List Addr) (H2 : Hp), H1 T = none → ps.length = n → (∀ p ∈ ps, H1 p = none) → Ex H1 H2 → H2 T = some (.tup (ps.map .ref)) → (∀ (i : Nat) (p : Addr), ps[i]? = some p → H2 p = some (kd (os i))) → Q (.ref T) H2) →
    tCB (rTuple2 K) (tCons te tNil) σ H1 Q := fun H1 e Q q => h H1 e _ fun D ps H2 w => ⟨D, _, rfl, Or.inl ⟨sq_of w.lst, fun T hT => q T ps _ (fresh_back w.ex hT) w.len w.free (w.ex.trans (Ex.new hT)) upd_same fun i p hp => Ex.new hT _ _ (w.obj i p hp)⟩⟩
end
/-! ### lists by turns, told otherwise -/
theorem given_all {n : Nat} {v : Nat → V} : given n (fun _ => true) v = (List.range n).map v := by
  unfold given
  rw [List.filter_eq_self.mpr fun _ _ => rfl]
theorem range_map_get {α β : Type} (L : List α) (d : α) (g : α → β) : (List.range L.length).map (fun i => g (L.getD i d)) = L.map g := by
  refine List.ext_getElem? fun i => ?_
  rw [List.getElem?_map, List.getElem?_map]
  by_cases h : i < L.length
  · rw [List.getElem?_range h, List.getElem?_eq_getElem h, Option.map_some, Option.map_some, List.getD_eq_getElem?_getD, List.getElem?_eq_getElem h]
    rfl
  · rw [List.getElem?_eq_none (by rw [List.length_range]; omega), List.getElem?_eq_none (by omega)]
    rfl
/-- a filter of a list, by places -/
theorem given_filter {α : Type} (L : List α) (d : α) (p : α → Bool) (g : α → V) : given L.length (fun i => p (L.getD i d)) (fun i => g (L.getD i d)) = (L.filter p).map g := by
  unfold given
  have e : (List.range L.length).filter (fun i => p (L.getD i d)) = (List.range L.length).filter (p ∘ fun i => L.getD i d) := rfl
  rw [e]
  have e2 : L.filter p = ((List.range L.length).map fun i => L.getD i d).filter p := by rw [range_map_get L d fun x => x, List.map_id']
  rw [e2, List.filter_map, List.map_map]
  rfl
theorem getD_of {L : List Nat} {i x : Nat} (h : L[i]? = some x) : L.getD i 0 = x := by rw [List.getD_eq_getElem?_getD, h]; rfl
/-! ### data: lists and tuples of numbers, compared -/
def datI (ns : List Int) : List PyData := ns.map PyData.int
def datN (L : List Nat) : List PyData := L.map fun n : Nat => PyData.int (n : Int)
theorem datN_I (L : List Nat) : datN L = datI (L.map fun n : Nat => (n : Int)) := by unfold datN datI; rw [List.map_map]; rfl
section
variable {K : PySem.W.Frag} {H : Hp}
theorem dpa_I : ∀ ns : List Int, DpAll K H (ns.map V.int) (datI ns)
  | [] => .nil
  | n :: t => .cons (.int n) (dpa_I t)
theorem dpa_N : ∀ L : List Nat, DpAll K H (lotV L) (datN L)
  | [] => .nil
  | n :: t => .cons (.int (n : Int)) (dpa_N t)
theorem dp_lst {p : Addr} {L : List Nat} (h : H p = some (.lst (lotV L))) : Dp K H (.ref p) (.list (datN L)) := .lst (sq_of h) (dpa_N L)
theorem dp_tup {p : Addr} {L : List Nat} (h : H p = some (.tup (lotV L))) : Dp K H (.ref p) (.tuple (datN L)) := .tup (st_of h) (dpa_N L)
theorem dp_lstI {p : Addr} {ns : List Int} (h : H p = some (.lst (ns.map V.int))) : Dp K H (.ref p) (.list (datI ns)) := .lst (sq_of h) (dpa_I ns)
theorem dp_nilL {p : Addr} (h : H p = some (.lst [])) : Dp K H (.ref p) (.list []) := .lst (sq_of h) .nil
theorem dp_nilT {p : Addr} (h : H p = some (.tup [])) : Dp K H (.ref p) (.tuple []) := .tup (st_of h) .nil
end
theorem eqvAll_nil : ∀ ds : List PyData, PyData.eqvAll ds [] = ds.isEmpty
  | [] => by simp [PyData.eqvAll]
  | _ :: _ => by simp [PyData.eqvAll]
theorem eqvAll_I : ∀ a b : List Int, PyData.eqvAll (datI a) (datI b) = decide (a = b)
  | [], [] => by simp [datI, PyData.eqvAll]
  | [], _ :: _ => by simp [datI, PyData.eqvAll]
  | _ :: _, [] => by simp [datI, PyData.eqvAll]
  | x :: s, y :: t => by
    have ih := eqvAll_I s t
    unfold datI at ih ⊢
    rw [List.map_cons, List.map_cons]
    unfold PyData.eqvAll
    rw [ih]
    by_cases e : x = y
    · subst e
      simp [PyData.eqv]
    · simp [PyData.eqv, e]
theorem eqvAll_N (a b : List Nat) : PyData.eqvAll (datN a) (datN b) = decide (a = b) := by
  rw [datN_I, datN_I, eqvAll_I, Bool.eq_iff_iff, decide_eq_true_eq, decide_eq_true_eq]
  constructor
  · intro h
    refine List.map_inj_right (f := fun n : Nat => (n : Int)) (fun x y q => ?_) |>.mp h
    have q' : (x : Int) = y := q
    omega
  · intro h
    rw [h]
theorem shapeI_all : ∀ ns : List Int, PyData.canLayAll0 (datI ns) = true ∧ PyData.depthAll (datI ns) = 0
  | [] => ⟨by simp [datI, PyData.canLayAll0], by simp [datI, PyData.depthAll]⟩
  | n :: t => by
    obtain ⟨h1, h2⟩ := shapeI_all t
    unfold datI at h1 h2 ⊢
    rw [List.map_cons]
    exact ⟨by simp [PyData.canLayAll0, PyData.canLay0, h1], by simp [PyData.depthAll, PyData.depth, h2]⟩
theorem shapedL_I (ns : List Int) : SeqAt.shaped (.list (datI ns)) = true := by
  obtain ⟨h1, h2⟩ := shapeI_all ns
  simp [SeqAt.shaped, PyData.canLay0, PyData.depth, h1, h2]
theorem shapedT_I (ns : List Int) : SeqAt.shaped (.tuple (datI ns)) = true := by
  obtain ⟨h1, h2⟩ := shapeI_all ns
  simp [SeqAt.shaped, PyData.canLay0, PyData.depth, h1, h2]
theorem shapedL_N (L : List Nat) : SeqAt.shaped (.list (datN L)) = true := by rw [datN_I]; exact shapedL_I _
theorem shapedT_N (L : List Nat) : SeqAt.shaped (.tuple (datN L)) = true := by rw [datN_I]; exact shapedT_I _
theorem shaped_nilL : SeqAt.shaped (.list []) = true := by simp [SeqAt.shaped, PyData.canLay0, PyData.canLayAll0, PyData.depth, PyData.depthAll]
theorem shaped_nilT : SeqAt.shaped (.tuple []) = true := by simp [SeqAt.shaped, PyData.canLay0, PyData.canLayAll0, PyData.depth, PyData.depthAll]
section
variable {K : PySem.W.Frag} {σ : L2.St} {H : Hp} {ta tb : TE}
/-- a list of numbers == [], made on the way -/
theorem ev_eqNil {p : Addr} {ns : List Int} (ha : Ev ta σ H (.ref p)) (hb : EvL tb σ H []) (h : H p = some (.lst (ns.map V.int))) : Ev (tOp (rEqD K) ta tb) σ H (.bl ns.isEmpty) :=
  ev_opL ha hb fun q H1 hq e => fun H2 e2 Q k => ⟨.list (datI ns), .list [], dp_lstI (e2 _ _ (e _ _ h)), dp_nilL (e2 _ _ hq), shapedL_I ns, shaped_nilL, by
    show Q (.bl (PyData.eqv (.list (datI ns)) (.list []))) H2
    rw [show PyData.eqv (.list (datI ns)) (.list []) = ns.isEmpty from by
      rw [PyData.eqv, eqvAll_nil]
      cases ns <;> rfl]
    exact k H2 (Ex.refl H2)⟩
theorem ev_neNil {p : Addr} {ns : List Int} (ha : Ev ta σ H (.ref p)) (hb : EvL tb σ H []) (h : H p = some (.lst (ns.map V.int))) : Ev (tOp (rNeD K) ta tb) σ H (.bl (!ns.isEmpty)) :=
  ev_opL ha hb fun q H1 hq e => fun H2 e2 Q k => ⟨.list (datI ns), .list [], dp_lstI (e2 _ _ (e _ _ h)), dp_nilL (e2 _ _ hq), shapedL_I ns, shaped_nilL, by
    show Q (.bl (!PyData.eqv (.list (datI ns)) (.list []))) H2
    rw [show PyData.eqv (.list (datI ns)) (.list []) = ns.isEmpty from by
      rw [PyData.eqv, eqvAll_nil]
      cases ns <;> rfl]
    exact k H2 (Ex.refl H2)⟩
theorem lotV_I (L : List Nat) : lotV L = (L.map fun n : Nat => (n : Int)).map V.int := by unfold lotV; rw [List.map_map]; rfl
theorem ev_eqNilN {p : Addr} {L : List Nat} (ha : Ev ta σ H (.ref p)) (hb : EvL tb σ H []) (h : H p = some (.lst (lotV L))) : Ev (tOp (rEqD K) ta tb) σ H (.bl L.isEmpty) :=
  ev_is (ev_eqNil ha hb (by rw [← lotV_I]; exact h)) (by cases L <;> rfl)
theorem ev_neNilN {p : Addr} {L : List Nat} (ha : Ev ta σ H (.ref p)) (hb : EvL tb σ H []) (h : H p = some (.lst (lotV L))) : Ev (tOp (rNeD K) ta tb) σ H (.bl (!L.isEmpty)) :=
  ev_is (ev_neNil ha hb (by rw [← lotV_I]; exact h)) (by cases L <;> rfl)
/-- a lot != (), made on the way; two lots compared -/
theorem ev_neNilT {p : Addr} {L : List Nat} (ha : Ev ta σ H (.ref p)) (hb : EvU tb σ H []) (h : H p = some (.tup (lotV L))) : Ev (tOp (rNeD K) ta tb) σ H (.bl (!L.isEmpty)) :=
  ev_opU ha hb fun q H1 hq e => fun H2 e2 Q k => ⟨.tuple (datN L), .tuple [], dp_tup (e2 _ _ (e _ _ h)), dp_nilT (e2 _ _ hq), shapedT_N L, shaped_nilT, by
    show Q (.bl (!PyData.eqv (.tuple (datN L)) (.tuple []))) H2
    rw [show PyData.eqv (.tuple (datN L)) (.tuple []) = L.isEmpty from by
      rw [PyData.eqv, eqvAll_nil]
      cases L <;> rfl]
    exact k H2 (Ex.refl H2)⟩
theorem ev_neTT {p q : Addr} {L M : List Nat} (ha : Ev ta σ H (.ref p)) (hb : Ev tb σ H (.ref q)) (h : H p = some (.tup (lotV L))) (h2 : H q = some (.tup (lotV M))) : Ev (tOp (rNeD K) ta tb) σ H (.bl (!decide (L = M))) :=
  ev_op ha hb fun H1 e Q k => ⟨.tuple (datN L), .tuple (datN M), dp_tup (e _ _ h), dp_tup (e _ _ h2), shapedT_N L, shapedT_N M, by
    show Q (.bl (!PyData.eqv (.tuple (datN L)) (.tuple (datN M)))) H1
    rw [PyData.eqv, eqvAll_N]
    exact k H1 (Ex.refl H1)⟩
/-- the truth of a list -/
theorem et_truL {p : Addr} {xs : List V} (ha : Ev ta σ H (.ref p)) (h : H p = some (.lst xs)) : EvT (tTru2 K ta) σ H (!xs.isEmpty) := fun H1 e Q q =>
  ha H1 e _ fun H2 e2 => ⟨_, .inl ⟨xs, sq_of ((e.trans e2) _ _ h), rfl⟩, q H2 e2⟩
theorem et_neN {i j : Nat} (ha : Ev ta σ H (nV i)) (hb : Ev tb σ H (nV j)) : EvT (tTest (tOp rNe ta tb)) σ H (!decide (i = j)) :=
  et_is (et_neI ha hb) (by rw [show decide ((i : Int) = (j : Int)) = decide (i = j) from by rw [Bool.eq_iff_iff]; simp; omega])
theorem et_eqN {i j : Nat} (ha : Ev ta σ H (nV i)) (hb : Ev tb σ H (nV j)) : EvT (tTest (tOp rEq ta tb)) σ H (decide (i = j)) :=
  et_is (et_eqI ha hb) (by rw [Bool.eq_iff_iff]; simp; omega)
theorem el_nil : EvL (tLst tNil) σ H [] := el_lst ea_nil (Nat.zero_le _)
theorem eu_nil : EvU (tTup tNil) σ H [] := eu_tup ea_nil (Nat.zero_le _)
end
/-! ### calls and loops as statements -/
section
variable {K : PySem.W.Frag} {σ : L2.St} {H : Hp} {ta : TA} {te tl : TE} {vs : List V} {sp : Sp} {Q : VK} {D : Ends} {tu tw tz : TS} {g : TG} {i : Nat}
theorem c_call (h : EvA ta σ H vs) (k : ∀ H1, Ex H H1 → sp (vs ++ []) H1 Q E0) : tCall sp [] E0 ta σ H Q := h H (Ex.refl H) _ k
theorem s_retC (h : EvA ta σ H vs) (k : ∀ H1, Ex H H1 → sp (vs ++ []) H1 D.rt E0) : tRet (tCall sp [] E0 ta) D σ H := h H (Ex.refl H) _ k
theorem q_asgC (h : EvA ta σ H vs) (k : ∀ H1, Ex H H1 → sp (vs ++ []) H1 (fun v H2 => tz D (σ.set i (some v)) H2) E0) : tSeq (tAsg (tCall sp [] E0 ta) (gName i)) tz D σ H := h H (Ex.refl H) _ k
theorem s_asgC (h : EvA ta σ H vs) (k : ∀ H1, Ex H H1 → sp (vs ++ []) H1 (fun v H2 => D.nx (σ.set i (some v)) H2) E0) : tAsg (tCall sp [] E0 ta) (gName i) D σ H := h H (Ex.refl H) _ k
theorem s_ifNotC (h : EvA ta σ H vs) (k : ∀ H1, Ex H H1 → sp (vs ++ []) H1 (fun v H2 => ∃ c, v = .bl c ∧ if (!c) = true then tu D σ H2 else tw D σ H2) E0) : tIfS (tNot (tB (tCall sp [] E0 ta))) tu tw D σ H := h H (Ex.refl H) _ k
theorem s_ifC (h : EvA ta σ H vs) (k : ∀ H1, Ex H H1 → sp (vs ++ []) H1 (fun v H2 => ∃ c, v = .bl c ∧ if c = true then tu D σ H2 else tw D σ H2) E0) : tIfS (tB (tCall sp [] E0 ta)) tu tw D σ H := h H (Ex.refl H) _ k
/-- for i, x in enumerate(t), t a tuple -/
theorem s_forET {a : Addr} {xs : List V} {j1 j2 : Nat} (h : EvA ta σ H [.ref a]) (hx : H a = some (.tup xs)) (Pv : Nat → L2.St → Hp → Prop) (h0 : ∀ H1, Ex H H1 → Pv 0 σ H1) (hG : ∀ i σ' H', i ≤ xs.length → Pv i σ' H' → H' a = some (.tup xs))
    (hs : ∀ (i : Nat) (x : V) σ' H' H2, xs[i]? = some x → Pv i σ' H' → Ex H' H2 → tu { D with nx := Pv (i + 1), ct := Pv (i + 1), bk := D.nx } ((σ'.set j1 (some (nV i))).set j2 (some x)) H2) (hd : ∀ σ' H', Pv xs.length σ' H' → D.nx σ' H') :
    tFor (iEnumT K ta) (gTup K 2 (gCons (gName j1) (gCons (gName j2) gNil))) tu D σ H := h H (Ex.refl H) _ fun H1 e1 =>
  ⟨a, xs, rfl, st_of (e1 _ _ hx), for_it walk_enumT Pv (h0 H1 e1) (fun i σ' H' hi p => st_of (hG i σ' H' hi p)) (fun i x σ' H2 H3 hi p y => by
    obtain ⟨t, x1, y1, rfl, nt, rfl, ex1, hy1⟩ := y
    obtain rfl : nV i = x1 := Option.some.inj ex1
    exact ⟨t, [nV i, y1], rfl, st_of upd_same, rfl, _, _, rfl, _, _, rfl, rfl, hs i y1 σ' H2 _ hy1 p (Ex.new nt)⟩) hd⟩
theorem q_forET {a : Addr} {xs : List V} {j1 j2 : Nat} (h : EvA ta σ H [.ref a]) (hx : H a = some (.tup xs)) (Pv : Nat → L2.St → Hp → Prop) (h0 : ∀ H1, Ex H H1 → Pv 0 σ H1) (hG : ∀ i σ' H', i ≤ xs.length → Pv i σ' H' → H' a = some (.tup xs))
    (hs : ∀ (i : Nat) (x : V) σ' H' H2, xs[i]? = some x → Pv i σ' H' → Ex H' H2 → tu { D with nx := Pv (i + 1), ct := Pv (i + 1), bk := tz D } ((σ'.set j1 (some (nV i))).set j2 (some x)) H2) (hd : ∀ σ' H', Pv xs.length σ' H' → tz D σ' H') :
    tSeq (tFor (iEnumT K ta) (gTup K 2 (gCons (gName j1) (gCons (gName j2) gNil))) tu) tz D σ H := s_forET (D := { D with nx := tz D }) h hx Pv h0 hG hs hd
/-- the same over a list -/
theorem s_forEL {a : Addr} {xs : List V} {j1 j2 : Nat} (h : EvA ta σ H [.ref a]) (hx : H a = some (.lst xs)) (Pv : Nat → L2.St → Hp → Prop) (h0 : ∀ H1, Ex H H1 → Pv 0 σ H1) (hG : ∀ i σ' H', i ≤ xs.length → Pv i σ' H' → H' a = some (.lst xs))
    (hs : ∀ (i : Nat) (x : V) σ' H' H2, xs[i]? = some x → Pv i σ' H' → Ex H' H2 → tu { D with nx := Pv (i + 1), ct := Pv (i + 1), bk := D.nx } ((σ'.set j1 (some (nV i))).set j2 (some x)) H2) (hd : ∀ σ' H', Pv xs.length σ' H' → D.nx σ' H') :
    tFor (iEnum K ta) (gTup K 2 (gCons (gName j1) (gCons (gName j2) gNil))) tu D σ H := h H (Ex.refl H) _ fun H1 e1 =>
  ⟨a, xs, rfl, sq_of (e1 _ _ hx), for_it walk_enum Pv (h0 H1 e1) (fun i σ' H' hi p => sq_of (hG i σ' H' hi p)) (fun i x σ' H2 H3 hi p y => by
    obtain ⟨t, x1, y1, rfl, nt, rfl, ex1, hy1⟩ := y
    obtain rfl : nV i = x1 := Option.some.inj ex1
    exact ⟨t, [nV i, y1], rfl, st_of upd_same, rfl, _, _, rfl, _, _, rfl, rfl, hs i y1 σ' H2 _ hy1 p (Ex.new nt)⟩) hd⟩
theorem q_forEL {a : Addr} {xs : List V} {j1 j2 : Nat} (h : EvA ta σ H [.ref a]) (hx : H a = some (.lst xs)) (Pv : Nat → L2.St → Hp → Prop) (h0 : ∀ H1, Ex H H1 → Pv 0 σ H1) (hG : ∀ i σ' H', i ≤ xs.length → Pv i σ' H' → H' a = some (.lst xs))
    (hs : ∀ (i : Nat) (x : V) σ' H' H2, xs[i]? = some x → Pv i σ' H' → Ex H' H2 → tu { D with nx := Pv (i + 1), ct := Pv (i + 1), bk := tz D } ((σ'.set j1 (some (nV i))).set j2 (some x)) H2) (hd : ∀ σ' H', Pv xs.length σ' H' → tz D σ' H') :
    tSeq (tFor (iEnum K ta) (gTup K 2 (gCons (gName j1) (gCons (gName j2) gNil))) tu) tz D σ H := s_forEL (D := { D with nx := tz D }) h hx Pv h0 hG hs hd
/-- for x in a new tuple: the word may speak of its place -/
theorem s_forNT {xs : List V} {j : Nat} (h : EvU tl σ H xs) (Pv : Addr → Hp → Nat → L2.St → Hp → Prop) (h0 : ∀ p H1, H p = none → Ex H H1 → H1 p = some (.tup xs) → Pv p H1 0 σ H1) (hG : ∀ p H1 i σ' H', H1 p = some (.tup xs) → i ≤ xs.length → Pv p H1 i σ' H' → Ex H1 H')
    (hs : ∀ p H1 (i : Nat) (x : V) σ' H', H p = none → Ex H H1 → xs[i]? = some x → Pv p H1 i σ' H' → tu { D with nx := Pv p H1 (i + 1), ct := Pv p H1 (i + 1), bk := D.nx } (σ'.set j (some x)) H') (hd : ∀ p H1 σ' H', H p = none → Ex H H1 → Pv p H1 xs.length σ' H' → D.nx σ' H') :
    tFor (iTup K tl) (gName j) tu D σ H := h H (Ex.refl H) _ fun p H1 np e1 hp =>
  ⟨p, rfl, ⟨_, st_of hp⟩, for_it walk_tup (Pv p H1) (h0 p H1 np e1 hp) (fun i σ' H' hi q => st_of (hG p H1 i σ' H' hp hi q _ _ hp)) (fun i x σ' H2 H3 hi q y => by
    obtain ⟨rfl, hy⟩ := y
    exact hs p H1 i x σ' H3 np e1 hy q) (fun σ' H' q => hd p H1 σ' H' np e1 q)⟩
end
/-! ### a reading opened by one turn -/
section
variable {K : PySem.W.Frag} {σ : L2.St} {H : Hp} {ta tr : TA} {te tb tl : TE} {vs : List V} {Q : VK} {D : Ends} {t tu tw : TS} {tz : TS} {g : TG} {i : Nat} {r : R2} {c : TT} {wi : TI} {QA : List V → Hp → Prop} {rc : List V → Hp → VK → Prop} {R : It → Hp → Prop}
theorem go_seq (h : t { D with nx := tz D } σ H) : tSeq t tz D σ H := h
theorem go_asg (h : te σ H fun v H1 => g v σ H1 D.nx) : tAsg te g D σ H := h
theorem go_set (h : te σ H fun v H1 => D.nx (σ.set i (some v)) H1) : tAsg te (gName i) D σ H := h
theorem go_cons (h : te σ H fun x H1 => tr σ H1 fun xs H2 => QA (x :: xs) H2) : tCons te tr σ H QA := h
theorem go_nil (h : QA [] H) : tNil σ H QA := h
theorem go_lst (h : ta σ H fun xs H1 => xs.length ≤ sizeLine ∧ ∀ p, H1 p = none → Q (.ref p) (upd H1 p (.lst xs))) : tLst ta σ H Q := h
theorem go_tup (h : ta σ H fun xs H1 => xs.length ≤ sizeLine ∧ ∀ p, H1 p = none → Q (.ref p) (upd H1 p (.tup xs))) : tTup ta σ H Q := h
theorem go_op (h : te σ H fun x H1 => tb σ H1 fun y H2 => r x y H2 Q) : tOp r te tb σ H Q := h
theorem go_cb (h : ta σ H fun vs H1 => rc vs H1 Q) : tCB rc ta σ H Q := h
theorem go_ret (h : te σ H D.rt) : tRet te D σ H := h
theorem go_drop (h : te σ H fun _ H1 => D.nx σ H1) : tDrop te D σ H := h
theorem go_if (h : c σ H fun b H1 => if b = true then tu D σ H1 else tw D σ H1) : tIfS c tu tw D σ H := h
theorem go_list (h : tl σ H fun x H1 => ∃ a, x = .ref a ∧ (∃ xs, SqL K H1 a xs) ∧ R (Itl K a) H1) : iList K tl σ H R := h
theorem go_itup (h : tl σ H fun x H1 => ∃ a, x = .ref a ∧ (∃ xs, SqT K H1 a xs) ∧ R (Itt K a) H1) : iTup K tl σ H R := h
theorem go_call {sp : Sp} (h : ta σ H fun vs H1 => sp (vs ++ []) H1 Q E0) : tCall sp [] E0 ta σ H Q := h
theorem go_yes {QB : Bool → Hp → Prop} (h : QB true H) : tYes σ H QB := h
theorem go_rng1 (h : ta σ H fun vs H1 => ∃ j : Int, vs = [.int j] ∧ -(2 ^ 62) ≤ j ∧ j < 2 ^ 62 ∧ R (Itr 0 j.toNat) H1) : iRng1 ta σ H R := h
theorem go_rng2 (h : ta σ H fun vs H1 => ∃ i j : Int, vs = [.int i, .int j] ∧ (-(2 ^ 62) ≤ i ∧ i < 2 ^ 62 ∧ -(2 ^ 62) ≤ j ∧ j < 2 ^ 62) ∧ R (Itr i (j - i).toNat) H1) : iRng2 ta σ H R := h
theorem ev_go {v : V} (h : Ev te σ H v) (k : ∀ H1, Ex H H1 → Q v H1) : te σ H Q := h H (Ex.refl H) Q k
theorem en_go {kd : List V → HO} {xs : List V} (h : EvN kd te σ H xs) (k : ∀ p H1, H p = none → Ex H H1 → H1 p = some (kd xs) → Q (.ref p) H1) : te σ H Q := h H (Ex.refl H) Q k
theorem ea_go (h : EvA ta σ H vs) (k : ∀ H1, Ex H H1 → QA vs H1) : ta σ H QA := h H (Ex.refl H) QA k
theorem et_go {b : Bool} {QB : Bool → Hp → Prop} (h : EvT c σ H b) (k : ∀ H1, Ex H H1 → QB b H1) : c σ H QB := h H (Ex.refl H) QB k
/-- xs.extend(a new list) -/
theorem s_extL {a : Addr} {xs ys : List V} (ha : Ev te σ H (.ref a)) (h : H a = some (.lst xs)) (hb : EvL tb σ H ys) (hz : xs.length + ys.length ≤ 100000) (k : ∀ H1, Ex H H1 → D.nx σ (upd H1 a (.lst (xs ++ ys)))) : tDrop (tBM K "list" rExtend te (tCons tb tNil)) D σ H :=
  ha H (Ex.refl H) _ fun H1 e1 => ⟨.inl ⟨rfl, _, sq_of (e1 _ _ h)⟩, hb H1 e1 _ fun p H2 np e2 hp => ⟨a, p, xs, ys, rfl, rfl, e2 _ _ (e1 _ _ h), hp, sz_of hz, k H2 (e1.trans e2)⟩⟩
/-- what follows the source of a comprehension that tests and takes -/
theorem lc_rest {tt : TT} {a : Addr} {xs : List V} {j : Nat} {vs : List Nat} (f : Nat → Bool) (v : Nat → V) (hx : SqL K H a xs) (hz : xs.length ≤ 50000) (hw : ∀ x, wipe ((wipe σ vs).set j (some x)) vs = wipe σ vs)
    (ht : ∀ (i : Nat) (x : V) H1, Ex H H1 → xs[i]? = some x → EvT tt ((wipe σ vs).set j (some x)) H1 (f i)) (he : ∀ (i : Nat) (x : V) H1, Ex H H1 → xs[i]? = some x → f i = true → Ev te ((wipe σ vs).set j (some x)) H1 (v i))
    (q : ∀ p H1, H p = none → Ex H H1 → H1 p = some (.lst (given xs.length f v)) → Q (.ref p) H1) : ∀ D, H D = none → ∃ W : Nat → Nat → Hp → Prop, (∃ m, W 0 m (upd H D (.lst []))) ∧ ∀ i m H, W i m H →
      ((Itl K a).stop i H ∧ Q (.ref D) H) ∨ ((Itl K a).go i H ∧ ∃ Nx : Hp → Prop, (∀ H', Nx H' → ∃ m', m' < m ∧ W (i + 1) m' H') ∧ ∀ x H', (Itl K a).yld i H x H' → gName j x (wipe σ vs) H' fun σ2 H2 => wipe σ2 vs = wipe σ vs ∧ tt σ2 H2 fun b H3 =>
        if b = true then te σ2 H3 fun y H4 => ∃ acc, H4 D = some (.lst acc) ∧ acc.length < sizeLine ∧ Nx (upd H4 D (.lst (acc ++ [y]))) else Nx H3) := fun Dl hD =>
  lc_list (xs := xs) (Qd := fun H' => Q (.ref Dl) H') (Cw H f v Dl) ⟨hD, Ex.new hD, upd_same⟩ (fun i H' _ p => ex_l p.2.1 hx) (fun i x H' hi p => ⟨hw x, cw_turn p (by have := (List.getElem?_eq_some_iff.mp hi).1; omega) (ht i x H (Ex.refl H) hi) (fun hf => he i x H (Ex.refl H) hi hf)⟩)
    (fun H' p => q Dl H' p.1 p.2.1 p.2.2)
end
theorem tups_given {H : Hp} {ps : List Addr} {Ls : List (List Nat)} (h : Tups H ps Ls) (p : List Nat → Bool) : ∃ qs : List Addr, given ps.length (fun i => p (Ls.getD i [])) (fun i => V.ref (ps.getD i 0)) = qs.map .ref ∧ Tups H qs (Ls.filter p) := by
  refine ⟨((List.range ps.length).filter fun i => p (Ls.getD i [])).map fun i => ps.getD i 0, by unfold given; rw [List.map_map]; rfl, ?_⟩
  have e : Ls.filter p = ((List.range ps.length).filter fun i => p (Ls.getD i [])).map fun i => Ls.getD i [] := by
    have e2 : Ls.filter p = ((List.range Ls.length).map fun i => Ls.getD i []).filter p := by rw [range_map_get Ls [] fun x => x, List.map_id']
    rw [e2, List.filter_map, h.1]
    rfl
  refine ⟨by rw [e, List.length_map, List.length_map], fun i q L q1 q2 => ?_⟩
  rw [e] at q2
  rw [List.getElem?_map] at q1 q2
  cases ei : ((List.range ps.length).filter fun i => p (Ls.getD i []))[i]? with
  | none => rw [ei] at q1; cases q1
  | some m =>
    rw [ei] at q1 q2
    have lt : m < ps.length := List.mem_range.mp (List.mem_filter.mp (List.mem_of_getElem? ei)).1
    have a1 : ps.getD m 0 = q := Option.some.inj q1
    have a2 : Ls.getD m [] = L := Option.some.inj q2
    refine h.2 m q L ?_ ?_
    · rw [← a1, List.getD_eq_getElem?_getD, List.getElem?_eq_getElem lt]
      rfl
    · rw [← a2, List.getD_eq_getElem?_getD, List.getElem?_eq_getElem (by rw [← h.1]; exact lt)]
      rfl
end K25
/-! K25D1: part, _fills, _is_firm_lot. -/
namespace K25
open PySem PySem.Spec PyProof.Rows L2 Evl
section
variable {K : PySem.W.Frag} {σ : L2.St} {H H' : Hp} {te tl : TE} {xs ys : List V}
theorem el_is (h : EvL te σ H xs) (e : xs = ys) : EvL te σ H ys := e ▸ h
theorem et_yes : EvT tYes σ H true := fun H1 e Q q => q H1 (Ex.refl H1)
end
abbrev spart : Stmt := topS 4
abbrev Npart : List Str := ["table", "lot", "rows", "thing", "other"]
theorem scpart : FnScope Npart ["table", "lot"] (defScope spart) := ⟨rfl, rfl, rfl, by decide +kernel, rfl, by decide +kernel, by decide +kernel⟩
section
variable {P : Program} {w : World} {K : PySem.W.Frag} {mg : Str → Option Value} {base : Heap}
/-- part(table, lot) -/
def spPart : Sp := fun vs H Q _ => ∃ (t l : Addr) (n : Nat) (M : Nat → Nat → Int) (L : List Nat), vs = [.ref t, .ref l] ∧ TabAt n M H t ∧ H l = some (.tup (lotV L)) ∧ (∀ x ∈ L, x < n) ∧ L.length ≤ 100 ∧
  ∀ T H', Ex H H' → TabAt L.length (partR M L) H' T → Q (.ref T) H'
theorem ok_part {f : Addr} {fd : FuncData} (F : Fun K "part" "part" spart f fd) (T : Txt mg) : FnOk P w K mg base CX0 1 f fd ["table", "lot"] spPart := by
  have nd := scpart.nd
  refine F.ok scpart (fun vs H Q E h => ?_) (fun cdv A outer s H vs Q E hr h => ?_)
  · obtain ⟨_, _, _, _, _, rfl, _⟩ := h
    rfl
  · obtain ⟨t, l, n, M, L, rfl, ⟨R, hT, hM⟩, hl, hx, hz, q⟩ := h
    refine ⟨_, (pss_cons (ps_set (i := 2) nd rfl (Or.inr rfl) (pe_ix (ix_tupK (K := K) rfl) (pv 0) pe_int (fun _ _ => rfl)))
        (pss_one (ps_ret (pe_tup (pa_cons (pe_callB (call_lenK (K := K) rfl) rfl T.len PySem.boot_len (pa_cons (pv 1) pa_nil)) (pa_cons (pe_callTy (call_tupleK (K := K) rfl) rfl T.tuple bb_tuple (pa_cons (pe_lc (own := [("thing", 3)]) rfl nd (pi_tupK (K := K) rfl (pv 1)) (blkOk_by (own := [("thing", 3)]) (N := Npart) (sc := defScope spart) (by decide +kernel)) (fun _ _ _ _ _ => (pg_name (i := 3) nd rfl (Or.inr rfl))) (fun _ _ _ _ _ => pts_nil) (fun _ _ _ _ _ => (pe_callTy (call_tupleK (K := K) rfl) rfl T.tuple bb_tuple (pa_cons (pe_lc (own := [("other", 4)]) rfl nd (pi_tupK (K := K) rfl (pv 1)) (blkOk_by (by kernel_rfl)) (fun _ _ _ _ _ => (pg_name (i := 4) nd rfl (Or.inl rfl))) (fun _ _ _ _ _ => pts_nil) (fun _ _ _ _ _ => (pe_ix (ix_tupK (K := K) rfl) (pe_ix (ix_tupK (K := K) rfl) (pv 2) (pv 3) (fun _ _ => rfl)) (pv 4) (fun _ _ => rfl)))) pa_nil)))) pa_nil)) pa_nil)))))), ?_⟩
    -- rows = table[1]
    refine q_asg (ev_ixT (i := 1) (ev_var rfl) ev_c hT rfl) fun H1 e1 => ?_
    -- (len(lot), tuple([tuple([..]) ..]))
    refine ev_lenT (ev_var rfl) (e1 _ _ hl) H1 (Ex.refl H1) _ fun H2 e2 => ?_
    have e12 := e1.trans e2
    refine Ns_tuple (kd := .tup) (en_lcT (fun i => rowV L.length (partR M L i)) (ev_var rfl) (st_of (e12 _ _ hl)) (by rw [lotV_len]; omega) (fun _ => rfl) fun i x H3 e3 hi => ?_) H2 (Ex.refl H2) _ fun T ps H3 nT len _ e3 hT3 hps => ?_
    · obtain ⟨xi, hxi, rfl⟩ := of_lotV hi
      refine eu_tupL (el_is (el_lcT (fun _ => true) (fun j => .int (M (L.getD i 0) (L.getD j 0))) (ev_var rfl) (st_of (e3 _ _ (e12 _ _ hl))) (by rw [lotV_len]; omega) (fun _ => rfl) (fun _ _ _ _ _ => et_yes) fun j y H4 e4 hj _ => ?_) ?_)
      · obtain ⟨xj, hxj, rfl⟩ := of_lotV hj
        rw [getD_of hxi, getD_of hxj]
        exact ev_ix2T (hM.mono ((e12.trans e3).trans e4)) (hx _ (List.mem_of_getElem? hxi)) (hx _ (List.mem_of_getElem? hxj)) (ev_var rfl) (ev_var rfl) (ev_var rfl)
      · rw [given_all, lotV_len]
        rfl
    · refine ⟨by show 2 ≤ sizeLine; decide, fun p np => q p _ ((e12.trans e3).trans (Ex.new np)) ⟨T, ?_, ps, ?_, Ex.new np _ _ hT3, fun i r hr => Ex.new np _ _ (hps i r hr)⟩⟩
      · rw [upd_same, lotV_len]
      · rw [len, lotV_len]
end
end K25
/-! K25D2: _fills. -/
namespace K25
open PySem PySem.Spec PyProof.Rows L2 Evl
abbrev sfills : Stmt := topS 6
abbrev Nfills : List Str := ["rows", "lot", "one", "other", "left", "waiting", "own", "told", "thing", "z"]
theorem scfills : FnScope Nfills ["rows", "lot", "one", "other"] (defScope sfills) := ⟨rfl, rfl, rfl, by decide +kernel, rfl, by decide +kernel, by decide +kernel⟩
section
variable {P : Program} {w : World} {K : PySem.W.Frag} {mg : Str → Option Value} {base : Heap}
/-- what the loop of _fills holds: left at p, waiting at q -/
def fillsW (M : Nat → Nat → Int) (L : List Nat) (a b : Nat) (R l : Addr) (H0 : Hp) (m : Nat) (σ : L2.St) (H' : Hp) : Prop :=
  ∃ (p q : Addr) (left waiting : List Nat) (v6 v7 : Option V), σ = [some (.ref R), some (.ref l), some (nV a), some (nV b), some (.ref p), some (.ref q), v6, v7, none, none] ∧
    H0 q = none ∧ p ≠ q ∧ Ex H0 H' ∧ H' p = some (.lst (lotV left)) ∧ H' q = some (.lst (lotV waiting)) ∧ Fi M L a b left waiting ∧ left.length + waiting.length = m
/-- _fills(rows, lot, one, other) -/
def spFills : Sp := fun vs H Q _ => ∃ (R l : Addr) (n a b : Nat) (M : Nat → Nat → Int) (L : List Nat), vs = [.ref R, .ref l, nV a, nV b] ∧ Mat .tup n M H R ∧ H l = some (.tup (lotV L)) ∧ (∀ x ∈ L, x < n) ∧ a ∈ L ∧ b ∈ L ∧ L.length ≤ 50 ∧
  ∀ (c : Bool) H', Ex H H' → (c = true ↔ Fills M L a b) → Q (.bl c) H'
theorem ok_fills {f : Addr} {fd : FuncData} (F : Fun K "_fills" "_fills" sfills f fd) (T : Txt mg) : FnOk P w K mg base CX0 1 f fd ["rows", "lot", "one", "other"] spFills := by
  have nd := scfills.nd
  refine F.ok scfills (fun vs H Q E h => ?_) (fun cdv A outer s H vs Q E hr h => ?_)
  · obtain ⟨_, _, _, _, _, _, _, rfl, _⟩ := h
    rfl
  · obtain ⟨R, l, n, a, b, M, L, rfl, hM, hl, hx, ha, hb, hz, q⟩ := h
    refine ⟨_, (pss_cons (ps_setLc (i := 4) (own := [("thing", 8)]) rfl nd rfl rfl (sw_true rfl rfl rfl (by decide +kernel)) (pi_tupK (K := K) rfl (pv 1)) (blkOk_by (own := [("thing", 8)]) (N := Nfills) (sc := defScope sfills) (by decide +kernel)) (fun _ _ _ _ _ => (pg_name (i := 8) nd rfl (Or.inl rfl))) (fun _ _ _ _ _ => (pts_one (PW.pt (pw_and (pt_cmpR op_ne (pv 8) (pv 2) (nomark _)) (pw_and1 (pt_cmpR op_ne (pv 8) (pv 3) (nomark _))))))) (fun _ _ _ _ _ => (pv 8)))
        (pss_cons (ps_set (i := 5) nd rfl (Or.inl rfl) (pe_lst (pa_cons (pv 3) pa_nil)))
        (pss_cons (ps_while PassesOwn.never (PW.pt (pw_and (pt_truK (K := K) rfl (pv 5)) (pw_and1 (pt_truK (K := K) rfl (pv 4))))) (pss_cons (ps_set (i := 6) nd rfl (Or.inr rfl) (pe_bm0 PySem.F.plainAttrs_list PySem.F.slot_list_pop PySem.F.type_list_pop mt_pop (pv 5)))
        (pss_cons (ps_set (i := 7) nd rfl (Or.inr rfl) (pe_lc (own := [("z", 9)]) rfl nd (pi_listK (K := K) rfl (pv 4)) (blkOk_by (own := [("z", 9)]) (N := Nfills) (sc := defScope sfills) (by decide +kernel)) (fun _ _ _ _ _ => (pg_name (i := 9) nd rfl (Or.inl rfl))) (fun _ _ _ _ _ => (pts_one (PW.pt (pw_or (pt_cmpR op_ne (pe_ix (ix_tupK (K := K) rfl) (pe_ix (ix_tupK (K := K) rfl) (pv 0) (pv 9) (fun _ _ => rfl)) (pv 6) (fun _ _ => rfl)) (pe_ix (ix_tupK (K := K) rfl) (pe_ix (ix_tupK (K := K) rfl) (pv 0) (pv 9) (fun _ _ => rfl)) (pv 2) (fun _ _ => rfl)) (nomark _)) (pw_or1 (pt_cmpR op_ne (pe_ix (ix_tupK (K := K) rfl) (pe_ix (ix_tupK (K := K) rfl) (pv 0) (pv 6) (fun _ _ => rfl)) (pv 9) (fun _ _ => rfl)) (pe_ix (ix_tupK (K := K) rfl) (pe_ix (ix_tupK (K := K) rfl) (pv 0) (pv 2) (fun _ _ => rfl)) (pv 9) (fun _ _ => rfl)) (nomark _))))))) (fun _ _ _ _ _ => (pv 9))))
        (pss_cons (ps_setLc (i := 4) (own := [("z", 9)]) rfl nd rfl rfl (sw_true rfl rfl rfl (by decide +kernel)) (pi_listK (K := K) rfl (pv 4)) (blkOk_by (own := [("z", 9)]) (N := Nfills) (sc := defScope sfills) (by decide +kernel)) (fun _ _ _ _ _ => (pg_name (i := 9) nd rfl (Or.inl rfl))) (fun _ _ _ _ _ => (pts_one (pt_cmpR (op_niK (K := K) rfl) (pv 9) (pv 7) rfl))) (fun _ _ _ _ _ => (pv 9)))
        (pss_one (ps_expr (pe_bm PySem.F.plainAttrs_list PySem.F.slot_list_extend PySem.F.type_list_extend mt_extend (pv 5) (pa_cons (pv 7) pa_nil))))))))
        (pss_one (ps_ret (pe_cmpR (op_eqK (K := K) rfl hr.units) (pv 4) (pe_lst pa_nil) (nomark _))))))), ?_⟩
    -- left = [..]
    refine q_asgL (el_is (ys := lotV (left0 L a b)) (el_lcT (fun i => !decide (L.getD i 0 = a) && !decide (L.getD i 0 = b)) (fun i => nV (L.getD i 0)) (ev_var rfl) (st_of hl) (by rw [lotV_len]; omega) (fun _ => rfl) (fun i x H1 e hi => ?_) (fun i x H1 e hi _ => ?_)) ?_) fun p H1 np e1 hp => ?_
    · obtain ⟨xi, hxi, rfl⟩ := of_lotV hi
      rw [getD_of hxi]
      exact et_and (et_neN (ev_var rfl) (ev_var rfl)) fun _ => et_neN (ev_var rfl) (ev_var rfl)
    · obtain ⟨xi, hxi, rfl⟩ := of_lotV hi
      rw [getD_of hxi]
      exact ev_var rfl
    · rw [lotV_len]
      exact given_filter L 0 (fun t => !decide (t = a) && !decide (t = b)) nV
    have l0 : (left0 L a b).length ≤ 50 := Nat.le_trans (List.length_filter_le _ _) hz
    -- waiting = [other]
    refine q_asgL (xs := lotV [b]) (el_lst (ea_cons (ev_var rfl) ea_nil) (by show 1 ≤ 100000; decide)) fun r H2 nr e2 hr2 => ?_
    have hp2 := e2 _ _ hp
    refine q_while (fun m σ H' => fillsW M L a b R l H m σ H' ∧ m ≤ 100) ((left0 L a b).length + 1) ⟨⟨p, r, left0 L a b, [b], none, none, rfl, fresh_back e1 nr, ne_of_none hp nr, e1.trans e2, hp2, hr2, Fi.start ha hb, rfl⟩, by omega⟩ fun m σ' H3 hW => ?_
    obtain ⟨⟨p, r, left, waiting, v6, v7, rfl, nr, npr, e3, hp3, hr3, fi, rfl⟩, hm⟩ := hW
    refine ⟨_, et_and (et_truL (ev_var rfl) hr3) (fun _ => et_truL (ev_var rfl) hp3), fun hb' H4 e4 => ?_, fun hb' H4 e4 => ?_⟩
    · -- a turn
      rw [Bool.and_eq_true] at hb'
      obtain ⟨rest, own, rfl⟩ : ∃ rest own, waiting = rest ++ [own] := by
        rcases snoc_cases waiting with e | h
        · subst e
          exact absurd hb'.1 (by decide)
        · exact h
      rw [List.length_append, List.length_singleton] at hm
      have hp4 := e4 _ _ hp3
      have hr4 := e4 _ _ hr3
      have lv : lotV (rest ++ [own]) = lotV rest ++ [nV own] := by unfold lotV; rw [List.map_append]; rfl
      rw [lv] at hr4
      have own_lot := fi.wt own (List.mem_append_right _ (List.mem_singleton.mpr rfl))
      refine ⟨fun σ2 H2 => fillsW M L a b R l H (left.length + rest.length) σ2 H2, fun σ2 H2 w => ⟨_, by rw [List.length_append, List.length_singleton]; omega, w, by omega⟩, ?_⟩
      -- own = waiting.pop()
      refine ⟨.ref r, rfl, .inl ⟨rfl, _, sq_of hr4⟩, r, _, nV own, rfl, rfl, hr4, by simp, ?_⟩
      rw [List.dropLast_concat]
      have hp5 : (upd H4 r (.lst (lotV rest))) p = some (.lst (lotV left)) := by rw [upd_ne npr]; exact hp4
      have e5 : Ex H (upd H4 r (.lst (lotV rest))) := Ex.mut (e3.trans e4) nr
      have hr5 : (upd H4 r (.lst (lotV rest))) r = some (.lst (lotV rest)) := upd_same
      generalize upd H4 r (.lst (lotV rest)) = H5 at hp5 e5 hr5
      -- told = [..]
      refine q_asgL (el_is (ys := lotV (left.filter (toldB M a own ·))) (el_lcL (fun i => toldB M a own (left.getD i 0)) (fun i => nV (left.getD i 0)) (ev_var rfl) (sq_of hp5) (by rw [lotV_len]; omega) (fun _ => rfl) (fun i x H6 e6 hi => ?_) (fun i x H6 e6 hi _ => ?_)) ?_) fun t H6 nt e6 ht => ?_
      · obtain ⟨z, hz, rfl⟩ := of_lotV hi
        have mz := hx _ (fi.sub _ (List.mem_of_getElem? hz))
        have mm := hM.mono (e5.trans e6)
        have mo := hx _ own_lot.1
        have ma := hx _ ha
        rw [getD_of hz]
        exact et_or (et_neI (ev_ix2T mm mz mo (ev_var rfl) (ev_var rfl) (ev_var rfl)) (ev_ix2T mm mz ma (ev_var rfl) (ev_var rfl) (ev_var rfl)))
          fun _ => et_neI (ev_ix2T mm mo mz (ev_var rfl) (ev_var rfl) (ev_var rfl)) (ev_ix2T mm ma mz (ev_var rfl) (ev_var rfl) (ev_var rfl))
      · obtain ⟨z, hz, rfl⟩ := of_lotV hi
        rw [getD_of hz]
        exact ev_var rfl
      · rw [lotV_len]
        exact given_filter left 0 (toldB M a own ·) nV
      -- left = [z for z in left if z not in told]
      refine q_asgL (el_is (ys := lotV (left.filter fun z => !toldB M a own z)) (el_lcL (fun i => !decide (left.getD i 0 ∈ left.filter (toldB M a own ·))) (fun i => nV (left.getD i 0)) (ev_var rfl) (sq_of (e6 _ _ hp5)) (by rw [lotV_len]; omega) (fun _ => rfl) (fun i x H7 e7 hi => ?_) (fun i x H7 e7 hi _ => ?_)) ?_) fun p' H7 np' e7 hp' => ?_
      · obtain ⟨z, hz, rfl⟩ := of_lotV hi
        rw [getD_of hz]
        exact et_niL (ev_var rfl) (ev_var rfl) (e7 _ _ ht)
      · obtain ⟨z, hz, rfl⟩ := of_lotV hi
        rw [getD_of hz]
        exact ev_var rfl
      · rw [lotV_len, given_filter left 0 (fun z => !decide (z ∈ left.filter (toldB M a own ·))) nV]
        unfold lotV
        refine congrArg _ (List.filter_congr fun z hz => ?_)
        refine congrArg _ ?_
        rw [Bool.eq_iff_iff, decide_eq_true_eq, List.mem_filter]
        exact ⟨fun h => h.2, fun h => ⟨hz, h⟩⟩
      -- waiting.extend(told)
      have hr6 := e6 _ _ hr5
      have hr7 := e7 _ _ hr6
      have ft := filter_len (toldB M a own ·) left
      refine ⟨.ref r, rfl, .inl ⟨rfl, _, sq_of hr7⟩, .ref t, rfl, r, t, _, _, rfl, rfl, hr7, e7 _ _ ht, ?_, ?_⟩
      · rw [lotV_len, lotV_len]
        exact sz_of (by omega)
      · have nrp : p' ≠ r := fun e => by rw [e, hr6] at np'; cases np'
        refine ⟨p', r, _, rest ++ left.filter (toldB M a own ·), _, _, rfl, nr, nrp, Ex.mut ((e5.trans e6).trans e7) nr, by rw [upd_ne nrp]; exact hp', ?_, fi.step (own := own) (rest := rest) (fun z => by simp [or_comm]) (fun z => by simp), ?_⟩
        · rw [upd_same]
          unfold lotV
          rw [List.map_append]
        · rw [List.length_append]
          omega
    · -- the end
      have key : (left.isEmpty = true ↔ Fills M L a b) := by
        rw [List.isEmpty_iff]
        refine fi.done ha hb ?_
        cases waiting with
        | nil => exact .inl rfl
        | cons x t =>
          cases left with
          | nil => exact .inr rfl
          | cons y s => exact absurd hb' (by unfold lotV; simp)
      exact s_ret (ev_eqNilN (ev_var rfl) el_nil (e4 _ _ hp3)) fun H5 e5 => q _ H5 ((e3.trans e4).trans e5) key
end
end K25
/-! K25D3: _is_firm_lot, is_firm. -/
namespace K25
open PySem PySem.Spec PyProof.Rows L2 Evl
section
variable {K : PySem.W.Frag} {σ : L2.St} {H : Hp} {te : TE} {tl th : TO}
theorem cut_from (xs : List V) (k : Nat) : cutV xs (some (k : Int)) none = xs.drop k := by
  unfold cutV
  rw [HT.sIx_nat, HT.sIx_none]
  by_cases h : k ≤ xs.length
  · rw [Nat.min_eq_left h]
    exact List.take_of_length_le (by rw [List.length_drop]; omega)
  · rw [Nat.min_eq_right (by omega), List.drop_eq_nil_of_le (Nat.le_refl _), List.drop_eq_nil_of_le (by omega), List.take_nil]
/-- t[k:] of a tuple, k not nought -/
theorem eu_from {a : Addr} {xs : List V} {k : Nat} (h : Ev te σ H (.ref a)) (h1 : EvO tl σ H (some (k : Int))) (h2 : EvO th σ H none) (hs : H a = some (.tup xs)) (hk : 0 < k) (hx : xs ≠ []) : EvU (tSl (rSlA K) te tl th) σ H (xs.drop k) := fun H1 e Q q =>
  h H1 e _ fun H2 e2 => h1 H2 (e.trans e2) _ fun H3 e3 => h2 H3 ((e.trans e2).trans e3) _ fun H4 e4 =>
    ⟨a, xs, rfl, st_of ((((e.trans e2).trans e3).trans e4) _ _ hs), fun z => absurd z.1 (by
      rw [HT.sIx_nat]
      have := List.length_pos_iff.mpr hx
      omega), fun _ p hp => by
      rw [cut_from]
      exact q p _ (fresh_back ((e2.trans e3).trans e4) hp) (((e2.trans e3).trans e4).trans (Ex.new hp)) upd_same⟩
end
abbrev sisfirmlot : Stmt := topS 7
abbrev Nisfirmlot : List Str := ["rows", "lot", "at", "one", "other"]
theorem scisfirmlot : FnScope Nisfirmlot ["rows", "lot"] (defScope sisfirmlot) := ⟨rfl, rfl, rfl, by decide +kernel, rfl, by decide +kernel, by decide +kernel⟩
abbrev sisfirm : Stmt := topS 9
abbrev Nisfirm : List Str := ["table"]
theorem scisfirm : FnScope Nisfirm ["table"] (defScope sisfirm) := ⟨rfl, rfl, rfl, by decide +kernel, rfl, by decide +kernel, by decide +kernel⟩
section
variable {P : Program} {w : World} {K : PySem.W.Frag} {mg : Str → Option Value} {base : Heap}
/-- _is_firm_lot(rows, lot) -/
def spIsFirmLot : Sp := fun vs H Q _ => ∃ (R l : Addr) (n : Nat) (M : Nat → Nat → Int) (L : List Nat), vs = [.ref R, .ref l] ∧ Mat .tup n M H R ∧ H l = some (.tup (lotV L)) ∧ (∀ x ∈ L, x < n) ∧ L.Nodup ∧ L.length ≤ 50 ∧
  ∀ (c : Bool) H', Ex H H' → (c = true ↔ FirmL M L) → Q (.bl c) H'
theorem ok_isfirmlot {f : Addr} {fd : FuncData} (F : Fun K "_is_firm_lot" "_is_firm_lot" sisfirmlot f fd) (T : Txt mg) (c_fills : Cal P w K mg base 1 "_fills" ["rows", "lot", "one", "other"] spFills) : FnOk P w K mg base CX0 2 f fd ["rows", "lot"] spIsFirmLot := by
  have nd := scisfirmlot.nd
  refine F.ok scisfirmlot (fun vs H Q E h => ?_) (fun cdv A outer s H vs Q E hr h => ?_)
  · obtain ⟨_, _, _, _, _, rfl, _⟩ := h
    rfl
  · obtain ⟨R, l, n, M, L, rfl, hM, hl, hx, hn, hz, q⟩ := h
    refine ⟨_, (pss_cons (ps_if (pt_cmpR op_lt (pe_callB (call_lenK (K := K) rfl) rfl T.len PySem.boot_len (pa_cons (pv 1) pa_nil)) pe_int (nomark _)) (pss_one (ps_ret pe_bl)) pss_nil)
        (pss_cons (ps_for PassesOwn.never rfl (pi_enumTK (K := K) rfl rfl T.enumerate (pa_cons (pv 1) pa_nil)) (pg_tupK (K := K) (n := 2) rfl rfl (pgs_cons (pg_name (i := 2) nd rfl (Or.inl rfl)) (pgs_cons (pg_name (i := 3) nd rfl (Or.inl rfl)) pgs_nil))) (pss_one (ps_for PassesOwn.never rfl (pi_tupK (K := K) rfl (pe_slice (sl_tupK (K := K) rfl) (pv 1) (po_some (pe_op op_add (pv 2) pe_int)) po_none)) (pg_name (i := 4) nd rfl (Or.inl rfl)) (pss_one (ps_if (pt_not (pt_val (pe_cal c_fills hr (by decide) rfl (pa_cons (pv 0) (pa_cons (pv 1) (pa_cons (pv 3) (pa_cons (pv 4) pa_nil))))))) (pss_one (ps_ret pe_bl)) pss_nil)))))
        (pss_one (ps_ret pe_bl)))), ?_⟩
    -- if len(lot) < 3
    refine q_when (et_I (ev_lenT (ev_var rfl) hl) ev_c) (fun hb H1 e1 => ?_) (fun hb H1 e1 => ?_)
    · refine s_ret ev_c fun H2 e2 => q false H2 (e1.trans e2) ⟨(fun z => nomatch z), fun z => ?_⟩
      have z1 := ((firm_fills hn).mp z).1
      have z2 := of_decide_eq_true hb
      rw [lotV_len] at z2
      omega
    · have h3 : 3 ≤ L.length := by
        have z2 := of_decide_eq_false hb
        rw [lotV_len] at z2
        omega
      -- for at, one in enumerate(lot)
      refine q_forET (ea_cons (ev_var rfl) ea_nil) (e1 _ _ hl) (fun i σ H' => ∃ v2 v3 v4, σ = [some (.ref R), some (.ref l), v2, v3, v4] ∧ Ex H H' ∧ ∀ (i' j a b : Nat), i' < i → i' < j → L[i']? = some a → L[j]? = some b → Fills M L a b)
        (fun H2 e2 => ⟨none, none, none, rfl, e1.trans e2, fun i' j a b h => absurd h (Nat.not_lt_zero _)⟩) (fun i σ H' _ p => ?_) (fun i x σ H3 H4 hi p e4 => ?_) (fun σ H3 p => ?_)
      · obtain ⟨_, _, _, _, e, _⟩ := p
        exact e _ _ hl
      · obtain ⟨v2, v3, v4, rfl, e3, hp⟩ := p
        obtain ⟨a, ha, rfl⟩ := of_lotV hi
        have e4 := e3.trans e4
        -- for other in lot[at + 1:]
        have lne : lotV L ≠ [] := fun z => by
          have := lotV_len L
          rw [z] at this
          rw [← this] at h3
          exact absurd h3 (by decide)
        refine s_forNT (eu_from (k := i + 1) (ev_var rfl) (eo_some (ev_addN (j := 1) (ev_var rfl) ev_c)) eo_none (e4 _ _ hl) (Nat.succ_pos _) lne) (fun _ H5 j σ H' => ∃ v4, σ = [some (.ref R), some (.ref l), some (nV i), some (nV a), v4] ∧ Ex H5 H' ∧ ∀ (j' b : Nat), j' < j → L[i + 1 + j']? = some b → Fills M L a b)
          (fun p H5 np e5 hp5 => ⟨v4, rfl, Ex.refl H5, fun j' b h => absurd h (Nat.not_lt_zero _)⟩) (fun p H5 j σ H' hp5 _ w => ?_) (fun p H5 j x σ H6 np e5 hy w => ?_) (fun p H5 σ H6 np e5 w => ?_)
        · obtain ⟨_, _, e, _⟩ := w
          exact e
        · obtain ⟨v4, rfl, e6, hp6⟩ := w
          rw [List.getElem?_drop] at hy
          obtain ⟨b, hb', rfl⟩ := of_lotV hy
          have e46 := e4.trans (e5.trans e6)
          -- if not _fills(rows, lot, one, other): return False
          refine s_ifNotC (ea_cons (ev_var rfl) (ea_cons (ev_var rfl) (ea_cons (ev_var rfl) (ea_cons (ev_var rfl) ea_nil)))) fun H8 e8 => ?_
          refine ⟨R, l, n, a, b, M, L, rfl, hM.mono (e46.trans e8), (e46.trans e8) _ _ hl, hx, List.mem_of_getElem? ha, List.mem_of_getElem? hb', hz, fun c H9 e9 hc => ⟨c, rfl, ?_⟩⟩
          cases c with
          | true =>
            show ∃ v4, _
            refine ⟨_, rfl, (e6.trans e8).trans e9, fun j' b' hj' hb2 => ?_⟩
            by_cases ej : j' = j
            · subst ej
              rw [hb'] at hb2
              cases hb2
              exact hc.mp rfl
            · exact hp6 j' b' (by omega) hb2
          | false =>
            refine s_ret ev_c fun HA eA => q false HA (((e46.trans e8).trans e9).trans eA) ⟨(fun z => nomatch z), fun z => ?_⟩
            exact absurd (hc.mpr (((firm_pairs hn).mp z).2 i (i + 1 + j) a b (by omega) ha hb')) (by decide)
        · obtain ⟨v4, rfl, e6, hp6⟩ := w
          refine ⟨_, _, _, rfl, (e4.trans e5).trans e6, fun i' j a' b h1 h2 h3 h4 => ?_⟩
          by_cases ei : i' = i
          · subst ei
            rw [ha] at h3
            cases h3
            refine hp6 (j - (i' + 1)) b ?_ (by rw [show i' + 1 + (j - (i' + 1)) = j by omega]; exact h4)
            rw [List.length_drop, lotV_len]
            have := (List.getElem?_eq_some_iff.mp h4).1
            omega
          · exact hp i' j a' b (by omega) h2 h3 h4
      · obtain ⟨v2, v3, v4, rfl, e3, hp⟩ := p
        refine s_ret ev_c fun H4 e4 => q true H4 (e3.trans e4) ⟨fun _ => (firm_pairs hn).mpr ⟨h3, fun i j a b hij ha hb => hp i j a b ?_ hij ha hb⟩, fun _ => rfl⟩
        rw [lotV_len]
        exact (List.getElem?_eq_some_iff.mp ha).1
/-- is_firm(table) -/
def spIsFirm : Sp := fun vs H Q _ => ∃ (t : Addr) (n : Nat) (M : Nat → Nat → Int), vs = [.ref t] ∧ TabAt n M H t ∧ n ≤ 50 ∧ ∀ (c : Bool) H', Ex H H' → (c = true ↔ FirmL M (List.range n)) → Q (.bl c) H'
theorem ok_isfirm {f : Addr} {fd : FuncData} (F : Fun K "is_firm" "is_firm" sisfirm f fd) (T : Txt mg) (c_isfirmlot : Cal P w K mg base 2 "_is_firm_lot" ["rows", "lot"] spIsFirmLot) : FnOk P w K mg base CX0 3 f fd ["table"] spIsFirm := by
  have nd := scisfirm.nd
  refine F.ok scisfirm (fun vs H Q E h => ?_) (fun cdv A outer s H vs Q E hr h => ?_)
  · obtain ⟨_, _, _, rfl, _⟩ := h
    rfl
  · obtain ⟨t, n, M, rfl, ⟨R, hT, hM⟩, hn, q⟩ := h
    refine ⟨_, (pss_one (ps_ret (pe_cal c_isfirmlot hr (by decide) rfl (pa_cons (pe_ix (ix_tupK (K := K) rfl) (pv 0) pe_int (fun _ _ => rfl)) (pa_cons (pe_tupRg rfl rfl T.tuple (prg_1 rfl T.range (pe_ix (ix_tupK (K := K) rfl) (pv 0) pe_int (fun _ _ => rfl)))) pa_nil))))), ?_⟩
    refine ev_ixT (i := 1) (ev_var rfl) ev_c hT rfl H (Ex.refl H) _ fun H1 e1 => ?_
    refine eu_rg (ev_ixT (i := 0) (ev_var rfl) ev_c (e1 _ _ hT) rfl) (by omega) H1 (Ex.refl H1) _ fun p H2 np e2 hp => ?_
    refine ⟨R, p, n, M, List.range n, rfl, hM.mono (e1.trans e2), hp, fun x hx => List.mem_range.mp hx, List.nodup_range, by rw [List.length_range]; exact hn, fun c H3 e3 hc => q c H3 ((e1.trans e2).trans e3) hc⟩
end
end K25
/-! K25D4: _lots_of, firm_lots, _few_lots. -/
namespace K25
open PySem PySem.Spec PyProof.Rows L2 Evl
theorem Tups.upd {H : Hp} {ps : List Addr} {Ls : List (List Nat)} {r : Addr} {xs : List V} {o : HO} (h : Tups H ps Ls) (hr : H r = some (.lst xs)) : Tups (L2.upd H r o) ps Ls :=
  ⟨h.1, fun i p L q1 q2 => by
    have z := h.2 i p L q1 q2
    rw [upd_ne (ne_of z hr (fun e => nomatch e))]
    exact z⟩
theorem lots_len {n : Nat} (hn : n ≤ 6) : ∀ k, (lots n k).length ≤ 6 ^ k
  | 0 => Nat.le_refl _
  | k + 1 => by
    have ih := lots_len hn k
    unfold lots
    rw [List.length_flatMap]
    have b : ∀ Ls : List (List Nat), (Ls.map fun L => ((List.range' (begins L) (n - begins L)).map fun t => L ++ [t]).length).sum ≤ Ls.length * 6 := fun Ls => by
      induction Ls with
      | nil => exact Nat.le_refl _
      | cons L t ih =>
        rw [List.map_cons, List.sum_cons, List.length_map, List.length_range', List.length_cons]
        omega
    have := b (lots n k)
    rw [Nat.pow_succ]
    omega
theorem lots_small {n k : Nat} (hn : n ≤ 6) (hk : k ≤ 6) : (lots n k).length ≤ 46656 := Nat.le_trans (lots_len hn k) (Nat.le_trans (Nat.pow_le_pow_right (by decide) hk) (by decide))
section
variable {K : PySem.W.Frag} {σ : L2.St} {H H' : Hp} {te tl : TE} {tt tt1 : TT} {g g1 : TG} {wi1 : TI}
/-- the inner loop of a comprehension of two -/
theorem lc_in {J : It} {n : Nat} {G : Hp → Prop} {Y : Nat → Hp → V → Hp → Prop} {vs1 : List Nat} {H4 : Hp} {D : Addr} {Nx : Hp → Prop} (w : Walk J n G Y) (Pv : Nat → Hp → Prop) (h0 : Pv 0 H4) (hG : ∀ j H, j ≤ n → Pv j H → G H)
    (hs : ∀ j x H H', j < n → Pv j H → Y j H x H' → g1 x (wipe σ vs1) H' fun σ3 H5 => wipe σ3 vs1 = wipe σ vs1 ∧ tt1 σ3 H5 fun b H6 =>
      if b = true then te σ3 H6 fun y H7 => ∃ acc, H7 D = some (.lst acc) ∧ acc.length < sizeLine ∧ Pv (j + 1) (upd H7 D (.lst (acc ++ [y]))) else Pv (j + 1) H6) (hd : ∀ H, Pv n H → Nx H) :
    ∃ W1 : Nat → Nat → Hp → Prop, (∃ m, W1 0 m H4) ∧ ∀ j k H, W1 j k H →
      (J.stop j H ∧ Nx H) ∨ (J.go j H ∧ ∃ Nx1 : Hp → Prop, (∀ H', Nx1 H' → ∃ k', k' < k ∧ W1 (j + 1) k' H') ∧ ∀ x H', J.yld j H x H' → g1 x (wipe σ vs1) H' fun σ3 H5 => wipe σ3 vs1 = wipe σ vs1 ∧ tt1 σ3 H5 fun b H6 =>
        if b = true then te σ3 H6 fun y H7 => ∃ acc, H7 D = some (.lst acc) ∧ acc.length < sizeLine ∧ Nx1 (upd H7 D (.lst (acc ++ [y]))) else Nx1 H6) := by
  refine ⟨fun j k H => k = n - j ∧ j ≤ n ∧ Pv j H, ⟨n, by simp, Nat.zero_le _, h0⟩, ?_⟩
  rintro j k H ⟨rfl, hj, p⟩
  by_cases lt : j < n
  · exact .inr ⟨w.goes j H lt (hG j H hj p), Pv (j + 1), fun H' q => ⟨n - (j + 1), by omega, rfl, lt, q⟩, fun x H' y => hs j x H H' lt p (w.yields j H x H' lt (hG j H hj p) y)⟩
  · obtain rfl : j = n := by omega
    exact .inl ⟨w.stops H (hG j H hj p), hd H p⟩
/-- the outer loop -/
theorem lc_out {J : It} {n : Nat} {G : Hp → Prop} {Y : Nat → Hp → V → Hp → Prop} {vs vs1 : List Nat} {H1 : Hp} {D : Addr} {Qd : Hp → Prop} (w : Walk J n G Y) (Pv : Nat → Hp → Prop) (h0 : Pv 0 (upd H1 D (.lst []))) (hG : ∀ i H, i ≤ n → Pv i H → G H)
    (hs : ∀ i x H H', i < n → Pv i H → Y i H x H' → g x (wipe σ vs) H' fun σ2 H2 => wipe σ2 vs = wipe σ vs ∧ tt σ2 H2 fun b H3 =>
      if b = true then wi1 σ2 H3 fun J1 H4 => ∃ W1 : Nat → Nat → Hp → Prop, (∃ m, W1 0 m H4) ∧ ∀ j k H, W1 j k H →
        (J1.stop j H ∧ Pv (i + 1) H) ∨ (J1.go j H ∧ ∃ Nx1 : Hp → Prop, (∀ H', Nx1 H' → ∃ k', k' < k ∧ W1 (j + 1) k' H') ∧ ∀ x H', J1.yld j H x H' → g1 x (wipe σ2 vs1) H' fun σ3 H5 => wipe σ3 vs1 = wipe σ2 vs1 ∧ tt1 σ3 H5 fun b H6 =>
          if b = true then te σ3 H6 fun y H7 => ∃ acc, H7 D = some (.lst acc) ∧ acc.length < sizeLine ∧ Nx1 (upd H7 D (.lst (acc ++ [y]))) else Nx1 H6)
      else Pv (i + 1) H3) (hd : ∀ H, Pv n H → Qd H) :
    ∃ W : Nat → Nat → Hp → Prop, (∃ m, W 0 m (upd H1 D (.lst []))) ∧ ∀ i m H, W i m H →
      (J.stop i H ∧ Qd H) ∨ (J.go i H ∧ ∃ Nx : Hp → Prop, (∀ H', Nx H' → ∃ m', m' < m ∧ W (i + 1) m' H') ∧ ∀ x H', J.yld i H x H' → g x (wipe σ vs) H' fun σ2 H2 => wipe σ2 vs = wipe σ vs ∧ tt σ2 H2 fun b H3 =>
        if b = true then wi1 σ2 H3 fun J1 H4 => ∃ W1 : Nat → Nat → Hp → Prop, (∃ m, W1 0 m H4) ∧ ∀ j k H, W1 j k H →
          (J1.stop j H ∧ Nx H) ∨ (J1.go j H ∧ ∃ Nx1 : Hp → Prop, (∀ H', Nx1 H' → ∃ k', k' < k ∧ W1 (j + 1) k' H') ∧ ∀ x H', J1.yld j H x H' → g1 x (wipe σ2 vs1) H' fun σ3 H5 => wipe σ3 vs1 = wipe σ2 vs1 ∧ tt1 σ3 H5 fun b H6 =>
            if b = true then te σ3 H6 fun y H7 => ∃ acc, H7 D = some (.lst acc) ∧ acc.length < sizeLine ∧ Nx1 (upd H7 D (.lst (acc ++ [y]))) else Nx1 H6)
        else Nx H3) := by
  refine ⟨fun i m H => m = n - i ∧ i ≤ n ∧ Pv i H, ⟨n, by simp, Nat.zero_le _, h0⟩, ?_⟩
  rintro i m H ⟨rfl, hi, p⟩
  by_cases lt : i < n
  · exact .inr ⟨w.goes i H lt (hG i H hi p), Pv (i + 1), fun H' q => ⟨n - (i + 1), by omega, rfl, lt, q⟩, fun x H' y => hs i x H H' lt p (w.yields i H x H' lt (hG i H hi p) y)⟩
  · obtain rfl : i = n := by omega
    exact .inl ⟨w.stops H (hG i H hi p), hd H p⟩
end
abbrev slotsof : Stmt := topS 8
abbrev Nlotsof : List Str := ["size", "many", "found", "turn", "lot", "thing"]
theorem sclotsof : FnScope Nlotsof ["size", "many"] (defScope slotsof) := ⟨rfl, rfl, rfl, by decide +kernel, rfl, by decide +kernel, by decide +kernel⟩
section
variable {P : Program} {w : World} {K : PySem.W.Frag} {mg : Str → Option Value} {base : Heap}
theorem lotV_snoc (L : List Nat) (t : Nat) : lotV (L ++ [t]) = lotV L ++ [nV t] := by unfold lotV; rw [List.map_append]; rfl
/-- _lots_of(size, many) -/
def spLotsOf : Sp := fun vs H Q _ => ∃ (n k : Nat), vs = [nV n, nV k] ∧ n ≤ 6 ∧ k ≤ 6 ∧ ∀ p H', H p = none → Ex H H' → LotsAt .lst H' p (lots n k) → Q (.ref p) H'
def nextLots (n : Nat) (L : List Nat) : List (List Nat) := (List.range' (begins L) (n - begins L)).map fun t => L ++ [t]
theorem nextLots_take {n j : Nat} {L : List Nat} (h : j < n - begins L) : (nextLots n L).take (j + 1) = (nextLots n L).take j ++ [L ++ [begins L + j]] := by
  unfold nextLots
  rw [List.take_add_one, List.getElem?_map, List.getElem?_range' h, Nat.one_mul]
  rfl
theorem nextLots_all {n : Nat} {L : List Nat} : (nextLots n L).take (n - begins L) = nextLots n L := List.take_of_length_le (by unfold nextLots; rw [List.length_map, List.length_range']; exact Nat.le_refl _)
theorem ok_lotsof {f : Addr} {fd : FuncData} (F : Fun K "_lots_of" "_lots_of" slotsof f fd) (T : Txt mg) : FnOk P w K mg base CX0 1 f fd ["size", "many"] spLotsOf := by
  have nd := sclotsof.nd
  refine F.ok sclotsof (fun vs H Q E h => ?_) (fun cdv A outer s H vs Q E hr h => ?_)
  · obtain ⟨_, _, rfl, _⟩ := h
    rfl
  · obtain ⟨n, k, rfl, hn, hk, q⟩ := h
    refine ⟨_, (pss_cons (ps_set (i := 2) nd rfl (Or.inl rfl) (pe_lst (pa_cons (pe_tup pa_nil) pa_nil)))
        (pss_cons (ps_for PassesOwn.never rfl (pi_range1 rfl T.range (pa_cons (pv 1) pa_nil)) (pg_name (i := 3) nd rfl (Or.inl rfl)) (pss_one (ps_setLc2 (i := 2) (own := [("lot", 4), ("thing", 5)]) (vs1 := [5]) rfl nd rfl rfl (sw_true rfl rfl rfl (by decide +kernel)) (pi_listK (K := K) rfl (pv 2)) (blkOk_by (own := [("lot", 4), ("thing", 5)]) (N := Nlotsof) (sc := defScope slotsof) (by decide +kernel)) (by decide) (fun _ _ _ _ _ => (pg_name (i := 4) nd rfl (Or.inl rfl))) (fun _ _ _ _ _ => pts_nil) (fun _ _ _ _ _ => (pi_range2 rfl T.range (pa_cons (pe_ifExp (pt_cmpR (op_neK (K := K) rfl hr.units) (pv 4) (pe_tup pa_nil) (nomark _)) (pe_op op_add (pe_ix (ix_tupK (K := K) rfl) (pv 4) (pe_un un_neg pe_int) (fun _ _ => rfl)) pe_int) pe_int) (pa_cons (pv 0) pa_nil)))) (fun _ _ _ _ _ => (pg_name (i := 5) nd rfl (Or.inl rfl))) (fun _ _ _ _ _ => pts_nil) (fun _ _ _ _ _ => (pe_op (op_catK (K := K) rfl) (pv 4) (pe_tup (pa_cons (pv 5) pa_nil)))))))
        (pss_one (ps_ret (pv 2))))), ?_⟩
    -- found = [()]
    refine go_seq (go_set (go_lst (go_cons (en_go (kd := .tup) eu_nil fun e0 H1 ne0 e1 he0 => go_nil ⟨by show 1 ≤ sizeLine; decide, fun r nr => ?_⟩))))
    have t1 : Tups (upd H1 r (.lst [.ref e0])) [e0] (lots n 0) := ⟨rfl, fun i p L q1 q2 => by
      cases i with
      | zero =>
        cases q1
        cases q2
        rw [upd_ne (ne_of_none he0 nr)]
        exact he0
      | succ i => simp at q1⟩
    refine q_forR1 (ea_cons (ev_var rfl) ea_nil) ⟨by omega, by omega⟩ (fun i σ H' => ∃ r v3, σ = [some (nV n), some (nV k), some (.ref r), v3, none, none] ∧ H r = none ∧ Ex H H' ∧ LotsAt .lst H' r (lots n i))
      (fun H2 e2 => ⟨r, none, rfl, fresh_back e1 nr, (e1.trans (Ex.new nr)).trans e2, [e0], e2 _ _ upd_same, t1.mono e2⟩) (fun i σ H2 hi p => ?_) (fun σ H2 p => ?_)
    · obtain ⟨r, v3, rfl, nr, e2, ps, hr2, tp⟩ := p
      have hi6 : i ≤ 6 := by omega
      have hpl : ps.length ≤ 46656 := by rw [tp.1]; exact lots_small hn hi6
      have ln := lots_small hn (show i + 1 ≤ 6 by omega)
      have lots1 : lots n (i + 1) = (lots n i).flatMap (nextLots n) := rfl
      -- found = [.. for lot in found for thing in range(..)]
      refine ⟨_, rfl, r, rfl, ⟨_, sq_of hr2⟩, fun D nD => lc_out (walk_list (xs := ps.map .ref)) (fun a H' => H D = none ∧ Ex H2 H' ∧ ∃ qs, H' D = some (.lst (qs.map .ref)) ∧ Tups H' qs (((lots n i).take a).flatMap (nextLots n))) ⟨fresh_back e2 nD, Ex.new nD, [], upd_same, Tups.nil⟩
        (fun a H' _ p => sq_of (p.2.1 _ _ hr2)) (fun a x H3 H4 ha p y => ?_) (fun H3 p => ?_)⟩
      · obtain ⟨nD0, e3, qs, hD, tq⟩ := p
        obtain ⟨rfl, hx⟩ := y
        rw [List.length_map] at ha
        rw [List.getElem?_map, List.getElem?_eq_getElem ha] at hx
        obtain rfl : V.ref ps[a] = x := Option.some.inj hx
        have hL : (lots n i)[a]? = some ((lots n i)[a]'(by rw [← tp.1]; exact ha)) := List.getElem?_eq_getElem _
        generalize (lots n i)[a]'(by rw [← tp.1]; exact ha) = L at hL
        have hp2 : H2 ps[a] = some (.tup (lotV L)) := tp.2 a _ L (List.getElem?_eq_getElem ha) hL
        generalize ps[a] = pa at hp2
        have hp : H4 pa = some (.tup (lotV L)) := e3 _ _ hp2
        have aL := ((mem_lots i L).mp (List.mem_of_getElem? hL)).2
        have bL := len_begins L.length L rfl aL
        refine ⟨rfl, go_yes (iteT ?_)⟩
        -- range(lot[-1] + 1 if lot != () else 0, size)
        refine go_rng2 (ea_go (ea_cons (x := nV (begins L)) (ev_if (et_test (ev_neNilT (ev_var rfl) eu_nil hp)) (fun hb => ?_) fun hb => ?_) (ea_cons (ev_var rfl) ea_nil)) fun H5 e5 => ⟨_, _, rfl, ⟨by omega, by omega, by omega, by omega⟩, ?_⟩)
        · rcases snoc_cases L with rfl | ⟨M, t, rfl⟩
          · cases hb
          · rw [begins_snoc]
            refine ev_addN (j := 1) (ev_op (ev_var rfl) (ev_un ev_c ru_neg) (rv_ixT (st_of hp) ?_)) ev_c
            rw [lotV_snoc]
            exact atI_last _ _
        · rcases snoc_cases L with rfl | ⟨M, t, rfl⟩
          · exact ev_c
          · simp at hb
        · have tl : ((lots n i).take (a + 1)).flatMap (nextLots n) = ((lots n i).take a).flatMap (nextLots n) ++ nextLots n L := by
            rw [List.take_add_one, hL, Option.toList_some, List.flatMap_append, List.flatMap_singleton]
          have le : (((lots n i).take (a + 1)).flatMap (nextLots n)).length ≤ 46656 := by
            refine Nat.le_trans ?_ ln
            rw [lots1, ← List.take_append_drop (a + 1) (lots n i), List.flatMap_append, List.length_append, List.take_append_drop]
            exact Nat.le_add_right _ _
          rw [show ((n : Int) - (begins L : Int)).toNat = n - begins L by omega]
          refine lc_in (n := n - begins L) walk_range (fun j H' => Ex H2 H' ∧ ∃ qs, H' D = some (.lst (qs.map .ref)) ∧ Tups H' qs (((lots n i).take a).flatMap (nextLots n) ++ (nextLots n L).take j)) ⟨e3.trans e5, qs, e5 _ _ hD, by rw [List.take_zero, List.append_nil]; exact tq.mono e5⟩ (fun _ _ _ _ => trivial) (fun j x H6 H7 hj p y => ?_) (fun H6 p => ?_)
          · obtain ⟨e6, qs, hD6, tq6⟩ := p
            obtain ⟨rfl, rfl⟩ := y
            have zL : L.length ≤ 6 := by
              have := ((mem_lots i L).mp (List.mem_of_getElem? hL)).1
              omega
            refine ⟨rfl, go_yes (iteT ?_)⟩
            refine en_go (eu_catN (ev_var rfl) (eu_tup (ea_cons (ev_var rfl) ea_nil) (by show 1 ≤ 100000; decide)) (e6 _ _ hp2) (by simp) (by rw [lotV_len]; show L.length + 1 ≤ 100000; omega)) fun pn H8 nn e8 hn8 => ?_
            have hq : H8 pn = some (.tup (lotV (L ++ [begins L + j]))) := by
              rw [hn8, lotV_snoc]
              congr 4
            refine ⟨qs.map .ref, e8 _ _ hD6, ?_, Ex.mut (e6.trans e8) nD, qs ++ [pn], by rw [upd_same, List.map_append]; rfl, ?_⟩
            · rw [List.length_map, tq6.1]
              refine sz_lt (Nat.lt_of_le_of_lt (m := 46656) (Nat.le_trans ?_ le) (by decide))
              rw [tl, List.length_append, List.length_append]
              exact Nat.add_le_add_left (List.length_take_le' ..) _
            · rw [nextLots_take hj, ← List.append_assoc]
              exact ((tq6.mono e8).snoc hq).upd (e8 _ _ hD6)
          · obtain ⟨e6, qs, hD6, tq6⟩ := p
            rw [nextLots_all] at tq6
            exact ⟨nD0, e6, qs, hD6, by rw [tl]; exact tq6⟩
      · obtain ⟨nD0, e3, qs, hD, tq⟩ := p
        rw [List.length_map, tp.1, List.take_length] at tq
        exact ⟨D, _, rfl, nD0, e2.trans e3, qs, hD, by rw [lots1]; exact tq⟩
    · obtain ⟨r, v3, rfl, nr, e2, lt⟩ := p
      exact s_ret (ev_var rfl) fun H3 e3 => q r H3 nr (e2.trans e3) (lt.mono e3)
end
end K25
/-! K25D5: firm_lots, _few_lots. -/
namespace K25
open PySem PySem.Spec PyProof.Rows L2 Evl
theorem lots_few : ∀ n, n ≤ 6 → ∀ k, k ≤ 6 → (lots n k).length ≤ 20 := by decide +kernel
section
variable {K : PySem.W.Frag} {σ : L2.St} {H : Hp} {te tb : TE} {D : Ends} {Q : VK}
/-- xs.extend(what tb makes) -/
theorem s_ext {a : Addr} {xs : List V} (ha : Ev te σ H (.ref a)) (h : H a = some (.lst xs)) (hb : ∀ H1, Ex H H1 → tb σ H1 fun v H2 => rExtend (.ref a) [v] H2 fun _ H3 => D.nx σ H3) :
    tDrop (tBM K "list" rExtend te (tCons tb tNil)) D σ H := ha H (Ex.refl H) _ fun H1 e1 => ⟨.inl ⟨rfl, _, sq_of (e1 _ _ h)⟩, hb H1 e1⟩
theorem ns_go {kd : List V → HO} {n : Nat} {os : Nat → List V} (h : EvNs kd te σ H n os) (k : ∀ D ps H2, News kd H H2 n os D ps → Q (.ref D) H2) : te σ H Q := h H (Ex.refl H) _ k
theorem sv_isfirmlot {R l : Addr} {n : Nat} {M : Nat → Nat → Int} {L : List Nat} (hM : Mat .tup n M H R) (hl : H l = some (.tup (lotV L))) (a : Asc n L) (hn : n ≤ 6) : SpV spIsFirmLot [.ref R, .ref l] H (.bl (firmB M L)) := fun H1 e Q q E =>
  ⟨R, l, n, M, L, rfl, hM.mono e, e _ _ hl, a.lt, a.nd, by have := a.len; omega, fun c H2 e2 hc => by
    rw [show c = firmB M L from by rw [Bool.eq_iff_iff, hc, firmB_iff a.nd]]
    exact q H2 e2⟩
end
section
variable {K : PySem.W.Frag} {σ : L2.St} {H : Hp} {te tl : TE} {tt : TT} {Q : VK} {vs : List Nat} {j : Nat}
/-- what a comprehension over the list at a does -/
def LcR (K : PySem.W.Frag) (a : Addr) (g : TG) (tt : TT) (te : TE) (vs : List Nat) (σ : L2.St) (H1 : Hp) (Q : VK) : Prop := ∀ D, H1 D = none → ∃ W : Nat → Nat → Hp → Prop, (∃ m, W 0 m (upd H1 D (.lst []))) ∧ ∀ i m H, W i m H →
  ((Itl K a).stop i H ∧ Q (.ref D) H) ∨ ((Itl K a).go i H ∧ ∃ Nx : Hp → Prop, (∀ H', Nx H' → ∃ m', m' < m ∧ W (i + 1) m' H') ∧ ∀ x H', (Itl K a).yld i H x H' → g x (wipe σ vs) H' fun σ2 H2 => wipe σ2 vs = wipe σ vs ∧ tt σ2 H2 fun b H3 =>
    if b = true then te σ2 H3 fun y H4 => ∃ acc, H4 D = some (.lst acc) ∧ acc.length < sizeLine ∧ Nx (upd H4 D (.lst (acc ++ [y]))) else Nx H3)
theorem go_lc (h : tl σ H fun x H1 => ∃ a, x = .ref a ∧ (∃ xs, SqL K H1 a xs) ∧ LcR K a (gName j) tt te vs σ H1 Q) : tLc (iList K tl) (gName j) tt te vs σ H Q := h
theorem lc_r {a : Addr} {xs : List V} (f : Nat → Bool) (v : Nat → V) (hx : SqL K H a xs) (hz : xs.length ≤ 50000) (hw : ∀ x, wipe ((wipe σ vs).set j (some x)) vs = wipe σ vs)
    (ht : ∀ (i : Nat) (x : V) H1, Ex H H1 → xs[i]? = some x → EvT tt ((wipe σ vs).set j (some x)) H1 (f i)) (he : ∀ (i : Nat) (x : V) H1, Ex H H1 → xs[i]? = some x → f i = true → Ev te ((wipe σ vs).set j (some x)) H1 (v i))
    (q : ∀ p H1, H p = none → Ex H H1 → H1 p = some (.lst (given xs.length f v)) → Q (.ref p) H1) : LcR K a (gName j) tt te vs σ H Q := lc_rest f v hx hz hw ht he q
end
theorem News.tups {H1 H2 : Hp} {n : Nat} {f : Nat → List Nat} {D : Addr} {ps : List Addr} (w : News .tup H1 H2 n (fun i => lotV (f i)) D ps) : Tups H2 ps ((List.range n).map f) := by
  refine ⟨by rw [w.len, List.length_map, List.length_range], fun i p L q1 q2 => ?_⟩
  have lt := (List.getElem?_eq_some_iff.mp q1).1
  rw [w.len] at lt
  rw [List.getElem?_map, List.getElem?_range lt] at q2
  have e : f i = L := Option.some.inj q2
  rw [← e]
  exact w.obj i p q1
def firmTo (M : Nat → Nat → Int) (n i : Nat) : List (List Nat) := (List.range' 3 i).flatMap fun k => (lots n k).filter (firmB M)
theorem firmTo_succ (M : Nat → Nat → Int) (n i : Nat) : firmTo M n (i + 1) = firmTo M n i ++ (lots n (3 + i)).filter (firmB M) := by
  unfold firmTo
  rw [List.range'_1_concat, List.flatMap_append, List.flatMap_singleton]
theorem firmTo_len {M : Nat → Nat → Int} {n : Nat} (hn : n ≤ 6) : ∀ i, 3 + i ≤ n + 1 → (firmTo M n i).length ≤ 20 * i
  | 0, _ => Nat.le_refl _
  | i + 1, h => by
    have ih := firmTo_len (M := M) hn i (by omega)
    rw [firmTo_succ, List.length_append]
    have h1 := List.length_filter_le (firmB M) (lots n (3 + i))
    have h2 := lots_few n hn (3 + i) (by omega)
    omega
abbrev sfirmlots : Stmt := topS 10
abbrev Nfirmlots : List Str := ["table", "size", "rows", "found", "many", "lot"]
theorem scfirmlots : FnScope Nfirmlots ["table"] (defScope sfirmlots) := ⟨rfl, rfl, rfl, by decide +kernel, rfl, by decide +kernel, by decide +kernel⟩
abbrev sfewlots : Stmt := topS 12
abbrev Nfewlots : List Str := ["things", "found", "at", "one", "other"]
theorem scfewlots : FnScope Nfewlots ["things"] (defScope sfewlots) := ⟨rfl, rfl, rfl, by decide +kernel, rfl, by decide +kernel, by decide +kernel⟩
section
variable {P : Program} {w : World} {K : PySem.W.Frag} {mg : Str → Option Value} {base : Heap}
/-- firm_lots(table) -/
def spFirmLots : Sp := fun vs H Q _ => ∃ (t : Addr) (n : Nat) (M : Nat → Nat → Int), vs = [.ref t] ∧ TabAt n M H t ∧ n ≤ 6 ∧ ∀ p H', Ex H H' → LotsAt .tup H' p (firmLots M n) → Q (.ref p) H'
theorem ok_firmlots {f : Addr} {fd : FuncData} (F : Fun K "firm_lots" "firm_lots" sfirmlots f fd) (T : Txt mg) (c_isfirmlot : Cal P w K mg base 2 "_is_firm_lot" ["rows", "lot"] spIsFirmLot) (c_lotsof : Cal P w K mg base 1 "_lots_of" ["size", "many"] spLotsOf) :
    FnOk P w K mg base CX0 3 f fd ["table"] spFirmLots := by
  have nd := scfirmlots.nd
  refine F.ok scfirmlots (fun vs H Q E h => ?_) (fun cdv A outer s H vs Q E hr h => ?_)
  · obtain ⟨_, _, _, rfl, _⟩ := h
    rfl
  · obtain ⟨t, n, M, rfl, ⟨R, hT, hM⟩, hn, q⟩ := h
    refine ⟨_, (pss_cons (ps_asg (pv 0) (pg_tupK (K := K) (n := 2) rfl rfl (pgs_cons (pg_name (i := 1) nd rfl (Or.inl rfl)) (pgs_cons (pg_name (i := 2) nd rfl (Or.inr rfl)) pgs_nil))))
        (pss_cons (ps_set (i := 3) nd rfl (Or.inl rfl) (pe_lst pa_nil))
        (pss_cons (ps_for PassesOwn.never rfl (pi_range2 rfl T.range (pa_cons pe_int (pa_cons (pe_op op_add (pv 1) pe_int) pa_nil))) (pg_name (i := 4) nd rfl (Or.inl rfl)) (pss_one (ps_expr (pe_bm PySem.F.plainAttrs_list PySem.F.slot_list_extend PySem.F.type_list_extend mt_extend (pv 3) (pa_cons (pe_lc (own := [("lot", 5)]) rfl nd (pi_listK (K := K) rfl (pe_cal c_lotsof hr (by decide) rfl (pa_cons (pv 1) (pa_cons (pv 4) pa_nil)))) (blkOk_by (own := [("lot", 5)]) (N := Nfirmlots) (sc := defScope sfirmlots) (by decide +kernel)) (fun _ _ _ _ _ => (pg_name (i := 5) nd rfl (Or.inl rfl))) (fun _ _ _ _ _ => (pts_one (pt_val (pe_cal c_isfirmlot hr (by decide) rfl (pa_cons (pv 2) (pa_cons (pv 5) pa_nil)))))) (fun _ _ _ _ _ => (pv 5))) pa_nil)))))
        (pss_one (ps_ret (pe_callTy (call_tupleK (K := K) rfl) rfl T.tuple bb_tuple (pa_cons (pv 3) pa_nil))))))), ?_⟩
    -- size, rows = table
    refine go_seq (go_asg (ev_go (ev_var rfl) fun H1 e1 => ⟨t, [nV n, .ref R], rfl, st_of (e1 _ _ hT), rfl, _, _, rfl, _, _, rfl, rfl, ?_⟩))
    -- found = []
    refine q_asgL el_nil fun r H2 nr e2 hr2 => ?_
    have nr := fresh_back e1 nr
    refine q_forR2 (lo := 3) (n := ((n + 1 : Nat) : Int)) (ea_cons ev_c (ea_cons (ev_addN (j := 1) (ev_var rfl) ev_c) ea_nil)) ⟨by omega, by omega, by omega, by omega⟩
      (fun i σ H' => ∃ v4 v5, σ = [some (.ref t), some (nV n), some (.ref R), some (.ref r), v4, v5] ∧ Ex H H' ∧ LotsAt .lst H' r (firmTo M n i))
      (fun H3 e3 => ⟨none, none, rfl, (e1.trans e2).trans e3, [], e3 _ _ hr2, Tups.nil⟩) (fun i σ H3 hi p => ?_) (fun σ H3 p => ?_)
    · obtain ⟨v4, v5, rfl, e3, qs, hr3, tq⟩ := p
      have hi' : 3 + i ≤ n := by omega
      rw [show (3 : Int) + (i : Int) = ((3 + i : Nat) : Int) by omega]
      refine s_ext (ev_var rfl) hr3 fun H4 e4 => ?_
      refine go_lc (go_call (ea_go (ea_cons (ev_var rfl) (ea_cons (ev_var rfl) ea_nil)) fun H5 e5 => ⟨n, 3 + i, rfl, hn, by omega, fun p H6 np e6 lt => ?_⟩))
      obtain ⟨ps, hp, tp⟩ := lt
      have lz := lots_few n hn (3 + i) (by omega)
      have e46 := e4.trans (e5.trans e6)
      have xat : ∀ (k : Nat) (x : V), (ps.map V.ref)[k]? = some x → ∃ pa L, ps.getD k 0 = pa ∧ (lots n (3 + i)).getD k [] = L ∧ x = .ref pa ∧ H6 pa = some (.tup (lotV L)) ∧ Asc n L := fun k x hx => by
        rw [List.getElem?_map] at hx
        have lt : k < ps.length := by
          rcases Nat.lt_or_ge k ps.length with h | h
          · exact h
          · rw [List.getElem?_eq_none h] at hx
            cases hx
        have lt2 : k < (lots n (3 + i)).length := by rw [← tp.1]; exact lt
        rw [List.getElem?_eq_getElem lt] at hx
        refine ⟨_, _, rfl, rfl, ?_, ?_, ?_⟩
        · rw [List.getD_eq_getElem?_getD, List.getElem?_eq_getElem lt]
          exact (Option.some.inj hx).symm
        · refine tp.2 k _ _ ?_ ?_
          · rw [List.getD_eq_getElem?_getD, List.getElem?_eq_getElem lt]
            rfl
          · rw [List.getD_eq_getElem?_getD, List.getElem?_eq_getElem lt2]
            rfl
        · rw [List.getD_eq_getElem?_getD, List.getElem?_eq_getElem lt2]
          exact ((mem_lots _ _).mp (List.getElem_mem lt2)).2
      refine ⟨p, rfl, ⟨_, sq_of hp⟩, lc_r (xs := ps.map .ref) (fun k => firmB M ((lots n (3 + i)).getD k [])) (fun k => V.ref (ps.getD k 0)) (sq_of hp) (by rw [List.length_map, tp.1]; omega) (fun _ => rfl) (fun k x H7 e7 hx => ?_) (fun k x H7 e7 hx _ => ?_) fun p' H7 np' e7 hp' => ?_⟩
      · obtain ⟨pa, L, e1', e2', rfl, hpa, aL⟩ := xat k x hx
        rw [e2']
        exact et_B (ev_call (ea_cons (ev_var rfl) (ea_cons (ev_var rfl) ea_nil)) (sv_isfirmlot (hM.mono (e3.trans (e46.trans e7))) (e7 _ _ hpa) aL hn))
      · obtain ⟨pa, L, e1', e2', rfl, hpa, aL⟩ := xat k x hx
        rw [e1']
        exact ev_var rfl
      · obtain ⟨rs, er, tr⟩ := tups_given tp (firmB M)
        rw [List.length_map, er] at hp'
        have hr7 := e7 _ _ (e46 _ _ hr3)
        refine ⟨r, p', _, _, rfl, rfl, hr7, hp', ?_, _, _, rfl, Ex.mut ((e3.trans e46).trans e7) nr, qs ++ rs, by rw [upd_same, List.map_append], ?_⟩
        · rw [List.length_map, List.length_map, tq.1, tr.1]
          have h1 := firmTo_len (M := M) hn i (by omega)
          have h2 := List.length_filter_le (firmB M) (lots n (3 + i))
          exact sz_of (by omega)
        · rw [firmTo_succ]
          exact ((tq.mono (e46.trans e7)).append (tr.mono e7)).upd hr7
    · obtain ⟨v4, v5, rfl, e3, qs, hr3, tq⟩ := p
      rw [show ((((n + 1 : Nat) : Int)) - 3).toNat = n - 2 by omega] at tq
      exact s_retU (eu_tupl (ev_var rfl) hr3) fun p H4 np e4 hp => q p H4 (e3.trans e4) ⟨qs, hp, tq.mono e4⟩
/-- _few_lots(things) -/
def spFewLots : Sp := fun vs H Q _ => ∃ (a : Addr) (Th : List Nat), vs = [.ref a] ∧ H a = some (.lst (lotV Th)) ∧ Th.length ≤ 50 ∧ ∀ p H', H p = none → Ex H H' → LotsAt .lst H' p (fewL Th) → Q (.ref p) H'
theorem pairsTo_succ {Th : List Nat} {i x : Nat} (h : Th[i]? = some x) : pairsTo Th (i + 1) = pairsTo Th i ++ (Th.drop (i + 1)).map fun y => [x, y] := by
  unfold pairsTo
  rw [List.range_succ, List.flatMap_append, List.flatMap_singleton, getD_of h]
theorem pairsTo_len (Th : List Nat) : ∀ i, (pairsTo Th i).length ≤ Th.length * i
  | 0 => Nat.le_refl _
  | i + 1 => by
    have ih := pairsTo_len Th i
    unfold pairsTo at ih ⊢
    rw [List.range_succ, List.flatMap_append, List.flatMap_singleton, List.length_append, List.length_map, List.length_drop, Nat.mul_succ]
    omega
theorem ok_fewlots {f : Addr} {fd : FuncData} (F : Fun K "_few_lots" "_few_lots" sfewlots f fd) (T : Txt mg) : FnOk P w K mg base CX0 1 f fd ["things"] spFewLots := by
  have nd := scfewlots.nd
  refine F.ok scfewlots (fun vs H Q E h => ?_) (fun cdv A outer s H vs Q E hr h => ?_)
  · obtain ⟨_, _, rfl, _⟩ := h
    rfl
  · obtain ⟨a, Th, rfl, ha, hz, q⟩ := h
    refine ⟨_, (pss_cons (ps_setLc (i := 1) (own := [("one", 3)]) rfl nd rfl rfl (sw_true rfl rfl rfl (by decide +kernel)) (pi_listK (K := K) rfl (pv 0)) (blkOk_by (own := [("one", 3)]) (N := Nfewlots) (sc := defScope sfewlots) (by decide +kernel)) (fun _ _ _ _ _ => (pg_name (i := 3) nd rfl (Or.inl rfl))) (fun _ _ _ _ _ => pts_nil) (fun _ _ _ _ _ => (pe_tup (pa_cons (pv 3) pa_nil))))
        (pss_cons (ps_for PassesOwn.never rfl (pi_enumLK (K := K) rfl rfl T.enumerate (pa_cons (pv 0) pa_nil)) (pg_tupK (K := K) (n := 2) rfl rfl (pgs_cons (pg_name (i := 2) nd rfl (Or.inl rfl)) (pgs_cons (pg_name (i := 3) nd rfl (Or.inr rfl)) pgs_nil))) (pss_one (ps_expr (pe_bm PySem.F.plainAttrs_list PySem.F.slot_list_extend PySem.F.type_list_extend mt_extend (pv 1) (pa_cons (pe_lc (own := [("other", 4)]) rfl nd (pi_listK (K := K) rfl (pe_slice (sl_listK (K := K) rfl) (pv 0) (po_some (pe_op op_add (pv 2) pe_int)) po_none)) (blkOk_by (own := [("other", 4)]) (N := Nfewlots) (sc := defScope sfewlots) (by decide +kernel)) (fun _ _ _ _ _ => (pg_name (i := 4) nd rfl (Or.inl rfl))) (fun _ _ _ _ _ => pts_nil) (fun _ _ _ _ _ => (pe_tup (pa_cons (pv 3) (pa_cons (pv 4) pa_nil))))) pa_nil)))))
        (pss_one (ps_ret (pv 1))))), ?_⟩
    -- found = [(one,) for one in things]
    refine go_seq (go_set (ns_go (en_lcL (kd := .tup) (fun i => lotV [Th.getD i 0]) (ev_var rfl) (sq_of ha) (by rw [lotV_len]; omega) (fun _ => rfl) fun i x H1 e1 hx => ?_) fun r ps H1 nw => ?_))
    · obtain ⟨y, hy, rfl⟩ := of_lotV hx
      rw [getD_of hy]
      exact eu_tup (ea_cons (ev_var rfl) ea_nil) (by show 1 ≤ 100000; decide)
    · have t0 := nw.tups
      rw [lotV_len, range_map_get Th 0 fun x => [x]] at t0
      have nr := nw.nD
      -- for at, one in enumerate(things)
      refine q_forEL (ea_cons (ev_var rfl) ea_nil) (nw.ex _ _ ha) (fun i σ H' => ∃ v2 v3 v4, σ = [some (.ref a), some (.ref r), v2, v3, v4] ∧ Ex H H' ∧ LotsAt .lst H' r ((Th.map fun x => [x]) ++ pairsTo Th i))
        (fun H2 e2 => ⟨none, none, none, rfl, nw.ex.trans e2, ps, e2 _ _ nw.lst, by rw [show pairsTo Th 0 = [] from rfl, List.append_nil]; exact t0.mono e2⟩) (fun i σ H' _ p => ?_) (fun i x σ H2 H3 hx p e3 => ?_) (fun σ H2 p => ?_)
      · obtain ⟨_, _, _, _, e, _⟩ := p
        exact e _ _ ha
      · obtain ⟨v2, v3, v4, rfl, e2, qs, hr2, tq⟩ := p
        obtain ⟨y, hy, rfl⟩ := of_lotV hx
        have hr3 := e3 _ _ hr2
        have ha3 := (e2.trans e3) _ _ ha
        have iz := (List.getElem?_eq_some_iff.mp hy).1
        refine s_ext (ev_var rfl) hr3 fun H4 e4 => ?_
        refine ns_go (en_lcNL (kd := .tup) (fun k => lotV [y, (Th.drop (i + 1)).getD k 0]) (el_sl (ev_var rfl) (eo_some (ev_addN (j := 1) (ev_var rfl) ev_c)) eo_none (sq_of (e4 _ _ ha3))) (by rw [cut_from, List.length_drop, lotV_len]; omega) (fun _ => rfl) fun k x H5 e5 hx => ?_) fun D rs H5 nw5 => ?_
        · rw [cut_from, List.getElem?_drop] at hx
          obtain ⟨z, hz, rfl⟩ := of_lotV hx
          rw [getD_of (by rw [List.getElem?_drop]; exact hz)]
          exact eu_tup (ea_cons (ev_var rfl) (ea_cons (ev_var rfl) ea_nil)) (by show 2 ≤ 100000; decide)
        · have t5 := nw5.tups
          have dl : (cutV (lotV Th) (some (((i + 1 : Nat) : Int))) none).length = (Th.drop (i + 1)).length := by rw [cut_from, List.length_drop, List.length_drop, lotV_len]
          rw [dl, range_map_get (Th.drop (i + 1)) 0 fun z => [y, z]] at t5
          have e35 := e4.trans nw5.ex
          refine ⟨r, D, _, _, rfl, rfl, e35 _ _ hr3, nw5.lst, ?_, _, _, _, rfl, Ex.mut ((e2.trans e3).trans e35) nr, qs ++ rs, by rw [upd_same, List.map_append], ?_⟩
          · have h1 := pairsTo_len Th i
            have h2 : Th.length * i ≤ 50 * 50 := Nat.mul_le_mul hz (by omega)
            rw [List.length_map, List.length_map, tq.1, t5.1, List.length_append, List.length_map, List.length_map, List.length_drop]
            exact sz_of (by omega)
          · rw [pairsTo_succ hy, ← List.append_assoc]
            exact ((tq.mono (e3.trans e35)).append t5).upd (e35 _ _ hr3)
      · obtain ⟨v2, v3, v4, rfl, e2, lt⟩ := p
        rw [lotV_len] at lt
        exact s_ret (ev_var rfl) fun H3 e3 => q r H3 nr (e2.trans e3) (lt.mono e3)
end
end K25
/-! K25D6: _need_firm, next_firm. -/
namespace K25
open PySem PySem.Spec PyProof.Rows L2 Evl
theorem find_at {α : Type} {p : α → Bool} : ∀ {l : List α} {i : Nat} {f : α}, l[i]? = some f → p f = true → (∀ g ∈ l.take i, p g = false) → l.find? p = some f
  | [], i, f, h, _, _ => by simp at h
  | x :: t, 0, f, h, hp, _ => by
    cases h
    rw [List.find?_cons, hp]
  | x :: t, i + 1, f, h, hp, hb => by
    rw [List.find?_cons, hb x (by simp)]
    exact find_at (l := t) (by simpa using h) hp fun g hg => hb g (by rw [List.take_succ_cons]; exact List.mem_cons_of_mem _ hg)
section
variable {K : PySem.W.Frag} {σ : L2.St} {H : Hp} {te tb tl ta : TE} {tt : TT} {tu tz : TS} {D : Ends} {Q : VK} {QB : Bool → Hp → Prop} {vs : List Nat} {j : Nat}
theorem go_notB (h : te σ H fun v H2 => ∃ c, v = .bl c ∧ QB (!c) H2) : tNot (tB te) σ H QB := h
theorem go_B (h : te σ H fun v H2 => ∃ c, v = .bl c ∧ QB c H2) : tB te σ H QB := h
def ForR (K : PySem.W.Frag) (a : Addr) (g : TG) (tb : TS) (D : Ends) (σ : L2.St) (H1 : Hp) : Prop := ∃ W : Nat → Nat → L2.St → Hp → Prop, (∃ m, W 0 m σ H1) ∧ ∀ i m σ H, W i m σ H →
  ((Itl K a).stop i H ∧ D.nx σ H) ∨ ((Itl K a).go i H ∧ ∃ N : L2.St → Hp → Prop, (∀ σ' H', N σ' H' → ∃ m', m' < m ∧ W (i + 1) m' σ' H') ∧ ∀ x H', (Itl K a).yld i H x H' → g x σ H' fun σ2 H2 => tb { D with nx := N, ct := N, bk := D.nx } σ2 H2)
theorem go_for (h : tl σ H fun x H1 => ∃ a, x = .ref a ∧ (∃ xs, SqL K H1 a xs) ∧ ForR K a (gName j) tu { D with nx := tz D } σ H1) : tSeq (tFor (iList K tl) (gName j) tu) tz D σ H := h
theorem for_r {a : Addr} {xs : List V} (Pv : Nat → L2.St → Hp → Prop) (h0 : Pv 0 σ H) (hl : ∀ i σ' H', i ≤ xs.length → Pv i σ' H' → SqL K H' a xs)
    (hs : ∀ i x σ' H', xs[i]? = some x → Pv i σ' H' → tu { D with nx := Pv (i + 1), ct := Pv (i + 1), bk := D.nx } (σ'.set j (some x)) H') (hd : ∀ σ' H', Pv xs.length σ' H' → D.nx σ' H') : ForR K a (gName j) tu D σ H :=
  for_list Pv h0 hl hs hd
theorem for_q {a : Addr} {xs : List V} (Pv : Nat → L2.St → Hp → Prop) (h0 : Pv 0 σ H) (hl : ∀ i σ' H', i ≤ xs.length → Pv i σ' H' → SqL K H' a xs)
    (hs : ∀ i x σ' H', xs[i]? = some x → Pv i σ' H' → tu { D with nx := Pv (i + 1), ct := Pv (i + 1), bk := tz D } (σ'.set j (some x)) H') (hd : ∀ σ' H', Pv xs.length σ' H' → tz D σ' H') : ForR K a (gName j) tu { D with nx := tz D } σ H :=
  for_list Pv h0 hl hs hd
theorem eu_catV {p r : Addr} {xs ys : List V} (ha : Ev ta σ H (.ref p)) (hb : Ev tb σ H (.ref r)) (h : H p = some (.tup xs)) (h2 : H r = some (.tup ys)) (hx : xs ≠ []) (hy : ys ≠ []) (hz : xs.length + ys.length ≤ 100000) : EvU (tOp (rCatA K) ta tb) σ H (xs ++ ys) := fun H1 e Q q =>
  ha H1 e _ fun H2 e2 => hb H2 (e.trans e2) _ fun H3 e3 => ⟨p, r, xs, ys, rfl, rfl, st_of (((e.trans e2).trans e3) p _ h), st_of (((e.trans e2).trans e3) r _ h2), sz_of hz,
    fun ex => absurd ex hx, fun _ ey => absurd ey hy, fun _ _ s ns => q s _ (fresh_back (e2.trans e3) ns) ((e2.trans e3).trans (Ex.new ns)) upd_same⟩
theorem perm_nat {ns' : List Int} {X : List Nat} (h : ns'.Perm (X.map fun n : Nat => (n : Int))) : ∃ S : List Nat, S.Perm X ∧ ns'.map V.int = lotV S := by
  refine ⟨ns'.map Int.toNat, ?_, ?_⟩
  · have := h.map Int.toNat
    rw [List.map_map] at this
    rw [show X.map (Int.toNat ∘ fun n : Nat => (n : Int)) = X from by
      refine Eq.trans (List.map_congr_left fun x _ => ?_) (List.map_id X)
      exact Int.toNat_natCast x] at this
    exact this
  · unfold lotV
    rw [List.map_map]
    refine List.map_congr_left fun x hx => ?_
    obtain ⟨m, _, rfl⟩ := List.mem_map.mp (h.mem_iff.mp hx)
    show V.int (m : Int) = V.int (((m : Int).toNat : Nat) : Int)
    rw [Int.toNat_natCast]
/-- tuple(sorted(a lot)) -/
theorem go_sorted {X : List Nat} (h : EvU te σ H (lotV X)) (hz : X.length < 64) (k : ∀ S p H1, S.Perm X → H p = none → Ex H H1 → H1 p = some (.tup (lotV S)) → Q (.ref p) H1) :
    tCB (rTuple2 K) (tCons (tCB (rSortT K) (tCons te tNil)) tNil) σ H Q := h H (Ex.refl H) _ fun p H1 np e1 hp => by
  refine ⟨p, X.map (fun n : Nat => (n : Int)), rfl, st_of (by rw [← lotV_I]; exact hp), by rw [List.length_map]; exact hz, fun ns' r hperm nr => ?_⟩
  obtain ⟨S, hS, eS⟩ := perm_nat hperm
  refine ⟨r, _, rfl, Or.inl ⟨sq_of upd_same, fun l hl => ?_⟩⟩
  have e2 : Ex H1 (upd (upd H1 r (.lst (ns'.map V.int))) l (.tup (ns'.map V.int))) := (Ex.new nr).trans (Ex.new hl)
  exact k S l _ hS (fresh_back (e1.trans (Ex.new nr)) hl) (e1.trans e2) (by rw [upd_same, eS])
end
abbrev sneedfirm : Stmt := topS 13
abbrev Nneedfirm : List Str := ["table", "lot"]
theorem scneedfirm : FnScope Nneedfirm ["table", "lot"] (defScope sneedfirm) := ⟨rfl, rfl, rfl, by decide +kernel, rfl, by decide +kernel, by decide +kernel⟩
abbrev snextfirm : Stmt := topS 14
abbrev Nnextfirm : List Str := ["table", "lot", "outside", "few", "thing"]
theorem scnextfirm : FnScope Nnextfirm ["table", "lot"] (defScope snextfirm) := ⟨rfl, rfl, rfl, by decide +kernel, rfl, by decide +kernel, by decide +kernel⟩
section
variable {P : Program} {w : World} {K : PySem.W.Frag} {mg : Str → Option Value} {base : Heap}
/-- _need_firm(table, lot) where the lot is firm -/
def spNeedFirm : Sp := fun vs H Q _ => ∃ (t l : Addr) (n : Nat) (M : Nat → Nat → Int) (L : List Nat), vs = [.ref t, .ref l] ∧ TabAt n M H t ∧ H l = some (.tup (lotV L)) ∧ Asc n L ∧ firmB M L = true ∧ n ≤ 50 ∧ ∀ H', Ex H H' → Q .non H'
theorem ok_needfirm {f : Addr} {fd : FuncData} (F : Fun K "_need_firm" "_need_firm" sneedfirm f fd) (T : Txt mg) (c_isfirm : Cal P w K mg base 3 "is_firm" ["table"] spIsFirm) (c_part : Cal P w K mg base 1 "part" ["table", "lot"] spPart) :
    FnOk P w K mg base CX0 4 f fd ["table", "lot"] spNeedFirm := by
  have nd := scneedfirm.nd
  refine F.ok scneedfirm (fun vs H Q E h => ?_) (fun cdv A outer s H vs Q E hr h => ?_)
  · obtain ⟨_, _, _, _, _, rfl, _⟩ := h
    rfl
  · obtain ⟨t, l, n, M, L, rfl, hT, hl, aL, fL, hn, q⟩ := h
    have zL := aL.len
    refine ⟨_, (pss_one (ps_if (pt_not (pt_val (pe_cal c_isfirm hr (by decide) rfl (pa_cons (pe_cal c_part hr (by decide) rfl (pa_cons (pv 0) (pa_cons (pv 1) pa_nil))) pa_nil)))) (pss_one ps_never) pss_nil)), ?_⟩
    refine go_if (go_notB (go_call (go_cons (go_call (ea_go (ea_cons (ev_var rfl) (ea_cons (ev_var rfl) ea_nil)) fun H1 e1 => ⟨t, l, n, M, L, rfl, hT.mono e1, e1 _ _ hl, aL.lt, by omega, fun T H2 e2 hT2 => go_nil ?_⟩)))))
    refine ⟨T, L.length, partR M L, rfl, hT2, by omega, fun c H3 e3 hc => ⟨c, rfl, ?_⟩⟩
    rw [show c = true from hc.mpr ((firm_part aL.nd).mpr ((firmB_iff aL.nd).mp fL))]
    exact q H3 ((e1.trans e2).trans e3)
/-- next_firm(table, lot) -/
def spNextFirm : Sp := fun vs H Q _ => ∃ (t l : Addr) (n : Nat) (M : Nat → Nat → Int) (L : List Nat), vs = [.ref t, .ref l] ∧ TabAt n M H t ∧ H l = some (.tup (lotV L)) ∧ Asc n L ∧ firmB M L = true ∧ n ≤ 40 ∧
  (nextF M n L = none → ∀ H', Ex H H' → Q .non H') ∧ ∀ few p H', nextF M n L = some few → Ex H H' → H' p = some (.tup (lotV few)) → Q (.ref p) H'
theorem ok_nextfirm {f : Addr} {fd : FuncData} (F : Fun K "next_firm" "next_firm" snextfirm f fd) (T : Txt mg) (c_needfirm : Cal P w K mg base 4 "_need_firm" ["table", "lot"] spNeedFirm) (c_fewlots : Cal P w K mg base 1 "_few_lots" ["things"] spFewLots)
    (c_isfirm : Cal P w K mg base 3 "is_firm" ["table"] spIsFirm) (c_part : Cal P w K mg base 1 "part" ["table", "lot"] spPart) : FnOk P w K mg base CX0 5 f fd ["table", "lot"] spNextFirm := by
  have nd := scnextfirm.nd
  refine F.ok scnextfirm (fun vs H Q E h => ?_) (fun cdv A outer s H vs Q E hr h => ?_)
  · obtain ⟨_, _, _, _, _, rfl, _⟩ := h
    rfl
  · obtain ⟨t, l, n, M, L, rfl, hT, hl, aL, fL, hn, q1, q2⟩ := h
    have zL := aL.len
    have z3 := firmB_len fL
    refine ⟨_, (pss_cons (ps_expr (pe_cal c_needfirm hr (by decide) rfl (pa_cons (pv 0) (pa_cons (pv 1) pa_nil))))
        (pss_cons (ps_setLc (i := 2) (own := [("thing", 4)]) rfl nd rfl rfl (sw_true rfl rfl rfl (by decide +kernel)) (pi_range1 rfl T.range (pa_cons (pe_ix (ix_tupK (K := K) rfl) (pv 0) pe_int (fun _ _ => rfl)) pa_nil)) (blkOk_by (own := [("thing", 4)]) (N := Nnextfirm) (sc := defScope snextfirm) (by decide +kernel)) (fun _ _ _ _ _ => (pg_name (i := 4) nd rfl (Or.inl rfl))) (fun _ _ _ _ _ => (pts_one (pt_cmpR (op_niK (K := K) rfl) (pv 4) (pv 1) rfl))) (fun _ _ _ _ _ => (pv 4)))
        (pss_cons (ps_for PassesOwn.never rfl (pi_listK (K := K) rfl (pe_cal c_fewlots hr (by decide) rfl (pa_cons (pv 2) pa_nil))) (pg_name (i := 3) nd rfl (Or.inl rfl)) (pss_one (ps_if (pt_val (pe_cal c_isfirm hr (by decide) rfl (pa_cons (pe_cal c_part hr (by decide) rfl (pa_cons (pv 0) (pa_cons (pe_callTy (call_tupleK (K := K) rfl) rfl T.tuple bb_tuple (pa_cons (pe_callB (cr_sortK (K := K) rfl) rfl T.sorted bb_sorted (pa_cons (pe_op (op_catK (K := K) rfl) (pv 1) (pv 3)) pa_nil)) pa_nil)) pa_nil))) pa_nil))) (pss_one (ps_ret (pv 3))) pss_nil)))
        (pss_one (ps_ret pe_non))))), ?_⟩
    -- _need_firm(table, lot)
    refine go_seq (go_drop (go_call (ea_go (ea_cons (ev_var rfl) (ea_cons (ev_var rfl) ea_nil)) fun H1 e1 => ⟨t, l, n, M, L, rfl, hT.mono e1, e1 _ _ hl, aL, fL, by omega, fun H2 e2 => ?_⟩)))
    have e12 := e1.trans e2
    -- outside = [..]
    obtain ⟨R, hT0, hM⟩ := hT
    refine q_asgL (el_is (ys := lotV (outside n L)) (el_lcR1 (n := (n : Int)) (fun i => !decide (i ∈ L)) (fun i => nV i) (ea_cons (ev_ixT (i := 0) (ev_var rfl) ev_c (e12 _ _ hT0) rfl) ea_nil) ⟨by omega, by omega⟩ (fun _ => rfl) (fun i H3 e3 hi => ?_) (fun i H3 e3 hi _ => ev_var rfl)) ?_) fun o H3 no e3 ho => ?_
    · exact et_niT (ev_var rfl) (ev_var rfl) (e3 _ _ (e12 _ _ hl))
    · rw [Int.toNat_natCast]
      rfl
    · have oz : (outside n L).length ≤ 50 := by
        have := List.length_filter_le (fun t => !decide (t ∈ L)) (List.range n)
        rw [List.length_range] at this
        exact Nat.le_trans this (by omega)
      have e13 := e12.trans e3
      -- for few in _few_lots(outside)
      refine go_for (go_call (ea_go (ea_cons (ev_var rfl) ea_nil) fun H4 e4 => ⟨o, outside n L, rfl, e4 _ _ ho, oz, fun p H5 np e5 lt => ?_⟩))
      obtain ⟨ps, hp, tp⟩ := lt
      have e15 := e13.trans (e4.trans e5)
      refine ⟨p, rfl, ⟨_, sq_of hp⟩, for_q (xs := ps.map .ref) (fun i σ H' => ∃ v3 v4, σ = [some (.ref t), some (.ref l), some (.ref o), v3, v4] ∧ Ex H5 H' ∧ ∀ g ∈ (fewL (outside n L)).take i, firmB M (L ++ g) = false)
        ⟨none, none, rfl, Ex.refl H5, (fun g hg => by simp at hg)⟩ (fun i σ H' _ w => sq_of (w.choose_spec.choose_spec.2.1 _ _ hp)) (fun i x σ H6 hx w => ?_) (fun σ H6 w => ?_)⟩
      · obtain ⟨v3, v4, rfl, e6, hb⟩ := w
        rw [List.getElem?_map] at hx
        have lt : i < ps.length := by
          rcases Nat.lt_or_ge i ps.length with h | h
          · exact h
          · rw [List.getElem?_eq_none h] at hx
            cases hx
        have hpa := List.getElem?_eq_getElem lt
        rw [hpa] at hx
        obtain rfl : V.ref ps[i] = x := Option.some.inj hx
        have hg : (fewL (outside n L))[i]? = some ((fewL (outside n L))[i]'(by rw [← tp.1]; exact lt)) := List.getElem?_eq_getElem _
        generalize (fewL (outside n L))[i]'(by rw [← tp.1]; exact lt) = g at hg
        have hga := e6 _ _ (tp.2 i _ g hpa hg)
        generalize ps[i] = pa at hga
        obtain ⟨gup, glt, gne, gz⟩ := few_facts (List.mem_of_getElem? hg)
        have gnd := few_nd aL.nd (List.mem_of_getElem? hg)
        have e16 := e15.trans e6
        have tl : lotV (L ++ g) = lotV L ++ lotV g := by unfold lotV; rw [List.map_append]
        -- if is_firm(part(table, tuple(sorted(lot + few))))
        refine go_if (go_B (go_call (go_cons (go_call (go_cons (ev_go (ev_var rfl) fun H7 e7 => go_cons (go_sorted (X := L ++ g) ?_ (by rw [List.length_append]; omega) fun S s H8 hS ns e8 hs => go_nil ?_)))))))
        · rw [tl]
          refine eu_catV (ev_var rfl) (ev_var rfl) (e7 _ _ (e16 _ _ hl)) (e7 _ _ hga) (fun z => ?_) (fun z => ?_) (by rw [lotV_len, lotV_len]; omega)
          · have := lotV_len L
            rw [z] at this
            rw [← this] at z3
            exact absurd z3 (by decide)
          · refine gne ?_
            have := lotV_len g
            rw [z] at this
            exact List.length_eq_zero_iff.mp this.symm
        · have e18 := e16.trans (e7.trans e8)
          have sz : S.length ≤ 100 := by
            rw [hS.length_eq, List.length_append]
            omega
          refine ⟨t, s, n, M, S, rfl, ⟨R, e18 _ _ hT0, hM.mono e18⟩, hs, fun x hx => ?_, sz, fun T2 H9 e9 hT9 => go_nil ?_⟩
          · rcases List.mem_append.mp (hS.mem_iff.mp hx) with h | h
            · exact aL.lt x h
            · exact (glt x h).1
          · have snd : S.Nodup := hS.nodup_iff.mpr gnd
            refine ⟨T2, S.length, partR M S, rfl, hT9, ?_, fun c HA eA hc => ⟨c, rfl, ?_⟩⟩
            · rw [hS.length_eq, List.length_append]
              omega
            · have hc' : c = firmB M (L ++ g) := by
                rw [← firmB_mem snd gnd fun x => hS.mem_iff, Bool.eq_iff_iff, hc, firm_part snd, firmB_iff snd]
              subst hc'
              have e6A := e6.trans (((e7.trans e8).trans e9).trans eA)
              cases hf : firmB M (L ++ g) with
              | true =>
                exact s_ret (ev_var rfl) fun HB eB => q2 g pa HB (find_at hg hf hb) ((e15.trans e6A).trans eB) (eB _ _ (((e7.trans e8).trans (e9.trans eA)) _ _ hga))
              | false =>
                refine ⟨_, _, rfl, e6A, fun g' hg' => ?_⟩
                rw [List.take_add_one, hg, Option.toList_some] at hg'
                rcases List.mem_append.mp hg' with h | h
                · exact hb g' h
                · rw [List.mem_singleton.mp h]
                  exact hf
      · obtain ⟨v3, v4, rfl, e6, hb⟩ := w
        refine s_ret ev_c fun H7 e7 => q1 ?_ H7 ((e15.trans e6).trans e7)
        rw [List.length_map, tp.1, List.take_length] at hb
        unfold nextF
        rw [List.find?_eq_none]
        exact fun g hg z => by rw [hb g hg] at z; cases z
end
end K25
/-! K25D7: the deck: _law_deck, _law_draw, _law_one, _law_mixed, _law_menu. -/
namespace K25
open PySem PySem.Spec PyProof.Rows L2 Evl
theorem cut_to (xs : List V) (k : Nat) : cutV xs none (some (k : Int)) = xs.take k := by
  unfold cutV
  rw [HT.sIx_nat, HT.sIx_none, Nat.sub_zero, List.drop_zero]
  by_cases h : k ≤ xs.length
  · rw [Nat.min_eq_left h]
  · rw [Nat.min_eq_right (by omega), List.take_of_length_le (Nat.le_refl _), List.take_of_length_le (by omega)]
def rInt1 : List V → Hp → VK → Prop := fun xs H Q => (∃ i, xs = [.int i] ∧ Q (.int i) H) ∨ ∃ k, xs = [.bl k] ∧ Q (.int (if k then 1 else 0)) H
section
variable {K : PySem.W.Frag} {σ : L2.St} {H H' : Hp} {te tb tl ta : TE}
theorem ev_int1 {i : Int} (h : Ev te σ H (.int i)) : Ev (tCB rInt1 (tCons te tNil)) σ H (.int i) := fun H1 e Q q => h H1 e _ fun H2 e2 => .inl ⟨i, rfl, q H2 e2⟩
theorem ev_int1B {b : Bool} (h : Ev te σ H (.bl b)) : Ev (tCB rInt1 (tCons te tNil)) σ H (.int (if b then 1 else 0)) := fun H1 e Q q => h H1 e _ fun H2 e2 => .inr ⟨b, rfl, q H2 e2⟩
end
section
variable {σ : L2.St} {H : Hp} {te : TE} {xs : List V} {Q : VK}
theorem el_go (h : EvL te σ H xs) (k : ∀ p H1, H p = none → Ex H H1 → H1 p = some (.lst xs) → Q (.ref p) H1) : te σ H Q := h H (Ex.refl H) _ k
theorem eu_go (h : EvU te σ H xs) (k : ∀ p H1, H p = none → Ex H H1 → H1 p = some (.tup xs) → Q (.ref p) H1) : te σ H Q := h H (Ex.refl H) _ k
end
theorem mod_nat (n : Int) {m : Nat} (hm : 0 < m) : ∃ r : Nat, r < m ∧ V.int (n % (m : Int)) = nV r := by
  have h1 := Int.emod_nonneg n (show (m : Int) ≠ 0 by omega)
  have h2 := Int.emod_lt_of_pos n (show (0 : Int) < (m : Int) by omega)
  refine ⟨(n % (m : Int)).toNat, by omega, ?_⟩
  show V.int _ = V.int _
  rw [Int.toNat_of_nonneg h1]
section
variable {a l : Addr} {H H' : Hp} {o : HO}
theorem Keep.setl (k : Keep a l H H') : Keep a l H (upd H' l o) := fun b u h => by
  rw [upd_ne (off_some h).2.1]
  exact k b u h
theorem Keep.seta (k : Keep a l H H') : Keep a l H (upd H' a o) := fun b u h => by
  rw [upd_ne (off_some h).1]
  exact k b u h
theorem Keep.ex {H2 : Hp} (k : Keep a l H H') (e : Ex H' H2) : Keep a l H H2 := fun b u h => e _ _ (k b u h)
end
abbrev sLdeck : Stmt := topS 16
abbrev NLdeck : List Str := ["_law_script", "_law_folds", "_law_whole", "_law_fold", "_law_cell"]
theorem scLdeck : FnScope NLdeck ["_law_script"] (defScope sLdeck) := ⟨rfl, rfl, rfl, by decide +kernel, rfl, by decide +kernel, by decide +kernel⟩
abbrev sLdraw : Stmt := topS 17
abbrev NLdraw : List Str := ["_law_deck_here", "_law_many", "_law_rest", "_law_mixed_here"]
theorem scLdraw : FnScope NLdraw ["_law_deck_here", "_law_many"] (defScope sLdraw) := ⟨rfl, rfl, rfl, by decide +kernel, rfl, by decide +kernel, by decide +kernel⟩
abbrev sLone : Stmt := topS 18
abbrev NLone : List Str := ["_law_deck_here", "_law_items"]
theorem scLone : FnScope NLone ["_law_deck_here", "_law_items"] (defScope sLone) := ⟨rfl, rfl, rfl, by decide +kernel, rfl, by decide +kernel, by decide +kernel⟩
abbrev sLmixed : Stmt := topS 19
abbrev NLmixed : List Str := ["_law_deck_here", "_law_items", "_law_rest", "_law_found", "_law_turn"]
theorem scLmixed : FnScope NLmixed ["_law_deck_here", "_law_items"] (defScope sLmixed) := ⟨rfl, rfl, rfl, by decide +kernel, rfl, by decide +kernel, by decide +kernel⟩
abbrev sLmenu : Stmt := topS 24
abbrev NLmenu : List Str := ["_law_deck_here", "_law_low"]
theorem scLmenu : FnScope NLmenu ["_law_deck_here"] (defScope sLmenu) := ⟨rfl, rfl, rfl, by decide +kernel, rfl, by decide +kernel, by decide +kernel⟩
section
variable {P : Program} {w : World} {K : PySem.W.Frag} {mg : Str → Option Value} {base : Heap}
/-- _law_draw(deck, many) -/
def spDraw : Sp := fun vs H Q _ => ∃ (a l : Addr) (m : Nat), vs = [.ref a, nV m] ∧ 0 < m ∧ m < 100000 ∧ Deck a l H ∧ ∀ (r : Nat) H', r < m → Deck a l H' → Keep a l H H' → Q (nV r) H'
theorem ok_Ldraw {f : Addr} {fd : FuncData} (F : Fun K "_law_draw" "_law_draw" sLdraw f fd) (T : Txt mg) : FnOk P w K mg base CX0 1 f fd ["_law_deck_here", "_law_many"] spDraw := by
  have nd := scLdraw.nd
  refine F.ok scLdraw (fun vs H Q E h => ?_) (fun cdv A outer s H vs Q E hr h => ?_)
  · obtain ⟨_, _, _, rfl, _⟩ := h
    rfl
  · obtain ⟨a, l, m, rfl, hm, hm2, ⟨ns, w, c, h1, h2⟩, q⟩ := h
    have nal : a ≠ l := Deck.ne ⟨ns, w, c, h1, h2⟩
    have hmI : (0 : Int) < (m : Int) := by omega
    refine ⟨_, (pss_cons (ps_if (pt_cmpR (op_neK (K := K) rfl hr.units) (pe_ix (ix_listK (K := K) rfl) (pv 0) pe_int (fun _ _ => rfl)) (pe_lst pa_nil) (nomark _)) (pss_cons (ps_set (i := 2) nd rfl (Or.inl rfl) (pe_ix (ix_listK (K := K) rfl) (pe_ix (ix_listK (K := K) rfl) (pv 0) pe_int (fun _ _ => rfl)) pe_int (fun _ _ => rfl)))
        (pss_cons (ps_asg (pe_op op_fdiv (pv 2) (pv 1)) (pg_sub (pe_ix (ix_listK (K := K) rfl) (pv 0) pe_int (fun _ _ => rfl)) pe_int set_list))
        (pss_cons (ps_if (pt_cmpR op_lt (pv 2) (pv 1) (nomark _)) (pss_one (ps_expr (pe_bm PySem.F.plainAttrs_list PySem.F.slot_list_pop PySem.F.type_list_pop mt_popAt (pe_ix (ix_listK (K := K) rfl) (pv 0) pe_int (fun _ _ => rfl)) (pa_cons pe_int pa_nil)))) pss_nil)
        (pss_one (ps_ret (pe_op op_mod (pe_callTy call_int1 rfl T.int bb_int (pa_cons (pv 2) pa_nil)) (pv 1))))))) pss_nil)
        (pss_cons (ps_asg (pe_op op_add (pe_ix (ix_listK (K := K) rfl) (pv 0) pe_int (fun _ _ => rfl)) pe_int) (pg_sub (pv 0) pe_int set_list))
        (pss_cons (ps_set (i := 3) nd rfl (Or.inl rfl) (pe_op op_mod (pe_callTy call_int1 rfl T.int bb_int (pa_cons (pe_op op_add (pe_ix (ix_listK (K := K) rfl) (pv 0) pe_int (fun _ _ => rfl)) (pe_op op_mul (pe_ix (ix_listK (K := K) rfl) (pv 0) pe_int (fun _ _ => rfl)) pe_int)) pa_nil)) pe_int))
        (pss_cons (ps_set (i := 3) nd rfl (Or.inl rfl) (pe_op op_mod (pe_callTy call_int1 rfl T.int bb_int (pa_cons (pe_op op_add (pe_op op_mul (pv 3) (pv 3)) (pe_op op_mul (pe_ix (ix_listK (K := K) rfl) (pv 0) pe_int (fun _ _ => rfl)) pe_int)) pa_nil)) pe_int))
        (pss_cons (ps_set (i := 3) nd rfl (Or.inl rfl) (pe_op op_mod (pe_callTy call_int1 rfl T.int bb_int (pa_cons (pe_op op_add (pe_op op_add (pe_op op_mul (pv 3) (pv 3)) (pe_op op_mul pe_int (pv 3))) (pe_ix (ix_listK (K := K) rfl) (pv 0) pe_int (fun _ _ => rfl))) pa_nil)) pe_int))
        (pss_one (ps_ret (pe_op op_mod (pe_callTy call_int1 rfl T.int bb_int (pa_cons (pe_op op_fdiv (pv 3) pe_int) pa_nil)) (pv 1))))))))), ?_⟩
    refine q_when (et_test (ev_neNil (ev_ixL (i := 0) (ev_var rfl) ev_c h1 rfl) el_nil h2)) (fun hb H1 e1 => ?_) (fun hb H1 e1 => ?_)
    · cases ns with
      | nil => cases hb
      | cons n ns =>
        have h1 := e1 _ _ h1
        have h2 := e1 _ _ h2
        refine q_asg (ev_ixL (i := 0) (ev_ixL (i := 0) (ev_var rfl) ev_c h1 rfl) ev_c h2 rfl) fun H2 e2 => ?_
        have h1 := e2 _ _ h1
        have h2 := e2 _ _ h2
        refine q_setL (j := 0) h2 (ev_IC (i := n) (j := (m : Int)) (ev_var rfl) (ev_var rfl) ⟨by omega, by omega⟩) (ev_ixL (i := 0) (ev_var rfl) ev_c h1 rfl) ev_c (by simp) fun H3 e3 => ?_
        have h1 := e3 _ _ h1
        have g1 : (upd H3 l (.lst (((n :: ns).map V.int).set 0 (.int (n / (m : Int)))))) a = some (.lst [.ref l, .int w, .int c]) := by
          rw [upd_ne nal]
          exact h1
        have g2 : (upd H3 l (.lst (((n :: ns).map V.int).set 0 (.int (n / (m : Int)))))) l = some (.lst (((n / (m : Int)) :: ns).map V.int)) := upd_same
        have k3 : Keep a l H (upd H3 l (.lst (((n :: ns).map V.int).set 0 (.int (n / (m : Int)))))) := (Keep.of ((e1.trans e2).trans e3)).setl
        generalize upd H3 l (.lst (((n :: ns).map V.int).set 0 (.int (n / (m : Int))))) = G at g1 g2 k3
        obtain ⟨r, hr1, hr2⟩ := mod_nat n hm
        refine q_when (et_I (i := n) (j := (m : Int)) (ev_var rfl) (ev_var rfl)) (fun hb H4 e4 => ?_) (fun hb H4 e4 => ?_)
        · refine ev_ixL (i := 0) (ev_var rfl) ev_c (e4 _ _ g1) rfl H4 (Ex.refl H4) _ fun H5 e5 => ⟨.inl ⟨rfl, _, sq_of (e5 _ _ (e4 _ _ g2))⟩, ?_⟩
          refine ⟨l, _, 0, 0, _, rfl, rfl, e5 _ _ (e4 _ _ g2), by decide, by decide, (ixN_seq (ixN_nat (j := 0) (by simp))).1, rfl, ?_⟩
          have d5 : Deck a l (upd H5 l (.lst ((((n / (m : Int)) :: ns).map V.int).eraseIdx 0))) := ⟨ns, w, c, by rw [upd_ne nal]; exact e5 _ _ (e4 _ _ g1), upd_same⟩
          exact s_ret (ev_IC (i := n) (j := (m : Int)) (ev_int1 (ev_var rfl)) (ev_var rfl) hmI) fun H6 e6 => by
            rw [hr2]
            exact q r H6 hr1 (d5.mono e6) (((k3.ex (e4.trans e5)).setl).ex e6)
        · exact s_ret (ev_IC (i := n) (j := (m : Int)) (ev_int1 (ev_var rfl)) (ev_var rfl) hmI) fun H6 e6 => by
            rw [hr2]
            exact q r H6 hr1 ⟨_, w, c, e6 _ _ (e4 _ _ g1), e6 _ _ (e4 _ _ g2)⟩ (k3.ex (e4.trans e6))
    · have h1 := e1 _ _ h1
      have h2 := e1 _ _ h2
      have big : ∀ i : Int, CMul i 6364136223846793005 := fun i => .inr ⟨by decide, by decide⟩
      have big2 : ∀ i : Int, CMul i 1442695040888963407 := fun i => .inr ⟨by decide, by decide⟩
      -- deck[2] = deck[2] + 1
      refine q_setL (j := 2) h1 (ev_I (i := c) (j := 1) (ev_ixL (i := 2) (ev_var rfl) ev_c h1 rfl) ev_c) (ev_var rfl) ev_c (by show 2 < 3; decide) fun H2 e2 => ?_
      have g1 : (upd H2 a (.lst ([V.ref l, .int w, .int c].set 2 (.int (c + 1))))) a = some (.lst [.ref l, .int w, .int (c + 1)]) := upd_same
      have g2 : (upd H2 a (.lst ([V.ref l, .int w, .int c].set 2 (.int (c + 1))))) l = some (.lst (ns.map V.int)) := by
        rw [upd_ne (Ne.symm nal)]
        exact e2 _ _ h2
      have k3 : Keep a l H (upd H2 a (.lst ([V.ref l, .int w, .int c].set 2 (.int (c + 1))))) := (Keep.of (e1.trans e2)).seta
      generalize upd H2 a (.lst ([V.ref l, .int w, .int c].set 2 (.int (c + 1)))) = G at g1 g2 k3
      have m1 : ∀ i : Int, 0 ≤ i % 2305843009213693951 ∧ i % 2305843009213693951 < 2305843009213693951 := fun i => ⟨Int.emod_nonneg _ (by decide), Int.emod_lt_of_pos _ (by decide)⟩
      have m2 : ∀ i : Int, 0 ≤ i % 2305843009213693921 ∧ i % 2305843009213693921 < 2305843009213693921 := fun i => ⟨Int.emod_nonneg _ (by decide), Int.emod_lt_of_pos _ (by decide)⟩
      refine q_asg (ev_IC (ev_int1 (ev_I (i := w) (ev_ixL (i := 1) (ev_var rfl) ev_c g1 rfl) (ev_IC (i := c + 1) (ev_ixL (i := 2) (ev_var rfl) ev_c g1 rfl) ev_c (big _)))) ev_c (by decide)) fun H3 e3 => ?_
      generalize w + (c + 1) * 6364136223846793005 = u1
      have b1 := m1 u1
      generalize u1 % 2305843009213693951 = v1 at b1
      have g1 := e3 _ _ g1
      refine q_asg (ev_IC (ev_int1 (ev_I (ev_IC (i := v1) (j := v1) (ev_var rfl) (ev_var rfl) (.inl ⟨by omega, by omega⟩)) (ev_IC (i := c + 1) (ev_ixL (i := 2) (ev_var rfl) ev_c g1 rfl) ev_c (big2 _)))) ev_c (by decide)) fun H4 e4 => ?_
      generalize v1 * v1 + (c + 1) * 1442695040888963407 = u2
      have b2 := m2 u2
      generalize u2 % 2305843009213693921 = v2 at b2
      have g1 := e4 _ _ g1
      refine q_asg (ev_IC (ev_int1 (ev_I (ev_I (ev_IC (i := v2) (j := v2) (ev_var rfl) (ev_var rfl) (.inl ⟨by omega, by omega⟩)) (ev_IC (i := 3) (j := v2) ev_c (ev_var rfl) (.inl ⟨by omega, by omega⟩))) (ev_ixL (i := 1) (v := .int w) (ev_var rfl) ev_c g1 rfl))) ev_c (by decide)) fun H5 e5 => ?_
      generalize (v2 * v2 + 3 * v2 + w) % 2305843009213693951 = v3
      have g1 := e5 _ _ g1
      obtain ⟨r, hr1, hr2⟩ := mod_nat (v3 / 8192) hm
      exact s_ret (ev_IC (i := v3 / 8192) (j := (m : Int)) (ev_int1 (ev_IC (i := v3) (j := 8192) (ev_var rfl) ev_c ⟨by decide, by decide⟩)) (ev_var rfl) hmI) fun H6 e6 => by
        rw [hr2]
        exact q r H6 hr1 ⟨ns, w, c + 1, e6 _ _ g1, (((e3.trans e4).trans e5).trans e6) _ _ g2⟩ (k3.ex (((e3.trans e4).trans e5).trans e6))
/-- _law_deck(script) -/
def foldI (c : Int) : Int := if 0 ≤ c then 2 * c else -2 * c - 1
def spDeck (K : PySem.W.Frag) : Sp := fun vs H Q _ => ∃ (s : Addr) (ns : List Int), vs = [.ref s] ∧ SqL K H s (ns.map V.int) ∧ ∀ a l H', Deck a l H' → Ex H H' → Q (.ref a) H'
theorem getD_ofI {L : List Int} {i : Nat} {x : Int} (h : L[i]? = some x) : L.getD i 0 = x := by rw [List.getD_eq_getElem?_getD, h]; rfl
theorem of_intV {L : List Int} {i : Nat} {v : V} (h : (L.map V.int)[i]? = some v) : ∃ x, L[i]? = some x ∧ v = .int x := by
  rw [List.getElem?_map] at h
  cases e : L[i]? with
  | none => rw [e] at h; cases h
  | some x => rw [e] at h; exact ⟨x, rfl, (Option.some.inj h).symm⟩
theorem ok_Ldeck {f : Addr} {fd : FuncData} (F : Fun K "_law_deck" "_law_deck" sLdeck f fd) (T : Txt mg) : FnOk P w K mg base CX0 1 f fd ["_law_script"] (spDeck K) := by
  have nd := scLdeck.nd
  refine F.ok scLdeck (fun vs H Q E h => ?_) (fun cdv A outer s H vs Q E hr h => ?_)
  · obtain ⟨_, _, rfl, _⟩ := h
    rfl
  · obtain ⟨s0, ns, rfl, hs, q⟩ := h
    refine ⟨_, (pss_cons (ps_setLc (i := 1) (own := [("_law_cell", 4)]) rfl nd rfl rfl (sw_true rfl rfl rfl (by decide +kernel)) (pi_listK (K := K) rfl (pe_slice (sl_listK (K := K) rfl) (pv 0) po_none (po_some pe_int))) (blkOk_by (own := [("_law_cell", 4)]) (N := NLdeck) (sc := defScope sLdeck) (by decide +kernel)) (fun _ _ _ _ _ => (pg_name (i := 4) nd rfl (Or.inl rfl))) (fun _ _ _ _ _ => pts_nil) (fun _ _ _ _ _ => (pe_ifExp (pt_cmpR op_ge (pv 4) pe_int (nomark _)) (pe_op op_mul pe_int (pv 4)) (pe_op op_sub (pe_op op_mul (pe_un un_neg pe_int) (pv 4)) pe_int))))
        (pss_cons (ps_set (i := 2) nd rfl (Or.inl rfl) (pe_op op_add pe_int (pe_callB (call_lenK (K := K) rfl) rfl T.len PySem.boot_len (pa_cons (pv 1) pa_nil))))
        (pss_cons (ps_for PassesOwn.never rfl (pi_listK (K := K) rfl (pv 1)) (pg_name (i := 3) nd rfl (Or.inl rfl)) (pss_one (ps_set (i := 2) nd rfl (Or.inl rfl) (pe_op op_mod (pe_callTy call_int1 rfl T.int bb_int (pa_cons (pe_op op_add (pe_op op_mul (pv 2) pe_int) (pv 3)) pa_nil)) pe_int))))
        (pss_one (ps_ret (pe_lst (pa_cons (pe_lc (own := [("_law_fold", 3)]) rfl nd (pi_listK (K := K) rfl (pv 1)) (blkOk_by (own := [("_law_fold", 3)]) (N := NLdeck) (sc := defScope sLdeck) (by decide +kernel)) (fun _ _ _ _ _ => (pg_name (i := 3) nd rfl (Or.inl rfl))) (fun _ _ _ _ _ => (pts_one (pt_cmpR op_gt (pv 3) (pe_op op_pow pe_int pe_int) (nomark _)))) (fun _ _ _ _ _ => (pv 3))) (pa_cons (pv 2) (pa_cons pe_int pa_nil))))))))), ?_⟩
    have cz : (cutV (ns.map V.int) none (some ((63 : Nat) : Int))) = (ns.take 63).map V.int := by rw [cut_to, List.map_take]
    have tz : (ns.take 63).length ≤ 63 := by rw [List.length_take]; omega
    generalize ns.take 63 = ms at cz tz
    refine q_asgL (el_is (ys := (ms.map foldI).map V.int) (el_lcNL (fun _ => true) (fun i => .int (foldI (ms.getD i 0))) (el_sl (ev_var rfl) eo_none (eo_some (i := ((63 : Nat) : Int)) ev_c) hs) (by rw [cz, List.length_map]; omega) (fun _ => rfl) (fun _ _ _ _ _ => et_yes) fun i x H1 e1 hx _ => ?_) ?_) fun p H1 np e1 hp => ?_
    · rw [cz] at hx
      obtain ⟨c, hc, rfl⟩ := of_intV hx
      rw [getD_ofI hc]
      refine ev_if (et_I (i := c) (j := 0) (ev_var rfl) ev_c) (fun hb => ?_) fun hb => ?_
      · refine ev_is (ev_IC (i := 2) (j := c) ev_c (ev_var rfl) (.inl ⟨by decide, by decide⟩)) ?_
        unfold foldI
        rw [if_pos (by simpa using hb)]
      · refine ev_is (ev_I (ev_IC (i := -2) (j := c) (ev_un ev_c ru_neg) (ev_var rfl) (.inl ⟨by decide, by decide⟩)) (ev_c (v := .int 1))) ?_
        unfold foldI
        rw [if_neg (by simpa using hb)]
    · rw [cz, given_all, List.length_map, List.map_map, range_map_get ms 0 fun c => V.int (foldI c)]
      rfl
    · have lz : (ms.map foldI).length ≤ 63 := by rw [List.length_map]; exact tz
      generalize ms.map foldI = fs at hp lz
      refine q_asg (ev_I (i := 12762) (ev_c) (ev_lenL (ev_var rfl) hp)) fun H2 e2 => ?_
      refine q_forLn (ev_var rfl) (sq_of (e2 _ _ hp)) (fun i σ H' => ∃ w v3, σ = [some (.ref s0), some (.ref p), some (.int w), v3, none] ∧ Ex H1 H') (fun H3 e3 => ⟨_, none, rfl, e2.trans e3⟩) (fun i σ H' _ w => sq_of (w.choose_spec.choose_spec.2 _ _ hp)) (fun i x σ H3 hx w => ?_) (fun σ H3 w => ?_)
      · obtain ⟨w, v3, rfl, e3⟩ := w
        obtain ⟨c, hc, rfl⟩ := of_intV hx
        exact s_asg (ev_IC (ev_int1 (ev_I (j := c) (ev_IC (i := w) (j := 1000033) (ev_var rfl) ev_c (.inr ⟨by decide, by decide⟩)) (ev_var rfl))) ev_c (by decide)) fun H4 e4 => ⟨_, _, rfl, e3.trans e4⟩
      · obtain ⟨w, v3, rfl, e3⟩ := w
        refine go_ret (go_lst (go_cons (el_go (el_is (ys := (fs.filter fun z => decide (z > 10 ^ (18 : Int).toNat)).map V.int) (el_lcL (fun i => decide (fs.getD i 0 > 10 ^ (18 : Int).toNat)) (fun i => .int (fs.getD i 0)) (ev_var rfl) (sq_of (e3 _ _ hp)) (by rw [List.length_map]; omega) (fun _ => rfl) (fun i x H4 e4 hx => ?_) (fun i x H4 e4 hx _ => ?_)) ?_) fun r H4 nr e4 hr4 => ?_)))
        · obtain ⟨c, hc, rfl⟩ := of_intV hx
          rw [getD_ofI hc]
          exact et_I (ev_var rfl) (ev_IC (i := 10) (j := 18) ev_c ev_c ⟨by decide, by decide, by decide⟩)
        · obtain ⟨c, hc, rfl⟩ := of_intV hx
          rw [getD_ofI hc]
          exact ev_var rfl
        · rw [List.length_map]
          exact given_filter fs 0 (fun z => decide (z > 10 ^ (18 : Int).toNat)) V.int
        · refine ⟨.int w, rfl, by show 3 ≤ sizeLine; decide, fun a na => ?_⟩
          have e5 : Ex H4 (upd H4 a (.lst [.ref r, .int w, .int 0])) := Ex.new na
          exact q a r _ ⟨_, w, 0, upd_same, e5 _ _ hr4⟩ (((e1.trans e3).trans e4).trans e5)
/-- _law_one(deck, items) -/
def spOne : Sp := fun vs H Q _ => ∃ (a l p : Addr) (xs : List V), vs = [.ref a, .ref p] ∧ Deck a l H ∧ H p = some (.lst xs) ∧ p ≠ a ∧ p ≠ l ∧ 0 < xs.length ∧ xs.length < 1000 ∧ ∀ v H', v ∈ xs → Deck a l H' → Keep a l H H' → Q v H'
theorem ok_Lone {f : Addr} {fd : FuncData} (F : Fun K "_law_one" "_law_one" sLone f fd) (T : Txt mg) (c_Ldraw : Cal P w K mg base 1 "_law_draw" ["_law_deck_here", "_law_many"] spDraw) : FnOk P w K mg base CX0 2 f fd ["_law_deck_here", "_law_items"] spOne := by
  have nd := scLone.nd
  refine F.ok scLone (fun vs H Q E h => ?_) (fun cdv A outer s H vs Q E hr h => ?_)
  · obtain ⟨_, _, _, _, rfl, _⟩ := h
    rfl
  · obtain ⟨a, l, p, xs, rfl, hd, hp, npa, npl, h0, hz, q⟩ := h
    refine ⟨_, (pss_one (ps_ret (pe_ix (ix_listK (K := K) rfl) (pv 1) (pe_cal c_Ldraw hr (by decide) rfl (pa_cons (pv 0) (pa_cons (pe_callB (call_lenK (K := K) rfl) rfl T.len PySem.boot_len (pa_cons (pv 1) pa_nil)) pa_nil))) (fun _ _ => rfl)))), ?_⟩
    refine go_ret (go_op (ev_go (ev_var rfl) fun H1 e1 => go_call (ea_go (ea_cons (ev_var rfl) (ea_cons (ev_lenL (ev_var rfl) (e1 _ _ hp)) ea_nil)) fun H2 e2 => ⟨a, l, xs.length, rfl, h0, by omega, hd.mono (e1.trans e2), fun r H3 hr3 d3 k3 => ?_⟩)))
    have k03 : Keep a l H H3 := (Keep.of (e1.trans e2)).trans k3
    have hx : xs[r]? = some xs[r] := List.getElem?_eq_getElem hr3
    exact ⟨p, xs, (r : Int), xs[r], rfl, rfl, sq_of (k03.at npa npl hp), atI_nat hx, q _ H3 (List.getElem_mem hr3) d3 k03⟩
/-- _law_mixed(deck, items) -/
def spMixed : Sp := fun vs H Q _ => ∃ (a l p : Addr) (xs : List V), vs = [.ref a, .ref p] ∧ Deck a l H ∧ (H p = some (.lst xs) ∨ H p = some (.tup xs)) ∧ p ≠ a ∧ p ≠ l ∧ xs.length < 1000 ∧
  ∀ r ys H', H r = none → H' r = some (.lst ys) → ys.length = xs.length → (∀ y ∈ ys, y ∈ xs) → Deck a l H' → Keep a l H H' → Q (.ref r) H'
theorem ok_Lmixed {f : Addr} {fd : FuncData} (F : Fun K "_law_mixed" "_law_mixed" sLmixed f fd) (T : Txt mg) (c_Ldraw : Cal P w K mg base 1 "_law_draw" ["_law_deck_here", "_law_many"] spDraw) : FnOk P w K mg base CX0 2 f fd ["_law_deck_here", "_law_items"] spMixed := by
  have nd := scLmixed.nd
  refine F.ok scLmixed (fun vs H Q E h => ?_) (fun cdv A outer s H vs Q E hr h => ?_)
  · obtain ⟨_, _, _, _, rfl, _⟩ := h
    rfl
  · obtain ⟨a, l, p, xs, rfl, hd, hp, npa, npl, hz, q⟩ := h
    refine ⟨_, (pss_cons (ps_par (i := 2) (j := 3) rfl nd rfl rfl (by decide) rfl rfl (pa_cons (pe_callTy (call_listK (K := K) rfl) rfl T.list bb_list (pa_cons (pv 1) pa_nil)) (pa_cons (pe_lst pa_nil) pa_nil)) rfl)
        (pss_cons (ps_for PassesOwn.never rfl (pi_range1 rfl T.range (pa_cons (pe_callB (call_lenK (K := K) rfl) rfl T.len PySem.boot_len (pa_cons (pv 1) pa_nil)) pa_nil)) (pg_name (i := 4) nd rfl (Or.inl rfl)) (pss_one (ps_expr (pe_bm PySem.F.plainAttrs_list PySem.F.slot_list_append PySem.F.type_list_append mt_append (pv 3) (pa_cons (pe_bm PySem.F.plainAttrs_list PySem.F.slot_list_pop PySem.F.type_list_pop mt_popAt (pv 2) (pa_cons (pe_cal c_Ldraw hr (by decide) rfl (pa_cons (pv 0) (pa_cons (pe_callB (call_lenK (K := K) rfl) rfl T.len PySem.boot_len (pa_cons (pv 2) pa_nil)) pa_nil))) pa_nil)) pa_nil)))))
        (pss_one (ps_ret (pv 3))))), ?_⟩
    have hs : SqL K H p xs ∨ SqT K H p xs := hp.imp sq_of st_of
    -- rest, found = (list(items), [])
    refine go_seq (el_listOf (ev_var rfl) hs H (Ex.refl H) _ fun s1 H1 ns1 e1 hs1 => el_nil H1 (Ex.refl H1) _ fun r H2 nr e2 hr2 => ⟨_, _, rfl, ?_⟩)
    have nr0 := fresh_back e1 nr
    have nrs : s1 ≠ r := ne_of_none hs1 nr
    have e12 := e1.trans e2
    have hdx := hd
    obtain ⟨_, _, _, da, dl⟩ := hdx
    have s1a : s1 ≠ a := fun e => by rw [e, da] at ns1; cases ns1
    have s1l : s1 ≠ l := fun e => by rw [e, dl] at ns1; cases ns1
    have ra : r ≠ a := fun e => by rw [e, da] at nr0; cases nr0
    have rl : r ≠ l := fun e => by rw [e, dl] at nr0; cases nr0
    have ep : EvA (tCons (tCB (rLen2 K) (tCons (tVar 1) tNil)) tNil) [some (V.ref a), some (V.ref p), some (V.ref s1), some (V.ref r), none] H2 [nV xs.length] := by
      refine ea_cons ?_ ea_nil
      rcases hp with hp | hp
      · exact ev_lenL (ev_var rfl) (e12 _ _ hp)
      · exact ev_lenT (ev_var rfl) (e12 _ _ hp)
    refine q_forR1 ep ⟨by omega, by omega⟩ (fun i σ H' => ∃ v4 zs ys, σ = [some (.ref a), some (.ref p), some (.ref s1), some (.ref r), v4] ∧ Deck a l H' ∧ Keep a l H H' ∧ H' s1 = some (.lst zs) ∧ H' r = some (.lst ys) ∧ ys.length = i ∧ zs.length + i = xs.length ∧ (∀ y ∈ ys, y ∈ xs) ∧ ∀ y ∈ zs, y ∈ xs)
      (fun H3 e3 => ⟨none, xs, [], rfl, hd.mono (e12.trans e3), Keep.of (e12.trans e3), (e2.trans e3) _ _ hs1, e3 _ _ hr2, rfl, rfl, (fun y h => absurd h List.not_mem_nil), fun y h => h⟩) (fun i σ H3 hi w => ?_) (fun σ H3 w => ?_)
    · obtain ⟨v4, zs, ys, rfl, d3, k3, hz3, hy3, ly, lz, my, mz⟩ := w
      refine go_drop (ev_go (te := tVar 3) (ev_var rfl) fun H4 e4 => ⟨.inl ⟨rfl, _, sq_of (e4 _ _ hy3)⟩, go_cons (ev_go (te := tVar 2) (ev_var rfl) fun H5 e5 => ⟨.inl ⟨rfl, _, sq_of ((e4.trans e5) _ _ hz3)⟩, go_cons (go_call (ea_go (ea_cons (ev_var rfl) (ea_cons (ev_lenL (ev_var rfl) ((e4.trans e5) _ _ hz3)) ea_nil)) fun H6 e6 => ?_))⟩)⟩)
      have e36 := (e4.trans e5).trans e6
      refine ⟨a, l, zs.length, rfl, by omega, by omega, d3.mono e36, fun t H7 ht d7 k7 => go_nil ?_⟩
      have hz7 := k7.at s1a s1l (e36 _ _ hz3)
      have hy7 := k7.at ra rl (e36 _ _ hy3)
      have hx : zs[t]? = some zs[t] := List.getElem?_eq_getElem ht
      refine ⟨s1, zs, (t : Int), t, zs[t], rfl, rfl, hz7, by omega, by omega, (ixN_seq (ixN_nat ht)).1, hx, go_nil ?_⟩
      refine ⟨r, ys, _, rfl, rfl, by rw [upd_ne (Ne.symm nrs)]; exact hy7, sz_lt (by omega), ?_⟩
      have k8 : Keep a l H H7 := (k3.ex e36).trans k7
      obtain ⟨ns, w, c, d1, d2⟩ := d7
      refine ⟨_, zs.eraseIdx t, ys ++ [zs[t]], rfl, ⟨ns, w, c, ?_, ?_⟩, ?_, ?_, upd_same, ?_, ?_, ?_, ?_⟩
      · rw [upd_ne (Ne.symm ra), upd_ne (Ne.symm s1a)]
        exact d1
      · rw [upd_ne (Ne.symm rl), upd_ne (Ne.symm s1l)]
        exact d2
      · refine Ex.mut (Ex.mut k8 ?_) ?_
        · rw [off_at s1a s1l]
          exact ns1
        · rw [off_at ra rl]
          exact nr0
      · rw [upd_ne nrs]
        exact upd_same
      · rw [List.length_append, List.length_singleton, ly]
      · rw [List.length_eraseIdx, if_pos ht]
        omega
      · intro y hy
        rcases List.mem_append.mp hy with h | h
        · exact my y h
        · rw [List.mem_singleton.mp h]
          exact mz _ (List.getElem_mem ht)
      · exact fun y hy => mz y (List.mem_of_mem_eraseIdx hy)
    · obtain ⟨v4, zs, ys, rfl, d3, k3, hz3, hy3, ly, lz, my, mz⟩ := w
      rw [Int.toNat_natCast] at ly
      exact s_ret (ev_var rfl) fun H4 e4 => q r ys H4 nr0 (e4 _ _ hy3) ly my (d3.mono e4) (k3.ex e4)
/-- _law_menu(deck) -/
def spMenu : Sp := fun vs H Q _ => ∃ (a l : Addr), vs = [.ref a] ∧ Deck a l H ∧ ∀ (p : Addr) (ns : List Int) H', H p = none → H' p = some (.lst (ns.map V.int)) → 2 ≤ ns.length → ns.length ≤ 4 → Deck a l H' → Keep a l H H' → Q (.ref p) H'
def EaM (n : Nat) (ta : TA) (σ : L2.St) (H : Hp) : Prop := ∀ H1, Ex H H1 → ∀ Q : List V → Hp → Prop, (∀ (ps : List Addr) H2, ps.length = n → Ex H1 H2 → (∀ p ∈ ps, H1 p = none ∧ ∃ ns : List Int, 2 ≤ ns.length ∧ ns.length ≤ 4 ∧ H2 p = some (.lst (ns.map V.int))) → Q (ps.map .ref) H2) → ta σ H1 Q
theorem eam_nil {σ : L2.St} {H : Hp} : EaM 0 tNil σ H := fun H1 e Q q => q [] H1 rfl (Ex.refl H1) fun p h => absurd h List.not_mem_nil
theorem eam_cons {n : Nat} {σ : L2.St} {H : Hp} {te : TE} {tr : TA} {ns : List Int} (h : EvL te σ H (ns.map V.int)) (h2 : 2 ≤ ns.length) (h4 : ns.length ≤ 4) (hr : EaM n tr σ H) : EaM (n + 1) (tCons te tr) σ H := fun H1 e Q q =>
  h H1 e _ fun p H2 np e2 hp => hr H2 (e.trans e2) _ fun ps H3 lp e3 hps => q (p :: ps) H3 (by rw [List.length_cons, lp]) (e2.trans e3) fun p' h' => by
    rcases List.mem_cons.mp h' with rfl | h'
    · exact ⟨np, ns, h2, h4, e3 _ _ hp⟩
    · obtain ⟨n1, n2⟩ := hps p' h'
      exact ⟨fresh_back e2 n1, n2⟩
theorem eam_go {n : Nat} {ta : TA} {σ : L2.St} {H : Hp} {Q : List V → Hp → Prop} (h : EaM n ta σ H) (k : ∀ (ps : List Addr) H2, ps.length = n → Ex H H2 → (∀ p ∈ ps, H p = none ∧ ∃ ns : List Int, 2 ≤ ns.length ∧ ns.length ≤ 4 ∧ H2 p = some (.lst (ns.map V.int))) → Q (ps.map .ref) H2) : ta σ H Q := h H (Ex.refl H) Q k
theorem ok_Lmenu {f : Addr} {fd : FuncData} (F : Fun K "_law_menu" "_law_menu" sLmenu f fd) (T : Txt mg) (c_Ldraw : Cal P w K mg base 1 "_law_draw" ["_law_deck_here", "_law_many"] spDraw) (c_Lone : Cal P w K mg base 2 "_law_one" ["_law_deck_here", "_law_items"] spOne) : FnOk P w K mg base CX0 3 f fd ["_law_deck_here"] spMenu := by
  have nd := scLmenu.nd
  refine F.ok scLmenu (fun vs H Q E h => ?_) (fun cdv A outer s H vs Q E hr h => ?_)
  · obtain ⟨_, _, rfl, _⟩ := h
    rfl
  · obtain ⟨a, l, rfl, hd, q⟩ := h
    refine ⟨_, (pss_cons (ps_set (i := 1) nd rfl (Or.inl rfl) (pe_cal c_Ldraw hr (by decide) rfl (pa_cons (pv 0) (pa_cons pe_int pa_nil))))
        (pss_one (ps_ret (pe_cal c_Lone hr (by decide) rfl (pa_cons (pv 0) (pa_cons (pe_lst (pa_cons (pe_lst (pa_cons pe_int (pa_cons pe_int pa_nil))) (pa_cons (pe_lst (pa_cons pe_int (pa_cons pe_int pa_nil))) (pa_cons (pe_lst (pa_cons pe_int (pa_cons pe_int (pa_cons pe_int pa_nil)))) (pa_cons (pe_lst (pa_cons (pv 1) (pa_cons pe_int pa_nil))) (pa_cons (pe_lst (pa_cons pe_int (pa_cons (pe_op op_add (pv 1) pe_int) (pa_cons pe_int pa_nil)))) (pa_cons (pe_lst (pa_cons pe_int (pa_cons pe_int (pa_cons (pe_op op_add (pv 1) pe_int) (pa_cons pe_int pa_nil))))) pa_nil))))))) pa_nil)))))), ?_⟩
    refine q_asgC (ea_cons (ev_var rfl) (ea_cons ev_c ea_nil)) fun H1 e1 => ⟨a, l, 99, rfl, by decide, by decide, hd.mono e1, fun r H2 hr2 d2 k2 => ?_⟩
    have k2 : Keep a l H H2 := (Keep.of e1).trans k2
    have d2x := d2
    obtain ⟨_, _, _, da, dl⟩ := d2x
    refine go_ret (go_call (go_cons (ev_go (ev_var rfl) fun H3 e3 => go_cons (go_lst ?_))))
    refine eam_go (n := 6) (eam_cons (ns := [0, 1]) (el_lst (ea_cons ev_c (ea_cons ev_c ea_nil)) (by show 2 ≤ 100000; decide)) (by decide) (by decide)
      (eam_cons (ns := [0, 1]) (el_lst (ea_cons ev_c (ea_cons ev_c ea_nil)) (by show 2 ≤ 100000; decide)) (by decide) (by decide)
      (eam_cons (ns := [1, 0, 2]) (el_lst (ea_cons ev_c (ea_cons ev_c (ea_cons ev_c ea_nil))) (by show 3 ≤ 100000; decide)) (by decide) (by decide)
      (eam_cons (ns := [(r : Int), 99]) (el_lst (ea_cons (ev_var rfl) (ea_cons ev_c ea_nil)) (by show 2 ≤ 100000; decide)) (by simp) (by simp)
      (eam_cons (ns := [0, (r : Int) + 1, 7]) (el_lst (ea_cons ev_c (ea_cons (ev_I (i := (r : Int)) (j := 1) (ev_var rfl) ev_c) (ea_cons ev_c ea_nil))) (by show 3 ≤ 100000; decide)) (by simp) (by simp)
      (eam_cons (ns := [5, 6, (r : Int) + 1, 0]) (el_lst (ea_cons ev_c (ea_cons ev_c (ea_cons (ev_I (i := (r : Int)) (j := 1) (ev_var rfl) ev_c) (ea_cons ev_c ea_nil)))) (by show 4 ≤ 100000; decide)) (by simp) (by simp) eam_nil)))))) fun ps H4 lp e4 hps => ⟨by rw [List.length_map, lp]; decide, fun p np => go_nil ?_⟩
    have e24 := e3.trans e4
    have np2 := fresh_back e24 np
    have npa : p ≠ a := fun e => by rw [e, da] at np2; cases np2
    have npl : p ≠ l := fun e => by rw [e, dl] at np2; cases np2
    refine ⟨a, l, p, _, rfl, d2.mono (e24.trans (Ex.new np)), upd_same, npa, npl, by rw [List.length_map, lp]; decide, by rw [List.length_map, lp]; decide, fun v H5 hv d5 k5 => ?_⟩
    obtain ⟨p', hp', rfl⟩ := List.mem_map.mp hv
    obtain ⟨n1, ns, l2, l4, h4⟩ := hps p' hp'
    have n2 := fresh_back e3 n1
    have n0 : H p' = none := (k2.free ⟨_, _, _, da, dl⟩ n2).1
    have n3 := (k2.free ⟨_, _, _, da, dl⟩ n2).2
    refine q p' ns H5 n0 (k5.at n3.1 n3.2 ?_) l2 l4 d5 ((k2.ex (e24.trans (Ex.new np))).trans k5)
    exact Ex.new np _ _ h4
end
end K25
/-! K25D8: _law_table, _law_lots, _law_spread, _law_is_firm. -/
namespace K25
open PySem PySem.Spec PyProof.Rows L2 Evl
/-! ### what _law_spread gathers -/
structure Spr (r : Nat → Nat → Int) (L : List Nat) (a b : Nat) (G Rs : List Nat) : Prop where
  mem : ∀ z, z ∈ L ↔ z ∈ G ∨ z ∈ Rs
  dis : ∀ z ∈ G, z ∉ Rs
  len : G.length + Rs.length = L.length
  ga : a ∈ G
  gb : b ∈ G
  must : ∀ z ∈ G, Must r L a b z
def comes (r : Nat → Nat → Int) (a : Nat) (G Rs : List Nat) : List Nat := Rs.filter fun z => !(G.filter fun own => toldB r a own z).isEmpty
section
variable {r : Nat → Nat → Int} {L G Rs : List Nat} {a b : Nat}
theorem mem_comes {z : Nat} : z ∈ comes r a G Rs ↔ z ∈ Rs ∧ ∃ own ∈ G, toldB r a own z = true := by
  unfold comes
  rw [List.mem_filter, Bool.not_eq_true', ← Bool.not_eq_true, List.isEmpty_iff, List.filter_eq_nil_iff]
  refine and_congr_right fun _ => ?_
  simp
theorem Spr.start (nd : L.Nodup) (ha : a ∈ L) (hb : b ∈ L) (n : a ≠ b) : Spr r L a b [a, b] (L.filter fun t => !decide (t ∈ [a, b])) where
  mem := fun z => by
    rw [List.mem_filter]
    by_cases e : z ∈ [a, b]
    · simp only [e, true_or, iff_true]
      rcases List.mem_cons.mp e with rfl | e
      · exact ha
      · rw [List.mem_singleton.mp e]
        exact hb
    · simp [e]
  dis := fun z h q => by
    have := (List.mem_filter.mp q).2
    simp [h] at this
  len := by
    have h1 := filter_len (fun t => decide (t ∈ [a, b])) L
    have h2 : (L.filter fun t => decide (t ∈ [a, b])).Perm [a, b] := by
      rw [List.perm_ext_iff_of_nodup (nd.sublist List.filter_sublist) (by simp [n])]
      intro z
      rw [List.mem_filter, decide_eq_true_eq]
      refine ⟨fun h => h.2, fun h => ⟨?_, h⟩⟩
      rcases List.mem_cons.mp h with rfl | e
      · exact ha
      · rw [List.mem_singleton.mp e]
        exact hb
    rw [← h1, h2.length_eq]
  ga := by simp
  gb := by simp
  must := fun z h => by
    rcases List.mem_cons.mp h with rfl | e
    · exact must_a ha
    · rw [List.mem_singleton.mp e]
      exact must_b hb
theorem Spr.step (h : Spr r L a b G Rs) : Spr r L a b (G ++ comes r a G Rs) (Rs.filter fun z => !decide (z ∈ comes r a G Rs)) where
  mem := fun z => by
    rw [h.mem z, List.mem_append, List.mem_filter]
    by_cases e : z ∈ comes r a G Rs
    · have := (mem_comes.mp e).1
      simp [e, this]
    · simp [e]
  dis := fun z q1 q2 => by
    obtain ⟨q3, q4⟩ := List.mem_filter.mp q2
    rcases List.mem_append.mp q1 with q | q
    · exact h.dis z q q3
    · simp [q] at q4
  len := by
    have h1 := filter_len (fun z => !(G.filter fun own => toldB r a own z).isEmpty) Rs
    have h2 : (Rs.filter fun z => !decide (z ∈ comes r a G Rs)) = Rs.filter fun z => !(!(G.filter fun own => toldB r a own z).isEmpty) := List.filter_congr fun z hz => by
      refine congrArg _ ?_
      rw [Bool.eq_iff_iff, decide_eq_true_eq]
      unfold comes
      rw [List.mem_filter]
      exact ⟨fun q => q.2, fun q => ⟨hz, q⟩⟩
    rw [h2, List.length_append, ← h.len, ← h1]
    unfold comes
    omega
  ga := List.mem_append_left _ h.ga
  gb := List.mem_append_left _ h.gb
  must := fun z q => by
    rcases List.mem_append.mp q with q | q
    · exact h.must z q
    · obtain ⟨q1, own, q2, q3⟩ := mem_comes.mp q
      exact must_step (h.must own q2) ((h.mem z).mpr (.inr q1)) q3
theorem Spr.done (h : Spr r L a b G Rs) (c : comes r a G Rs = []) : G.length < L.length ↔ ¬ Fills r L a b := by
  rw [← closed_fills (r := r) (L := L) (a := a) (b := b) (fun t => t ∈ G) (fun t q => (h.mem t).mpr (.inl q)) h.ga h.gb h.must fun z hz nz own ho => ?_]
  · constructor
    · intro q all
      cases Rs with
      | nil =>
        have := h.len
        rw [List.length_nil] at this
        omega
      | cons z t => exact h.dis z (all z ((h.mem z).mpr (.inr List.mem_cons_self))) List.mem_cons_self
    · intro q
      have := h.len
      cases Rs with
      | nil => exact absurd (fun z hz => ((h.mem z).mp hz).elim id fun w => nomatch w) q
      | cons z t =>
        rw [List.length_cons] at this
        omega
  · cases e : toldB r a own z with
    | false => rfl
    | true =>
      have : z ∈ comes r a G Rs := mem_comes.mpr ⟨((h.mem z).mp hz).elim (fun w => absurd w nz) id, own, ho, e⟩
      rw [c] at this
      cases this
end
section
variable {K : PySem.W.Frag} {σ : L2.St} {H : Hp} {ta tb te : TE} {QB : Bool → Hp → Prop}
theorem go_par {ta : TA} {D : Ends} {i j : Nat} (h : ta σ H fun vs H1 => ∃ v w, vs = [v, w] ∧ D.nx ((σ.set i (some v)).set j (some w)) H1) : tPar i j ta D σ H := h
theorem go_test (h : te σ H fun x H' => ∃ k, x = .bl k ∧ QB k H') : tTest te σ H QB := h
/-- a new list of numbers != a new empty one -/
theorem ev_neNilLL {X : List Nat} (ha : EvL ta σ H (lotV X)) (hb : EvL tb σ H []) : Ev (tOp (rNeD K) ta tb) σ H (.bl (!X.isEmpty)) :=
  ev_opLL ha hb fun p q H1 hp hq e => fun H2 e2 Q k => ⟨.list (datN X), .list [], dp_lst (e2 _ _ hp), dp_nilL (e2 _ _ hq), shapedL_N X, shaped_nilL, by
    show Q (.bl (!PyData.eqv (.list (datN X)) (.list []))) H2
    rw [show PyData.eqv (.list (datN X)) (.list []) = X.isEmpty from by
      rw [PyData.eqv, eqvAll_nil]
      cases X <;> rfl]
    exact k H2 (Ex.refl H2)⟩
end
abbrev sLtable : Stmt := topS 20
abbrev NLtable : List Str := ["_law_rows_here", "_law_row"]
theorem scLtable : FnScope NLtable ["_law_rows_here"] (defScope sLtable) := ⟨rfl, rfl, rfl, by decide +kernel, rfl, by decide +kernel, by decide +kernel⟩
abbrev sLlots : Stmt := topS 21
abbrev NLlots : List Str := ["_law_size", "_law_found", "_law_level", "_law_many", "_law_longer", "_law_lot", "_law_begin", "_law_thing"]
theorem scLlots : FnScope NLlots ["_law_size"] (defScope sLlots) := ⟨rfl, rfl, rfl, by decide +kernel, rfl, by decide +kernel, by decide +kernel⟩
abbrev sLspread : Stmt := topS 22
abbrev NLspread : List Str := ["_law_rows_here", "_law_lot", "_law_first", "_law_second", "_law_found", "_law_rest", "_law_turn", "_law_come", "_law_thing", "_law_look", "_law_back", "_law_own"]
theorem scLspread : FnScope NLspread ["_law_rows_here", "_law_lot", "_law_first", "_law_second"] (defScope sLspread) := ⟨rfl, rfl, rfl, by decide +kernel, rfl, by decide +kernel, by decide +kernel⟩
abbrev sLisfirm : Stmt := topS 23
abbrev NLisfirm : List Str := ["_law_rows_here", "_law_lot", "_law_at", "_law_first", "_law_second"]
theorem scLisfirm : FnScope NLisfirm ["_law_rows_here", "_law_lot"] (defScope sLisfirm) := ⟨rfl, rfl, rfl, by decide +kernel, rfl, by decide +kernel, by decide +kernel⟩
section
variable {P : Program} {w : World} {K : PySem.W.Frag} {mg : Str → Option Value} {base : Heap}
/-- _law_table(rows) -/
def spTable : Sp := fun vs H Q _ => ∃ (R : Addr) (n : Nat) (M : Nat → Nat → Int), vs = [.ref R] ∧ Mat .lst n M H R ∧ n ≤ 50 ∧ ∀ T H', Ex H H' → TabAt n M H' T → Q (.ref T) H'
theorem ok_Ltable {f : Addr} {fd : FuncData} (F : Fun K "_law_table" "_law_table" sLtable f fd) (T : Txt mg) : FnOk P w K mg base CX0 1 f fd ["_law_rows_here"] spTable := by
  have nd := scLtable.nd
  refine F.ok scLtable (fun vs H Q E h => ?_) (fun cdv A outer s H vs Q E hr h => ?_)
  · obtain ⟨_, _, _, rfl, _⟩ := h
    rfl
  · obtain ⟨R, n, M, rfl, ⟨ps, lp, hR, hrow⟩, hn, q⟩ := h
    refine ⟨_, (pss_one (ps_ret (pe_tup (pa_cons (pe_callB (call_lenK (K := K) rfl) rfl T.len PySem.boot_len (pa_cons (pv 0) pa_nil)) (pa_cons (pe_callTy (call_tupleK (K := K) rfl) rfl T.tuple bb_tuple (pa_cons (pe_lc (own := [("_law_row", 1)]) rfl nd (pi_listK (K := K) rfl (pv 0)) (blkOk_by (own := [("_law_row", 1)]) (N := NLtable) (sc := defScope sLtable) (by decide +kernel)) (fun _ _ _ _ _ => (pg_name (i := 1) nd rfl (Or.inl rfl))) (fun _ _ _ _ _ => pts_nil) (fun _ _ _ _ _ => (pe_callTy (call_tupleK (K := K) rfl) rfl T.tuple bb_tuple (pa_cons (pv 1) pa_nil)))) pa_nil)) pa_nil))))), ?_⟩
    refine ev_lenL (ev_var rfl) hR H (Ex.refl H) _ fun H1 e1 => ?_
    refine Ns_tuple (kd := .tup) (en_lcL (fun i => rowV n (M i)) (ev_var rfl) (sq_of (e1 _ _ hR)) (by rw [List.length_map]; omega) (fun _ => rfl) fun i x H2 e2 hi => ?_) H1 (Ex.refl H1) _ fun T rs H2 nT len _ e2 hT hrs => ?_
    · rw [List.getElem?_map] at hi
      cases hp : ps[i]? with
      | none => rw [hp] at hi; cases hi
      | some p =>
        rw [hp] at hi
        obtain rfl : V.ref p = x := Option.some.inj hi
        exact eu_tupl (ev_var rfl) (e2 _ _ (e1 _ _ (hrow i p hp)))
    · refine ⟨by show 2 ≤ sizeLine; decide, fun p np => q p _ ((e1.trans e2).trans (Ex.new np)) ⟨T, ?_, rs, ?_, Ex.new np _ _ hT, fun i r hr => Ex.new np _ _ (hrs i r hr)⟩⟩
      · rw [upd_same, List.length_map, lp]
      · rw [len, List.length_map, lp]
/-- _law_lots(size) -/
def spLlots : Sp := fun vs H Q _ => ∃ n : Nat, vs = [nV n] ∧ n ≤ 6 ∧ ∀ p H', Ex H H' → LotsAt .lst H' p (allLots n) → Q (.ref p) H'
def lotsTo (n i : Nat) : List (List Nat) := (List.range i).flatMap (lots n)
theorem lotsTo_succ (n i : Nat) : lotsTo n (i + 1) = lotsTo n i ++ lots n i := by
  unfold lotsTo
  rw [List.range_succ, List.flatMap_append, List.flatMap_singleton]
theorem lotsTo_len {n : Nat} (hn : n ≤ 6) : ∀ i, i ≤ 7 → (lotsTo n i).length ≤ 20 * i
  | 0, _ => Nat.le_refl _
  | i + 1, h => by
    have ih := lotsTo_len hn i (by omega)
    have h2 := lots_few n hn i (by omega)
    rw [lotsTo_succ, List.length_append]
    omega
theorem next_range (n : Nat) (L : List Nat) : (List.range (n - begins L)).map (fun i => L ++ [begins L + i]) = nextLots n L := by
  unfold nextLots
  rw [List.range'_eq_map_range, List.map_map]
  rfl
theorem ok_Llots {f : Addr} {fd : FuncData} (F : Fun K "_law_lots" "_law_lots" sLlots f fd) (T : Txt mg) : FnOk P w K mg base CX0 1 f fd ["_law_size"] spLlots := by
  have nd := scLlots.nd
  refine F.ok scLlots (fun vs H Q E h => ?_) (fun cdv A outer s H vs Q E hr h => ?_)
  · obtain ⟨_, rfl, _⟩ := h
    rfl
  · obtain ⟨n, rfl, hn, q⟩ := h
    refine ⟨_, (pss_cons (ps_par (i := 1) (j := 2) rfl nd rfl rfl (by decide) rfl rfl (pa_cons (pe_lst (pa_cons (pe_tup pa_nil) pa_nil)) (pa_cons (pe_lst (pa_cons (pe_tup pa_nil) pa_nil)) pa_nil)) rfl)
        (pss_cons (ps_for PassesOwn.never rfl (pi_range1 rfl T.range (pa_cons (pv 0) pa_nil)) (pg_name (i := 3) nd rfl (Or.inl rfl)) (pss_cons (ps_set (i := 4) nd rfl (Or.inl rfl) (pe_lst pa_nil))
        (pss_cons (ps_for PassesOwn.never rfl (pi_listK (K := K) rfl (pv 2)) (pg_name (i := 5) nd rfl (Or.inr rfl)) (pss_cons (ps_set (i := 6) nd rfl (Or.inl rfl) (pe_ifExp (pt_cmpR (op_neK (K := K) rfl hr.units) (pv 5) (pe_tup pa_nil) (nomark _)) (pe_op op_add (pe_ix (ix_tupK (K := K) rfl) (pv 5) (pe_un un_neg pe_int) (fun _ _ => rfl)) pe_int) pe_int))
        (pss_one (ps_set (i := 4) nd rfl (Or.inl rfl) (pe_op op_cat (pv 4) (pe_lc (own := [("_law_thing", 7)]) rfl nd (pi_range2 rfl T.range (pa_cons (pv 6) (pa_cons (pv 0) pa_nil))) (blkOk_by (own := [("_law_thing", 7)]) (N := NLlots) (sc := defScope sLlots) (by decide +kernel)) (fun _ _ _ _ _ => (pg_name (i := 7) nd rfl (Or.inl rfl))) (fun _ _ _ _ _ => pts_nil) (fun _ _ _ _ _ => (pe_op (op_catK (K := K) rfl) (pv 5) (pe_tup (pa_cons (pv 7) pa_nil))))))))))
        (pss_cons (ps_set (i := 2) nd rfl (Or.inl rfl) (pv 4))
        (pss_one (ps_set (i := 1) nd rfl (Or.inl rfl) (pe_op op_cat (pv 1) (pv 2))))))))
        (pss_one (ps_ret (pv 1))))), ?_⟩
    -- found, level = ([()], [()])
    refine go_seq (go_par (go_cons (go_lst (go_cons (eu_go eu_nil fun e0 H1 ne0 e1 he0 => go_nil ⟨by show 1 ≤ sizeLine; decide, fun r nr => ?_⟩)))))
    have x1 : Ex H1 (upd H1 r (.lst [.ref e0])) := Ex.new nr
    have hr1 : (upd H1 r (.lst [.ref e0])) r = some (.lst [.ref e0]) := upd_same
    have he1 := x1 _ _ he0
    generalize upd H1 r (.lst [.ref e0]) = G1 at x1 hr1 he1
    refine go_cons (go_lst (go_cons (eu_go eu_nil fun e0' H2 ne0' e2 he0' => go_nil ⟨by show 1 ≤ sizeLine; decide, fun s ns => go_nil ⟨_, _, rfl, ?_⟩⟩)))
    have x2 : Ex H2 (upd H2 s (.lst [.ref e0'])) := Ex.new ns
    have hs2 : (upd H2 s (.lst [.ref e0'])) s = some (.lst [.ref e0']) := upd_same
    have he2 := x2 _ _ he0'
    generalize upd H2 s (.lst [.ref e0']) = G2 at x2 hs2 he2
    have e02 : Ex H G2 := ((e1.trans x1).trans e2).trans x2
    have one : ∀ (H : Hp) (e : Addr), H e = some (.tup []) → Tups H [e] [[]] := fun H e he => ⟨rfl, fun i p L q1 q2 => by
      cases i with
      | zero =>
        cases q1
        cases q2
        exact he
      | succ i => simp at q1⟩
    refine q_forR1 (ea_cons (ev_var rfl) ea_nil) ⟨by omega, by omega⟩ (fun i σ H' => ∃ r s v3 v4 v5 v6, σ = [some (nV n), some (.ref r), some (.ref s), v3, v4, v5, v6, none] ∧ Ex H H' ∧ LotsAt .lst H' r (lotsTo n (i + 1)) ∧ LotsAt .lst H' s (lots n i))
      (fun H3 e3 => ⟨r, s, none, none, none, none, rfl, e02.trans e3, ⟨[e0], (e2.trans (x2.trans e3)) _ _ hr1, one _ _ ((e2.trans (x2.trans e3)) _ _ he1)⟩, ⟨[e0'], e3 _ _ hs2, one _ _ (e3 _ _ he2)⟩⟩) (fun i σ H3 hi w => ?_) (fun σ H3 w => ?_)
    · obtain ⟨r, s, v3, v4, v5, v6, rfl, e3, lr, ⟨ps, hs, tp⟩⟩ := w
      have hi6 : i < 6 := by omega
      have lz := lots_few n hn i (by omega)
      have lz1 := lots_few n hn (i + 1) (by omega)
      -- longer = []
      refine q_asgL el_nil fun g H4 ng e4 hg => ?_
      -- for lot in level
      refine q_forLn (ev_var rfl) (sq_of (e4 _ _ hs)) (fun k σ H' => ∃ g v5 v6 qs, σ = [some (nV n), some (.ref r), some (.ref s), some (nV i), some (.ref g), v5, v6, none] ∧ Ex H4 H' ∧ H' g = some (.lst (qs.map .ref)) ∧ Tups H' qs (((lots n i).take k).flatMap (nextLots n)))
        (fun H5 e5 => ⟨g, v5, v6, [], rfl, e5, e5 _ _ hg, Tups.nil⟩) (fun k σ H' _ w => ?_) (fun k x σ H5 hx w => ?_) (fun σ H5 w => ?_)
      · obtain ⟨_, _, _, _, _, e, _⟩ := w
        exact sq_of ((e4.trans e) _ _ hs)
      · obtain ⟨g, v5, v6, qs, rfl, e5, hg, tq⟩ := w
        have hk : k < ps.length := by
          have := (List.getElem?_eq_some_iff.mp hx).1
          rwa [List.length_map] at this
        rw [List.getElem?_map, List.getElem?_eq_getElem hk] at hx
        obtain rfl : V.ref ps[k] = x := Option.some.inj hx
        have hL : (lots n i)[k]? = some ((lots n i)[k]'(by rw [← tp.1]; exact hk)) := List.getElem?_eq_getElem _
        generalize (lots n i)[k]'(by rw [← tp.1]; exact hk) = L at hL
        have hp : H5 ps[k] = some (.tup (lotV L)) := (e4.trans e5) _ _ (tp.2 k _ L (List.getElem?_eq_getElem hk) hL)
        generalize ps[k] = pa at hp
        have mL := (mem_lots i L).mp (List.mem_of_getElem? hL)
        have bL := len_begins L.length L rfl mL.2
        -- begin = ..
        refine q_asg (v := nV (begins L)) (ev_if (et_test (ev_neNilT (ev_var rfl) eu_nil hp)) (fun hb => ?_) fun hb => ?_) fun H6 e6 => ?_
        · rcases snoc_cases L with rfl | ⟨M, t, rfl⟩
          · cases hb
          · rw [begins_snoc]
            refine ev_addN (j := 1) (ev_op (ev_var rfl) (ev_un ev_c ru_neg) (rv_ixT (st_of hp) ?_)) ev_c
            rw [lotV_snoc]
            exact atI_last _ _
        · rcases snoc_cases L with rfl | ⟨M, t, rfl⟩
          · exact ev_c
          · simp at hb
        · -- longer = longer + [..]
          refine go_set (go_op (ev_go (ev_var rfl) fun H7 e7 => ns_go (en_lcR2 (kd := .tup) (lo := begins L) (n := n) (fun j => lotV (L ++ [begins L + j])) (ea_cons (ev_var rfl) (ea_cons (ev_var rfl) ea_nil)) (by omega) (by omega) (fun _ => rfl) fun j H8 e8 hj => ?_) fun D rs H8 nw => ?_))
          · rw [lotV_snoc]
            exact eu_catN (ev_var rfl) (eu_tup (ea_cons (ev_var rfl) ea_nil) (by show 1 ≤ 100000; decide)) ((e6.trans (e7.trans e8)) _ _ hp) (by simp) (by rw [lotV_len]; show L.length + 1 ≤ 100000; omega)
          · have t8 := nw.tups
            rw [next_range] at t8
            have e58 := (e6.trans e7).trans nw.ex
            have tl : ((lots n i).take (k + 1)).flatMap (nextLots n) = ((lots n i).take k).flatMap (nextLots n) ++ nextLots n L := by
              rw [List.take_add_one, hL, Option.toList_some, List.flatMap_append, List.flatMap_singleton]
            have le : (((lots n i).take (k + 1)).flatMap (nextLots n)).length ≤ 20 := by
              refine Nat.le_trans ?_ lz1
              rw [show lots n (i + 1) = (lots n i).flatMap (nextLots n) from rfl]
              conv => rhs; rw [← List.take_append_drop (k + 1) (lots n i), List.flatMap_append, List.length_append]
              exact Nat.le_add_right _ _
            refine ⟨g, D, _, _, rfl, rfl, e58 _ _ hg, nw.lst, ?_, fun p np => ?_⟩
            · rw [tl, List.length_append] at le
              rw [List.length_map, List.length_map, tq.1, t8.1]
              exact sz_of (by omega)
            · exact ⟨p, _, _, qs ++ rs, rfl, e5.trans (e58.trans (Ex.new np)), by rw [upd_same, List.map_append], by rw [tl]; exact ((tq.mono e58).append t8).mono (Ex.new np)⟩
      · obtain ⟨g, v5, v6, qs, rfl, e5, hg, tq⟩ := w
        rw [List.length_map, tp.1, List.take_length] at tq
        -- level = longer
        refine q_asg (ev_var rfl) fun H6 e6 => ?_
        -- found = found + level
        obtain ⟨us, hr, tu⟩ := lr
        have e36 := (e4.trans e5).trans e6
        refine go_set (go_op (ev_go (ev_var rfl) fun H7 e7 => ev_go (ev_var rfl) fun H8 e8 => ?_))
        have fz := lotsTo_len hn (i + 1) (by omega)
        refine ⟨r, g, _, _, rfl, rfl, (e36.trans (e7.trans e8)) _ _ hr, (e6.trans (e7.trans e8)) _ _ hg, ?_, fun p np => ?_⟩
        · rw [List.length_map, List.length_map, tu.1, tq.1]
          have : ((lots n i).flatMap (nextLots n)).length ≤ 20 := lz1
          exact sz_of (by omega)
        · have e9 : Ex H8 _ := Ex.new (o := .lst (us.map V.ref ++ qs.map V.ref)) np
          refine ⟨p, g, _, _, _, _, rfl, e3.trans (e36.trans ((e7.trans e8).trans e9)), ⟨us ++ qs, by rw [upd_same, List.map_append], ?_⟩, qs, (e6.trans ((e7.trans e8).trans e9)) _ _ hg, tq.mono (e6.trans ((e7.trans e8).trans e9))⟩
          rw [lotsTo_succ]
          exact (tu.mono (e36.trans ((e7.trans e8).trans e9))).append (tq.mono (e6.trans ((e7.trans e8).trans e9)))
    · obtain ⟨r, s, v3, v4, v5, v6, rfl, e3, lr, _⟩ := w
      rw [Int.toNat_natCast] at lr
      exact s_ret (ev_var rfl) fun H4 e4 => q r H4 (e3.trans e4) (lr.mono e4)
end
end K25
/-! K25D9: _law_spread, _law_is_firm. -/
namespace K25
open PySem PySem.Spec PyProof.Rows L2 Evl
section
variable {P : Program} {w : World} {K : PySem.W.Frag} {mg : Str → Option Value} {base : Heap}
/-- _law_spread(rows, lot, first, second) -/
def spSpread : Sp := fun vs H Q _ => ∃ (R l : Addr) (n a b : Nat) (M : Nat → Nat → Int) (L : List Nat), vs = [.ref R, .ref l, nV a, nV b] ∧ Mat .lst n M H R ∧ H l = some (.tup (lotV L)) ∧ (∀ x ∈ L, x < n) ∧ a ∈ L ∧ b ∈ L ∧ a ≠ b ∧ L.Nodup ∧ L.length ≤ 50 ∧
  ∀ (p : Addr) (G : List Nat) H', H' p = some (.lst (lotV G)) → Ex H H' → (G.length < L.length ↔ ¬ Fills M L a b) → Q (.ref p) H'
theorem comes_take {r : Nat → Nat → Int} {a : Nat} {G Rs : List Nat} {k z : Nat} (h : Rs[k]? = some z) : comes r a G (Rs.take (k + 1)) = comes r a G (Rs.take k) ++ if (!(G.filter fun own => toldB r a own z).isEmpty) = true then [z] else [] := by
  unfold comes
  rw [List.take_add_one, h, Option.toList_some, List.filter_append, List.filter_cons]
  rfl
theorem ok_Lspread {f : Addr} {fd : FuncData} (F : Fun K "_law_spread" "_law_spread" sLspread f fd) (T : Txt mg) : FnOk P w K mg base CX0 1 f fd ["_law_rows_here", "_law_lot", "_law_first", "_law_second"] spSpread := by
  have nd := scLspread.nd
  refine F.ok scLspread (fun vs H Q E h => ?_) (fun cdv A outer s H vs Q E hr h => ?_)
  · obtain ⟨_, _, _, _, _, _, _, rfl, _⟩ := h
    rfl
  · obtain ⟨R, l, n, a, b, M, L, rfl, hM, hl, hx, ha, hb, nab, hn, hz, q⟩ := h
    refine ⟨_, (pss_cons (ps_par (i := 4) (j := 5) rfl nd rfl rfl (by decide) rfl rfl (pa_cons (pe_lst (pa_cons (pv 2) (pa_cons (pv 3) pa_nil))) (pa_cons (pe_lc (own := [("_law_thing", 8)]) rfl nd (pi_tupK (K := K) rfl (pv 1)) (blkOk_by (own := [("_law_thing", 8)]) (N := NLspread) (sc := defScope sLspread) (by decide +kernel)) (fun _ _ _ _ _ => (pg_name (i := 8) nd rfl (Or.inl rfl))) (fun _ _ _ _ _ => (pts_one (pt_cmpR (op_niK (K := K) rfl) (pv 8) (pe_tup (pa_cons (pv 2) (pa_cons (pv 3) pa_nil))) rfl))) (fun _ _ _ _ _ => (pv 8))) pa_nil)) rfl)
        (pss_cons (ps_for PassesOwn.never rfl (pi_range1 rfl T.range (pa_cons (pe_callB (call_lenK (K := K) rfl) rfl T.len PySem.boot_len (pa_cons (pv 1) pa_nil)) pa_nil)) (pg_name (i := 6) nd rfl (Or.inl rfl)) (pss_cons (ps_set (i := 7) nd rfl (Or.inr rfl) (pe_lst pa_nil))
        (pss_cons (ps_for PassesOwn.never rfl (pi_listK (K := K) rfl (pv 5)) (pg_name (i := 8) nd rfl (Or.inr rfl)) (pss_cons (ps_asg (pe_tup (pa_cons (pe_ix (ix_listK (K := K) rfl) (pe_ix (ix_listK (K := K) rfl) (pv 0) (pv 8) (fun _ _ => rfl)) (pv 2) (fun _ _ => rfl)) (pa_cons (pe_ix (ix_listK (K := K) rfl) (pe_ix (ix_listK (K := K) rfl) (pv 0) (pv 2) (fun _ _ => rfl)) (pv 8) (fun _ _ => rfl)) pa_nil))) (pg_tupK (K := K) (n := 2) rfl rfl (pgs_cons (pg_name (i := 9) nd rfl (Or.inr rfl)) (pgs_cons (pg_name (i := 10) nd rfl (Or.inr rfl)) pgs_nil))))
        (pss_one (ps_if (pt_cmpR (op_neK (K := K) rfl hr.units) (pe_lc (own := [("_law_own", 11)]) rfl nd (pi_listK (K := K) rfl (pv 4)) (blkOk_by (own := [("_law_own", 11)]) (N := NLspread) (sc := defScope sLspread) (by decide +kernel)) (fun _ _ _ _ _ => (pg_name (i := 11) nd rfl (Or.inl rfl))) (fun _ _ _ _ _ => (pts_one (PW.pt (pw_or (pt_cmpR op_ne (pe_ix (ix_listK (K := K) rfl) (pe_ix (ix_listK (K := K) rfl) (pv 0) (pv 8) (fun _ _ => rfl)) (pv 11) (fun _ _ => rfl)) (pv 9) (nomark _)) (pw_or1 (pt_cmpR op_ne (pe_ix (ix_listK (K := K) rfl) (pe_ix (ix_listK (K := K) rfl) (pv 0) (pv 11) (fun _ _ => rfl)) (pv 8) (fun _ _ => rfl)) (pv 10) (nomark _))))))) (fun _ _ _ _ _ => (pv 11))) (pe_lst pa_nil) (nomark _)) (pss_one (ps_expr (pe_bm PySem.F.plainAttrs_list PySem.F.slot_list_append PySem.F.type_list_append mt_append (pv 7) (pa_cons (pv 8) pa_nil)))) pss_nil))))
        (pss_cons (ps_if (pt_cmpR (op_eqK (K := K) rfl hr.units) (pv 7) (pe_lst pa_nil) (nomark _)) (pss_one (ps_ret (pv 4))) pss_nil)
        (pss_cons (ps_set (i := 4) nd rfl (Or.inl rfl) (pe_op op_cat (pv 4) (pv 7)))
        (pss_one (ps_setLc (i := 5) (own := [("_law_thing", 8)]) rfl nd rfl rfl (sw_true rfl rfl rfl (by decide +kernel)) (pi_listK (K := K) rfl (pv 5)) (blkOk_by (own := [("_law_thing", 8)]) (N := NLspread) (sc := defScope sLspread) (by decide +kernel)) (fun _ _ _ _ _ => (pg_name (i := 8) nd rfl (Or.inl rfl))) (fun _ _ _ _ _ => (pts_one (pt_cmpR (op_niK (K := K) rfl) (pv 8) (pv 7) rfl))) (fun _ _ _ _ _ => (pv 8)))))))))
        (pss_one (ps_ret (pv 4))))), ?_⟩
    have la := hx _ ha
    have lb := hx _ hb
    -- found, rest = [first, second], [..]
    refine go_seq (go_par (go_cons (el_go (xs := lotV [a, b]) (el_lst (ea_cons (ev_var rfl) (ea_cons (ev_var rfl) ea_nil)) (by show 2 ≤ 100000; decide)) fun r H1 nr e1 hr1 => ?_)))
    refine go_cons (el_go (el_is (ys := lotV (L.filter fun t => !decide (t ∈ [a, b]))) (el_lcT (fun i => !decide (L.getD i 0 ∈ [a, b])) (fun i => nV (L.getD i 0)) (ev_var rfl) (st_of (e1 _ _ hl)) (by rw [lotV_len]; omega) (fun _ => rfl) (fun i x H2 e2 hi => ?_) (fun i x H2 e2 hi _ => ?_)) ?_) fun s0 H2 ns e2 hs2 => go_nil ⟨_, _, rfl, ?_⟩)
    · obtain ⟨z, hz, rfl⟩ := of_lotV hi
      rw [getD_of hz]
      exact et_niU (L := [a, b]) (ev_var rfl) (eu_tup (ea_cons (ev_var rfl) (ea_cons (ev_var rfl) ea_nil)) (by show 2 ≤ 100000; decide))
    · obtain ⟨z, hz, rfl⟩ := of_lotV hi
      rw [getD_of hz]
      exact ev_var rfl
    · rw [lotV_len]
      exact given_filter L 0 (fun t => !decide (t ∈ [a, b])) nV
    · refine q_forR1 (ea_cons (ev_lenT (ev_var rfl) ((e1.trans e2) _ _ hl)) ea_nil) ⟨by omega, by rw [lotV_len]; omega⟩
        (fun i σ H' => ∃ r s0 G Rs v6 v7 v8 v9 v10 v11, σ = [some (.ref R), some (.ref l), some (nV a), some (nV b), some (.ref r), some (.ref s0), v6, v7, v8, v9, v10, v11] ∧ Ex H H' ∧ H' r = some (.lst (lotV G)) ∧ H' s0 = some (.lst (lotV Rs)) ∧ Spr M L a b G Rs ∧ i + 2 ≤ G.length)
        (fun H3 e3 => ⟨r, s0, [a, b], _, none, none, none, none, none, none, rfl, (e1.trans e2).trans e3, (e2.trans e3) _ _ hr1, e3 _ _ hs2, Spr.start hn ha hb nab, Nat.le_refl _⟩) (fun i σ H3 hi w => ?_) (fun σ H3 w => ?_)
      · obtain ⟨r, s0, G, Rs, v6, v7, v8, v9, v10, v11, rfl, e3, hr3, hs3, sp, hg⟩ := w
        have lG : ∀ x ∈ G, x < n := fun x h => hx x ((sp.mem x).mpr (.inl h))
        have lR : ∀ x ∈ Rs, x < n := fun x h => hx x ((sp.mem x).mpr (.inr h))
        have zl := sp.len
        -- come = []
        refine q_asgL el_nil fun c H4 nc e4 hc4 => ?_
        have hs4 := e4 _ _ hs3
        refine q_forLn (ev_var rfl) (sq_of hs4) (fun k σ H' => ∃ v8 v9 v10 v11, σ = [some (.ref R), some (.ref l), some (nV a), some (nV b), some (.ref r), some (.ref s0), some (nV i), some (.ref c), v8, v9, v10, v11] ∧ Ex H3 H' ∧ H' c = some (.lst (lotV (comes M a G (Rs.take k)))))
          (fun H5 e5 => ⟨v8, v9, v10, v11, rfl, e4.trans e5, e5 _ _ hc4⟩) (fun k σ H' _ w => ?_) (fun k x σ H5 hx5 w => ?_) (fun σ H5 w => ?_)
        · obtain ⟨_, _, _, _, _, e, _⟩ := w
          exact sq_of (e _ _ hs3)
        · obtain ⟨v8, v9, v10, v11, rfl, e5, hc5⟩ := w
          obtain ⟨z, hz5, rfl⟩ := of_lotV hx5
          have lz := lR z (List.mem_of_getElem? hz5)
          have m5 := hM.mono (e3.trans e5)
          -- look, back = ..
          refine go_seq (go_asg (eu_go (eu_tup (ea_cons (ev_ix2L m5 lz la (ev_var rfl) (ev_var rfl) (ev_var rfl)) (ea_cons (ev_ix2L m5 la lz (ev_var rfl) (ev_var rfl) (ev_var rfl)) ea_nil)) (by show 2 ≤ 100000; decide)) fun t H6 nt e6 ht => ⟨t, _, rfl, st_of ht, rfl, _, _, rfl, _, _, rfl, rfl, ?_⟩))
          have hc6 := e6 _ _ hc5
          have ct := comes_take (r := M) (a := a) (G := G) hz5
          refine s_when (et_test (ev_neNilLL (X := G.filter fun own => toldB M a own z) (el_is (el_lcL (fun j => toldB M a (G.getD j 0) z) (fun j => nV (G.getD j 0)) (ev_var rfl) (sq_of ((e5.trans e6) _ _ hr3)) (by rw [lotV_len]; omega) (fun _ => rfl) (fun j y H7 e7 hj => ?_) (fun j y H7 e7 hj _ => ?_)) ?_) el_nil)) (fun hb7 H7 e7 => ?_) (fun hb7 H7 e7 => ?_)
          · obtain ⟨o, ho, rfl⟩ := of_lotV hj
            rw [getD_of ho]
            have lo := lG o (List.mem_of_getElem? ho)
            have m7 := m5.mono (e6.trans e7)
            exact et_or (et_neI (ev_ix2L m7 lz lo (ev_var rfl) (ev_var rfl) (ev_var rfl)) (ev_var rfl)) fun _ => et_neI (ev_ix2L m7 lo lz (ev_var rfl) (ev_var rfl) (ev_var rfl)) (ev_var rfl)
          · obtain ⟨o, ho, rfl⟩ := of_lotV hj
            rw [getD_of ho]
            exact ev_var rfl
          · rw [lotV_len]
            exact given_filter G 0 (fun own => toldB M a own z) nV
          · refine s_app (e7 _ _ hc6) (ev_var rfl) (ev_var rfl) ?_ fun H8 e8 => ⟨_, _, _, _, rfl, Ex.mut ((e5.trans e6).trans (e7.trans e8)) nc, ?_⟩
            · rw [lotV_len]
              have h1 := List.length_filter_le (fun z => !(G.filter fun own => toldB M a own z).isEmpty) (Rs.take k)
              have h2 : (Rs.take k).length ≤ Rs.length := List.length_take_le' ..
              unfold comes
              omega
            · rw [upd_same, ct, if_pos hb7, lotV_snoc]
          · refine ⟨_, _, _, _, rfl, (e5.trans e6).trans e7, ?_⟩
            rw [ct, if_neg (by rw [hb7]; decide), List.append_nil]
            exact e7 _ _ hc6
        · obtain ⟨v8, v9, v10, v11, rfl, e5, hc5⟩ := w
          rw [lotV_len, List.take_length] at hc5
          -- if come == []
          refine q_when (et_test (ev_eqNilN (ev_var rfl) el_nil hc5)) (fun hb6 H6 e6 => ?_) (fun hb6 H6 e6 => ?_)
          · exact s_ret (ev_var rfl) fun H7 e7 => q r G H7 ((e5.trans (e6.trans e7)) _ _ hr3) (e3.trans (e5.trans (e6.trans e7))) (sp.done (List.isEmpty_iff.mp hb6))
          · have hc6 := e6 _ _ hc5
            have e36 := e5.trans e6
            have cz : (comes M a G Rs).length ≤ Rs.length := List.length_filter_le _ _
            -- found = found + come
            refine go_seq (go_set (go_op (ev_go (ev_var rfl) fun H7 e7 => ev_go (ev_var rfl) fun H8 e8 => ⟨r, c, _, _, rfl, rfl, (e36.trans (e7.trans e8)) _ _ hr3, (e7.trans e8) _ _ hc6, by rw [lotV_len, lotV_len]; exact sz_of (by omega), fun p np => ?_⟩)))
            have x9 : Ex H8 (upd H8 p (.lst (lotV G ++ lotV (comes M a G Rs)))) := Ex.new np
            have hp9 : (upd H8 p (.lst (lotV G ++ lotV (comes M a G Rs)))) p = some (.lst (lotV (G ++ comes M a G Rs))) := by
              rw [upd_same]
              unfold lotV
              rw [List.map_append]
            generalize upd H8 p (.lst (lotV G ++ lotV (comes M a G Rs))) = H9 at x9 hp9
            have e69 := (e7.trans e8).trans x9
            have e39 := e36.trans e69
            -- rest = [..]
            refine s_asgL (el_is (ys := lotV (Rs.filter fun z => !decide (z ∈ comes M a G Rs))) (el_lcL (fun j => !decide (Rs.getD j 0 ∈ comes M a G Rs)) (fun j => nV (Rs.getD j 0)) (ev_var rfl) (sq_of (e39 _ _ hs3)) (by rw [lotV_len]; omega) (fun _ => rfl) (fun j y HA eA hj => ?_) (fun j y HA eA hj _ => ?_)) ?_) fun s' HA ns' eA hsA => ?_
            · obtain ⟨o, ho, rfl⟩ := of_lotV hj
              rw [getD_of ho]
              exact et_niL (ev_var rfl) (ev_var rfl) (eA _ _ (e69 _ _ hc6))
            · obtain ⟨o, ho, rfl⟩ := of_lotV hj
              rw [getD_of ho]
              exact ev_var rfl
            · rw [lotV_len]
              exact given_filter Rs 0 (fun z => !decide (z ∈ comes M a G Rs)) nV
            · refine ⟨p, s', _, _, _, _, _, _, _, _, rfl, e3.trans (e39.trans eA), eA _ _ hp9, hsA, sp.step, ?_⟩
              rw [List.length_append]
              have : 0 < (comes M a G Rs).length := by
                cases hcm : comes M a G Rs with
                | nil => rw [hcm] at hb6; cases hb6
                | cons x t => exact Nat.succ_pos _
              omega
      · obtain ⟨r, s0, G, Rs, v6, v7, v8, v9, v10, v11, rfl, e3, hr3, hs3, sp, hg⟩ := w
        have := sp.len
        rw [lotV_len, Int.toNat_natCast] at hg
        omega
/-- _law_is_firm(rows, lot) -/
def spLisfirm : Sp := fun vs H Q _ => ∃ (R l : Addr) (n : Nat) (M : Nat → Nat → Int) (L : List Nat), vs = [.ref R, .ref l] ∧ Mat .lst n M H R ∧ H l = some (.tup (lotV L)) ∧ (∀ x ∈ L, x < n) ∧ L.Nodup ∧ L.length ≤ 50 ∧
  ∀ (c : Bool) H', Ex H H' → (c = true ↔ FirmL M L) → Q (.bl c) H'
theorem nd_ne {L : List Nat} (h : L.Nodup) {i j a b : Nat} (hij : i < j) (ha : L[i]? = some a) (hb : L[j]? = some b) : a ≠ b := by
  obtain ⟨h1, rfl⟩ := List.getElem?_eq_some_iff.mp ha
  obtain ⟨h2, rfl⟩ := List.getElem?_eq_some_iff.mp hb
  exact (List.pairwise_iff_getElem.mp h) i j h1 h2 hij
theorem ok_Lisfirm {f : Addr} {fd : FuncData} (F : Fun K "_law_is_firm" "_law_is_firm" sLisfirm f fd) (T : Txt mg) (c_Lspread : Cal P w K mg base 1 "_law_spread" ["_law_rows_here", "_law_lot", "_law_first", "_law_second"] spSpread) : FnOk P w K mg base CX0 2 f fd ["_law_rows_here", "_law_lot"] spLisfirm := by
  have nd := scLisfirm.nd
  refine F.ok scLisfirm (fun vs H Q E h => ?_) (fun cdv A outer s H vs Q E hr h => ?_)
  · obtain ⟨_, _, _, _, _, rfl, _⟩ := h
    rfl
  · obtain ⟨R, l, n, M, L, rfl, hM, hl, hx, hn, hz, q⟩ := h
    refine ⟨_, (pss_cons (ps_for PassesOwn.never rfl (pi_enumTK (K := K) rfl rfl T.enumerate (pa_cons (pv 1) pa_nil)) (pg_tupK (K := K) (n := 2) rfl rfl (pgs_cons (pg_name (i := 2) nd rfl (Or.inl rfl)) (pgs_cons (pg_name (i := 3) nd rfl (Or.inl rfl)) pgs_nil))) (pss_one (ps_for PassesOwn.never rfl (pi_tupK (K := K) rfl (pe_slice (sl_tupK (K := K) rfl) (pv 1) (po_some (pe_op op_add (pv 2) pe_int)) po_none)) (pg_name (i := 4) nd rfl (Or.inl rfl)) (pss_one (ps_if (pt_cmpR op_lt (pe_callB (call_lenK (K := K) rfl) rfl T.len PySem.boot_len (pa_cons (pe_cal c_Lspread hr (by decide) rfl (pa_cons (pv 0) (pa_cons (pv 1) (pa_cons (pv 3) (pa_cons (pv 4) pa_nil))))) pa_nil)) (pe_callB (call_lenK (K := K) rfl) rfl T.len PySem.boot_len (pa_cons (pv 1) pa_nil)) (nomark _)) (pss_one (ps_ret pe_bl)) pss_nil)))))
        (pss_one (ps_ret (pe_cmpR op_gt (pe_callB (call_lenK (K := K) rfl) rfl T.len PySem.boot_len (pa_cons (pv 1) pa_nil)) pe_int (nomark _))))), ?_⟩
    refine q_forET (ea_cons (ev_var rfl) ea_nil) hl (fun i σ H' => ∃ v2 v3 v4, σ = [some (.ref R), some (.ref l), v2, v3, v4] ∧ Ex H H' ∧ ∀ (i' j a b : Nat), i' < i → i' < j → L[i']? = some a → L[j]? = some b → Fills M L a b)
      (fun H2 e2 => ⟨none, none, none, rfl, e2, fun i' j a b h => absurd h (Nat.not_lt_zero _)⟩) (fun i σ H' _ p => ?_) (fun i x σ H3 H4 hi p e4 => ?_) (fun σ H3 p => ?_)
    · obtain ⟨_, _, _, _, e, _⟩ := p
      exact e _ _ hl
    · obtain ⟨v2, v3, v4, rfl, e3, hp⟩ := p
      obtain ⟨a, ha, rfl⟩ := of_lotV hi
      have e4 := e3.trans e4
      have lne : lotV L ≠ [] := fun z => by
        have e := lotV_len L
        rw [z] at e
        have := (List.getElem?_eq_some_iff.mp ha).1
        rw [← e] at this
        exact absurd this (Nat.not_lt_zero _)
      refine s_forNT (eu_from (k := i + 1) (ev_var rfl) (eo_some (ev_addN (j := 1) (ev_var rfl) ev_c)) eo_none (e4 _ _ hl) (Nat.succ_pos _) lne) (fun _ H5 j σ H' => ∃ v4, σ = [some (.ref R), some (.ref l), some (nV i), some (nV a), v4] ∧ Ex H5 H' ∧ ∀ (j' b : Nat), j' < j → L[i + 1 + j']? = some b → Fills M L a b)
        (fun p H5 np e5 hp5 => ⟨v4, rfl, Ex.refl H5, fun j' b h => absurd h (Nat.not_lt_zero _)⟩) (fun p H5 j σ H' hp5 _ w => ?_) (fun p H5 j x σ H6 np e5 hy w => ?_) (fun p H5 σ H6 np e5 w => ?_)
      · obtain ⟨_, _, e, _⟩ := w
        exact e
      · obtain ⟨v4, rfl, e6, hp6⟩ := w
        rw [List.getElem?_drop] at hy
        obtain ⟨b, hb', rfl⟩ := of_lotV hy
        have e46 := e4.trans (e5.trans e6)
        have nab := nd_ne hn (show i < i + 1 + j by omega) ha hb'
        refine go_if (go_test (go_op (go_cb (go_cons (go_call (ea_go (ea_cons (ev_var rfl) (ea_cons (ev_var rfl) (ea_cons (ev_var rfl) (ea_cons (ev_var rfl) ea_nil)))) fun H8 e8 => ?_))))))
        refine ⟨R, l, n, a, b, M, L, rfl, hM.mono (e46.trans e8), (e46.trans e8) _ _ hl, hx, List.mem_of_getElem? ha, List.mem_of_getElem? hb', nab, hn, hz, fun g G H9 hG e9 hc => go_nil ⟨g, _, rfl, Or.inl (sq_of hG), ?_⟩⟩
        refine ev_go (ev_lenT (ev_var rfl) (((e46.trans e8).trans e9) _ _ hl)) fun HA eA => ⟨_, _, rfl, rfl, _, rfl, ?_⟩
        rw [lotV_len, lotV_len]
        by_cases lt : G.length < L.length
        · rw [if_pos (by simpa using lt)]
          exact s_ret ev_c fun HB eB => q false HB ((((e46.trans e8).trans e9).trans eA).trans eB) ⟨(fun z => nomatch z), fun z => absurd (((firm_pairs hn).mp z).2 i (i + 1 + j) a b (by omega) ha hb') (hc.mp lt)⟩
        · rw [if_neg (by simpa using lt)]
          have fl : Fills M L a b := Classical.byContradiction fun n => lt (hc.mpr n)
          refine ⟨_, rfl, ((e6.trans e8).trans e9).trans eA, fun j' b' hj' hb2 => ?_⟩
          by_cases ej : j' = j
          · subst ej
            rw [hb'] at hb2
            cases hb2
            exact fl
          · exact hp6 j' b' (by omega) hb2
      · obtain ⟨v4, rfl, e6, hp6⟩ := w
        refine ⟨_, _, _, rfl, (e4.trans e5).trans e6, fun i' j a' b h1 h2 h3 h4 => ?_⟩
        by_cases ei : i' = i
        · subst ei
          rw [ha] at h3
          cases h3
          refine hp6 (j - (i' + 1)) b ?_ (by rw [show i' + 1 + (j - (i' + 1)) = j by omega]; exact h4)
          rw [List.length_drop, lotV_len]
          have := (List.getElem?_eq_some_iff.mp h4).1
          omega
        · exact hp i' j a' b (by omega) h2 h3 h4
    · obtain ⟨v2, v3, v4, rfl, e3, hp⟩ := p
      refine s_ret (ev_I (j := 2) (ev_lenT (ev_var rfl) (e3 _ _ hl)) ev_c) fun H4 e4 => q _ H4 (e3.trans e4) ?_
      rw [lotV_len, decide_eq_true_eq]
      constructor
      · intro h3
        refine (firm_pairs hn).mpr ⟨by omega, fun i j a b hij ha hb => hp i j a b ?_ hij ha hb⟩
        rw [lotV_len]
        exact (List.getElem?_eq_some_iff.mp ha).1
      · intro h
        have := ((firm_pairs hn).mp h).1
        omega
end
end K25
/-! K25D10: matrices that are built and written; _law_rows. -/
namespace K25
open PySem PySem.Spec PyProof.Rows L2 Evl
theorem rowV_set {n y : Nat} {f : Nat → Int} {v : Int} : (rowV n f).set y (.int v) = rowV n fun j => if j = y then v else f j := by
  refine List.ext_getElem? fun i => ?_
  by_cases hi : i < n
  · rw [rowV_at hi, List.getElem?_set]
    by_cases e : y = i
    · subst e
      rw [if_pos rfl, if_pos (by rw [rowV_len]; exact hi), if_pos rfl]
    · rw [if_neg e, rowV_at hi, if_neg (fun q => e q.symm)]
  · rw [List.getElem?_eq_none (by rw [List.length_set, rowV_len]; omega), List.getElem?_eq_none (by rw [rowV_len]; omega)]
theorem rep_row (n : Nat) (c : Int) : (List.replicate n [V.int c]).flatten = rowV n fun _ => c := by
  unfold rowV
  induction n with
  | zero => rfl
  | succ n ih => rw [List.replicate_succ, List.flatten_cons, ih, List.range_succ_eq_map, List.map_cons, List.map_map]; rfl
/-- a matrix that is new since H0 -/
structure MatN (H0 H : Hp) (n : Nat) (R : Addr) (ps : List Addr) (M : Nat → Nat → Int) : Prop where
  len : ps.length = n
  nd : ps.Nodup
  out : R ∉ ps
  nR : H0 R = none
  free : ∀ p ∈ ps, H0 p = none
  top : H R = some (.lst (ps.map .ref))
  row : ∀ (i : Nat) (p : Addr), ps[i]? = some p → H p = some (.lst (rowV n (M i)))
theorem MatN.mat {H0 H : Hp} {n : Nat} {R : Addr} {ps : List Addr} {M : Nat → Nat → Int} (m : MatN H0 H n R ps M) : Mat .lst n M H R := ⟨ps, m.len, m.top, m.row⟩
theorem News.matN {H0 H : Hp} {n : Nat} {R : Addr} {ps : List Addr} {M : Nat → Nat → Int} (w : News .lst H0 H n (fun i => rowV n (M i)) R ps) : MatN H0 H n R ps M := ⟨w.len, w.nd, w.out, w.nD, w.free, w.lst, w.obj⟩
theorem MatN.back {H1 H0 H : Hp} {n : Nat} {R : Addr} {ps : List Addr} {M : Nat → Nat → Int} (m : MatN H1 H n R ps M) (h : ∀ p, H1 p = none → H0 p = none) : MatN H0 H n R ps M :=
  ⟨m.len, m.nd, m.out, h _ m.nR, fun p hp => h _ (m.free p hp), m.top, m.row⟩
theorem MatN.mono {H0 H H' : Hp} {n : Nat} {R : Addr} {ps : List Addr} {M : Nat → Nat → Int} (m : MatN H0 H n R ps M) (e : Ex H H') : MatN H0 H' n R ps M :=
  ⟨m.len, m.nd, m.out, m.nR, m.free, e _ _ m.top, fun i p hp => e _ _ (m.row i p hp)⟩
/-- all but the rows stands -/
def Fr (ps : List Addr) (H H' : Hp) : Prop := ∀ b, b ∉ ps → ∀ o, H b = some o → H' b = some o
section
variable {K : PySem.W.Frag} {σ : L2.St} {H0 H : Hp} {te tR tx ty : TE} {D : Ends} {n x y : Nat} {R : Addr} {ps : List Addr} {M : Nat → Nat → Int} {v : Int} {tz : TS}
/-- rows[x][y] = a number -/
theorem s_mat (m : MatN H0 H n R ps M) (hx : x < n) (hy : y < n) (h : Ev te σ H (.int v)) (hR : Ev tR σ H (.ref R)) (ex : Ev tx σ H (nV x)) (ey : Ev ty σ H (nV y)) (k : ∀ H' M', Fr ps H H' → MatN H0 H' n R ps M' → D.nx σ H') :
    tAsg te (gSub (tOp (rIxL K) tR tx) ty rSetL) D σ H := by
  have hp : ps[x]? = some (ps[x]'(by rw [m.len]; exact hx)) := List.getElem?_eq_getElem _
  generalize ps[x]'(by rw [m.len]; exact hx) = p at hp
  refine s_setL (j := y) (m.row x p hp) h (ev_ixL hR ex m.top (by rw [List.getElem?_map, hp]; rfl)) ey (by rw [rowV_len]; exact hy) fun H1 e1 => ?_
  refine k _ (fun i j => if i = x then (if j = y then v else M i j) else M i j) (fun b hb o ho => ?_) ⟨m.len, m.nd, m.out, m.nR, m.free, ?_, fun i q hq => ?_⟩
  · rw [upd_ne (fun e => hb (by rw [e]; exact List.mem_of_getElem? hp))]
    exact e1 _ _ ho
  · rw [upd_ne (fun e => m.out (by rw [e]; exact List.mem_of_getElem? hp))]
    exact e1 _ _ m.top
  · by_cases e : i = x
    · subst e
      rw [hp] at hq
      cases hq
      rw [upd_same, rowV_set]
      simp only [if_true]
    · have npq : q ≠ p := fun eq => by
        subst eq
        obtain ⟨h1, e1⟩ := List.getElem?_eq_some_iff.mp hq
        obtain ⟨h2, e2⟩ := List.getElem?_eq_some_iff.mp hp
        exact e ((List.getElem_inj m.nd).mp (e1.trans e2.symm))
      rw [upd_ne npq]
      simp only [if_neg e]
      exact e1 _ _ (m.row i q hq)
theorem q_mat (m : MatN H0 H n R ps M) (hx : x < n) (hy : y < n) (h : Ev te σ H (.int v)) (hR : Ev tR σ H (.ref R)) (ex : Ev tx σ H (nV x)) (ey : Ev ty σ H (nV y)) (k : ∀ H' M', Fr ps H H' → MatN H0 H' n R ps M' → tz D σ H') :
    tSeq (tAsg te (gSub (tOp (rIxL K) tR tx) ty rSetL)) tz D σ H := s_mat (D := { D with nx := tz D }) m hx hy h hR ex ey k
end
/-- the deck kept since H0 -/
structure Wk (a l : Addr) (H0 H : Hp) : Prop where
  d0 : Deck a l H0
  d : Deck a l H
  k : Keep a l H0 H
section
variable {a l p : Addr} {H0 H H' : Hp} {o : HO}
theorem Deck.fresh (d : Deck a l H) (h : H p = none) : p ≠ a ∧ p ≠ l := by
  obtain ⟨_, _, _, h1, h2⟩ := d
  exact ⟨(fun e => by rw [e, h1] at h; cases h), (fun e => by rw [e, h2] at h; cases h)⟩
theorem Wk.start (d : Deck a l H) : Wk a l H H := ⟨d, d, Keep.of (Ex.refl H)⟩
theorem Wk.ex (w : Wk a l H0 H) (e : Ex H H') : Wk a l H0 H' := ⟨w.d0, w.d.mono e, w.k.ex e⟩
theorem Wk.call (w : Wk a l H0 H) (d : Deck a l H') (k : Keep a l H H') : Wk a l H0 H' := ⟨w.d0, d, w.k.trans k⟩
theorem Wk.at (w : Wk a l H0 H) (h : H0 p = some o) (n : p ≠ a ∧ p ≠ l) : H p = some o := w.k.at n.1 n.2 h
theorem Wk.free (w : Wk a l H0 H) (h : H p = none) : H0 p = none := (w.k.free w.d h).1
theorem Wk.fr {ps : List Addr} (w : Wk a l H0 H) (n : ∀ p ∈ ps, H0 p = none) (f : Fr ps H H') : Wk a l H0 H' := by
  obtain ⟨d0, ⟨ns, i, c, h1, h2⟩, k⟩ := w
  have na : a ∉ ps := fun q => (d0.fresh (n a q)).1 rfl
  have nl : l ∉ ps := fun q => (d0.fresh (n l q)).2 rfl
  refine ⟨d0, ⟨ns, i, c, f _ na _ h1, f _ nl _ h2⟩, fun b o hb => ?_⟩
  refine f b (fun q => ?_) o (k b o hb)
  have := n b q
  rw [(off_some hb).2.2] at this
  cases this
end
/-- a matrix under way: the deck, the matrix, other things that stand -/
structure Sr (a l : Addr) (H0 : Hp) (n : Nat) (R : Addr) (ps : List Addr) (xs : List (Addr × HO)) (H : Hp) : Prop where
  w : Wk a l H0 H
  m : ∃ M, MatN H0 H n R ps M
  x : ∀ q ∈ xs, H q.1 = some q.2 ∧ (q.1 ≠ a ∧ q.1 ≠ l) ∧ q.1 ∉ ps
section
variable {K : PySem.W.Frag} {a l R p : Addr} {H0 H H' : Hp} {n x y : Nat} {ps : List Addr} {xs : List (Addr × HO)} {o : HO} {Q : VK} {σ : L2.St} {ta : TA} {te tR tx ty : TE} {v : Int} {D : Ends} {tz : TS}
theorem MatN.ne {M : Nat → Nat → Int} (m : MatN H0 H n R ps M) (d : Deck a l H0) : (R ≠ a ∧ R ≠ l) ∧ ∀ p ∈ ps, p ≠ a ∧ p ≠ l := ⟨d.fresh m.nR, fun p hp => d.fresh (m.free p hp)⟩
theorem MatN.call {M : Nat → Nat → Int} (m : MatN H0 H n R ps M) (d : Deck a l H0) (k : Keep a l H H') : MatN H0 H' n R ps M :=
  have e := m.ne d
  ⟨m.len, m.nd, m.out, m.nR, m.free, k.at e.1.1 e.1.2 m.top, fun i p hp => k.at (e.2 p (List.mem_of_getElem? hp)).1 (e.2 p (List.mem_of_getElem? hp)).2 (m.row i p hp)⟩
theorem Sr.ex (s : Sr a l H0 n R ps xs H) (e : Ex H H') : Sr a l H0 n R ps xs H' := ⟨s.w.ex e, s.m.imp fun _ m => m.mono e, fun q hq => ⟨e _ _ (s.x q hq).1, (s.x q hq).2⟩⟩
theorem Sr.call (s : Sr a l H0 n R ps xs H) (d : Deck a l H') (k : Keep a l H H') : Sr a l H0 n R ps xs H' := ⟨s.w.call d k, s.m.imp fun _ m => m.call s.w.d0 k, fun q hq => ⟨k.at (s.x q hq).2.1.1 (s.x q hq).2.1.2 (s.x q hq).1, (s.x q hq).2⟩⟩
theorem Sr.fr {M : Nat → Nat → Int} (s : Sr a l H0 n R ps xs H) (m : MatN H0 H' n R ps M) (f : Fr ps H H') : Sr a l H0 n R ps xs H' := ⟨s.w.fr m.free f, ⟨M, m⟩, fun q hq => ⟨f _ (s.x q hq).2.2 _ (s.x q hq).1, (s.x q hq).2⟩⟩
theorem Sr.get (s : Sr a l H0 n R ps xs H) (h : (p, o) ∈ xs) : H p = some o := (s.x _ h).1
theorem Sr.add (s : Sr a l H0 n R ps xs H) (np : H p = none) (e : Ex H H') (hp : H' p = some o) : Sr a l H0 n R ps ((p, o) :: xs) H' := by
  have s' := s.ex e
  refine ⟨s'.w, s'.m, fun q hq => ?_⟩
  rcases List.mem_cons.mp hq with rfl | hq
  · refine ⟨hp, s.w.d.fresh np, fun z => ?_⟩
    obtain ⟨M, m⟩ := s.m
    obtain ⟨i, hi, ei⟩ := List.getElem_of_mem z
    have z2 := m.row i p (by rw [List.getElem?_eq_getElem hi, ei])
    rw [np] at z2
    cases z2
  · exact s'.x q hq
theorem Sr.drop {q : Addr × HO} (s : Sr a l H0 n R ps (q :: xs) H) : Sr a l H0 n R ps xs H := ⟨s.w, s.m, fun q hq => s.x q (List.mem_cons_of_mem _ hq)⟩
theorem Sr.drop2 {q r : Addr × HO} (s : Sr a l H0 n R ps (q :: r :: xs) H) : Sr a l H0 n R ps (q :: xs) H := ⟨s.w, s.m, fun t ht => s.x t (by
  rcases List.mem_cons.mp ht with rfl | ht
  · exact List.mem_cons_self
  · exact List.mem_cons_of_mem _ (List.mem_cons_of_mem _ ht))⟩
theorem Sr.old (s : Sr a l H0 n R ps xs H) (h : H0 p = some o) (e : p ≠ a ∧ p ≠ l) : Sr a l H0 n R ps ((p, o) :: xs) H := by
  refine ⟨s.w, s.m, fun q hq => ?_⟩
  rcases List.mem_cons.mp hq with rfl | hq
  · refine ⟨s.w.at h e, e, fun z => ?_⟩
    obtain ⟨M, m⟩ := s.m
    have := m.free p z
    rw [h] at this
    cases this
  · exact s.x q hq
theorem Sr.one {m : Addr} {ns : List Int} (s : Sr a l H0 n R ps xs H) (hm : (m, HO.lst (ns.map V.int)) ∈ xs) (h0 : 0 < ns.length) (hz : ns.length < 1000) (ha : EvA ta σ H [.ref a, .ref m]) (k : ∀ (u : Int) H', Sr a l H0 n R ps xs H' → Q (.int u) H') :
    tCall spOne [] E0 ta σ H Q := c_call ha fun H1 e1 => ⟨a, l, m, _, rfl, s.w.d.mono e1, e1 _ _ (s.get hm), (s.x _ hm).2.1.1, (s.x _ hm).2.1.2, by rw [List.length_map]; exact h0, by rw [List.length_map]; exact hz, fun v H2 hv d2 k2 => by
  obtain ⟨u, _, rfl⟩ := List.mem_map.mp hv
  exact k u H2 ((s.ex e1).call d2 k2)⟩
theorem Sr.draw {m : Nat} (s : Sr a l H0 n R ps xs H) (h0 : 0 < m) (hz : m < 100000) (ha : EvA ta σ H [.ref a, nV m]) (k : ∀ (u : Nat) H', u < m → Sr a l H0 n R ps xs H' → Q (nV u) H') :
    tCall spDraw [] E0 ta σ H Q := c_call ha fun H1 e1 => ⟨a, l, m, rfl, h0, hz, s.w.d.mono e1, fun u H2 hu d2 k2 => k u H2 hu ((s.ex e1).call d2 k2)⟩
/-- rows[x][y] = a number -/
theorem s_sr (s : Sr a l H0 n R ps xs H) (hx : x < n) (hy : y < n) (h : Ev te σ H (.int v)) (hR : Ev tR σ H (.ref R)) (ex : Ev tx σ H (nV x)) (ey : Ev ty σ H (nV y)) (k : ∀ H', Sr a l H0 n R ps xs H' → D.nx σ H') :
    tAsg te (gSub (tOp (rIxL K) tR tx) ty rSetL) D σ H := by
  obtain ⟨M, m⟩ := s.m
  exact s_mat m hx hy h hR ex ey fun H' M' f m' => k H' (s.fr m' f)
theorem q_sr (s : Sr a l H0 n R ps xs H) (hx : x < n) (hy : y < n) (h : Ev te σ H (.int v)) (hR : Ev tR σ H (.ref R)) (ex : Ev tx σ H (nV x)) (ey : Ev ty σ H (nV y)) (k : ∀ H', Sr a l H0 n R ps xs H' → tz D σ H') :
    tSeq (tAsg te (gSub (tOp (rIxL K) tR tx) ty rSetL)) tz D σ H := s_sr (D := { D with nx := tz D }) s hx hy h hR ex ey k
theorem go_ifE {c : TT} {tu tw : TE} (h : c σ H fun b H1 => if b = true then tu σ H1 Q else tw σ H1 Q) : tIf c tu tw σ H Q := h
/-- if c: x = a new thing, told by a word that holds either way -/
theorem q_wordIf {PS : Addr → Hp → Prop} {t : TT} {b : Bool} {i : Nat} {pr : Addr} (hp : PS pr H) (hσ : σ.set i (some (.ref pr)) = σ) (mono : ∀ H1, Ex H H1 → PS pr H1) (ht : EvT t σ H b) (he : ∀ H1, Ex H H1 → ∀ Q : VK, (∀ p H2, PS p H2 → Q (.ref p) H2) → te σ H1 Q) (k : ∀ p H1, PS p H1 → tz D (σ.set i (some (.ref p))) H1) :
    tSeq (tIfS t (tAsg te (gName i)) tNext) tz D σ H := q_when ht (fun hb H1 e1 => he H1 e1 _ fun p H2 w => k p H2 w) (fun hb H1 e1 => by
  have z := k pr H1 (mono H1 e1)
  rw [hσ] at z
  exact z)
end
abbrev sLrows : Stmt := topS 25
abbrev NLrows : List Str := ["_law_deck_here", "_law_size", "_law_menu_here", "_law_way", "_law_rows_here", "_law_one_here", "_law_other", "_law_y", "_law_x", "_law_pair", "_law_thing"]
theorem scLrows : FnScope NLrows ["_law_deck_here", "_law_size", "_law_menu_here"] (defScope sLrows) := ⟨rfl, rfl, rfl, by decide +kernel, rfl, by decide +kernel, by decide +kernel⟩
/-- the menu at m: numbers, two at least -/
def MenuAt (a l : Addr) (H : Hp) (m : Addr) : Prop := ∃ (n0 n1 : Int) (ns : List Int), H m = some (.lst ((n0 :: n1 :: ns).map V.int)) ∧ (m ≠ a ∧ m ≠ l) ∧ ns.length ≤ 4
theorem MenuAt.keep {a l m : Addr} {H H' : Hp} (h : MenuAt a l H m) (k : Keep a l H H') : MenuAt a l H' m :=
  let ⟨n0, n1, ns, h1, h2, h3⟩ := h
  ⟨n0, n1, ns, k.at h2.1 h2.2 h1, h2, h3⟩
/-- a builder's answer: a new matrix, the deck kept -/
def Built (a l : Addr) (n : Nat) (H : Hp) (Q : VK) : Prop := ∀ (R : Addr) (ps : List Addr) (M : Nat → Nat → Int) H', MatN H H' n R ps M → Deck a l H' → Keep a l H H' → Q (.ref R) H'
theorem Built.back {a l : Addr} {n : Nat} {H H' : Hp} {Q : VK} (h : Built a l n H Q) (d : Deck a l H') (k : Keep a l H H') : Built a l n H' Q := fun R ps M H2 m d2 k2 => h R ps M H2 (m.back fun p hp => (k.free d hp).1) d2 (k.trans k2)
section
variable {P : Program} {w : World} {K : PySem.W.Frag} {mg : Str → Option Value} {base : Heap}
/-- _law_rows, _law_core, _law_small, _law_made, _law_any: (deck, size, menu) -/
def spBuild : Sp := fun vs H Q _ => ∃ (a l m : Addr) (n : Nat), vs = [.ref a, nV n, .ref m] ∧ n ≤ 10 ∧ Deck a l H ∧ MenuAt a l H m ∧ Built a l n H Q
theorem lot_int {n k : Nat} {ys : List V} (h : ys.length = n) (m : ∀ y ∈ ys, y ∈ lotV (List.range n)) (hk : k < n) : ∃ i : Nat, i < n ∧ ys[k]? = some (nV i) := by
  have e : ys[k]? = some ys[k] := List.getElem?_eq_getElem (by omega)
  obtain ⟨i, hi, ei⟩ := List.mem_map.mp (m _ (List.mem_of_getElem? e))
  exact ⟨i, List.mem_range.mp hi, by rw [e, ← ei]⟩
theorem ok_Lrows {f : Addr} {fd : FuncData} (F : Fun K "_law_rows" "_law_rows" sLrows f fd) (T : Txt mg) (c_Ldraw : Cal P w K mg base 1 "_law_draw" ["_law_deck_here", "_law_many"] spDraw) (c_Lone : Cal P w K mg base 2 "_law_one" ["_law_deck_here", "_law_items"] spOne) (c_Lmixed : Cal P w K mg base 2 "_law_mixed" ["_law_deck_here", "_law_items"] spMixed) :
    FnOk P w K mg base CX0 3 f fd ["_law_deck_here", "_law_size", "_law_menu_here"] spBuild := by
  have nd := scLrows.nd
  refine F.ok scLrows (fun vs H Q E h => ?_) (fun cdv A outer s H vs Q E hr h => ?_)
  · obtain ⟨_, _, _, _, rfl, _⟩ := h
    rfl
  · obtain ⟨a, l, m, n, rfl, hn, hd, ⟨n0, n1, ns, hm, nm, lm⟩, q⟩ := h
    refine ⟨_, (pss_cons (ps_par (i := 3) (j := 4) rfl nd rfl rfl (by decide) rfl rfl (pa_cons (pe_cal c_Ldraw hr (by decide) rfl (pa_cons (pv 0) (pa_cons pe_int pa_nil))) (pa_cons (pe_lc (own := [("_law_thing", 10)]) rfl nd (pi_range1 rfl T.range (pa_cons (pv 1) pa_nil)) (blkOk_by (own := [("_law_thing", 10)]) (N := NLrows) (sc := defScope sLrows) (by decide +kernel)) (fun _ _ _ _ _ => (pg_name (i := 10) nd rfl (Or.inl rfl))) (fun _ _ _ _ _ => pts_nil) (fun _ _ _ _ _ => (pe_op op_rep (pe_lst (pa_cons pe_int pa_nil)) (pv 1)))) pa_nil)) rfl)
        (pss_cons (ps_par (i := 5) (j := 6) rfl nd rfl rfl (by decide) rfl rfl (pa_cons (pe_cal c_Lmixed hr (by decide) rfl (pa_cons (pv 0) (pa_cons (pe_listRg rfl rfl T.list (prg_1 rfl T.range (pv 1))) pa_nil))) (pa_cons (pe_cal c_Lmixed hr (by decide) rfl (pa_cons (pv 0) (pa_cons (pe_listRg rfl rfl T.list (prg_1 rfl T.range (pv 1))) pa_nil))) pa_nil)) rfl)
        (pss_cons (ps_for PassesOwn.never rfl (pi_range1 rfl T.range (pa_cons (pv 1) pa_nil)) (pg_name (i := 7) nd rfl (Or.inl rfl)) (pss_one (ps_for PassesOwn.never rfl (pi_range1 rfl T.range (pa_cons (pv 7) pa_nil)) (pg_name (i := 8) nd rfl (Or.inl rfl)) (pss_cons (ps_set (i := 9) nd rfl (Or.inl rfl) (pe_lst (pa_cons (pe_cal c_Lone hr (by decide) rfl (pa_cons (pv 0) (pa_cons (pv 2) pa_nil))) (pa_cons (pe_cal c_Lone hr (by decide) rfl (pa_cons (pv 0) (pa_cons (pv 2) pa_nil))) pa_nil))))
        (pss_cons (ps_if (pt_cmpR op_eq (pv 3) pe_int (nomark _)) (pss_one (ps_set (i := 9) nd rfl (Or.inl rfl) (pe_lst (pa_cons (pe_ix (ix_listK (K := K) rfl) (pv 9) pe_int (fun _ _ => rfl)) (pa_cons (pe_ix (ix_listK (K := K) rfl) (pv 9) pe_int (fun _ _ => rfl)) pa_nil))))) pss_nil)
        (pss_cons (ps_if (pt_cmpR op_eq (pv 3) pe_int (nomark _)) (pss_one (ps_set (i := 9) nd rfl (Or.inl rfl) (pe_ifExp (pt_cmpR op_eq (pe_ix (ix_listK (K := K) rfl) (pv 9) pe_int (fun _ _ => rfl)) (pe_ix (ix_listK (K := K) rfl) (pv 2) pe_int (fun _ _ => rfl)) (nomark _)) (pe_lst (pa_cons (pe_ix (ix_listK (K := K) rfl) (pv 2) pe_int (fun _ _ => rfl)) (pa_cons (pe_ix (ix_listK (K := K) rfl) (pv 2) pe_int (fun _ _ => rfl)) pa_nil))) (pe_lst (pa_cons (pe_ix (ix_listK (K := K) rfl) (pv 2) pe_int (fun _ _ => rfl)) (pa_cons (pe_ix (ix_listK (K := K) rfl) (pv 2) pe_int (fun _ _ => rfl)) pa_nil)))))) pss_nil)
        (pss_cons (ps_if (pt_cmpR op_eq (pv 3) pe_int (nomark _)) (pss_one (ps_set (i := 9) nd rfl (Or.inl rfl) (pe_lst (pa_cons (pe_callTy call_int1 rfl T.int bb_int (pa_cons (pe_and (pe_cmpR op_lt (pe_ix (ix_listK (K := K) rfl) (pv 5) (pv 8) (fun _ _ => rfl)) (pe_ix (ix_listK (K := K) rfl) (pv 5) (pv 7) (fun _ _ => rfl)) (nomark _)) (pe_one (pe_cmpR op_lt (pe_ix (ix_listK (K := K) rfl) (pv 6) (pv 8) (fun _ _ => rfl)) (pe_ix (ix_listK (K := K) rfl) (pv 6) (pv 7) (fun _ _ => rfl)) (nomark _)))) pa_nil)) (pa_cons (pe_callTy call_int1 rfl T.int bb_int (pa_cons (pe_and (pe_cmpR op_lt (pe_ix (ix_listK (K := K) rfl) (pv 5) (pv 7) (fun _ _ => rfl)) (pe_ix (ix_listK (K := K) rfl) (pv 5) (pv 8) (fun _ _ => rfl)) (nomark _)) (pe_one (pe_cmpR op_lt (pe_ix (ix_listK (K := K) rfl) (pv 6) (pv 7) (fun _ _ => rfl)) (pe_ix (ix_listK (K := K) rfl) (pv 6) (pv 8) (fun _ _ => rfl)) (nomark _)))) pa_nil)) pa_nil))))) pss_nil)
        (pss_cons (ps_asg (pe_ix (ix_listK (K := K) rfl) (pv 9) pe_int (fun _ _ => rfl)) (pg_sub (pe_ix (ix_listK (K := K) rfl) (pv 4) (pv 8) (fun _ _ => rfl)) (pv 7) set_list))
        (pss_one (ps_asg (pe_ix (ix_listK (K := K) rfl) (pv 9) pe_int (fun _ _ => rfl)) (pg_sub (pe_ix (ix_listK (K := K) rfl) (pv 4) (pv 7) (fun _ _ => rfl)) (pv 8) set_list)))))))))))
        (pss_one (ps_ret (pv 4)))))), ?_⟩
    -- way, rows = ..
    refine go_seq (go_par (go_cons (go_call (ea_go (ea_cons (ev_var rfl) (ea_cons ev_c ea_nil)) fun H1 e1 => ⟨a, l, 5, rfl, by decide, by decide, hd.mono e1, fun way H2 hw d2 k2 => ?_⟩))))
    have k2 := (Keep.of e1).trans k2
    refine go_cons (ns_go (en_lcR (kd := .lst) (n := n) (fun i => rowV n ((fun _ _ => 0) i)) (ea_cons (ev_var rfl) ea_nil) (by omega) (fun _ => rfl) fun i H3 e3 hi => el_is (el_rep (xs := [.int 0]) (k := n) (el_lst (ea_cons ev_c ea_nil) (by show 1 ≤ 100000; decide)) (ev_var rfl) (by omega) (by decide)) (rep_row n 0)) fun R ps H3 nw => go_nil ⟨_, _, rfl, ?_⟩)
    have w2 : Wk a l H H2 := (Wk.start hd).call d2 k2
    have s3 : Sr a l H n R ps [(m, .lst ((n0 :: n1 :: ns).map V.int))] H3 := Sr.old ⟨w2.ex nw.ex, ⟨_, nw.matN.back fun p hp => w2.free hp⟩, fun q hq => absurd hq List.not_mem_nil⟩ hm nm
    -- one, other = mixed, mixed
    refine go_seq (go_par (go_cons (go_call (go_cons (ev_go (ev_var rfl) fun H4 e4 => go_cons (el_go (el_rg (ev_var rfl) (by omega)) fun z H5 nz e5 hz => go_nil ?_))))))
    have s5 := s3.ex (e4.trans e5)
    have zz := (s3.ex e4).w.d.fresh nz
    refine ⟨a, l, z, _, rfl, s5.w.d, .inl hz, zz.1, zz.2, by rw [lotV_len, List.length_range]; omega, fun o1 ys1 H6 no1 ho1 ly1 my1 d6 k6 => ?_⟩
    have s6 := (s5.call d6 k6)
    have fo1 := s5.w.d.fresh no1
    have s6 : Sr a l H n R ps ((o1, .lst ys1) :: [(m, .lst ((n0 :: n1 :: ns).map V.int))]) H6 := by
      have t := (s5.add (p := o1) (o := .lst ys1) (H' := upd H5 o1 (.lst ys1)) no1 (Ex.new no1) upd_same)
      refine ⟨s6.w, s6.m, fun q hq => ?_⟩
      rcases List.mem_cons.mp hq with rfl | hq
      · exact ⟨ho1, (t.x _ List.mem_cons_self).2⟩
      · exact s6.x q hq
    rw [lotV_len, List.length_range] at ly1
    refine go_cons (go_call (go_cons (ev_go (ev_var rfl) fun H7 e7 => go_cons (el_go (el_rg (ev_var rfl) (by omega)) fun z H8 nz e8 hz => go_nil ?_))))
    have s8 := s6.ex (e7.trans e8)
    have zz := (s6.ex e7).w.d.fresh nz
    refine ⟨a, l, z, _, rfl, s8.w.d, .inl hz, zz.1, zz.2, by rw [lotV_len, List.length_range]; omega, fun o2 ys2 H9 no2 ho2 ly2 my2 d9 k9 => go_nil ⟨_, _, rfl, ?_⟩⟩
    have s9 := (s8.call d9 k9)
    have s9 : Sr a l H n R ps ((o2, .lst ys2) :: (o1, .lst ys1) :: [(m, .lst ((n0 :: n1 :: ns).map V.int))]) H9 := by
      have t := (s8.add (p := o2) (o := .lst ys2) (H' := upd H8 o2 (.lst ys2)) no2 (Ex.new no2) upd_same)
      refine ⟨s9.w, s9.m, fun q hq => ?_⟩
      rcases List.mem_cons.mp hq with rfl | hq
      · exact ⟨ho2, (t.x _ List.mem_cons_self).2⟩
      · exact s9.x q hq
    rw [lotV_len, List.length_range] at ly2
    -- the loops
    refine q_forR1 (ea_cons (ev_var rfl) ea_nil) ⟨by omega, by omega⟩ (fun y σ H' => ∃ v7 v8 v9, σ = [some (.ref a), some (nV n), some (.ref m), some (nV way), some (.ref R), some (.ref o1), some (.ref o2), v7, v8, v9, none] ∧ Sr a l H n R ps ((o2, .lst ys2) :: (o1, .lst ys1) :: [(m, .lst ((n0 :: n1 :: ns).map V.int))]) H')
      (fun HA eA => ⟨none, none, none, rfl, s9.ex eA⟩) (fun y σ HA hy w => ?_) (fun σ HA w => ?_)
    · obtain ⟨v7, v8, v9, rfl, sA⟩ := w
      refine s_forR1 (n := ((y : Nat) : Int)) (ea_cons (ev_var rfl) ea_nil) ⟨by omega, by omega⟩ (fun x σ H' => ∃ v8 v9, σ = [some (.ref a), some (nV n), some (.ref m), some (nV way), some (.ref R), some (.ref o1), some (.ref o2), some (nV y), v8, v9, none] ∧ Sr a l H n R ps ((o2, .lst ys2) :: (o1, .lst ys1) :: [(m, .lst ((n0 :: n1 :: ns).map V.int))]) H')
        (fun HB eB => ⟨v8, v9, rfl, sA.ex eB⟩) (fun x σ HB hx w => ?_) (fun σ HB w => ?_)
      · obtain ⟨v8, v9, rfl, sB⟩ := w
        have hyn : y < n := by omega
        have hxn : x < n := by omega
        obtain ⟨i1x, _, h1x⟩ := lot_int ly1 my1 hxn
        obtain ⟨i1y, _, h1y⟩ := lot_int ly1 my1 hyn
        obtain ⟨i2x, _, h2x⟩ := lot_int ly2 my2 hxn
        obtain ⟨i2y, _, h2y⟩ := lot_int ly2 my2 hyn
        have mm : (m, HO.lst ((n0 :: n1 :: ns).map V.int)) ∈ ((o2, HO.lst ys2) :: (o1, HO.lst ys1) :: [(m, HO.lst ((n0 :: n1 :: ns).map V.int))]) := by simp
        have lz : (n0 :: n1 :: ns).length < 1000 := by
          show ns.length + 1 + 1 < 1000
          omega
        -- pair = [one, one]
        refine go_seq (go_set (go_lst (go_cons (sB.one mm (Nat.succ_pos _) lz (ea_cons (ev_var rfl) (ea_cons (ev_var rfl) ea_nil)) fun u1 HC sC => go_cons (sC.one mm (Nat.succ_pos _) lz (ea_cons (ev_var rfl) (ea_cons (ev_var rfl) ea_nil)) fun u2 HD sD => go_nil ⟨by show 2 ≤ sizeLine; decide, fun pr npr => ?_⟩)))))
        have PS : ∃ w1 w2 : Int, Sr a l H n R ps ((pr, .lst [.int w1, .int w2]) :: (o2, .lst ys2) :: (o1, .lst ys1) :: [(m, .lst ((n0 :: n1 :: ns).map V.int))]) (upd HD pr (.lst [.int u1, .int u2])) := ⟨u1, u2, sD.add npr (Ex.new npr) upd_same⟩
        generalize upd HD pr (.lst [.int u1, .int u2]) = HE at PS
        have mono : ∀ (p : Addr) H1 H2, Ex H1 H2 → (∃ w1 w2 : Int, Sr a l H n R ps ((p, .lst [.int w1, .int w2]) :: (o2, .lst ys2) :: (o1, .lst ys1) :: [(m, .lst ((n0 :: n1 :: ns).map V.int))]) H1) → ∃ w1 w2 : Int, Sr a l H n R ps ((p, .lst [.int w1, .int w2]) :: (o2, .lst ys2) :: (o1, .lst ys1) :: [(m, .lst ((n0 :: n1 :: ns).map V.int))]) H2 := fun p H1 H2 e ⟨w1, w2, s⟩ => ⟨w1, w2, s.ex e⟩
        -- if way == 1
        refine q_wordIf (pr := pr) (PS := fun p H1 => ∃ w1 w2 : Int, Sr a l H n R ps ((p, .lst [.int w1, .int w2]) :: (o2, .lst ys2) :: (o1, .lst ys1) :: [(m, .lst ((n0 :: n1 :: ns).map V.int))]) H1) PS rfl (fun H1 e => mono pr _ H1 e PS) (et_eqI (i := (way : Int)) (j := 1) (ev_var rfl) ev_c) (fun H1 e Q q => ?_) fun pr1 HF PF => ?_
        · obtain ⟨w1, w2, s⟩ := mono pr _ H1 e PS
          have hp := s.get List.mem_cons_self
          exact el_go (el_lst (ea_cons (ev_ixL (i := 0) (v := .int w1) (ev_var rfl) ev_c hp rfl) (ea_cons (ev_ixL (i := 0) (v := .int w1) (ev_var rfl) ev_c hp rfl) ea_nil)) (by show 2 ≤ 100000; decide)) fun p H2 np e2 hp2 => q p H2 ⟨w1, w1, (s.add np e2 hp2).drop2⟩
        clear PS
        -- if way == 2
        refine q_wordIf (pr := pr1) (PS := fun p H1 => ∃ w1 w2 : Int, Sr a l H n R ps ((p, .lst [.int w1, .int w2]) :: (o2, .lst ys2) :: (o1, .lst ys1) :: [(m, .lst ((n0 :: n1 :: ns).map V.int))]) H1) PF rfl (fun H1 e => mono pr1 _ H1 e PF) (et_eqI (i := (way : Int)) (j := 2) (ev_var rfl) ev_c) (fun H1 e Q q => ?_) fun pr2 HG PG => ?_
        · obtain ⟨w1, w2, s⟩ := mono pr1 _ H1 e PF
          have hp := s.get List.mem_cons_self
          have hm := s.get (p := m) (o := HO.lst ((n0 :: n1 :: ns).map V.int)) (by simp)
          refine go_ifE (et_go (et_eqI (i := w1) (j := n0) (ev_ixL (i := 0) (ev_var rfl) ev_c hp rfl) (ev_ixL (i := 0) (ev_var rfl) ev_c hm rfl)) fun H2 e2 => ?_)
          have hm := e2 _ _ hm
          have s := s.ex e2
          split
          · exact el_go (el_lst (ea_cons (ev_ixL (i := 0) (v := .int n0) (ev_var rfl) ev_c hm rfl) (ea_cons (ev_ixL (i := 1) (v := .int n1) (ev_var rfl) ev_c hm rfl) ea_nil)) (by show 2 ≤ 100000; decide)) fun p H2 np e2 hp2 => q p H2 ⟨n0, n1, (s.add np e2 hp2).drop2⟩
          · exact el_go (el_lst (ea_cons (ev_ixL (i := 1) (v := .int n1) (ev_var rfl) ev_c hm rfl) (ea_cons (ev_ixL (i := 0) (v := .int n0) (ev_var rfl) ev_c hm rfl) ea_nil)) (by show 2 ≤ 100000; decide)) fun p H2 np e2 hp2 => q p H2 ⟨n1, n0, (s.add np e2 hp2).drop2⟩
        clear PF
        -- if way == 3
        refine q_wordIf (pr := pr2) (PS := fun p H1 => ∃ w1 w2 : Int, Sr a l H n R ps ((p, .lst [.int w1, .int w2]) :: (o2, .lst ys2) :: (o1, .lst ys1) :: [(m, .lst ((n0 :: n1 :: ns).map V.int))]) H1) PG rfl (fun H1 e => mono pr2 _ H1 e PG) (et_eqI (i := (way : Int)) (j := 3) (ev_var rfl) ev_c) (fun H1 e Q q => ?_) fun pr3 HI PI => ?_
        · obtain ⟨w1, w2, s⟩ := mono pr2 _ H1 e PG
          have h1 := s.get (p := o1) (o := HO.lst ys1) (by simp)
          have h2 := s.get (p := o2) (o := HO.lst ys2) (by simp)
          exact el_go (el_lst (ea_cons (ev_int1B (ev_andV (ev_I (i := (i1x : Int)) (j := (i1y : Int)) (ev_ixL (i := x) (ev_var rfl) (ev_var rfl) h1 h1x) (ev_ixL (i := y) (ev_var rfl) (ev_var rfl) h1 h1y)) fun _ => ev_I (i := (i2x : Int)) (j := (i2y : Int)) (ev_ixL (i := x) (ev_var rfl) (ev_var rfl) h2 h2x) (ev_ixL (i := y) (ev_var rfl) (ev_var rfl) h2 h2y)))
            (ea_cons (ev_int1B (ev_andV (ev_I (i := (i1y : Int)) (j := (i1x : Int)) (ev_ixL (i := y) (ev_var rfl) (ev_var rfl) h1 h1y) (ev_ixL (i := x) (ev_var rfl) (ev_var rfl) h1 h1x)) fun _ => ev_I (i := (i2y : Int)) (j := (i2x : Int)) (ev_ixL (i := y) (ev_var rfl) (ev_var rfl) h2 h2y) (ev_ixL (i := x) (ev_var rfl) (ev_var rfl) h2 h2x))) ea_nil)) (by show 2 ≤ 100000; decide)) fun p H2 np e2 hp2 => q p H2 ⟨_, _, (s.add np e2 hp2).drop2⟩
        clear PG
        -- rows[x][y], rows[y][x]
        obtain ⟨w1, w2, s⟩ := PI
        refine q_sr s hxn hyn (ev_ixL (i := 0) (v := .int w1) (ev_var rfl) ev_c (s.get List.mem_cons_self) rfl) (ev_var rfl) (ev_var rfl) (ev_var rfl) fun HJ sJ => ?_
        exact s_sr sJ hyn hxn (ev_ixL (i := 1) (v := .int w2) (ev_var rfl) ev_c (sJ.get List.mem_cons_self) rfl) (ev_var rfl) (ev_var rfl) (ev_var rfl) fun HK sK => ⟨_, _, rfl, sK.drop⟩
      · obtain ⟨v8, v9, rfl, sB⟩ := w
        exact ⟨_, v8, v9, rfl, sB⟩
    · obtain ⟨v7, v8, v9, rfl, sA⟩ := w
      refine s_ret (ev_var rfl) fun HB eB => ?_
      obtain ⟨M, mB⟩ := (sA.ex eB).m
      exact q R ps M HB mB (sA.ex eB).w.d (sA.ex eB).w.k
end
end K25
/-! K25D11: _law_core, _law_named, _law_small. -/
namespace K25
open PySem PySem.Spec PyProof.Rows L2 Evl
theorem Fr.ex {ps : List Addr} {H0 H H' : Hp} (f : Fr ps H H') (n : ∀ p ∈ ps, H0 p = none) (e : Ex H0 H) : Ex H0 H' := fun b o h => f b (fun q => by
  have := n b q
  rw [h] at this
  cases this) o (e b o h)
abbrev sLcore : Stmt := topS 26
abbrev NLcore : List Str := ["_law_deck_here", "_law_size", "_law_menu_here", "_law_turn", "_law_rows_here", "_law_x", "_law_thing"]
theorem scLcore : FnScope NLcore ["_law_deck_here", "_law_size", "_law_menu_here"] (defScope sLcore) := ⟨rfl, rfl, rfl, by decide +kernel, rfl, by decide +kernel, by decide +kernel⟩
abbrev sLnamed : Stmt := topS 27
abbrev NLnamed : List Str := ["_law_rows_here", "_law_naming", "_law_found", "_law_x", "_law_y", "_law_row"]
theorem scLnamed : FnScope NLnamed ["_law_rows_here", "_law_naming"] (defScope sLnamed) := ⟨rfl, rfl, rfl, by decide +kernel, rfl, by decide +kernel, by decide +kernel⟩
abbrev sLsmall : Stmt := topS 29
abbrev NLsmall : List Str := ["_law_deck_here", "_law_size", "_law_menu_here", "_law_way", "_law_rows_here", "_law_looks", "_law_y", "_law_x"]
theorem scLsmall : FnScope NLsmall ["_law_deck_here", "_law_size", "_law_menu_here"] (defScope sLsmall) := ⟨rfl, rfl, rfl, by decide +kernel, rfl, by decide +kernel, by decide +kernel⟩
section
variable {P : Program} {w : World} {K : PySem.W.Frag} {mg : Str → Option Value} {base : Heap}
/-- _law_named(rows, naming) -/
def spNamed : Sp := fun vs H Q _ => ∃ (R0 g : Addr) (n : Nat) (M : Nat → Nat → Int) (ys : List V), vs = [.ref R0, .ref g] ∧ Mat .lst n M H R0 ∧ H g = some (.lst ys) ∧ ys.length = n ∧ (∀ y ∈ ys, y ∈ lotV (List.range n)) ∧ n ≤ 50 ∧
  ∀ (R : Addr) (ps : List Addr) (M' : Nat → Nat → Int) H', MatN H H' n R ps M' → Ex H H' → Q (.ref R) H'
theorem ok_Lnamed {f : Addr} {fd : FuncData} (F : Fun K "_law_named" "_law_named" sLnamed f fd) (T : Txt mg) : FnOk P w K mg base CX0 1 f fd ["_law_rows_here", "_law_naming"] spNamed := by
  have nd := scLnamed.nd
  refine F.ok scLnamed (fun vs H Q E h => ?_) (fun cdv A outer s H vs Q E hr h => ?_)
  · obtain ⟨_, _, _, _, _, rfl, _⟩ := h
    rfl
  · obtain ⟨R0, g, n, M, ys, rfl, ⟨ps0, lp0, hR0, hrow0⟩, hg, ly, my, hn, q⟩ := h
    have hM : Mat .lst n M H R0 := ⟨ps0, lp0, hR0, hrow0⟩
    refine ⟨_, (pss_cons (ps_setLc (i := 2) (own := [("_law_row", 5)]) rfl nd rfl rfl (sw_true rfl rfl rfl (by decide +kernel)) (pi_listK (K := K) rfl (pv 0)) (blkOk_by (own := [("_law_row", 5)]) (N := NLnamed) (sc := defScope sLnamed) (by decide +kernel)) (fun _ _ _ _ _ => (pg_name (i := 5) nd rfl (Or.inl rfl))) (fun _ _ _ _ _ => pts_nil) (fun _ _ _ _ _ => (pe_callTy (call_listK (K := K) rfl) rfl T.list bb_list (pa_cons (pv 5) pa_nil))))
        (pss_cons (ps_for PassesOwn.never rfl (pi_range1 rfl T.range (pa_cons (pe_callB (call_lenK (K := K) rfl) rfl T.len PySem.boot_len (pa_cons (pv 0) pa_nil)) pa_nil)) (pg_name (i := 3) nd rfl (Or.inl rfl)) (pss_one (ps_for PassesOwn.never rfl (pi_range1 rfl T.range (pa_cons (pe_callB (call_lenK (K := K) rfl) rfl T.len PySem.boot_len (pa_cons (pv 0) pa_nil)) pa_nil)) (pg_name (i := 4) nd rfl (Or.inl rfl)) (pss_one (ps_asg (pe_ix (ix_listK (K := K) rfl) (pe_ix (ix_listK (K := K) rfl) (pv 0) (pv 3) (fun _ _ => rfl)) (pv 4) (fun _ _ => rfl)) (pg_sub (pe_ix (ix_listK (K := K) rfl) (pv 2) (pe_ix (ix_listK (K := K) rfl) (pv 1) (pv 3) (fun _ _ => rfl)) (fun _ _ => rfl)) (pe_ix (ix_listK (K := K) rfl) (pv 1) (pv 4) (fun _ _ => rfl)) set_list))))))
        (pss_one (ps_ret (pv 2))))), ?_⟩
    -- found = [list(row) ..]
    refine go_seq (go_set (ns_go (en_lcL (kd := .lst) (fun i => rowV n (M i)) (ev_var rfl) (sq_of hR0) (by rw [List.length_map]; omega) (fun _ => rfl) fun i x H1 e1 hi => ?_) fun R ps H1 nw => ?_))
    · rw [List.getElem?_map] at hi
      cases hp : ps0[i]? with
      | none => rw [hp] at hi; cases hi
      | some p =>
        rw [hp] at hi
        obtain rfl : V.ref p = x := Option.some.inj hi
        exact el_listOf (ev_var rfl) (.inl (sq_of (e1 _ _ (hrow0 i p hp))))
    · rw [List.length_map, lp0] at nw
      have ln : ∀ {H1 : Hp} {σ : L2.St}, Ex H H1 → σ[0]? = some (some (.ref R0)) → EvA (tCons (tCB (rLen2 K) (tCons (tVar 0) tNil)) tNil) σ H1 [nV n] := fun e h => ea_cons (ev_is (ev_lenL (ev_var h) (e _ _ hR0)) (by rw [List.length_map, lp0])) ea_nil
      refine q_forR1 (ln nw.ex rfl) ⟨by omega, by omega⟩ (fun x σ H' => ∃ v3 v4, σ = [some (.ref R0), some (.ref g), some (.ref R), v3, v4, none] ∧ Ex H H' ∧ ∃ M', MatN H H' n R ps M')
        (fun H2 e2 => ⟨none, none, rfl, nw.ex.trans e2, M, nw.matN.mono e2⟩) (fun x σ H2 hx w => ?_) (fun σ H2 w => ?_)
      · obtain ⟨v3, v4, rfl, e2, M2, m2⟩ := w
        have hxn : x < n := by omega
        refine s_forR1 (n := (n : Int)) (ln e2 rfl) ⟨by omega, by omega⟩ (fun y σ H' => ∃ v4, σ = [some (.ref R0), some (.ref g), some (.ref R), some (nV x), v4, none] ∧ Ex H H' ∧ ∃ M', MatN H H' n R ps M')
          (fun H3 e3 => ⟨v4, rfl, e2.trans e3, M2, m2.mono e3⟩) (fun y σ H3 hy w => ?_) (fun σ H3 w => ?_)
        · obtain ⟨v4, rfl, e3, M3, m3⟩ := w
          have hyn : y < n := by omega
          obtain ⟨ix, lx, hix⟩ := lot_int ly my hxn
          obtain ⟨iy, ly', hiy⟩ := lot_int ly my hyn
          exact s_mat m3 lx ly' (ev_ix2L (hM.mono e3) hxn hyn (ev_var rfl) (ev_var rfl) (ev_var rfl)) (ev_var rfl) (ev_ixL (i := x) (ev_var rfl) (ev_var rfl) (e3 _ _ hg) hix) (ev_ixL (i := y) (ev_var rfl) (ev_var rfl) (e3 _ _ hg) hiy) fun H4 M4 f4 m4 => ⟨_, rfl, f4.ex m3.free e3, M4, m4⟩
        · obtain ⟨v4, rfl, e3, w⟩ := w
          exact ⟨_, v4, rfl, e3, w⟩
      · obtain ⟨v3, v4, rfl, e2, M2, m2⟩ := w
        exact s_ret (ev_var rfl) fun H3 e3 => q R ps M2 H3 (m2.mono e3) (e2.trans e3)
/-- _law_core(deck, size, menu) -/
theorem ok_Lcore {f : Addr} {fd : FuncData} (F : Fun K "_law_core" "_law_core" sLcore f fd) (T : Txt mg) (c_Lrows : Cal P w K mg base 3 "_law_rows" ["_law_deck_here", "_law_size", "_law_menu_here"] spBuild) (c_Lisfirm : Cal P w K mg base 2 "_law_is_firm" ["_law_rows_here", "_law_lot"] spLisfirm) :
    FnOk P w K mg base CX0 4 f fd ["_law_deck_here", "_law_size", "_law_menu_here"] spBuild := by
  have nd := scLcore.nd
  refine F.ok scLcore (fun vs H Q E h => ?_) (fun cdv A outer s H vs Q E hr h => ?_)
  · obtain ⟨_, _, _, _, rfl, _⟩ := h
    rfl
  · obtain ⟨a, l, m, n, rfl, hn, hd, hmenu, q⟩ := h
    refine ⟨_, (pss_cons (ps_for PassesOwn.never rfl (pi_range1 rfl T.range (pa_cons pe_int pa_nil)) (pg_name (i := 3) nd rfl (Or.inl rfl)) (pss_cons (ps_set (i := 4) nd rfl (Or.inl rfl) (pe_cal c_Lrows hr (by decide) rfl (pa_cons (pv 0) (pa_cons (pv 1) (pa_cons (pv 2) pa_nil)))))
        (pss_one (ps_if (pt_val (pe_cal c_Lisfirm hr (by decide) rfl (pa_cons (pv 4) (pa_cons (pe_tupRg rfl rfl T.tuple (prg_1 rfl T.range (pv 1))) pa_nil)))) (pss_one (ps_ret (pv 4))) pss_nil))))
        (pss_cons (ps_setLc (i := 4) (own := [("_law_thing", 6)]) rfl nd rfl rfl (sw_true rfl rfl rfl (by decide +kernel)) (pi_range1 rfl T.range (pa_cons (pv 1) pa_nil)) (blkOk_by (own := [("_law_thing", 6)]) (N := NLcore) (sc := defScope sLcore) (by decide +kernel)) (fun _ _ _ _ _ => (pg_name (i := 6) nd rfl (Or.inl rfl))) (fun _ _ _ _ _ => pts_nil) (fun _ _ _ _ _ => (pe_op op_rep (pe_lst (pa_cons (pe_ix (ix_listK (K := K) rfl) (pv 2) pe_int (fun _ _ => rfl)) pa_nil)) (pv 1))))
        (pss_cons (ps_for PassesOwn.never rfl (pi_range1 rfl T.range (pa_cons (pv 1) pa_nil)) (pg_name (i := 5) nd rfl (Or.inl rfl)) (pss_cons (ps_asg pe_int (pg_sub (pe_ix (ix_listK (K := K) rfl) (pv 4) (pv 5) (fun _ _ => rfl)) (pv 5) set_list))
        (pss_one (ps_if (pt_cmpR op_lt (pe_op op_add (pv 5) pe_int) (pv 1) (nomark _)) (pss_one (ps_asg (pe_ix (ix_listK (K := K) rfl) (pv 2) pe_int (fun _ _ => rfl)) (pg_sub (pe_ix (ix_listK (K := K) rfl) (pv 4) (pv 5) (fun _ _ => rfl)) (pe_op op_add (pv 5) pe_int) set_list))) pss_nil))))
        (pss_one (ps_ret (pv 4)))))), ?_⟩
    refine q_forR1 (n := 5) (ea_cons ev_c ea_nil) ⟨by omega, by omega⟩ (fun i σ H' => ∃ v3 v4, σ = [some (.ref a), some (nV n), some (.ref m), v3, v4, none, none] ∧ Wk a l H H')
      (fun H1 e1 => ⟨none, none, rfl, (Wk.start hd).ex e1⟩) (fun i σ H1 hi w => ?_) (fun σ H1 w => ?_)
    · obtain ⟨v3, v4, rfl, w1⟩ := w
      refine go_seq (go_set (go_call (ea_go (ea_cons (ev_var rfl) (ea_cons (ev_var rfl) (ea_cons (ev_var rfl) ea_nil))) fun H2 e2 => ⟨a, l, m, n, rfl, hn, (w1.ex e2).d, hmenu.keep (w1.ex e2).k, fun R ps M H3 m3 d3 k3 => ?_⟩)))
      have w3 := (w1.ex e2).call d3 k3
      have m3 : MatN H H3 n R ps M := m3.back fun p hp => (w1.ex e2).free hp
      refine go_if (go_B (go_call (go_cons (ev_go (ev_var rfl) fun H4 e4 => go_cons (eu_go (eu_rg (ev_var rfl) (by omega)) fun z H5 nz e5 hz => go_nil ?_)))))
      have e35 := e4.trans e5
      refine ⟨R, z, n, M, List.range n, rfl, (m3.mono e35).mat, hz, fun x hx => List.mem_range.mp hx, List.nodup_range, by rw [List.length_range]; omega, fun c H6 e6 hc => ⟨c, rfl, ?_⟩⟩
      have e36 := e35.trans e6
      cases c with
      | true => exact s_ret (ev_var rfl) fun H7 e7 => q R ps M H7 (m3.mono (e36.trans e7)) ((w3.ex (e36.trans e7)).d) ((w3.ex (e36.trans e7)).k)
      | false => exact ⟨_, _, rfl, w3.ex e36⟩
    · obtain ⟨v3, v4, rfl, w1⟩ := w
      obtain ⟨n0, n1, ns, hm, nm, lm⟩ := hmenu
      have hm1 := w1.at hm nm
      -- rows = [[menu[0]] * size ..]
      refine go_seq (go_set (ns_go (en_lcR (kd := .lst) (n := n) (fun i => rowV n ((fun _ _ => n0) i)) (ea_cons (ev_var rfl) ea_nil) (by omega) (fun _ => rfl) fun i H3 e3 hi => el_is (el_rep (xs := [.int n0]) (k := n) (el_lst (ea_cons (ev_ixL (i := 0) (ev_var rfl) ev_c (e3 _ _ hm1) rfl) ea_nil) (by show 1 ≤ 100000; decide)) (ev_var rfl) (by omega) (by show 1 ≤ 10; decide)) (rep_row n n0)) fun R ps H3 nw => ?_))
      have s3 : Sr a l H n R ps [(m, .lst ((n0 :: n1 :: ns).map V.int))] H3 := Sr.old ⟨w1.ex nw.ex, ⟨_, nw.matN.back fun p hp => w1.free hp⟩, fun q hq => absurd hq List.not_mem_nil⟩ hm nm
      refine q_forR1 (ea_cons (ev_var rfl) ea_nil) ⟨by omega, by omega⟩ (fun x σ H' => ∃ v5, σ = [some (.ref a), some (nV n), some (.ref m), v3, some (.ref R), v5, none] ∧ Sr a l H n R ps [(m, .lst ((n0 :: n1 :: ns).map V.int))] H')
        (fun H4 e4 => ⟨none, rfl, s3.ex e4⟩) (fun x σ H4 hx w => ?_) (fun σ H4 w => ?_)
      · obtain ⟨v5, rfl, s4⟩ := w
        have hxn : x < n := by omega
        refine q_sr s4 hxn hxn (v := 0) ev_c (ev_var rfl) (ev_var rfl) (ev_var rfl) fun H5 s5 => ?_
        refine s_when (et_I (i := ((x + 1 : Nat) : Int)) (j := (n : Int)) (ev_addN (i := x) (j := 1) (ev_var rfl) ev_c) (ev_var rfl)) (fun hb H6 e6 => ?_) (fun hb H6 e6 => ⟨_, rfl, s5.ex e6⟩)
        have lt : x + 1 < n := by
          have := of_decide_eq_true hb
          omega
        exact s_sr (s5.ex e6) hxn lt (v := n1) (ev_ixL (i := 1) (ev_var rfl) ev_c ((s5.ex e6).get List.mem_cons_self) rfl) (ev_var rfl) (ev_var rfl) (ev_addN (i := x) (j := 1) (ev_var rfl) ev_c) fun H7 s7 => ⟨_, rfl, s7⟩
      · obtain ⟨v5, rfl, s4⟩ := w
        refine s_ret (ev_var rfl) fun H5 e5 => ?_
        obtain ⟨M, m5⟩ := (s4.ex e5).m
        exact q R ps M H5 m5 (s4.ex e5).w.d (s4.ex e5).w.k
/-- _law_small(deck, size, menu) -/
theorem ok_Lsmall {f : Addr} {fd : FuncData} (F : Fun K "_law_small" "_law_small" sLsmall f fd) (T : Txt mg) (c_Ldraw : Cal P w K mg base 1 "_law_draw" ["_law_deck_here", "_law_many"] spDraw) (c_Lone : Cal P w K mg base 2 "_law_one" ["_law_deck_here", "_law_items"] spOne) (c_Lrows : Cal P w K mg base 3 "_law_rows" ["_law_deck_here", "_law_size", "_law_menu_here"] spBuild) (c_Lcore : Cal P w K mg base 4 "_law_core" ["_law_deck_here", "_law_size", "_law_menu_here"] spBuild) :
    FnOk P w K mg base CX0 5 f fd ["_law_deck_here", "_law_size", "_law_menu_here"] spBuild := by
  have nd := scLsmall.nd
  refine F.ok scLsmall (fun vs H Q E h => ?_) (fun cdv A outer s H vs Q E hr h => ?_)
  · obtain ⟨_, _, _, _, rfl, _⟩ := h
    rfl
  · obtain ⟨a, l, m, n, rfl, hn, hd, hmenu, q⟩ := h
    refine ⟨_, (pss_cons (ps_par (i := 3) (j := 4) rfl nd rfl rfl (by decide) rfl rfl (pa_cons (pe_cal c_Ldraw hr (by decide) rfl (pa_cons (pv 0) (pa_cons pe_int pa_nil))) (pa_cons (pe_cal c_Lrows hr (by decide) rfl (pa_cons (pv 0) (pa_cons (pv 1) (pa_cons (pv 2) pa_nil)))) pa_nil)) rfl)
        (pss_cons (ps_if (PW.pt (pw_and (pt_cmpR op_eq (pv 3) pe_int (nomark _)) (pw_and1 (pt_cmpR op_gt (pv 1) pe_int (nomark _))))) (pss_one (ps_ret (pe_cal c_Lcore hr (by decide) rfl (pa_cons (pv 0) (pa_cons (pv 1) (pa_cons (pv 2) pa_nil)))))) pss_nil)
        (pss_cons (ps_if (pt_cmpR op_lt (pv 3) pe_int (nomark _)) (pss_cons (ps_set (i := 5) nd rfl (Or.inl rfl) (pe_lst (pa_cons (pe_cal c_Lone hr (by decide) rfl (pa_cons (pv 0) (pa_cons (pv 2) pa_nil))) (pa_cons (pe_cal c_Lone hr (by decide) rfl (pa_cons (pv 0) (pa_cons (pv 2) pa_nil))) pa_nil))))
        (pss_one (ps_for PassesOwn.never rfl (pi_range1 rfl T.range (pa_cons (pv 1) pa_nil)) (pg_name (i := 6) nd rfl (Or.inl rfl)) (pss_one (ps_for PassesOwn.never rfl (pi_range1 rfl T.range (pa_cons (pv 6) pa_nil)) (pg_name (i := 7) nd rfl (Or.inl rfl)) (pss_cons (ps_asg (pe_ix (ix_listK (K := K) rfl) (pv 5) pe_int (fun _ _ => rfl)) (pg_sub (pe_ix (ix_listK (K := K) rfl) (pv 4) (pv 7) (fun _ _ => rfl)) (pv 6) set_list))
        (pss_one (ps_asg (pe_ix (ix_listK (K := K) rfl) (pv 5) (pv 3) (fun _ _ => rfl)) (pg_sub (pe_ix (ix_listK (K := K) rfl) (pv 4) (pv 6) (fun _ _ => rfl)) (pv 7) set_list))))))))) pss_nil)
        (pss_one (ps_ret (pv 4)))))), ?_⟩
    -- way, rows = draw, rows
    refine go_seq (go_par (go_cons (go_call (ea_go (ea_cons (ev_var rfl) (ea_cons ev_c ea_nil)) fun H1 e1 => ⟨a, l, 4, rfl, by decide, by decide, hd.mono e1, fun way H2 hw d2 k2 => ?_⟩))))
    have w2 : Wk a l H H2 := ((Wk.start hd).ex e1).call d2 k2
    refine go_cons (go_call (ea_go (ea_cons (ev_var rfl) (ea_cons (ev_var rfl) (ea_cons (ev_var rfl) ea_nil))) fun H3 e3 => ⟨a, l, m, n, rfl, hn, (w2.ex e3).d, hmenu.keep (w2.ex e3).k, fun R ps M H4 m4 d4 k4 => go_nil ⟨_, _, rfl, ?_⟩⟩))
    have w4 := (w2.ex e3).call d4 k4
    have m4 : MatN H H4 n R ps M := m4.back fun p hp => (w2.ex e3).free hp
    -- if way == 2 and size > 2
    refine q_when (et_and (et_eqI (i := (way : Int)) (j := 2) (ev_var rfl) ev_c) fun _ => et_I (i := (n : Int)) (j := 2) (ev_var rfl) ev_c) (fun hb H5 e5 => ?_) (fun hb H5 e5 => ?_)
    · exact go_ret (go_call (ea_go (ea_cons (ev_var rfl) (ea_cons (ev_var rfl) (ea_cons (ev_var rfl) ea_nil))) fun H6 e6 => ⟨a, l, m, n, rfl, hn, (w4.ex (e5.trans e6)).d, hmenu.keep (w4.ex (e5.trans e6)).k, Built.back q (w4.ex (e5.trans e6)).d (w4.ex (e5.trans e6)).k⟩))
    · obtain ⟨n0, n1, ns, hm, nm, lm⟩ := hmenu
      have s5 : Sr a l H n R ps [(m, .lst ((n0 :: n1 :: ns).map V.int))] H5 := Sr.old ⟨w4.ex e5, ⟨_, m4.mono e5⟩, fun q hq => absurd hq List.not_mem_nil⟩ hm nm
      have lz : (n0 :: n1 :: ns).length < 1000 := by
        show ns.length + 1 + 1 < 1000
        omega
      -- if way < 2
      refine q_when (et_I (i := (way : Int)) (j := 2) (ev_var rfl) ev_c) (fun hb H6 e6 => ?_) (fun hb H6 e6 => ?_)
      · have lw : way < 2 := by
          have := of_decide_eq_true hb
          omega
        refine go_seq (go_set (go_lst (go_cons ((s5.ex e6).one List.mem_cons_self (Nat.succ_pos _) lz (ea_cons (ev_var rfl) (ea_cons (ev_var rfl) ea_nil)) fun u1 H7 s7 => go_cons (s7.one List.mem_cons_self (Nat.succ_pos _) lz (ea_cons (ev_var rfl) (ea_cons (ev_var rfl) ea_nil)) fun u2 H8 s8 => go_nil ⟨by show 2 ≤ sizeLine; decide, fun pr npr => ?_⟩)))))
        have s9 := s8.add npr (Ex.new npr (o := .lst [.int u1, .int u2])) upd_same
        generalize upd H8 pr (.lst [.int u1, .int u2]) = H9 at s9
        have hat : ∃ u : Int, [V.int u1, .int u2][way]? = some (.int u) := by
          rcases Nat.lt_or_ge way 1 with h | h
          · obtain rfl : way = 0 := by omega
            exact ⟨u1, rfl⟩
          · obtain rfl : way = 1 := by omega
            exact ⟨u2, rfl⟩
        obtain ⟨u, hu⟩ := hat
        refine s_forR1 (n := (n : Int)) (ea_cons (ev_var rfl) ea_nil) ⟨by omega, by omega⟩ (fun y σ H' => ∃ v6 v7, σ = [some (.ref a), some (nV n), some (.ref m), some (nV way), some (.ref R), some (.ref pr), v6, v7] ∧ Sr a l H n R ps ((pr, .lst [.int u1, .int u2]) :: [(m, .lst ((n0 :: n1 :: ns).map V.int))]) H')
          (fun HA eA => ⟨none, none, rfl, s9.ex eA⟩) (fun y σ HA hy w => ?_) (fun σ HA w => ?_)
        · obtain ⟨v6, v7, rfl, sA⟩ := w
          refine s_forR1 (n := ((y : Nat) : Int)) (ea_cons (ev_var rfl) ea_nil) ⟨by omega, by omega⟩ (fun x σ H' => ∃ v7, σ = [some (.ref a), some (nV n), some (.ref m), some (nV way), some (.ref R), some (.ref pr), some (nV y), v7] ∧ Sr a l H n R ps ((pr, .lst [.int u1, .int u2]) :: [(m, .lst ((n0 :: n1 :: ns).map V.int))]) H')
            (fun HB eB => ⟨v7, rfl, sA.ex eB⟩) (fun x σ HB hx w => ?_) (fun σ HB w => ?_)
          · obtain ⟨v7, rfl, sB⟩ := w
            have hyn : y < n := by omega
            have hxn : x < n := by omega
            refine q_sr sB hxn hyn (ev_ixL (i := 0) (v := .int u1) (ev_var rfl) ev_c (sB.get List.mem_cons_self) rfl) (ev_var rfl) (ev_var rfl) (ev_var rfl) fun HJ sJ => ?_
            exact s_sr sJ hyn hxn (ev_ixL (i := way) (v := .int u) (ev_var rfl) (ev_var rfl) (sJ.get List.mem_cons_self) hu) (ev_var rfl) (ev_var rfl) (ev_var rfl) fun HK sK => ⟨_, rfl, sK⟩
          · obtain ⟨v7, rfl, sB⟩ := w
            exact ⟨_, v7, rfl, sB⟩
        · obtain ⟨v6, v7, rfl, sA⟩ := w
          refine s_ret (ev_var rfl) fun HB eB => ?_
          obtain ⟨M, mB⟩ := (sA.ex eB).m
          exact q R ps M HB mB (sA.ex eB).w.d (sA.ex eB).w.k
      · refine s_ret (ev_var rfl) fun HB eB => ?_
        obtain ⟨M, mB⟩ := (s5.ex (e6.trans eB)).m
        exact q R ps M HB mB (s5.ex (e6.trans eB)).w.d (s5.ex (e6.trans eB)).w.k
end
end K25
/-! K25D12: _law_set_in. -/
namespace K25
open PySem PySem.Spec PyProof.Rows L2 Evl
section
variable {K : PySem.W.Frag} {σ : L2.St} {H : Hp} {te tl : TE}
/-- [.. for u, w in a list of pairs] -/
theorem el_lcP {a : Addr} {xs : List V} {j1 j2 : Nat} {vs : List Nat} (v : Nat → V) (h : Ev tl σ H (.ref a)) (hx : SqL K H a xs) (hz : xs.length ≤ 40000)
    (he : ∀ (i : Nat) (x : V), xs[i]? = some x → ∃ q u w, x = .ref q ∧ H q = some (.tup [u, w]) ∧ wipe (((wipe σ vs).set j1 (some u)).set j2 (some w)) vs = wipe σ vs ∧ ∀ H1, Ex H H1 → Ev te (((wipe σ vs).set j1 (some u)).set j2 (some w)) H1 (v i)) :
    EvL (tLc (iList K tl) (gTup K 2 (gCons (gName j1) (gCons (gName j2) gNil))) tYes te vs) σ H ((List.range xs.length).map v) := fun H0 e Q q => h H0 e _ fun H1 e1 => ⟨a, rfl, ⟨xs, ex_l (e.trans e1) hx⟩, fun Dl hD =>
  lc_list (xs := xs) (Cw H1 (fun _ => true) v Dl) ⟨hD, Ex.new hD, upd_same⟩ (fun i H' _ p => ex_l ((e.trans e1).trans p.2.1) hx) (fun i x H' hi p => by
    obtain ⟨q, u, w, rfl, hq, hw, hv⟩ := he i x hi
    exact ⟨q, [u, w], rfl, st_of (((e.trans e1).trans p.2.1) _ _ hq), rfl, _, _, rfl, _, _, rfl, rfl, hw, cw_turn p (by have := (List.getElem?_eq_some_iff.mp hi).1; omega) et_yes fun _ => hv H1 (e.trans e1)⟩)
    (fun H' p => by
      have z := p.2.2
      rw [given_all] at z
      exact q Dl H' (fresh_back e1 p.1) (e1.trans p.2.1) z)⟩
end
/-- pairs, each a tuple at its place -/
def Prs (H : Hp) (ps : List Addr) (Ls : List (Nat × Nat)) : Prop := ps.length = Ls.length ∧ ∀ (i : Nat) (p : Addr) (L : Nat × Nat), ps[i]? = some p → Ls[i]? = some L → H p = some (.tup [nV L.1, nV L.2])
theorem Prs.mono {H H' : Hp} {ps : List Addr} {Ls : List (Nat × Nat)} (h : Prs H ps Ls) (e : Ex H H') : Prs H' ps Ls := ⟨h.1, fun i p L q1 q2 => e _ _ (h.2 i p L q1 q2)⟩
theorem Prs.append {H : Hp} {ps qs : List Addr} {Ls Ms : List (Nat × Nat)} (h : Prs H ps Ls) (h2 : Prs H qs Ms) : Prs H (ps ++ qs) (Ls ++ Ms) := by
  refine ⟨by rw [List.length_append, List.length_append, h.1, h2.1], fun i q M q1 q2 => ?_⟩
  by_cases lt : i < ps.length
  · rw [List.getElem?_append_left lt] at q1
    rw [List.getElem?_append_left (by rw [← h.1]; exact lt)] at q2
    exact h.2 i q M q1 q2
  · rw [List.getElem?_append_right (by omega)] at q1
    rw [List.getElem?_append_right (by rw [← h.1]; omega), ← h.1] at q2
    exact h2.2 _ q M q1 q2
theorem News.prs {H1 H2 : Hp} {n : Nat} {f g : Nat → Nat} {D : Addr} {ps : List Addr} (w : News .tup H1 H2 n (fun i => [nV (f i), nV (g i)]) D ps) : Prs H2 ps ((List.range n).map fun i => (f i, g i)) := by
  refine ⟨by rw [w.len, List.length_map, List.length_range], fun i p L q1 q2 => ?_⟩
  have lt := (List.getElem?_eq_some_iff.mp q1).1
  rw [w.len] at lt
  rw [List.getElem?_map, List.getElem?_range lt] at q2
  have e : (f i, g i) = L := Option.some.inj q2
  rw [← e]
  exact w.obj i p q1
/-- the places of a matrix set into another -/
def wholeL (n k t : Nat) : List (Nat × Nat) := ((List.range t).map fun i => (i, 0)) ++ ((List.range k).map fun i => (t, i)) ++ (List.range (n - (t + 1))).map fun i => (t + 1 + i, 0)
theorem wholeL_len {n k t : Nat} (h : t < n) : (wholeL n k t).length = n + k - 1 := by
  unfold wholeL
  simp only [List.length_append, List.length_map, List.length_range]
  omega
theorem wholeL_ok {n k t : Nat} (h : t < n) : ∀ p ∈ wholeL n k t, p.1 < n ∧ (p.1 = t → p.2 < k) := by
  unfold wholeL
  intro p hp
  rcases List.mem_append.mp hp with hp | hp
  · rcases List.mem_append.mp hp with hp | hp
    · obtain ⟨i, hi, rfl⟩ := List.mem_map.mp hp
      have := List.mem_range.mp hi
      exact ⟨by show i < n; omega, fun e => by
        have e : i = t := e
        omega⟩
    · obtain ⟨i, hi, rfl⟩ := List.mem_map.mp hp
      exact ⟨h, fun _ => List.mem_range.mp hi⟩
  · obtain ⟨i, hi, rfl⟩ := List.mem_map.mp hp
    have := List.mem_range.mp hi
    exact ⟨by show t + 1 + i < n; omega, fun e => by
      have e : t + 1 + i = t := e
      omega⟩
def cellP (M M2 : Nat → Nat → Int) (t : Nat) (p q : Nat × Nat) : Int := if p.1 = t ∧ q.1 = t then M2 p.2 q.2 else M p.1 q.1
theorem Fr.step {ps : List Addr} {H H1 H2 : Hp} {p : Addr} {o : HO} (f : Fr ps H H1) (e : Ex H1 H2) (hp : p ∈ ps) : Fr ps H (upd H2 p o) := fun b hb u h => by
  rw [upd_ne (fun q => hb (by rw [q]; exact hp))]
  exact e _ _ (f b hb u h)
abbrev sLsetin : Stmt := topS 28
abbrev NLsetin : List Str := ["_law_rows_here", "_law_thing", "_law_other", "_law_whole", "_law_found", "_law_x", "_law_own", "_law_y", "_law_its"]
theorem scLsetin : FnScope NLsetin ["_law_rows_here", "_law_thing", "_law_other"] (defScope sLsetin) := ⟨rfl, rfl, rfl, by decide +kernel, rfl, by decide +kernel, by decide +kernel⟩
section
variable {P : Program} {w : World} {K : PySem.W.Frag} {mg : Str → Option Value} {base : Heap}
/-- _law_set_in(rows, thing, other) -/
def spSetIn : Sp := fun vs H Q _ => ∃ (R0 O : Addr) (n k t : Nat) (M M2 : Nat → Nat → Int), vs = [.ref R0, nV t, .ref O] ∧ Mat .lst n M H R0 ∧ Mat .lst k M2 H O ∧ t < n ∧ n ≤ 10 ∧ k ≤ 10 ∧
  ∀ (R : Addr) (ps : List Addr) (M' : Nat → Nat → Int) H', MatN H H' (n + k - 1) R ps M' → Ex H H' → Q (.ref R) H'
theorem ok_Lsetin {f : Addr} {fd : FuncData} (F : Fun K "_law_set_in" "_law_set_in" sLsetin f fd) (T : Txt mg) : FnOk P w K mg base CX0 1 f fd ["_law_rows_here", "_law_thing", "_law_other"] spSetIn := by
  have nd := scLsetin.nd
  refine F.ok scLsetin (fun vs H Q E h => ?_) (fun cdv A outer s H vs Q E hr h => ?_)
  · obtain ⟨_, _, _, _, _, _, _, rfl, _⟩ := h
    rfl
  · obtain ⟨R0, O, n, k, t, M, M2, rfl, hM, hM2, ht, hn, hk, q⟩ := h
    have hMx := hM
    have hMy := hM2
    obtain ⟨ps0, lp0, hR0, _⟩ := hMx
    obtain ⟨pO, lpO, hO, _⟩ := hMy
    refine ⟨_, (pss_cons (ps_par (i := 3) (j := 4) rfl nd rfl rfl (by decide) rfl rfl (pa_cons (pe_op op_cat (pe_lc (own := [("_law_x", 5)]) rfl nd (pi_range1 rfl T.range (pa_cons (pv 1) pa_nil)) (blkOk_by (own := [("_law_x", 5)]) (N := NLsetin) (sc := defScope sLsetin) (by decide +kernel)) (fun _ _ _ _ _ => (pg_name (i := 5) nd rfl (Or.inl rfl))) (fun _ _ _ _ _ => pts_nil) (fun _ _ _ _ _ => (pe_tup (pa_cons (pv 5) (pa_cons pe_int pa_nil))))) (pe_lc (own := [("_law_y", 7)]) rfl nd (pi_range1 rfl T.range (pa_cons (pe_callB (call_lenK (K := K) rfl) rfl T.len PySem.boot_len (pa_cons (pv 2) pa_nil)) pa_nil)) (blkOk_by (own := [("_law_y", 7)]) (N := NLsetin) (sc := defScope sLsetin) (by decide +kernel)) (fun _ _ _ _ _ => (pg_name (i := 7) nd rfl (Or.inl rfl))) (fun _ _ _ _ _ => pts_nil) (fun _ _ _ _ _ => (pe_tup (pa_cons (pv 1) (pa_cons (pv 7) pa_nil)))))) (pa_cons (pe_lst pa_nil) pa_nil)) rfl)
        (pss_cons (ps_set (i := 3) nd rfl (Or.inl rfl) (pe_op op_cat (pv 3) (pe_lc (own := [("_law_x", 5)]) rfl nd (pi_range2 rfl T.range (pa_cons (pe_op op_add (pv 1) pe_int) (pa_cons (pe_callB (call_lenK (K := K) rfl) rfl T.len PySem.boot_len (pa_cons (pv 0) pa_nil)) pa_nil))) (blkOk_by (own := [("_law_x", 5)]) (N := NLsetin) (sc := defScope sLsetin) (by decide +kernel)) (fun _ _ _ _ _ => (pg_name (i := 5) nd rfl (Or.inl rfl))) (fun _ _ _ _ _ => pts_nil) (fun _ _ _ _ _ => (pe_tup (pa_cons (pv 5) (pa_cons pe_int pa_nil)))))))
        (pss_cons (ps_for PassesOwn.never rfl (pi_listK (K := K) rfl (pv 3)) (pg_tupK (K := K) (n := 2) rfl rfl (pgs_cons (pg_name (i := 5) nd rfl (Or.inr rfl)) (pgs_cons (pg_name (i := 6) nd rfl (Or.inr rfl)) pgs_nil))) (pss_one (ps_expr (pe_bm PySem.F.plainAttrs_list PySem.F.slot_list_append PySem.F.type_list_append mt_append (pv 4) (pa_cons (pe_lc (own := [("_law_y", 7), ("_law_its", 8)]) rfl nd (pi_listK (K := K) rfl (pv 3)) (blkOk_by (own := [("_law_y", 7), ("_law_its", 8)]) (N := NLsetin) (sc := defScope sLsetin) (by decide +kernel)) (fun _ _ _ _ _ => (pg_tupK (K := K) (n := 2) rfl rfl (pgs_cons (pg_name (i := 7) nd rfl (Or.inl rfl)) (pgs_cons (pg_name (i := 8) nd rfl (Or.inl rfl)) pgs_nil)))) (fun _ _ _ _ _ => pts_nil) (fun _ _ _ _ _ => (pe_ifExp (PW.pt (pw_and (pt_cmpR op_eq (pv 5) (pv 1) (nomark _)) (pw_and1 (pt_cmpR op_eq (pv 7) (pv 1) (nomark _))))) (pe_ix (ix_listK (K := K) rfl) (pe_ix (ix_listK (K := K) rfl) (pv 2) (pv 6) (fun _ _ => rfl)) (pv 8) (fun _ _ => rfl)) (pe_ix (ix_listK (K := K) rfl) (pe_ix (ix_listK (K := K) rfl) (pv 0) (pv 5) (fun _ _ => rfl)) (pv 7) (fun _ _ => rfl))))) pa_nil)))))
        (pss_one (ps_ret (pv 4)))))), ?_⟩
    -- whole, found = .., []
    refine go_seq (go_par (go_cons (go_op (ns_go (en_lcR (kd := .tup) (n := t) (fun i => [nV i, nV ((fun _ => 0) i)]) (ea_cons (ev_var rfl) ea_nil) (by omega) (fun _ => rfl) fun i H1 e1 hi => eu_tup (ea_cons (ev_var rfl) (ea_cons ev_c ea_nil)) (by show 2 ≤ 100000; decide)) fun D1 ps1 H1 n1 => ?_))))
    refine ns_go (en_lcR (kd := .tup) (n := k) (fun i => [nV ((fun _ => t) i), nV i]) (ea_cons (ev_is (ev_lenL (ev_var rfl) (n1.ex _ _ hO)) (by rw [List.length_map, lpO])) ea_nil) (by omega) (fun _ => rfl) fun i H2 e2 hi => eu_tup (ea_cons (ev_var rfl) (ea_cons (ev_var rfl) ea_nil)) (by show 2 ≤ 100000; decide)) fun D2 ps2 H2 n2 => ?_
    refine ⟨D1, D2, _, _, rfl, rfl, n2.ex _ _ n1.lst, n2.lst, by rw [List.length_map, List.length_map, n1.len, n2.len]; exact sz_of (by omega), fun W nW => go_cons (el_go el_nil fun F3 H3 nF e3 hF => go_nil ⟨_, _, rfl, ?_⟩)⟩
    have x2 : Ex H2 (upd H2 W (.lst (ps1.map V.ref ++ ps2.map V.ref))) := Ex.new nW
    have hW : (upd H2 W (.lst (ps1.map V.ref ++ ps2.map V.ref))) W = some (.lst ((ps1 ++ ps2).map .ref)) := by rw [upd_same, List.map_append]
    generalize upd H2 W (.lst (ps1.map V.ref ++ ps2.map V.ref)) = H2' at x2 hW nF e3
    have e23 := x2.trans e3
    have e02 : Ex H H2' := (n1.ex.trans n2.ex).trans x2
    have nF0 := fresh_back e02 nF
    have pr1 := n1.prs
    have pr2 := n2.prs
    -- whole = whole + ..
    refine go_seq (go_set (go_op (ev_go (ev_var rfl) fun H4 e4 => ?_)))
    have e04 := (e02.trans e3).trans e4
    refine ns_go (en_lcR2 (kd := .tup) (lo := t + 1) (n := n) (fun i => [nV ((fun i => t + 1 + i) i), nV ((fun _ => 0) i)]) (ea_cons (ev_addN (i := t) (j := 1) (ev_var rfl) ev_c) (ea_cons (ev_is (ev_lenL (ev_var rfl) (e04 _ _ hR0)) (by rw [List.length_map, lp0])) ea_nil)) (by omega) (by omega) (fun _ => rfl) fun i H5 e5 hi => eu_tup (ea_cons (ev_var rfl) (ea_cons ev_c ea_nil)) (by show 2 ≤ 100000; decide)) fun D3 ps3 H5 n3 => ?_
    have hW4 := e4 _ _ (e3 _ _ hW)
    refine ⟨W, D3, _, _, rfl, rfl, n3.ex _ _ hW4, n3.lst, by rw [List.length_map, List.length_map, List.length_append, n1.len, n2.len, n3.len]; exact sz_of (by omega), fun W2 nW2 => ?_⟩
    have x5 : Ex H5 (upd H5 W2 (.lst ((ps1 ++ ps2).map V.ref ++ ps3.map V.ref))) := Ex.new nW2
    have hW2 : (upd H5 W2 (.lst ((ps1 ++ ps2).map V.ref ++ ps3.map V.ref))) W2 = some (.lst ((ps1 ++ ps2 ++ ps3).map .ref)) := by
      rw [upd_same]
      simp only [List.map_append]
    generalize upd H5 W2 (.lst ((ps1 ++ ps2).map V.ref ++ ps3.map V.ref)) = H6 at x5 hW2
    have e36 := (e4.trans n3.ex).trans x5
    have pr : Prs H6 (ps1 ++ ps2 ++ ps3) (wholeL n k t) := ((pr1.mono (n2.ex.trans (e23.trans e36))).append (pr2.mono (e23.trans e36))).append (n3.prs.mono x5)
    have wl := wholeL_len (k := k) ht
    have wo := wholeL_ok (k := k) ht
    generalize wholeL n k t = Wl at pr wl wo
    generalize ps1 ++ ps2 ++ ps3 = qs at hW2 pr
    have e06 := e02.trans (e3.trans e36)
    have hF6 := e36 _ _ hF
    have nWF : W2 ≠ F3 := fun e => by
      have z := n3.ex _ _ (e4 _ _ hF)
      rw [← e, nW2] at z
      cases z
    have lq : qs.length = n + k - 1 := by rw [pr.1, wl]
    -- each place: its pair
    have place : ∀ (i : Nat) (x : V), (qs.map V.ref)[i]? = some x → ∃ q p, x = .ref q ∧ Wl[i]? = some p ∧ Wl.getD i (0, 0) = p ∧ H6 q = some (.tup [nV p.1, nV p.2]) ∧ q ≠ F3 ∧ p.1 < n ∧ (p.1 = t → p.2 < k) := fun i x hx => by
      rw [List.getElem?_map] at hx
      have lt : i < qs.length := by
        rcases Nat.lt_or_ge i qs.length with h | h
        · exact h
        · rw [List.getElem?_eq_none h] at hx
          cases hx
      have lt2 : i < Wl.length := by rw [← pr.1]; exact lt
      rw [List.getElem?_eq_getElem lt] at hx
      have hp := List.getElem?_eq_getElem lt2
      have z := pr.2 i _ _ (List.getElem?_eq_getElem lt) hp
      refine ⟨qs[i], Wl[i], (Option.some.inj hx).symm, hp, by rw [List.getD_eq_getElem?_getD, hp]; rfl, z, fun e => ?_, wo _ (List.getElem_mem lt2)⟩
      rw [e, hF6] at z
      cases z
    -- the rows
    refine q_forL (ev_var rfl) (sq_of hW2) (fun i σ H' => ∃ v5 v6 rs, σ = [some (.ref R0), some (nV t), some (.ref O), some (.ref W2), some (.ref F3), v5, v6, none, none] ∧ Fr [F3] H6 H' ∧ News .lst H H' i (fun i => rowV (n + k - 1) fun j => cellP M M2 t (Wl.getD i (0, 0)) (Wl.getD j (0, 0))) F3 rs)
      (fun H7 e7 => ⟨none, none, [], rfl, (fun b _ o h => e7 _ _ h), ⟨rfl, List.nodup_nil, nF0, List.not_mem_nil, (fun p hp => absurd hp List.not_mem_nil), e06.trans e7, e7 _ _ hF6, fun i p hp => absurd (List.mem_of_getElem? hp) List.not_mem_nil⟩⟩) (fun i σ H' _ w => ?_) (fun i x σ H7 hx w => ?_) (fun σ H7 w => ?_)
    · obtain ⟨_, _, _, _, fr, _⟩ := w
      exact sq_of (fr _ (fun z => nWF (List.mem_singleton.mp z)) _ hW2)
    · obtain ⟨v5, v6, rs, rfl, fr, nw⟩ := w
      obtain ⟨q1, p1, rfl, hp1, gd1, hq1, nq1, b1, b2⟩ := place i x hx
      have lt : i < n + k - 1 := by
        have := (List.getElem?_eq_some_iff.mp hp1).1
        omega
      refine ⟨q1, [nV p1.1, nV p1.2], rfl, st_of (fr _ (fun z => nq1 (List.mem_singleton.mp z)) _ hq1), rfl, _, _, rfl, _, _, rfl, rfl, ?_⟩
      have hW7 := fr _ (fun z => nWF (List.mem_singleton.mp z)) _ hW2
      refine s_appL (ys := rowV (n + k - 1) fun j => cellP M M2 t (Wl.getD i (0, 0)) (Wl.getD j (0, 0))) nw.lst (ev_var rfl) (el_is (el_lcP (fun j => .int (cellP M M2 t (Wl.getD i (0, 0)) (Wl.getD j (0, 0)))) (ev_var rfl) (sq_of hW7) (by rw [List.length_map]; omega) fun j y hy => ?_) ?_) (by rw [List.length_map, nw.len]; omega) fun r H8 nr e8 hr8 => ?_
      · obtain ⟨q2, p2, rfl, hp2, gd2, hq2, nq2, c1, c2⟩ := place j y hy
        refine ⟨q2, nV p2.1, nV p2.2, rfl, fr _ (fun z => nq2 (List.mem_singleton.mp z)) _ hq2, rfl, fun H8 e8 => ?_⟩
        rw [gd1, gd2]
        have e08 := nw.ex.trans e8
        refine ev_if (et_and (et_eqN (i := p1.1) (j := t) (ev_var rfl) (ev_var rfl)) fun _ => et_eqN (i := p2.1) (j := t) (ev_var rfl) (ev_var rfl)) (fun hb => ?_) fun hb => ?_
        · rw [Bool.and_eq_true, decide_eq_true_eq, decide_eq_true_eq] at hb
          unfold cellP
          rw [if_pos hb]
          exact ev_ix2L (hM2.mono e08) (b2 hb.1) (c2 hb.2) (ev_var rfl) (ev_var rfl) (ev_var rfl)
        · unfold cellP
          rw [if_neg (fun h => by rw [decide_eq_true h.1, decide_eq_true h.2] at hb; cases hb)]
          exact ev_ix2L (hM.mono e08) b1 c1 (ev_var rfl) (ev_var rfl) (ev_var rfl)
      · rw [List.length_map, lq]
        rfl
      · exact ⟨_, _, rs ++ [r], rfl, fr.step e8 (List.mem_singleton.mpr rfl), nw.snoc nr e8 hr8⟩
    · obtain ⟨v5, v6, rs, rfl, fr, nw⟩ := w
      rw [List.length_map, lq] at nw
      exact s_ret (ev_var rfl) fun H8 e8 => q F3 rs (fun i j => cellP M M2 t (Wl.getD i (0, 0)) (Wl.getD j (0, 0))) H8 (MatN.mono (News.matN nw) e8) (nw.ex.trans e8)
end
end K25
/-! K25D13: _law_made, _law_any, _law_stiff, _law_nested. -/
namespace K25
open PySem PySem.Spec PyProof.Rows L2 Evl
section
variable {K : PySem.W.Frag} {σ : L2.St} {H : Hp} {ta tb te : TE}
theorem ev_min2 {i j : Int} (ha : Ev ta σ H (.int i)) (hb : Ev tb σ H (.int j)) : Ev (tCB (fun xs H Q => ∃ i j, xs = [.int i, .int j] ∧ Q (.int (if j < i then j else i)) H) (tCons ta (tCons tb tNil))) σ H (.int (if j < i then j else i)) := fun H1 e Q q =>
  ha H1 e _ fun H2 e2 => hb H2 (e.trans e2) _ fun H3 e3 => ⟨i, j, rfl, q H3 (e2.trans e3)⟩
theorem ev_minN {i j : Nat} (ha : Ev ta σ H (nV i)) (hb : Ev tb σ H (nV j)) : Ev (tCB (fun xs H Q => ∃ i j, xs = [.int i, .int j] ∧ Q (.int (if j < i then j else i)) H) (tCons ta (tCons tb tNil))) σ H (nV (min i j)) := by
  refine ev_is (ev_min2 ha hb) ?_
  show V.int _ = V.int _
  congr 1
  split <;> omega
end
abbrev sLmade : Stmt := topS 30
abbrev NLmade : List Str := ["_law_deck_here", "_law_size", "_law_menu_here", "_law_rows_here", "_law_turn", "_law_room", "_law_wide", "_law_thing"]
theorem scLmade : FnScope NLmade ["_law_deck_here", "_law_size", "_law_menu_here"] (defScope sLmade) := ⟨rfl, rfl, rfl, by decide +kernel, rfl, by decide +kernel, by decide +kernel⟩
abbrev sLany : Stmt := topS 31
abbrev NLany : List Str := ["_law_deck_here", "_law_size", "_law_menu_here", "_law_way"]
theorem scLany : FnScope NLany ["_law_deck_here", "_law_size", "_law_menu_here"] (defScope sLany) := ⟨rfl, rfl, rfl, by decide +kernel, rfl, by decide +kernel, by decide +kernel⟩
abbrev sLstiff : Stmt := topS 32
abbrev NLstiff : List Str := ["_law_deck_here", "_law_menu_here", "_law_size", "_law_rows_here", "_law_x", "_law_y", "_law_is_tied", "_law_thing"]
theorem scLstiff : FnScope NLstiff ["_law_deck_here", "_law_menu_here"] (defScope sLstiff) := ⟨rfl, rfl, rfl, by decide +kernel, rfl, by decide +kernel, by decide +kernel⟩
abbrev sLnested : Stmt := topS 35
abbrev NLnested : List Str := ["_law_deck_here", "_law_menu_here", "_law_rows_here"]
theorem scLnested : FnScope NLnested ["_law_deck_here", "_law_menu_here"] (defScope sLnested) := ⟨rfl, rfl, rfl, by decide +kernel, rfl, by decide +kernel, by decide +kernel⟩
section
variable {P : Program} {w : World} {K : PySem.W.Frag} {mg : Str → Option Value} {base : Heap}
theorem ok_Lmade {f : Addr} {fd : FuncData} (F : Fun K "_law_made" "_law_made" sLmade f fd) (T : Txt mg) (c_Ldraw : Cal P w K mg base 1 "_law_draw" ["_law_deck_here", "_law_many"] spDraw) (c_Lmixed : Cal P w K mg base 2 "_law_mixed" ["_law_deck_here", "_law_items"] spMixed) (c_Lsetin : Cal P w K mg base 1 "_law_set_in" ["_law_rows_here", "_law_thing", "_law_other"] spSetIn)
    (c_Lsmall : Cal P w K mg base 5 "_law_small" ["_law_deck_here", "_law_size", "_law_menu_here"] spBuild) (c_Lnamed : Cal P w K mg base 1 "_law_named" ["_law_rows_here", "_law_naming"] spNamed) : FnOk P w K mg base CX0 6 f fd ["_law_deck_here", "_law_size", "_law_menu_here"] spBuild := by
  have nd := scLmade.nd
  refine F.ok scLmade (fun vs H Q E h => ?_) (fun cdv A outer s H vs Q E hr h => ?_)
  · obtain ⟨_, _, _, _, rfl, _⟩ := h
    rfl
  · obtain ⟨a, l, m, n, rfl, hn, hd, hmenu, q⟩ := h
    refine ⟨_, (pss_cons (ps_setLc (i := 3) (own := [("_law_thing", 7)]) rfl nd rfl rfl (sw_true rfl rfl rfl (by decide +kernel)) (pi_range1 rfl T.range (pa_cons (pe_callB (call_min2 rfl) rfl T.min bb_min (pa_cons (pv 1) (pa_cons pe_int pa_nil))) pa_nil)) (blkOk_by (own := [("_law_thing", 7)]) (N := NLmade) (sc := defScope sLmade) (by decide +kernel)) (fun _ _ _ _ _ => (pg_name (i := 7) nd rfl (Or.inl rfl))) (fun _ _ _ _ _ => pts_nil) (fun _ _ _ _ _ => (pe_lst (pa_cons pe_int pa_nil))))
        (pss_cons (ps_for PassesOwn.never rfl (pi_range1 rfl T.range (pa_cons (pv 1) pa_nil)) (pg_name (i := 4) nd rfl (Or.inl rfl)) (pss_cons (ps_set (i := 5) nd rfl (Or.inl rfl) (pe_op op_sub (pv 1) (pe_callB (call_lenK (K := K) rfl) rfl T.len PySem.boot_len (pa_cons (pv 3) pa_nil))))
        (pss_one (ps_if (pt_cmpR op_gt (pv 5) pe_int (nomark _)) (pss_cons (ps_set (i := 6) nd rfl (Or.inl rfl) (pe_op op_add pe_int (pe_cal c_Ldraw hr (by decide) rfl (pa_cons (pv 0) (pa_cons (pe_callB (call_min2 rfl) rfl T.min bb_min (pa_cons (pv 5) (pa_cons pe_int pa_nil))) pa_nil)))))
        (pss_one (ps_set (i := 3) nd rfl (Or.inl rfl) (pe_cal c_Lsetin hr (by decide) rfl (pa_cons (pv 3) (pa_cons (pe_cal c_Ldraw hr (by decide) rfl (pa_cons (pv 0) (pa_cons (pe_callB (call_lenK (K := K) rfl) rfl T.len PySem.boot_len (pa_cons (pv 3) pa_nil)) pa_nil))) (pa_cons (pe_cal c_Lsmall hr (by decide) rfl (pa_cons (pv 0) (pa_cons (pv 6) (pa_cons (pv 2) pa_nil)))) pa_nil))))))) pss_nil))))
        (pss_one (ps_ret (pe_cal c_Lnamed hr (by decide) rfl (pa_cons (pv 3) (pa_cons (pe_cal c_Lmixed hr (by decide) rfl (pa_cons (pv 0) (pa_cons (pe_listRg rfl rfl T.list (prg_1 rfl T.range (pv 1))) pa_nil))) pa_nil))))))), ?_⟩
    -- rows = [[0] ..]
    refine go_seq (go_set (ns_go (en_lcR (kd := .lst) (n := min n 1) (fun i => rowV (min n 1) ((fun _ _ => 0) i)) (ea_cons (ev_minN (i := n) (j := 1) (ev_var rfl) ev_c) ea_nil) (by omega) (fun _ => rfl) fun i H1 e1 hi => el_is (xs := [.int 0]) (el_lst (ea_cons ev_c ea_nil) (by show 1 ≤ 100000; decide)) (by rw [show min n 1 = 1 by omega]; rfl)) fun R ps H1 nw => ?_))
    refine q_forR1 (ea_cons (ev_var rfl) ea_nil) ⟨by omega, by omega⟩ (fun i σ H' => ∃ R v4 v5 v6 s ps M, σ = [some (.ref a), some (nV n), some (.ref m), some (.ref R), v4, v5, v6, none] ∧ Wk a l H H' ∧ MatN H H' s R ps M ∧ s ≤ n ∧ min n (i + 1) ≤ s)
      (fun H2 e2 => ⟨R, none, none, none, _, ps, _, rfl, (Wk.start hd).ex (nw.ex.trans e2), nw.matN.mono e2, by omega, by omega⟩) (fun i σ H2 hi w => ?_) (fun σ H2 w => ?_)
    · obtain ⟨R, v4, v5, v6, s, ps, M, rfl, w2, m2, ls, li⟩ := w
      have hin : i < n := by omega
      have lenR : ∀ {H1 : Hp} {σ : L2.St}, H1 R = some (.lst (ps.map .ref)) → σ[3]? = some (some (.ref R)) → Ev (tCB (rLen2 K) (tCons (tVar 3) tNil)) σ H1 (nV s) := fun h h2 => ev_is (ev_lenL (ev_var h2) h) (by rw [List.length_map, m2.len])
      -- room
      refine q_asg (v := nV (n - s)) (ev_is (ev_I (i := (n : Int)) (j := (s : Int)) (ev_var rfl) (lenR m2.top rfl)) (by show V.int _ = V.int _; congr 1; omega)) fun H3 e3 => ?_
      refine s_when (et_I (i := ((n - s : Nat) : Int)) (j := 0) (ev_var rfl) ev_c) (fun hb H4 e4 => ?_) (fun hb H4 e4 => ?_)
      · have room : 0 < n - s := by
          have := of_decide_eq_true hb
          omega
        have s0 : 0 < s := by omega
        have e24 := e3.trans e4
        -- wide = 2 + draw
        refine go_seq (go_set (go_op (ev_go ev_c fun H5 e5 => go_call (ea_go (ea_cons (ev_var rfl) (ea_cons (ev_minN (i := n - s) (j := 3) (ev_var rfl) ev_c) ea_nil)) fun H6 e6 => ⟨a, l, min (n - s) 3, rfl, by omega, by omega, (w2.ex (e24.trans (e5.trans e6))).d, fun d H7 hdr d7 k7 => ⟨_, _, rfl, rfl, ?_⟩⟩))))
        have w7 := (w2.ex (e24.trans (e5.trans e6))).call d7 k7
        have m7 := (m2.mono (e24.trans (e5.trans e6))).call hd k7
        -- rows = set_in(rows, draw, small)
        refine go_set (go_call (go_cons (ev_go (ev_var rfl) fun H8 e8 => go_cons (go_call (ea_go (ea_cons (ev_var rfl) (ea_cons (lenR (m7.mono e8).top rfl) ea_nil)) fun H9 e9 => ⟨a, l, s, rfl, s0, by omega, (w7.ex (e8.trans e9)).d, fun t HA ht dA kA => ?_⟩)))))
        have wA := (w7.ex (e8.trans e9)).call dA kA
        have mA := (m7.mono (e8.trans e9)).call hd kA
        refine go_cons (go_call (ea_go (ea_cons (ev_var rfl) (ea_cons (x := nV (2 + d)) (ev_is (ev_var rfl) (by show V.int _ = V.int _; congr 1)) (ea_cons (ev_var rfl) ea_nil))) fun HB eB => ⟨a, l, m, 2 + d, rfl, by omega, (wA.ex eB).d, hmenu.keep (wA.ex eB).k, fun R2 ps2 M2 HC mC dC kC => go_nil ?_⟩))
        have wC := (wA.ex eB).call dC kC
        have mC' := (mA.mono eB).call hd kC
        refine ⟨R, R2, s, 2 + d, t, M, M2, rfl, mC'.mat, mC.mat, ht, by omega, by omega, fun R3 ps3 M3 HD mD eD => ?_⟩
        exact ⟨R3, _, _, _, s + (2 + d) - 1, ps3, M3, rfl, wC.ex eD, mD.back fun p hp => wC.free hp, by omega, by omega⟩
      · have room : ¬ 0 < n - s := by
          have := of_decide_eq_false hb
          omega
        exact ⟨R, _, _, _, s, ps, M, rfl, w2.ex (e3.trans e4), m2.mono (e3.trans e4), ls, by omega⟩
    · obtain ⟨R, v4, v5, v6, s, ps, M, rfl, w2, m2, ls, li⟩ := w
      obtain rfl : s = n := by
        rw [Int.toNat_natCast] at li
        omega
      -- named(rows, mixed(list(range(size))))
      refine go_ret (go_call (go_cons (ev_go (ev_var rfl) fun H3 e3 => go_cons (go_call (go_cons (ev_go (ev_var rfl) fun H4 e4 => go_cons (el_go (el_rg (ev_var rfl) (by omega)) fun z H5 nz e5 hz => go_nil ?_)))))))
      have e25 := e3.trans (e4.trans e5)
      have zz := (w2.ex (e3.trans e4)).d.fresh nz
      refine ⟨a, l, z, _, rfl, (w2.ex e25).d, .inl hz, zz.1, zz.2, by rw [lotV_len, List.length_range]; omega, fun g ys H6 ng hg ly my d6 k6 => go_nil ?_⟩
      have w6 := (w2.ex e25).call d6 k6
      have m6 := (m2.mono e25).call hd k6
      refine ⟨R, g, s, M, ys, rfl, m6.mat, hg, by rw [ly, lotV_len, List.length_range], my, by omega, fun R3 ps3 M3 H7 m7 e7 => ?_⟩
      exact q R3 ps3 M3 H7 (m7.back fun p hp => w6.free hp) (w6.ex e7).d (w6.ex e7).k
theorem ok_Lany {f : Addr} {fd : FuncData} (F : Fun K "_law_any" "_law_any" sLany f fd) (T : Txt mg) (c_Ldraw : Cal P w K mg base 1 "_law_draw" ["_law_deck_here", "_law_many"] spDraw) (c_Lcore : Cal P w K mg base 4 "_law_core" ["_law_deck_here", "_law_size", "_law_menu_here"] spBuild) (c_Lrows : Cal P w K mg base 3 "_law_rows" ["_law_deck_here", "_law_size", "_law_menu_here"] spBuild)
    (c_Lmade : Cal P w K mg base 6 "_law_made" ["_law_deck_here", "_law_size", "_law_menu_here"] spBuild) : FnOk P w K mg base CX0 7 f fd ["_law_deck_here", "_law_size", "_law_menu_here"] spBuild := by
  have nd := scLany.nd
  refine F.ok scLany (fun vs H Q E h => ?_) (fun cdv A outer s H vs Q E hr h => ?_)
  · obtain ⟨_, _, _, _, rfl, _⟩ := h
    rfl
  · obtain ⟨a, l, m, n, rfl, hn, hd, hmenu, q⟩ := h
    refine ⟨_, (pss_cons (ps_set (i := 3) nd rfl (Or.inl rfl) (pe_cal c_Ldraw hr (by decide) rfl (pa_cons (pv 0) (pa_cons pe_int pa_nil))))
        (pss_cons (ps_if (PW.pt (pw_and (pt_cmpR op_eq (pv 3) pe_int (nomark _)) (pw_and1 (pt_cmpR op_gt (pv 1) pe_int (nomark _))))) (pss_one (ps_ret (pe_cal c_Lcore hr (by decide) rfl (pa_cons (pv 0) (pa_cons (pv 1) (pa_cons (pv 2) pa_nil)))))) pss_nil)
        (pss_one (ps_ret (pe_ifExp (pt_cmpR op_eq (pv 3) pe_int (nomark _)) (pe_cal c_Lrows hr (by decide) rfl (pa_cons (pv 0) (pa_cons (pv 1) (pa_cons (pv 2) pa_nil)))) (pe_cal c_Lmade hr (by decide) rfl (pa_cons (pv 0) (pa_cons (pv 1) (pa_cons (pv 2) pa_nil))))))))), ?_⟩
    refine q_asgC (ea_cons (ev_var rfl) (ea_cons ev_c ea_nil)) fun H1 e1 => ⟨a, l, 5, rfl, by decide, by decide, hd.mono e1, fun way H2 hw d2 k2 => ?_⟩
    have w2 : Wk a l H H2 := ((Wk.start hd).ex e1).call d2 k2
    have call : ∀ {H3 : Hp} {σ : L2.St}, Ex H2 H3 → σ[0]? = some (some (.ref a)) → σ[1]? = some (some (nV n)) → σ[2]? = some (some (.ref m)) → tCall spBuild [] E0 (tCons (tVar 0) (tCons (tVar 1) (tCons (tVar 2) tNil))) σ H3 Q := fun {H3 σ} e3 h0 h1 h2 =>
      c_call (ea_cons (ev_var h0) (ea_cons (ev_var h1) (ea_cons (ev_var h2) ea_nil))) fun H4 e4 => ⟨a, l, m, n, rfl, hn, (w2.ex (e3.trans e4)).d, hmenu.keep (w2.ex (e3.trans e4)).k, Built.back q (w2.ex (e3.trans e4)).d (w2.ex (e3.trans e4)).k⟩
    refine q_when (et_and (et_eqI (i := (way : Int)) (j := 0) (ev_var rfl) ev_c) fun _ => et_I (i := (n : Int)) (j := 2) (ev_var rfl) ev_c) (fun hb H5 e5 => ?_) (fun hb H5 e5 => ?_)
    · exact go_ret (call e5 rfl rfl rfl)
    · refine go_ret (go_ifE (et_go (et_eqI (i := (way : Int)) (j := 1) (ev_var rfl) ev_c) fun H6 e6 => ?_))
      split
      · exact call (e5.trans e6) rfl rfl rfl
      · exact call (e5.trans e6) rfl rfl rfl
/-- _law_stiff, _law_nested: (deck, menu) -/
def spGiven : Sp := fun vs H Q _ => ∃ (a l m : Addr), vs = [.ref a, .ref m] ∧ Deck a l H ∧ MenuAt a l H m ∧ ∀ n, n ≤ 6 → Built a l n H Q
theorem ok_Lnested {f : Addr} {fd : FuncData} (F : Fun K "_law_nested" "_law_nested" sLnested f fd) (T : Txt mg) (c_Ldraw : Cal P w K mg base 1 "_law_draw" ["_law_deck_here", "_law_many"] spDraw) (c_Lone : Cal P w K mg base 2 "_law_one" ["_law_deck_here", "_law_items"] spOne) (c_Lcore : Cal P w K mg base 4 "_law_core" ["_law_deck_here", "_law_size", "_law_menu_here"] spBuild) (c_Lsetin : Cal P w K mg base 1 "_law_set_in" ["_law_rows_here", "_law_thing", "_law_other"] spSetIn) :
    FnOk P w K mg base CX0 5 f fd ["_law_deck_here", "_law_menu_here"] spGiven := by
  have nd := scLnested.nd
  refine F.ok scLnested (fun vs H Q E h => ?_) (fun cdv A outer s H vs Q E hr h => ?_)
  · obtain ⟨_, _, _, rfl, _⟩ := h
    rfl
  · obtain ⟨a, l, m, rfl, hd, hmenu, q⟩ := h
    refine ⟨_, (pss_cons (ps_set (i := 2) nd rfl (Or.inl rfl) (pe_cal c_Lcore hr (by decide) rfl (pa_cons (pv 0) (pa_cons pe_int (pa_cons (pv 1) pa_nil)))))
        (pss_one (ps_ret (pe_cal c_Lsetin hr (by decide) rfl (pa_cons (pv 2) (pa_cons (pe_cal c_Ldraw hr (by decide) rfl (pa_cons (pv 0) (pa_cons pe_int pa_nil))) (pa_cons (pe_cal c_Lcore hr (by decide) rfl (pa_cons (pv 0) (pa_cons (pe_cal c_Lone hr (by decide) rfl (pa_cons (pv 0) (pa_cons (pe_lst (pa_cons pe_int (pa_cons pe_int (pa_cons pe_int pa_nil)))) pa_nil))) (pa_cons (pv 1) pa_nil)))) pa_nil))))))), ?_⟩
    refine q_asgC (ea_cons (ev_var rfl) (ea_cons ev_c (ea_cons (ev_var rfl) ea_nil))) fun H1 e1 => ⟨a, l, m, 3, rfl, by decide, hd.mono e1, hmenu.keep (Keep.of e1), fun R ps M H2 m2 d2 k2 => ?_⟩
    have w2 : Wk a l H H2 := ((Wk.start hd).ex e1).call d2 k2
    have m2 : MatN H H2 3 R ps M := m2.back fun p hp => ((Wk.start hd).ex e1).free hp
    refine go_ret (go_call (go_cons (ev_go (ev_var rfl) fun H3 e3 => go_cons (go_call (ea_go (ea_cons (ev_var rfl) (ea_cons ev_c ea_nil)) fun H4 e4 => ⟨a, l, 3, rfl, by decide, by decide, (w2.ex (e3.trans e4)).d, fun t H5 ht d5 k5 => ?_⟩)))))
    have w5 := (w2.ex (e3.trans e4)).call d5 k5
    have m5 := (m2.mono (e3.trans e4)).call hd k5
    refine go_cons (go_call (go_cons (ev_go (ev_var rfl) fun H6 e6 => go_cons (go_call (go_cons (ev_go (ev_var rfl) fun H7 e7 => go_cons (el_go (xs := lotV [3, 3, 4]) (el_lst (ea_cons ev_c (ea_cons ev_c (ea_cons ev_c ea_nil))) (by show 3 ≤ 100000; decide)) fun z H8 nz e8 hz => go_nil ?_)))))))
    have e58 := e6.trans (e7.trans e8)
    have zz := (w5.ex (e6.trans e7)).d.fresh nz
    refine ⟨a, l, z, _, rfl, (w5.ex e58).d, hz, zz.1, zz.2, by decide, by decide, fun v H9 hv d9 k9 => ?_⟩
    obtain ⟨k, hk, rfl⟩ := List.mem_map.mp hv
    have hk4 : k ≤ 4 := by
      simp at hk
      omega
    have w9 := (w5.ex e58).call d9 k9
    have m9 := (m5.mono e58).call hd k9
    refine go_cons (ev_go (ev_var rfl) fun HA eA => go_nil ⟨a, l, m, k, rfl, by omega, (w9.ex eA).d, hmenu.keep (w9.ex eA).k, fun R2 ps2 M2 HB mB dB kB => go_nil ?_⟩)
    have wB := (w9.ex eA).call dB kB
    have mB' := (m9.mono eA).call hd kB
    refine ⟨R, R2, 3, k, t, M, M2, rfl, mB'.mat, mB.mat, ht, by omega, by omega, fun R3 ps3 M3 HD mD eD => ?_⟩
    exact q (3 + k - 1) (by omega) R3 ps3 M3 HD (mD.back fun p hp => wB.free hp) (wB.ex eD).d (wB.ex eD).k
theorem ok_Lstiff {f : Addr} {fd : FuncData} (F : Fun K "_law_stiff" "_law_stiff" sLstiff f fd) (T : Txt mg) (c_Lone : Cal P w K mg base 2 "_law_one" ["_law_deck_here", "_law_items"] spOne) (c_Lmixed : Cal P w K mg base 2 "_law_mixed" ["_law_deck_here", "_law_items"] spMixed) (c_Lnamed : Cal P w K mg base 1 "_law_named" ["_law_rows_here", "_law_naming"] spNamed) :
    FnOk P w K mg base CX0 3 f fd ["_law_deck_here", "_law_menu_here"] spGiven := by
  have nd := scLstiff.nd
  refine F.ok scLstiff (fun vs H Q E h => ?_) (fun cdv A outer s H vs Q E hr h => ?_)
  · obtain ⟨_, _, _, rfl, _⟩ := h
    rfl
  · obtain ⟨a, l, m, rfl, hd, hmenu, q⟩ := h
    refine ⟨_, (pss_cons (ps_set (i := 2) nd rfl (Or.inr rfl) (pe_cal c_Lone hr (by decide) rfl (pa_cons (pv 0) (pa_cons (pe_lst (pa_cons pe_int (pa_cons pe_int pa_nil))) pa_nil))))
        (pss_cons (ps_setLc (i := 3) (own := [("_law_thing", 7)]) rfl nd rfl rfl (sw_true rfl rfl rfl (by decide +kernel)) (pi_range1 rfl T.range (pa_cons (pv 2) pa_nil)) (blkOk_by (own := [("_law_thing", 7)]) (N := NLstiff) (sc := defScope sLstiff) (by decide +kernel)) (fun _ _ _ _ _ => (pg_name (i := 7) nd rfl (Or.inl rfl))) (fun _ _ _ _ _ => pts_nil) (fun _ _ _ _ _ => (pe_op op_rep (pe_lst (pa_cons (pe_ix (ix_listK (K := K) rfl) (pv 1) pe_int (fun _ _ => rfl)) pa_nil)) (pv 2))))
        (pss_cons (ps_for PassesOwn.never rfl (pi_range1 rfl T.range (pa_cons (pv 2) pa_nil)) (pg_name (i := 4) nd rfl (Or.inl rfl)) (pss_cons (ps_asg pe_int (pg_sub (pe_ix (ix_listK (K := K) rfl) (pv 3) (pv 4) (fun _ _ => rfl)) (pv 4) set_list))
        (pss_one (ps_for PassesOwn.never rfl (pi_range1 rfl T.range (pa_cons (pv 2) pa_nil)) (pg_name (i := 5) nd rfl (Or.inl rfl)) (pss_cons (ps_set (i := 6) nd rfl (Or.inl rfl) (pe_or (pe_and (pe_cmpR op_lt (pv 4) pe_int (nomark _)) (pe_one (pe_cmpR op_ge (pv 5) (pe_op op_add pe_int (pv 4)) (nomark _)))) (pe_one (pe_and (pe_cmpR op_lt (pv 5) pe_int (nomark _)) (pe_one (pe_cmpR op_ge (pv 4) (pe_op op_add pe_int (pv 5)) (nomark _)))))))
        (pss_one (ps_if (pt_ifExp (pt_cmpR op_eq (pv 2) pe_int (nomark _)) (pt_val (pv 6)) (pt_cmpR (op_inK (K := K) rfl) (pe_op op_mod (pe_callTy call_int1 rfl T.int bb_int (pa_cons (pe_op op_sub (pv 5) (pv 4)) pa_nil)) pe_int) (pe_tup (pa_cons pe_int (pa_cons pe_int pa_nil))) rfl)) (pss_one (ps_asg (pe_ix (ix_listK (K := K) rfl) (pv 1) pe_int (fun _ _ => rfl)) (pg_sub (pe_ix (ix_listK (K := K) rfl) (pv 3) (pv 4) (fun _ _ => rfl)) (pv 5) set_list))) pss_nil)))))))
        (pss_one (ps_ret (pe_cal c_Lnamed hr (by decide) rfl (pa_cons (pv 3) (pa_cons (pe_cal c_Lmixed hr (by decide) rfl (pa_cons (pv 0) (pa_cons (pe_listRg rfl rfl T.list (prg_1 rfl T.range (pv 2))) pa_nil))) pa_nil)))))))), ?_⟩
    -- size = one(deck, [5, 6])
    refine go_seq (go_set (go_call (go_cons (ev_go (ev_var rfl) fun H1 e1 => go_cons (el_go (xs := lotV [5, 6]) (el_lst (ea_cons ev_c (ea_cons ev_c ea_nil)) (by show 2 ≤ 100000; decide)) fun z H2 nz e2 hz => go_nil ?_)))))
    have zz := (hd.mono e1).fresh nz
    refine ⟨a, l, z, _, rfl, hd.mono (e1.trans e2), hz, zz.1, zz.2, by decide, by decide, fun v H3 hv d3 k3 => ?_⟩
    obtain ⟨n, hn, rfl⟩ := List.mem_map.mp hv
    have hn6 : n ≤ 6 := by
      simp at hn
      omega
    have w3 : Wk a l H H3 := ((Wk.start hd).ex (e1.trans e2)).call d3 k3
    obtain ⟨n0, n1, ns, hm, nm, lm⟩ := hmenu
    have hm3 := w3.at hm nm
    -- rows = [[menu[0]] * size ..]
    refine go_seq (go_set (ns_go (en_lcR (kd := .lst) (n := n) (fun i => rowV n ((fun _ _ => n0) i)) (ea_cons (ev_var rfl) ea_nil) (by omega) (fun _ => rfl) fun i H4 e4 hi => el_is (el_rep (xs := [.int n0]) (k := n) (el_lst (ea_cons (ev_ixL (i := 0) (ev_var rfl) ev_c (e4 _ _ hm3) rfl) ea_nil) (by show 1 ≤ 100000; decide)) (ev_var rfl) (by omega) (by show 1 ≤ 10; decide)) (rep_row n n0)) fun R ps H4 nw => ?_))
    have s4 : Sr a l H n R ps [(m, .lst ((n0 :: n1 :: ns).map V.int))] H4 := Sr.old ⟨w3.ex nw.ex, ⟨_, nw.matN.back fun p hp => w3.free hp⟩, fun q hq => absurd hq List.not_mem_nil⟩ hm nm
    refine q_forR1 (ea_cons (ev_var rfl) ea_nil) ⟨by omega, by omega⟩ (fun x σ H' => ∃ v4 v5 v6, σ = [some (.ref a), some (.ref m), some (nV n), some (.ref R), v4, v5, v6, none] ∧ Sr a l H n R ps [(m, .lst ((n0 :: n1 :: ns).map V.int))] H')
      (fun H5 e5 => ⟨none, none, none, rfl, s4.ex e5⟩) (fun x σ H5 hx w => ?_) (fun σ H5 w => ?_)
    · obtain ⟨v4, v5, v6, rfl, s5⟩ := w
      have hxn : x < n := by omega
      refine q_sr s5 hxn hxn (v := 0) ev_c (ev_var rfl) (ev_var rfl) (ev_var rfl) fun H6 s6 => ?_
      refine s_forR1 (n := (n : Int)) (ea_cons (ev_var rfl) ea_nil) ⟨by omega, by omega⟩ (fun y σ H' => ∃ v5 v6, σ = [some (.ref a), some (.ref m), some (nV n), some (.ref R), some (nV x), v5, v6, none] ∧ Sr a l H n R ps [(m, .lst ((n0 :: n1 :: ns).map V.int))] H')
        (fun H7 e7 => ⟨v5, v6, rfl, s6.ex e7⟩) (fun y σ H7 hy w => ?_) (fun σ H7 w => ?_)
      · obtain ⟨v5, v6, rfl, s7⟩ := w
        have hyn : y < n := by omega
        -- is_tied = ..
        refine q_asg (ev_orV (ev_andV (ev_I (i := (x : Int)) (j := 3) (ev_var rfl) ev_c) fun _ => ev_I (i := (y : Int)) (j := 3 + (x : Int)) (ev_var rfl) (ev_I (i := 3) (j := (x : Int)) ev_c (ev_var rfl))) fun _ => ev_andV (ev_I (i := (y : Int)) (j := 3) (ev_var rfl) ev_c) fun _ => ev_I (i := (x : Int)) (j := 3 + (y : Int)) (ev_var rfl) (ev_I (i := 3) (j := (y : Int)) ev_c (ev_var rfl))) fun H8 e8 => ?_
        generalize (decide ((x : Int) < 3) && decide ((y : Int) ≥ 3 + (x : Int)) || decide ((y : Int) < 3) && decide ((x : Int) ≥ 3 + (y : Int))) = tied
        have s8 := s7.ex e8
        refine s_when (et_if (c := if (n : Int) = 6 then tied else inV (.int (((y : Int) - (x : Int)) % 5)) [.int 1, .int 2]) (et_eqI (i := (n : Int)) (j := 6) (ev_var rfl) ev_c) (fun hb => ?_) fun hb => ?_) (fun hb H9 e9 => ?_) (fun hb H9 e9 => ⟨_, _, rfl, s8.ex e9⟩)
        · rw [if_pos (of_decide_eq_true hb)]
          exact et_B (ev_var rfl)
        · rw [if_neg (of_decide_eq_false hb)]
          exact et_test (ev_inU (ev_IC (i := (y : Int) - (x : Int)) (j := 5) (ev_int1 (ev_I (i := (y : Int)) (j := (x : Int)) (ev_var rfl) (ev_var rfl))) ev_c (by decide)) (eu_tup (ea_cons ev_c (ea_cons ev_c ea_nil)) (by show 2 ≤ 100000; decide)) rfl rfl)
        · exact s_sr (s8.ex e9) hxn hyn (v := n1) (ev_ixL (i := 1) (ev_var rfl) ev_c ((s8.ex e9).get List.mem_cons_self) rfl) (ev_var rfl) (ev_var rfl) (ev_var rfl) fun HA sA => ⟨_, _, rfl, sA⟩
      · obtain ⟨v5, v6, rfl, s7⟩ := w
        exact ⟨_, _, _, rfl, s7⟩
    · obtain ⟨v4, v5, v6, rfl, s5⟩ := w
      -- named(rows, mixed(list(range(size))))
      refine go_ret (go_call (go_cons (ev_go (ev_var rfl) fun H6 e6 => go_cons (go_call (go_cons (ev_go (ev_var rfl) fun H7 e7 => go_cons (el_go (el_rg (ev_var rfl) (by omega)) fun z H8 nz e8 hz => go_nil ?_)))))))
      have s8 := s5.ex (e6.trans (e7.trans e8))
      have zz := (s5.ex (e6.trans e7)).w.d.fresh nz
      refine ⟨a, l, z, _, rfl, s8.w.d, .inl hz, zz.1, zz.2, by rw [lotV_len, List.length_range]; omega, fun g ys H9 ng hg ly my d9 k9 => go_nil ?_⟩
      have s9 := s8.call d9 k9
      obtain ⟨M, m9⟩ := s9.m
      refine ⟨R, g, n, M, ys, rfl, m9.mat, hg, by rw [ly, lotV_len, List.length_range], my, by omega, fun R3 ps3 M3 HA mA eA => ?_⟩
      exact q n hn6 R3 ps3 M3 HA (mA.back fun p hp => s9.w.free hp) (s9.w.ex eA).d (s9.w.ex eA).k
end
end K25
/-! K25D14: texts of lots; _law_is_told. -/
namespace K25
open PySem PySem.Spec PyProof.Rows L2 Evl
theorem hu_of {k : Nat} {A : Around} (hr : Room k A) : A.units + 1 < cLine := by
  have := hr.units
  omega
def dLot (L : List Nat) : PyData := .tuple (datN L)
def dLots (Ls : List (List Nat)) : List PyData := Ls.map dLot
theorem dpa_lots {K : PySem.W.Frag} {H : Hp} : ∀ {ps : List Addr} {Ls : List (List Nat)}, Tups H ps Ls → DpAll K H (ps.map V.ref) (dLots Ls)
  | [], [], _ => .nil
  | p :: ps, L :: Ls, h => .cons (dp_tup (h.2 0 p L rfl rfl)) (dpa_lots ⟨Nat.succ.inj h.1, fun i q M q1 q2 => h.2 (i + 1) q M q1 q2⟩)
  | [], _ :: _, h => nomatch h.1
  | _ :: _, [], h => nomatch h.1
theorem dlots_shape : ∀ Ls : List (List Nat), PyData.canLayAll0 (dLots Ls) = true ∧ PyData.depthAll (dLots Ls) ≤ 1
  | [] => ⟨by simp [dLots, PyData.canLayAll0], by simp [dLots, PyData.depthAll]⟩
  | L :: t => by
    obtain ⟨h1, h2⟩ := dlots_shape t
    have h3 := shapeI_all (L.map fun n : Nat => (n : Int))
    rw [← datN_I] at h3
    unfold dLots at h1 h2 ⊢
    rw [List.map_cons]
    unfold dLot at h1 h2 ⊢
    exact ⟨by simp [PyData.canLayAll0, PyData.canLay0, h1, h3.1], by simp [PyData.depthAll, PyData.depth, h3.2, h2]⟩
theorem shaped_lots (Ls : List (List Nat)) : SeqAt.shaped (.list (dLots Ls)) = true := by
  obtain ⟨h1, h2⟩ := dlots_shape Ls
  simp [SeqAt.shaped, PyData.canLay0, PyData.depth, h1]
  omega
/-- small lots: their texts are short -/
def Sm (L : List Nat) : Prop := L.length ≤ 6 ∧ ∀ x ∈ L, x < 6
theorem int_show : ∀ x : Nat, x < 6 → ((x : Int).natAbs.log2 < 1920 ∧ (PyData.shown (.int (x : Int))).length ≤ 8) := by decide +kernel
theorem datN_show : ∀ {L : List Nat}, (∀ x ∈ L, x < 6) → PyData.showableAll (datN L) = true ∧ PyData.hasDictAll (datN L) = false ∧ PyData.depthAll (datN L) = 0 ∧ PyData.leavesShortAll 8 (datN L) = true ∧ PyData.bulkAll (datN L) = L.length
  | [], _ => by simp [datN, PyData.showableAll, PyData.hasDictAll, PyData.depthAll, PyData.leavesShortAll, PyData.bulkAll]
  | x :: t, h => by
    obtain ⟨h1, h2, h3, h4, h5⟩ := datN_show (L := t) fun y hy => h y (List.mem_cons_of_mem _ hy)
    obtain ⟨k1, k2⟩ := int_show x (h x List.mem_cons_self)
    unfold datN at h1 h2 h3 h4 h5 ⊢
    rw [List.map_cons]
    refine ⟨?_, ?_, ?_, ?_, ?_⟩
    · simp only [PyData.showableAll, PyData.showable, h1, Bool.and_true, decide_eq_true_eq]
      exact k1
    · simp only [PyData.hasDictAll, PyData.hasDict, h2, Bool.or_false]
    · simp only [PyData.depthAll, PyData.depth, h3, Nat.max_self]
    · simp only [PyData.leavesShortAll, PyData.leavesShort, h4, Bool.and_true, decide_eq_true_eq]
      exact k2
    · simp only [PyData.bulkAll, PyData.bulk, h5, List.length_cons]
      omega
theorem dlots_show : ∀ {Ls : List (List Nat)}, (∀ L ∈ Ls, Sm L) → PyData.showableAll (dLots Ls) = true ∧ PyData.hasDictAll (dLots Ls) = false ∧ PyData.depthAll (dLots Ls) ≤ 1 ∧ PyData.leavesShortAll 8 (dLots Ls) = true ∧ PyData.bulkAll (dLots Ls) ≤ 7 * Ls.length
  | [], _ => by simp [dLots, PyData.showableAll, PyData.hasDictAll, PyData.depthAll, PyData.leavesShortAll, PyData.bulkAll]
  | L :: t, h => by
    obtain ⟨h1, h2, h3, h4, h5⟩ := dlots_show (Ls := t) fun y hy => h y (List.mem_cons_of_mem _ hy)
    have sL := h L List.mem_cons_self
    obtain ⟨k1, k2, k3, k4, k5⟩ := datN_show sL.2
    have zL := sL.1
    unfold dLots at h1 h2 h3 h4 h5 ⊢
    rw [List.map_cons]
    unfold dLot at h1 h2 h3 h4 h5 ⊢
    refine ⟨?_, ?_, ?_, ?_, ?_⟩
    · simp only [PyData.showableAll, PyData.showable, h1, k1, Bool.and_true]
    · simp only [PyData.hasDictAll, PyData.hasDict, h2, k2, Bool.or_false]
    · simp only [PyData.depthAll, PyData.depth, k3]
      omega
    · simp only [PyData.leavesShortAll, PyData.leavesShort, h4, k4, Bool.and_true]
    · simp only [PyData.bulkAll, PyData.bulk, k5, List.length_cons]
      omega
section
variable {K : PySem.W.Frag} {σ : L2.St} {H : Hp} {ta tb te : TE} {Q : VK}
/-- repr(a lot), repr(lots) -/
theorem rr_lot {p : Addr} {L : List Nat} (hp : H p = some (.tup (lotV L))) (h : Sm L) (q : Q (.str (dLot L).shown) H) : rRepr K [.ref p] H Q := by
  obtain ⟨k1, k2, k3, k4, k5⟩ := datN_show h.2
  have zL := h.1
  have k6 : (dLot L).bulk = L.length := by
    unfold dLot
    simp only [PyData.bulk, k5]
  refine ⟨p, dLot L, rfl, dp_tup hp, ?_, ?_, ?_, PyData.shown_fits_bulk (B := 8) (by decide) (by decide) ?_ (by rw [k6]; exact Nat.le_trans zL (by decide)), q⟩
  · unfold dLot
    simp only [PyData.showable, k1]
  · unfold dLot
    simp only [PyData.hasDict, k2]
  · unfold dLot
    simp only [PyData.depth, k3]
    omega
  · unfold dLot
    simp only [PyData.leavesShort, k4]
theorem rr_lots {p : Addr} {Ls : List (List Nat)} (hp : LotsAt .tup H p Ls) (h : ∀ L ∈ Ls, Sm L) (hz : Ls.length ≤ 1000) (q : Q (.str (PyData.tuple (dLots Ls)).shown) H) : rRepr K [.ref p] H Q := by
  obtain ⟨k1, k2, k3, k4, k5⟩ := dlots_show h
  obtain ⟨ps, h1, h2⟩ := hp
  have k6 : (PyData.tuple (dLots Ls)).bulk ≤ 7 * Ls.length := by
    simp only [PyData.bulk]
    exact k5
  refine ⟨p, .tuple (dLots Ls), rfl, .tup (st_of h1) (dpa_lots h2), ?_, ?_, ?_, PyData.shown_fits_bulk (B := 8) (by decide) (by decide) ?_ (Nat.le_trans k6 (Nat.le_trans (Nat.mul_le_mul_left 7 hz) (by decide))), q⟩
  · simp only [PyData.showable, k1]
  · simp only [PyData.hasDict, k2]
  · simp only [PyData.depth]
    omega
  · simp only [PyData.leavesShort, k4]
theorem ev_reprLot {p : Addr} {L : List Nat} (h : Ev te σ H (.ref p)) (hp : H p = some (.tup (lotV L))) (hs : Sm L) : Ev (tCB (rRepr K) (tCons te tNil)) σ H (.str (dLot L).shown) := fun H1 e Q q => h H1 e _ fun H2 e2 => rr_lot ((e.trans e2) _ _ hp) hs (q H2 e2)
theorem ev_reprLots {p : Addr} {Ls : List (List Nat)} (h : Ev te σ H (.ref p)) (hp : LotsAt .tup H p Ls) (hs : ∀ L ∈ Ls, Sm L) (hz : Ls.length ≤ 1000) : Ev (tCB (rRepr K) (tCons te tNil)) σ H (.str (PyData.tuple (dLots Ls)).shown) := fun H1 e Q q => h H1 e _ fun H2 e2 => rr_lots (hp.mono (e.trans e2)) hs hz (q H2 e2)
theorem ev_eqS {x y : Str} (ha : Ev ta σ H (.str x)) (hb : Ev tb σ H (.str y)) : Ev (tOp rEq ta tb) σ H (.bl (decide (V.str x = .str y))) := ev_op ha hb (rv_eq (x := .str x) (y := .str y) rfl)
theorem ev_neS {x y : Str} (ha : Ev ta σ H (.str x)) (hb : Ev tb σ H (.str y)) : Ev (tOp rNe ta tb) σ H (.bl (!decide (V.str x = .str y))) := ev_op ha hb (rv_ne (x := .str x) (y := .str y) rfl)
/-- a new list of numbers == a new empty one; lots == [] -/
theorem ev_eqNilLL {X : List Nat} (ha : EvL ta σ H (lotV X)) (hb : EvL tb σ H []) : Ev (tOp (rEqD K) ta tb) σ H (.bl X.isEmpty) :=
  ev_opLL ha hb fun p q H1 hp hq e => fun H2 e2 Q k => ⟨.list (datN X), .list [], dp_lst (e2 _ _ hp), dp_nilL (e2 _ _ hq), shapedL_N X, shaped_nilL, by
    show Q (.bl (PyData.eqv (.list (datN X)) (.list []))) H2
    rw [show PyData.eqv (.list (datN X)) (.list []) = X.isEmpty from by
      rw [PyData.eqv, eqvAll_nil]
      cases X <;> rfl]
    exact k H2 (Ex.refl H2)⟩
theorem ev_eqNilLots {p : Addr} {Ls : List (List Nat)} (ha : Ev ta σ H (.ref p)) (hb : EvL tb σ H []) (h : LotsAt .lst H p Ls) : Ev (tOp (rEqD K) ta tb) σ H (.bl Ls.isEmpty) :=
  ev_opL ha hb fun q H1 hq e => fun H2 e2 Q k => by
    obtain ⟨ps, h1, h2⟩ := h
    refine ⟨.list (dLots Ls), .list [], .lst (sq_of (e2 _ _ (e _ _ h1))) (dpa_lots (h2.mono (e.trans e2))), dp_nilL (e2 _ _ hq), shaped_lots Ls, shaped_nilL, ?_⟩
    show Q (.bl (PyData.eqv (.list (dLots Ls)) (.list []))) H2
    rw [show PyData.eqv (.list (dLots Ls)) (.list []) = Ls.isEmpty from by
      rw [PyData.eqv, eqvAll_nil]
      cases Ls <;> rfl]
    exact k H2 (Ex.refl H2)
theorem ev_isN {x : V} (ha : Ev ta σ H x) : Ev (tOp (fun x y H Q => y = .non ∧ Q (.bl (decide (x = .non))) H) ta (tC .non)) σ H (.bl (decide (x = .non))) := ev_op ha ev_c fun H1 _ Q q => ⟨rfl, q H1 (Ex.refl H1)⟩
end
end K25
/-! K25D15: _law_is_told. -/
namespace K25
open PySem PySem.Spec PyProof.Rows L2 Evl
theorem firmLots_len {M : Nat → Nat → Int} {n : Nat} (hn : n ≤ 6) : (firmLots M n).length ≤ 80 := by
  by_cases h : 2 ≤ n
  · have := firmTo_len (M := M) hn (n - 2) (by omega)
    exact Nat.le_trans this (by omega)
  · have e : n - 2 = 0 := by omega
    unfold firmLots
    rw [e]
    exact Nat.zero_le _
theorem firmLots_sm {M : Nat → Nat → Int} {n : Nat} (hn : n ≤ 6) {L : List Nat} (h : L ∈ firmLots M n) : Sm L := by
  obtain ⟨a, _⟩ := mem_firmLots.mp h
  exact ⟨Nat.le_trans a.len hn, fun x hx => Nat.lt_of_lt_of_le (a.lt x hx) hn⟩
theorem more_sm {M : Nat → Nat → Int} {n : Nat} (hn : n ≤ 6) {L g : List Nat} (h : g ∈ more M n L) : Sm g := by
  unfold more at h
  obtain ⟨o, ho, rfl⟩ := List.mem_map.mp h
  obtain ⟨h1, h2⟩ := firmLots_sm hn (List.mem_filter.mp ho).1
  exact ⟨Nat.le_trans (List.length_filter_le _ _) h1, fun x hx => h2 x (mem_extra.mp hx).1⟩
theorem lexLt_nat : ∀ X Y : List Nat, HT.lexLt (X.map fun n : Nat => (n : Int)) (Y.map fun n : Nat => (n : Int)) = tupLt X Y
  | [], [] => rfl
  | [], _ :: _ => rfl
  | _ :: _, [] => rfl
  | x :: s, y :: t => by
    rw [List.map_cons, List.map_cons, HT.lexLt_cons, lexLt_nat s t, show tupLt (x :: s) (y :: t) = if x = y then tupLt s t else decide (x < y) from rfl]
    by_cases e : x = y
    · rw [if_pos e, if_pos (by omega)]
    · rw [if_neg e, if_neg (by omega)]
      rw [Bool.eq_iff_iff, decide_eq_true_eq, decide_eq_true_eq]
      omega
def FoundV (r : Option (List Nat)) (v : V) (H : Hp) : Prop := (r = none ∧ v = .non) ∨ ∃ few p, r = some few ∧ v = .ref p ∧ H p = some (.tup (lotV few))
theorem FoundV.mono {r : Option (List Nat)} {v : V} {H H' : Hp} (h : FoundV r v H) (e : Ex H H') : FoundV r v H' := h.imp id fun ⟨f, p, h1, h2, h3⟩ => ⟨f, p, h1, h2, e _ _ h3⟩
theorem next_go {t l : Addr} {n : Nat} {M : Nat → Nat → Int} {L : List Nat} {H : Hp} {Q : VK} {E : XK} (hT : TabAt n M H t) (hl : H l = some (.tup (lotV L))) (a : Asc n L) (f : firmB M L = true) (hn : n ≤ 40) (k : ∀ v H', Ex H H' → FoundV (nextF M n L) v H' → Q v H') : spNextFirm [.ref t, .ref l] H Q E :=
  ⟨t, l, n, M, L, rfl, hT, hl, a, f, hn, fun hn H' e => k _ H' e (.inl ⟨hn, rfl⟩), fun few p H' hs e hp => k _ H' e (.inr ⟨few, p, hs, rfl, hp⟩)⟩
section
variable {K : PySem.W.Frag} {σ : L2.St} {H : Hp} {tl : TE} {tu tz : TS} {D : Ends}
theorem go_nx (h : tz D σ H) : ({ D with nx := tz D } : Ends).nx σ H := h
theorem q_forTn {a : Addr} {xs : List V} {j : Nat} (h : Ev tl σ H (.ref a)) (hx : SqT K H a xs) (Pv : Nat → L2.St → Hp → Prop) (h0 : ∀ H1, Ex H H1 → Pv 0 σ H1) (hl : ∀ i σ' H', i ≤ xs.length → Pv i σ' H' → SqT K H' a xs)
    (hs : ∀ i x σ' H', xs[i]? = some x → Pv i σ' H' → tu { D with nx := Pv (i + 1), ct := Pv (i + 1), bk := tz D } (σ'.set j (some x)) H') (hd : ∀ σ' H', Pv xs.length σ' H' → tz D σ' H') : tSeq (tFor (iTup K tl) (gName j) tu) tz D σ H := q_forT h hx Pv h0 hl hs hd
end
/-- the place of a lot among lots -/
theorem Tups.place {H : Hp} {ps : List Addr} {Ls : List (List Nat)} (h : Tups H ps Ls) {i : Nat} {x : V} (hx : (ps.map V.ref)[i]? = some x) : ∃ p L, ps[i]? = some p ∧ ps.getD i 0 = p ∧ Ls[i]? = some L ∧ Ls.getD i [] = L ∧ x = .ref p ∧ H p = some (.tup (lotV L)) := by
  rw [List.getElem?_map] at hx
  have lt : i < ps.length := by
    rcases Nat.lt_or_ge i ps.length with h | h
    · exact h
    · rw [List.getElem?_eq_none h] at hx
      cases hx
  have lt2 : i < Ls.length := by rw [← h.1]; exact lt
  have e1 := List.getElem?_eq_getElem lt
  have e2 := List.getElem?_eq_getElem lt2
  rw [e1] at hx
  exact ⟨_, _, e1, by rw [List.getD_eq_getElem?_getD, e1]; rfl, e2, by rw [List.getD_eq_getElem?_getD, e2]; rfl, (Option.some.inj hx).symm, h.2 i _ _ e1 e2⟩
abbrev sListold : Stmt := topS 33
abbrev NListold : List Str := ["_law_table_here", "_law_told", "_law_lot", "_law_found", "_law_more", "_law_own", "_law_least", "_law_due", "_law_thing"]
theorem scListold : FnScope NListold ["_law_table_here", "_law_told", "_law_lot"] (defScope sListold) := ⟨rfl, rfl, rfl, by decide +kernel, rfl, by decide +kernel, by decide +kernel⟩
section
variable {P : Program} {w : World} {K : PySem.W.Frag} {mg : Str → Option Value} {base : Heap}
/-- _law_is_told(table, told, lot) -/
def spTold : Sp := fun vs H Q _ => ∃ (t F l : Addr) (n : Nat) (M : Nat → Nat → Int) (L : List Nat), vs = [.ref t, .ref F, .ref l] ∧ TabAt n M H t ∧ LotsAt .tup H F (firmLots M n) ∧ H l = some (.tup (lotV L)) ∧ Asc n L ∧ firmB M L = true ∧ n ≤ 6 ∧ ∀ H', Ex H H' → Q (.bl true) H'
theorem ok_Listold {f : Addr} {fd : FuncData} (F : Fun K "_law_is_told" "_law_is_told" sListold f fd) (T : Txt mg) (c_nextfirm : Cal P w K mg base 5 "next_firm" ["table", "lot"] spNextFirm) : FnG P w K mg base 6 f fd ["_law_table_here", "_law_told", "_law_lot"] spTold := by
  have nd := scListold.nd
  refine fnG_of F scListold (fun vs H Q E h => ?_) (fun cdv A outer s H vs Q hgd hr h => ?_)
  · obtain ⟨_, _, _, _, _, _, rfl, _⟩ := h
    rfl
  · obtain ⟨t, F0, l, n, M, L, rfl, hT, ⟨ps, hF, tp⟩, hl, aL, fL, hn, q⟩ := h
    refine ⟨_, (pss_cons (ps_par (i := 3) (j := 4) rfl nd rfl rfl (by decide) rfl rfl (pa_cons (pe_cal c_nextfirm hr (by decide) rfl (pa_cons (pv 0) (pa_cons (pv 2) pa_nil))) (pa_cons (pe_lst pa_nil) pa_nil)) rfl)
        (pss_cons (ps_for PassesOwn.never rfl (pi_tupK (K := K) rfl (pv 1)) (pg_name (i := 5) nd rfl (Or.inr rfl)) (pss_one (ps_if (PW.pt (pw_and (pt_cmpR (op_eqK (K := K) rfl hr.units) (pe_lc (own := [("_law_thing", 8)]) rfl nd (pi_tupK (K := K) rfl (pv 2)) (blkOk_by (own := [("_law_thing", 8)]) (N := NListold) (sc := defScope sListold) (by decide +kernel)) (fun _ _ _ _ _ => (pg_name (i := 8) nd rfl (Or.inl rfl))) (fun _ _ _ _ _ => (pts_one (pt_cmpR (op_niK (K := K) rfl) (pv 8) (pv 5) rfl))) (fun _ _ _ _ _ => (pv 8))) (pe_lst pa_nil) (nomark _)) (pw_and1 (pt_cmpR (op_neK (K := K) rfl hr.units) (pv 5) (pv 2) (nomark _))))) (pss_one (ps_expr (pe_bm PySem.F.plainAttrs_list PySem.F.slot_list_append PySem.F.type_list_append mt_append (pv 4) (pa_cons (pe_callTy (call_tupleK (K := K) rfl) rfl T.tuple bb_tuple (pa_cons (pe_lc (own := [("_law_thing", 8)]) rfl nd (pi_tupK (K := K) rfl (pv 5)) (blkOk_by (own := [("_law_thing", 8)]) (N := NListold) (sc := defScope sListold) (by decide +kernel)) (fun _ _ _ _ _ => (pg_name (i := 8) nd rfl (Or.inl rfl))) (fun _ _ _ _ _ => (pts_one (pt_cmpR (op_niK (K := K) rfl) (pv 8) (pv 2) rfl))) (fun _ _ _ _ _ => (pv 8))) pa_nil)) pa_nil)))) pss_nil)))
        (pss_cons (ps_if (PW.pt (pw_or (pt_cmpR op_isN (pv 3) pe_non (nomark _)) (pw_or1 (pt_cmpR (op_eqK (K := K) rfl hr.units) (pv 4) (pe_lst pa_nil) (nomark _))))) (pss_one (ps_ret (pe_and (pe_cmpR op_isN (pv 3) pe_non (nomark _)) (pe_one (pe_cmpR (op_eqK (K := K) rfl hr.units) (pv 4) (pe_lst pa_nil) (nomark _)))))) pss_nil)
        (pss_cons (ps_set (i := 6) nd rfl (Or.inr rfl) (pe_callB (cr_minK (K := K) rfl rfl) rfl T.min bb_min (pa_cons (pe_lc (own := [("_law_own", 5)]) rfl nd (pi_listK (K := K) rfl (pv 4)) (blkOk_by (own := [("_law_own", 5)]) (N := NListold) (sc := defScope sListold) (by decide +kernel)) (fun _ _ _ _ _ => (pg_name (i := 5) nd rfl (Or.inl rfl))) (fun _ _ _ _ _ => pts_nil) (fun _ _ _ _ _ => (pe_callB (call_lenK (K := K) rfl) rfl T.len PySem.boot_len (pa_cons (pv 5) pa_nil)))) pa_nil)))
        (pss_cons (ps_set (i := 7) nd rfl (Or.inl rfl) (pe_callB (cr_minTK (K := K) rfl rfl (hu_of hr)) rfl T.min bb_min (pa_cons (pe_lc (own := [("_law_own", 5)]) rfl nd (pi_listK (K := K) rfl (pv 4)) (blkOk_by (own := [("_law_own", 5)]) (N := NListold) (sc := defScope sListold) (by decide +kernel)) (fun _ _ _ _ _ => (pg_name (i := 5) nd rfl (Or.inl rfl))) (fun _ _ _ _ _ => (pts_one (pt_cmpR op_eq (pe_callB (call_lenK (K := K) rfl) rfl T.len PySem.boot_len (pa_cons (pv 5) pa_nil)) (pv 6) (nomark _)))) (fun _ _ _ _ _ => (pv 5))) pa_nil)))
        (pss_one (ps_ret (pe_and (pe_cmpR op_lt (pv 6) pe_int (nomark _)) (pe_one (pe_cmpR op_eq (pe_callB (cr_reprK (K := K) rfl hgd hr.units) rfl T.repr bb_repr (pa_cons (pv 3) pa_nil)) (pe_callB (cr_reprK (K := K) rfl hgd hr.units) rfl T.repr bb_repr (pa_cons (pv 7) pa_nil)) (nomark _))))))))))), ?_⟩
    have fl := firmLots_len (M := M) hn
    have zL := aL.len
    -- found, more = next_firm(table, lot), []
    refine go_seq (go_par (go_cons (go_call (ea_go (ea_cons (ev_var rfl) (ea_cons (ev_var rfl) ea_nil)) fun H1 e1 => next_go (hT.mono e1) (e1 _ _ hl) aL fL (by omega) fun v H2 e2 hv => go_cons (el_go el_nil fun m H3 nm e3 hm => go_nil ⟨_, _, rfl, ?_⟩)))))
    have e02 := e1.trans e2
    have hF2 := e02 _ _ hF
    have hl2 := e02 _ _ hl
    have tp2 := tp.mono e02
    -- for own in told
    refine q_forTn (ev_var rfl) (st_of (e3 _ _ hF2)) (fun i σ H' => ∃ v5 qs, σ = [some (.ref t), some (.ref F0), some (.ref l), some v, some (.ref m), v5, none, none, none] ∧ Ex H2 H' ∧ H' m = some (.lst (qs.map .ref)) ∧ Tups H' qs ((((firmLots M n).take i).filter (isMore L)).map (extra L)))
      (fun H4 e4 => ⟨none, [], rfl, e3.trans e4, e4 _ _ hm, Tups.nil⟩) (fun i σ H' _ w => ?_) (fun i x σ H4 hx w => ?_) (fun σ H4 w => ?_)
    · obtain ⟨_, _, _, e, _⟩ := w
      exact st_of (e _ _ hF2)
    · obtain ⟨v5, qs, rfl, e4, hm4, tq⟩ := w
      obtain ⟨pa, O, _, _, hO, _, rfl, hpa⟩ := (tp2.mono e4).place hx
      have zO := (firmLots_sm hn (List.mem_of_getElem? hO)).1
      have hl4 := e4 _ _ hl2
      have tk : (((firmLots M n).take (i + 1)).filter (isMore L)).map (extra L) = (((firmLots M n).take i).filter (isMore L)).map (extra L) ++ if isMore L O = true then [extra L O] else [] := by
        rw [List.take_add_one, hO, Option.toList_some, List.filter_append, List.filter_cons, List.map_append]
        congr 1
        split <;> rfl
      have qz : qs.length ≤ 80 := by
        rw [tq.1, List.length_map]
        exact Nat.le_trans (List.length_filter_le _ _) (Nat.le_trans (List.length_take_le' ..) fl)
      refine s_when (et_and (et_test (ev_eqNilLL (X := L.filter fun t => !decide (t ∈ O)) (el_is (el_lcT (fun j => !decide (L.getD j 0 ∈ O)) (fun j => nV (L.getD j 0)) (ev_var rfl) (st_of hl4) (by rw [lotV_len]; omega) (fun _ => rfl) (fun j y H5 e5 hj => ?_) (fun j y H5 e5 hj _ => ?_)) ?_) el_nil)) fun _ => et_test (ev_neTT (ev_var rfl) (ev_var rfl) hpa hl4)) (fun hb H5 e5 => ?_) (fun hb H5 e5 => ?_)
      · obtain ⟨z, hz, rfl⟩ := of_lotV hj
        rw [getD_of hz]
        exact et_niT (ev_var rfl) (ev_var rfl) (e5 _ _ hpa)
      · obtain ⟨z, hz, rfl⟩ := of_lotV hj
        rw [getD_of hz]
        exact ev_var rfl
      · rw [lotV_len]
        exact given_filter L 0 (fun t => !decide (t ∈ O)) nV
      · have im : isMore L O = true := hb
        refine s_appU (ys := lotV (extra L O)) (e5 _ _ hm4) (ev_var rfl) (eu_tupL (el_is (el_lcT (fun j => !decide (O.getD j 0 ∈ L)) (fun j => nV (O.getD j 0)) (ev_var rfl) (st_of (e5 _ _ hpa)) (by rw [lotV_len]; omega) (fun _ => rfl) (fun j y H6 e6 hj => ?_) (fun j y H6 e6 hj _ => ?_)) ?_)) (by rw [List.length_map]; omega) fun r H6 nr e6 hr6 => ?_
        · obtain ⟨z, hz, rfl⟩ := of_lotV hj
          rw [getD_of hz]
          exact et_niT (ev_var rfl) (ev_var rfl) (e6 _ _ (e5 _ _ hl4))
        · obtain ⟨z, hz, rfl⟩ := of_lotV hj
          rw [getD_of hz]
          exact ev_var rfl
        · rw [lotV_len]
          exact given_filter O 0 (fun t => !decide (t ∈ L)) nV
        · refine ⟨_, qs ++ [r], rfl, Ex.mut (e4.trans (e5.trans e6)) nm, by rw [upd_same, List.map_append]; rfl, ?_⟩
          rw [tk, if_pos im]
          exact ((tq.mono (e5.trans e6)).snoc hr6).upd (e6 _ _ (e5 _ _ hm4))
      · have im : isMore L O = false := hb
        refine ⟨_, qs, rfl, e4.trans e5, e5 _ _ hm4, ?_⟩
        rw [tk, im, if_neg (by decide), List.append_nil]
        exact tq.mono e5
    · obtain ⟨v5, qs, rfl, e4, hm4, tq⟩ := w
      rw [List.length_map, tp.1, List.take_length] at tq
      have tq : Tups H4 qs (more M n L) := tq
      have key : decide (v = .non) = (more M n L).isEmpty := by
        rw [Bool.eq_iff_iff, decide_eq_true_eq, List.isEmpty_iff, ← next_none aL fL]
        rcases hv with ⟨h1, h2⟩ | ⟨few, p, h1, h2, _⟩
        · exact ⟨fun _ => h1, fun _ => h2⟩
        · constructor
          · intro e
            rw [h2] at e
            cases e
          · intro e
            rw [h1] at e
            cases e
      -- if found is None or more == []
      refine q_when (et_or (et_test (ev_isN (ev_var rfl))) fun _ => et_test (ev_eqNilLots (ev_var rfl) el_nil ⟨qs, hm4, tq⟩)) (fun hb H5 e5 => ?_) (fun hb H5 e5 => ?_)
      · rw [key, Bool.or_self] at hb
        refine s_ret (ev_andV (ev_isN (ev_var rfl)) fun _ => ev_eqNilLots (ev_var rfl) el_nil ⟨qs, e5 _ _ hm4, tq.mono e5⟩) fun H6 e6 => ?_
        rw [key, hb]
        exact q H6 (e02.trans (e4.trans (e5.trans e6)))
      · rw [key, Bool.or_self] at hb
        have ne : more M n L ≠ [] := fun z => by rw [z] at hb; cases hb
        obtain ⟨few, pf, hfew, rfl, hpf⟩ : ∃ few p, nextF M n L = some few ∧ v = .ref p ∧ H2 p = some (.tup (lotV few)) := by
          rcases hv with ⟨h1, h2⟩ | h
          · exact absurd ((next_none aL fL).mp h1) ne
          · exact h
        have hm5 := e5 _ _ hm4
        have tq := tq.mono e5
        have ms : ∀ g ∈ more M n L, Sm g := fun g hg => more_sm hn hg
        have mz : (more M n L).length ≤ 80 := by
          unfold more
          rw [List.length_map]
          exact Nat.le_trans (List.length_filter_le _ _) fl
        have fsm := ms few (next_some aL hfew).1
        have due := fun (m : List Nat) (k : Nat) => next_due (m := m) (k := k) aL hfew
        generalize more M n L = mL at tq ne ms mz due
        have qz : qs.length ≤ 80 := by rw [tq.1]; exact mz
        -- least = min([len(own) ..])
        refine go_seq (go_set (go_cb (go_cons (el_go (el_is (ys := (mL.map fun g => (g.length : Int)).map V.int) (el_lcL (fun _ => true) (fun j => nV (mL.getD j []).length) (ev_var rfl) (sq_of hm5) (by rw [List.length_map]; omega) (fun _ => rfl) (fun _ _ _ _ _ => et_yes) fun j x H6 e6 hx _ => ?_) ?_) fun c H6 nc e6 hc => go_nil ⟨c, _, rfl, sq_of hc, ?_, fun k hk hmin => ?_⟩))))
        · obtain ⟨p, g, _, _, _, hg, rfl, hp⟩ := tq.place hx
          rw [hg]
          exact ev_is (ev_lenT (ev_var rfl) (e6 _ _ hp)) (by rw [lotV_len])
        · rw [given_all, List.length_map, tq.1, List.map_map, range_map_get mL [] fun g => nV g.length]
          rfl
        · rw [List.length_map]
          exact List.length_pos_iff.mpr ne
        · obtain ⟨g, hg, rfl⟩ := List.mem_map.mp hk
          have kl : ∀ g' ∈ mL, g.length ≤ g'.length := fun g' hg' => by
            have := hmin _ (List.mem_map.mpr ⟨g', hg', rfl⟩)
            omega
          have hm6 := e6 _ _ hm5
          have tq6 := tq.mono e6
          obtain ⟨rs, er, tr⟩ := tups_given tq6 fun g' => decide (g'.length = g.length)
          -- due = min([own .. if len(own) == least])
          refine go_seq (go_set (go_cb (go_cons (el_go (el_is (ys := rs.map .ref) (el_lcL (fun j => decide ((mL.getD j []).length = g.length)) (fun j => V.ref (qs.getD j 0)) (ev_var rfl) (sq_of hm6) (by rw [List.length_map]; omega) (fun _ => rfl) (fun j x H7 e7 hx => ?_) fun j x H7 e7 hx _ => ?_) ?_) fun d H7 ndd e7 hd => go_nil ⟨d, rs, (mL.filter fun g' => decide (g'.length = g.length)).map fun X => X.map fun n : Nat => (n : Int), rfl, sq_of hd, ⟨?_, fun i p X h1 h2 => ?_⟩, ?_, fun i p X h1 h2 least => ?_⟩))))
          · obtain ⟨p, g', _, _, _, hg', rfl, hp⟩ := tq6.place hx
            rw [hg']
            exact et_eqN (i := g'.length) (j := g.length) (ev_is (ev_lenT (ev_var rfl) (e7 _ _ hp)) (by rw [lotV_len])) (ev_var rfl)
          · obtain ⟨p, g', _, hp', _, _, rfl, hp⟩ := tq6.place hx
            rw [hp']
            exact ev_var rfl
          · rw [List.length_map]
            exact er
          · rw [List.length_map]
            exact tr.1
          · rw [List.getElem?_map] at h2
            cases h3 : (mL.filter fun g' => decide (g'.length = g.length))[i]? with
            | none => rw [h3] at h2; cases h2
            | some Y =>
              rw [h3] at h2
              obtain rfl := Option.some.inj h2
              refine st_of ?_
              rw [← lotV_I]
              exact e7 _ _ (tr.2 i p Y h1 h3)
          · rw [tr.1]
            exact List.length_pos_iff.mpr fun z => by
              have : g ∈ mL.filter fun g' => decide (g'.length = g.length) := List.mem_filter.mpr ⟨hg, decide_eq_true rfl⟩
              rw [z] at this
              cases this
          · rw [List.getElem?_map] at h2
            cases h3 : (mL.filter fun g' => decide (g'.length = g.length))[i]? with
            | none => rw [h3] at h2; cases h2
            | some Y =>
              rw [h3] at h2
              obtain rfl := Option.some.inj h2
              obtain ⟨k3, rfl⟩ := due Y g.length ⟨g, hg, rfl⟩ kl (List.mem_of_getElem? h3) fun g' hg' => by
                rw [← lexLt_nat]
                exact least _ (List.mem_map.mpr ⟨g', hg', rfl⟩)
              have hp7 := e7 _ _ (tr.2 i p Y h1 h3)
              have e27 := e4.trans (e5.trans (e6.trans e7))
              refine go_nx ?_
              refine s_ret (v := .bl (decide ((g.length : Int) < 3) && decide (V.str (dLot Y).shown = .str (dLot Y).shown))) (ev_andV ?_ fun _ => ev_eqS ?_ ?_) fun H8 e8 => ?_
              · exact ev_I (i := (g.length : Int)) (j := 3) (ev_var rfl) ev_c
              · exact ev_reprLot (ev_var rfl) (e27 _ _ hpf) fsm
              · exact ev_reprLot (ev_var rfl) hp7 fsm
              rw [decide_eq_true (show (g.length : Int) < 3 by omega), decide_eq_true rfl]
              exact q H8 (e02.trans (e27.trans e8))
end
end K25
/-! K25D16: _law_is_right. -/
namespace K25
open PySem PySem.Spec PyProof.Rows L2 Evl
/-- a matrix that is no part of the deck -/
def MatD (a l : Addr) (n : Nat) (M : Nat → Nat → Int) (H : Hp) (R : Addr) : Prop :=
  ∃ ps : List Addr, ps.length = n ∧ H R = some (.lst (ps.map .ref)) ∧ (∀ (i : Nat) (p : Addr), ps[i]? = some p → H p = some (.lst (rowV n (M i)))) ∧ (R ≠ a ∧ R ≠ l) ∧ ∀ p ∈ ps, p ≠ a ∧ p ≠ l
section
variable {a l R p : Addr} {n : Nat} {M : Nat → Nat → Int} {H0 H H' : Hp} {ps : List Addr}
theorem MatN.matD (m : MatN H0 H n R ps M) (d : Deck a l H0) : MatD a l n M H R := ⟨ps, m.len, m.top, m.row, (m.ne d).1, (m.ne d).2⟩
theorem MatD.mat (m : MatD a l n M H R) : Mat .lst n M H R := let ⟨ps, h1, h2, h3, _⟩ := m; ⟨ps, h1, h2, h3⟩
theorem MatD.mono (m : MatD a l n M H R) (e : Ex H H') : MatD a l n M H' R := let ⟨ps, h1, h2, h3, h4, h5⟩ := m; ⟨ps, h1, e _ _ h2, fun i p q => e _ _ (h3 i p q), h4, h5⟩
theorem MatD.keep (m : MatD a l n M H R) (k : Keep a l H H') : MatD a l n M H' R :=
  let ⟨ps, h1, h2, h3, h4, h5⟩ := m
  ⟨ps, h1, k.at h4.1 h4.2 h2, fun i p q => k.at (h5 p (List.mem_of_getElem? q)).1 (h5 p (List.mem_of_getElem? q)).2 (h3 i p q), h4, h5⟩
theorem Deck.tup {xs : List V} (d : Deck a l H) (h : H p = some (.tup xs)) : p ≠ a ∧ p ≠ l := by
  obtain ⟨_, _, _, h1, h2⟩ := d
  exact ⟨ne_of h h1 (fun e => nomatch e), ne_of h h2 (fun e => nomatch e)⟩
theorem keep_tup {xs : List V} (d : Deck a l H) (k : Keep a l H H') (h : H p = some (.tup xs)) : H' p = some (.tup xs) := k.at (d.tup h).1 (d.tup h).2 h
theorem Mat.keepT (m : Mat .tup n M H R) (d : Deck a l H) (k : Keep a l H H') : Mat .tup n M H' R :=
  let ⟨ps, h1, h2, h3⟩ := m
  ⟨ps, h1, keep_tup d k h2, fun i p q => keep_tup d k (h3 i p q)⟩
theorem TabAt.keep (m : TabAt n M H R) (d : Deck a l H) (k : Keep a l H H') : TabAt n M H' R :=
  let ⟨r, h1, h2⟩ := m
  ⟨r, keep_tup d k h1, h2.keepT d k⟩
theorem Tups.keep {Ls : List (List Nat)} (t : Tups H ps Ls) (d : Deck a l H) (k : Keep a l H H') : Tups H' ps Ls := ⟨t.1, fun i p L q1 q2 => keep_tup d k (t.2 i p L q1 q2)⟩
end
theorem cut_mem {xs : List V} {lo hi : Option Int} : (∀ y ∈ cutV xs lo hi, y ∈ xs) ∧ (cutV xs lo hi).length ≤ xs.length := by
  unfold cutV
  refine ⟨fun y h => List.mem_of_mem_drop (List.mem_of_mem_take h), ?_⟩
  rw [List.length_take, List.length_drop]
  omega
section
variable {K : PySem.W.Frag} {σ : L2.St} {H : Hp} {te : TE} {tl th : TO} {Q : VK}
/-- list(t[..]) of a tuple: some of its items -/
theorem go_cutT {a : Addr} {xs : List V} {lo hi : Option Int} (h : Ev te σ H (.ref a)) (h1 : EvO tl σ H lo) (h2 : EvO th σ H hi) (hs : H a = some (.tup xs)) (k : ∀ p ys H1, H p = none → Ex H H1 → H1 p = some (.lst ys) → (∀ y ∈ ys, y ∈ xs) → ys.length ≤ xs.length → Q (.ref p) H1) :
    tCB (rList2 K) (tCons (tSl (rSlA K) te tl th) tNil) σ H Q := h H (Ex.refl H) _ fun H1 e1 => h1 H1 e1 _ fun H2 e2 => h2 H2 (e1.trans e2) _ fun H3 e3 => by
  have e := (e1.trans e2).trans e3
  refine ⟨a, xs, rfl, st_of (e _ _ hs), fun _ => ?_, fun _ p np => ?_⟩
  · refine ⟨a, xs, rfl, Or.inr (st_of (e _ _ hs)), fun q nq => k q xs _ (fresh_back e nq) (e.trans (Ex.new nq)) upd_same (fun y h => h) (Nat.le_refl _)⟩
  · have e4 := e.trans (Ex.new (o := .tup (cutV xs lo hi)) np)
    exact ⟨p, _, rfl, Or.inr (st_of upd_same), fun q nq => k q _ _ (fresh_back e4 nq) (e4.trans (Ex.new nq)) upd_same cut_mem.1 cut_mem.2⟩
theorem go_sl {to : TO} {r : V → Option Int → Option Int → Hp → VK → Prop} (h : te σ H fun x H1 => tl σ H1 fun lo H2 => to σ H2 fun hi H3 => r x lo hi H3 Q) : tSl r te tl to σ H Q := h
theorem eo_go {lo : Option Int} {QO : Option Int → Hp → Prop} (h : EvO tl σ H lo) (k : ∀ H1, Ex H H1 → QO lo H1) : tl σ H QO := h H (Ex.refl H) _ k
theorem sv_Lisfirm {R l : Addr} {n : Nat} {M : Nat → Nat → Int} {L : List Nat} (hM : Mat .lst n M H R) (hl : H l = some (.tup (lotV L))) (a : Asc n L) (hn : n ≤ 6) : SpV spLisfirm [.ref R, .ref l] H (.bl (firmB M L)) := fun H1 e Q q E =>
  ⟨R, l, n, M, L, rfl, hM.mono e, e _ _ hl, a.lt, a.nd, by have := a.len; omega, fun c H2 e2 hc => by
    rw [show c = firmB M L from by rw [Bool.eq_iff_iff, hc, firmB_iff a.nd]]
    exact q H2 e2⟩
end
theorem allLots_asc {n : Nat} {L : List Nat} (h : L ∈ allLots n) : Asc n L := by
  unfold allLots at h
  obtain ⟨k, _, hk⟩ := List.mem_flatMap.mp h
  exact ((mem_lots k L).mp hk).2
theorem allLots_len {n : Nat} (hn : n ≤ 6) : (allLots n).length ≤ 140 := Nat.le_trans (lotsTo_len hn (n + 1) (by omega)) (by omega)
theorem ite_f {X Y : Prop} (h : Y) : if (!true) = true then X else Y := h
abbrev sLisright : Stmt := topS 34
abbrev NLisright : List Str := ["_law_deck_here", "_law_rows_here", "_law_table_here", "_law_told", "_law_lots_here", "_law_lot"]
theorem scLisright : FnScope NLisright ["_law_deck_here", "_law_rows_here"] (defScope sLisright) := ⟨rfl, rfl, rfl, by decide +kernel, rfl, by decide +kernel, by decide +kernel⟩
section
variable {P : Program} {w : World} {K : PySem.W.Frag} {mg : Str → Option Value} {base : Heap}
/-- _law_is_right(deck, rows) -/
def spRight : Sp := fun vs H Q _ => ∃ (a l R : Addr) (n : Nat) (M : Nat → Nat → Int), vs = [.ref a, .ref R] ∧ Deck a l H ∧ MatD a l n M H R ∧ n ≤ 6 ∧ ∀ H', Deck a l H' → Keep a l H H' → Q (.bl true) H'
theorem ok_Lisright {f : Addr} {fd : FuncData} (F : Fun K "_law_is_right" "_law_is_right" sLisright f fd) (T : Txt mg) (c_Ltable : Cal P w K mg base 1 "_law_table" ["_law_rows_here"] spTable) (c_firmlots : Cal P w K mg base 3 "firm_lots" ["table"] spFirmLots) (c_Llots : Cal P w K mg base 1 "_law_lots" ["_law_size"] spLlots)
    (c_Lisfirm : Cal P w K mg base 2 "_law_is_firm" ["_law_rows_here", "_law_lot"] spLisfirm) (c_Lmixed : Cal P w K mg base 2 "_law_mixed" ["_law_deck_here", "_law_items"] spMixed) (c_Listold : CalG P w K mg base 6 "_law_is_told" ["_law_table_here", "_law_told", "_law_lot"] spTold) : FnG P w K mg base 7 f fd ["_law_deck_here", "_law_rows_here"] spRight := by
  have nd := scLisright.nd
  refine fnG_of F scLisright (fun vs H Q E h => ?_) (fun cdv A outer s H vs Q hgd hr h => ?_)
  · obtain ⟨_, _, _, _, _, rfl, _⟩ := h
    rfl
  · obtain ⟨a, l, R, n, M, rfl, hd, hM, hn, q⟩ := h
    refine ⟨_, (pss_cons (ps_set (i := 2) nd rfl (Or.inr rfl) (pe_cal c_Ltable hr (by decide) rfl (pa_cons (pv 1) pa_nil)))
        (pss_cons (ps_set (i := 3) nd rfl (Or.inr rfl) (pe_cal c_firmlots hr (by decide) rfl (pa_cons (pv 2) pa_nil)))
        (pss_cons (ps_if (pt_cmpR op_ne (pe_callB (cr_reprK (K := K) rfl hgd hr.units) rfl T.repr bb_repr (pa_cons (pv 3) pa_nil)) (pe_callB (cr_reprK (K := K) rfl hgd hr.units) rfl T.repr bb_repr (pa_cons (pe_callTy (call_tupleK (K := K) rfl) rfl T.tuple bb_tuple (pa_cons (pe_lc (own := [("_law_lot", 5)]) rfl nd (pi_listK (K := K) rfl (pe_cal c_Llots hr (by decide) rfl (pa_cons (pe_callB (call_lenK (K := K) rfl) rfl T.len PySem.boot_len (pa_cons (pv 1) pa_nil)) pa_nil))) (blkOk_by (own := [("_law_lot", 5)]) (N := NLisright) (sc := defScope sLisright) (by decide +kernel)) (fun _ _ _ _ _ => (pg_name (i := 5) nd rfl (Or.inl rfl))) (fun _ _ _ _ _ => (pts_one (pt_val (pe_cal c_Lisfirm hr (by decide) rfl (pa_cons (pv 1) (pa_cons (pv 5) pa_nil)))))) (fun _ _ _ _ _ => (pv 5))) pa_nil)) pa_nil)) (nomark _)) (pss_one (ps_ret pe_bl)) pss_nil)
        (pss_cons (ps_set (i := 4) nd rfl (Or.inl rfl) (pe_op op_cat (pe_op op_cat (pe_callTy (call_listK (K := K) rfl) rfl T.list bb_list (pa_cons (pe_slice (sl_tupK (K := K) rfl) (pv 3) po_none (po_some pe_int)) pa_nil)) (pe_slice (sl_listK (K := K) rfl) (pe_cal c_Lmixed hr (by decide) rfl (pa_cons (pv 0) (pa_cons (pv 3) pa_nil))) po_none (po_some pe_int))) (pe_callTy (call_listK (K := K) rfl) rfl T.list bb_list (pa_cons (pe_slice (sl_tupK (K := K) rfl) (pv 3) (po_some (pe_un un_neg pe_int)) po_none) pa_nil))))
        (pss_one (ps_ret (pe_cmpR (op_eqK (K := K) rfl hr.units) (pe_lc (own := [("_law_lot", 5)]) rfl nd (pi_listK (K := K) rfl (pv 4)) (blkOk_by (own := [("_law_lot", 5)]) (N := NLisright) (sc := defScope sLisright) (by decide +kernel)) (fun _ _ _ _ _ => (pg_name (i := 5) nd rfl (Or.inl rfl))) (fun _ _ _ _ _ => (pts_one (pt_not (pt_val (pe_calG' c_Listold hgd hr (by decide) rfl (pa_cons (pv 2) (pa_cons (pv 3) (pa_cons (pv 5) pa_nil)))))))) (fun _ _ _ _ _ => pe_int)) (pe_lst pa_nil) (nomark _)))))))), ?_⟩
    have fl := firmLots_len (M := M) hn
    -- table, told
    refine q_asgC (ea_cons (ev_var rfl) ea_nil) fun H1 e1 => ⟨R, n, M, rfl, (hM.mono e1).mat, by omega, fun t H2 e2 hT => ?_⟩
    refine q_asgC (ea_cons (ev_var rfl) ea_nil) fun H3 e3 => ⟨t, n, M, rfl, hT.mono e3, hn, fun F0 H4 e4 lt => ?_⟩
    have e04 := (e1.trans e2).trans (e3.trans e4)
    have hT4 := hT.mono (e3.trans e4)
    have hM4 := hM.mono e04
    -- if repr(told) != repr(tuple([..]))
    refine q_when (b := false) (fun H5 e5 Q q => ?_) (fun hb => nomatch hb) fun _ H5 e5 => ?_
    · refine go_test (go_op (ev_go (ev_reprLots (ev_var rfl) (lt.mono e5) (fun L h => firmLots_sm hn h) (by omega)) fun H6 e6 => go_cb (go_cons (go_cb (go_cons (go_lc (go_call (ea_go (ea_cons (x := nV n) ?_ ea_nil) fun H7 e7 => ⟨n, rfl, hn, fun p H8 e8 la => ?_⟩))))))))
      · obtain ⟨ps0, lp0, hR0, _⟩ := hM4
        exact ev_is (ev_lenL (ev_var rfl) (e6 _ _ (e5 _ _ hR0))) (by rw [List.length_map, lp0])
      · obtain ⟨us, hp, tu⟩ := la
        have az := allLots_len hn
        have e58 := e5.trans (e6.trans (e7.trans e8))
        refine ⟨p, rfl, ⟨_, sq_of hp⟩, lc_r (xs := us.map .ref) (fun k => firmB M ((allLots n).getD k [])) (fun k => V.ref (us.getD k 0)) (sq_of hp) (by rw [List.length_map, tu.1]; omega) (fun _ => rfl) (fun k x H9 e9 hx => ?_) (fun k x H9 e9 hx _ => ?_) fun p' H9 np' e9 hp' => go_nil ?_⟩
        · obtain ⟨pa, L, _, _, hL, hL2, rfl, hpa⟩ := tu.place hx
          rw [hL2]
          exact et_B (ev_call (ea_cons (ev_var rfl) (ea_cons (ev_var rfl) ea_nil)) (sv_Lisfirm (hM4.mono (e58.trans e9)).mat (e9 _ _ hpa) (allLots_asc (List.mem_of_getElem? hL)) hn))
        · obtain ⟨pa, L, _, hpa', _, _, rfl, hpa⟩ := tu.place hx
          rw [hpa']
          exact ev_var rfl
        · obtain ⟨rs, er, tr⟩ := tups_given tu (firmB M)
          rw [List.length_map, er] at hp'
          rw [firm_all] at tr
          refine ⟨p', _, rfl, Or.inl ⟨sq_of hp', fun u nu => go_nil ?_⟩⟩
          refine rr_lots (Ls := firmLots M n) ⟨rs, upd_same, tr.mono (e9.trans (Ex.new nu))⟩ (fun L h => firmLots_sm hn h) (by omega) ⟨rfl, _, rfl, ?_⟩
          rw [decide_eq_true rfl]
          exact q _ ((e6.trans (e7.trans e8)).trans (e9.trans (Ex.new nu)))
    · have e05 := e04.trans e5
      obtain ⟨ps, hF, tp⟩ := lt
      have hF5 := e5 _ _ hF
      have tp5 := tp.mono e5
      have pz : (ps.map V.ref).length ≤ 80 := by rw [List.length_map, tp.1]; exact fl
      -- lots = ..
      refine go_seq (go_set (go_op (go_op (go_cutT (lo := none) (hi := some 3) (ev_var rfl) eo_none (eo_some ev_c) hF5 fun p1 ys1 H6 np1 e6 hp1 my1 ly1 => ?_))))
      have d6 := hd.mono (e05.trans e6)
      have n1 := (hd.mono e05).fresh np1
      have hF6 := e6 _ _ hF5
      refine go_sl (go_call (ea_go (ea_cons (ev_var rfl) (ea_cons (ev_var rfl) ea_nil)) fun H7 e7 => ⟨a, l, F0, _, rfl, d6.mono e7, .inr (e7 _ _ hF6), (d6.tup hF6).1, (d6.tup hF6).2, by omega, fun g ys2 H8 ng hg ly2 my2 d8 k8 => ?_⟩))
      refine eo_go (lo := none) eo_none fun H9 e9 => eo_go (lo := some 3) (eo_some ev_c) fun HA eA => ⟨g, ys2, rfl, sq_of ((e9.trans eA) _ _ hg), fun p2 np2 => ?_⟩
      have k6A : Keep a l H6 HA := ((Keep.of e7).trans k8).ex (e9.trans eA)
      have dA := d8.mono (e9.trans eA)
      have hp1A := k6A.at n1.1 n1.2 hp1
      have n12 : p1 ≠ p2 := ne_of_none hp1A np2
      have xB : Ex HA (upd HA p2 (.lst (cutV ys2 none (some 3)))) := Ex.new np2
      have hp2 : (upd HA p2 (.lst (cutV ys2 none (some 3)))) p2 = some (.lst (cutV ys2 none (some 3))) := upd_same
      generalize upd HA p2 (.lst (cutV ys2 none (some 3))) = HB at xB hp2
      have c2 := cut_mem (xs := ys2) (lo := none) (hi := some 3)
      generalize cutV ys2 none (some 3) = ys3 at hp2 c2
      have zz : ys2.length ≤ 80 := by omega
      refine ⟨p1, p2, ys1, ys3, rfl, rfl, xB _ _ hp1A, hp2, sz_of (by omega), fun p3 np3 => ?_⟩
      have xC : Ex HB (upd HB p3 (.lst (ys1 ++ ys3))) := Ex.new np3
      have hp3 : (upd HB p3 (.lst (ys1 ++ ys3))) p3 = some (.lst (ys1 ++ ys3)) := upd_same
      generalize upd HB p3 (.lst (ys1 ++ ys3)) = HC at xC hp3
      have k5C : Keep a l H5 HC := (Keep.of e6).trans (k6A.ex (xB.trans xC))
      have d5 := hd.mono e05
      have hFC := keep_tup d5 k5C hF5
      refine go_cutT (lo := some (-1)) (hi := none) (ev_var rfl) (eo_some (ev_un ev_c ru_neg)) eo_none hFC fun p4 ys4 HD np4 eD hp4 my4 ly4 => ?_
      refine ⟨p3, p4, _, ys4, rfl, rfl, eD _ _ hp3, hp4, by rw [List.length_append]; exact sz_of (by omega), fun p5 np5 => go_nx ?_⟩
      have xE : Ex HD (upd HD p5 (.lst (ys1 ++ ys3 ++ ys4))) := Ex.new np5
      have hp5 : (upd HD p5 (.lst (ys1 ++ ys3 ++ ys4))) p5 = some (.lst (ys1 ++ ys3 ++ ys4)) := upd_same
      generalize upd HD p5 (.lst (ys1 ++ ys3 ++ ys4)) = HE at xE hp5
      have mz : ∀ y ∈ ys1 ++ ys3 ++ ys4, y ∈ ps.map V.ref := fun y hy => by
        rcases List.mem_append.mp hy with hy | hy
        · rcases List.mem_append.mp hy with hy | hy
          · exact my1 y hy
          · exact my2 y (c2.1 y hy)
        · exact my4 y hy
      have lz : (ys1 ++ ys3 ++ ys4).length ≤ 1000 := by
        rw [List.length_append, List.length_append]
        omega
      generalize ys1 ++ ys3 ++ ys4 = zs at hp5 mz lz
      have k5E : Keep a l H5 HE := k5C.ex (eD.trans xE)
      have hTE := (hT4.mono e5).keep d5 k5E
      have hFE := keep_tup d5 k5E hF5
      have tE := tp5.keep d5 k5E
      have dE : Deck a l HE := dA.mono ((xB.trans xC).trans (eD.trans xE))
      refine s_ret (ev_eqNilLL (X := []) (el_is (el_lcL (fun _ => false) (fun _ => .int 1) (ev_var rfl) (sq_of hp5) (by omega) (fun _ => rfl) (fun i x HF eF hx => ?_) (fun i x HF eF hx hf => nomatch hf)) ?_) el_nil) fun HF eF => q HF (dE.mono eF) (((Keep.of e05).trans k5E).ex eF)
      · obtain ⟨i', hi', ei⟩ := List.getElem_of_mem (mz x (List.mem_of_getElem? hx))
        obtain ⟨pa, L, _, _, hL, _, rfl, hpa⟩ := tE.place (i := i') (x := x) (by rw [List.getElem?_eq_getElem hi', ei])
        have mL := mem_firmLots.mp (List.mem_of_getElem? hL)
        refine et_not (a := true) (et_B (ev_call (ea_cons (ev_var rfl) (ea_cons (ev_var rfl) (ea_cons (ev_var rfl) ea_nil))) fun H1 e1 Q q E => ?_))
        exact ⟨t, F0, pa, n, M, L, rfl, hTE.mono (eF.trans e1), ⟨ps, (eF.trans e1) _ _ hFE, tE.mono (eF.trans e1)⟩, (eF.trans e1) _ _ hpa, mL.1, mL.2, hn, fun H' e' => q H' e'⟩
      · unfold given
        rw [List.filter_eq_nil_iff.mpr fun _ _ => by decide]
        rfl
end
end K25
/-! K25D17: law. -/
namespace K25
open PySem PySem.Spec PyProof.Rows L2 Evl
/-- lists of numbers made one behind the other -/
def EaK (kd : List V → HO) (Ls : List (List Nat)) (ta : TA) (σ : L2.St) (H : Hp) : Prop := ∀ H1, Ex H H1 → ∀ Q : List V → Hp → Prop,
  (∀ (ps : List Addr) H2, ps.length = Ls.length → Ex H1 H2 → (∀ p ∈ ps, H1 p = none) → (∀ (i : Nat) (p : Addr) (L : List Nat), ps[i]? = some p → Ls[i]? = some L → H2 p = some (kd (lotV L))) → Q (ps.map .ref) H2) → ta σ H1 Q
section
variable {kd : List V → HO} {Ls : List (List Nat)} {L : List Nat} {σ : L2.St} {H : Hp} {te : TE} {tr ta : TA} {QA : List V → Hp → Prop} {QB : Bool → Hp → Prop} {t u : TT} {D : Ends} {tz : TS}
theorem eak_nil : EaK kd [] tNil σ H := fun H1 e Q q => q [] H1 rfl (Ex.refl H1) (fun p h => absurd h List.not_mem_nil) fun i p L h => by simp at h
theorem eak_cons (h : EvN kd te σ H (lotV L)) (hr : EaK kd Ls tr σ H) : EaK kd (L :: Ls) (tCons te tr) σ H := fun H1 e Q q =>
  h H1 e _ fun p H2 np e2 hp => hr H2 (e.trans e2) _ fun ps H3 lp e3 nps hps => q (p :: ps) H3 (by rw [List.length_cons, lp]; rfl) (e2.trans e3) (fun p' h' => by
    rcases List.mem_cons.mp h' with rfl | h'
    · exact np
    · exact fresh_back e2 (nps p' h')) fun i p' L' h1 h2 => by
    cases i with
    | zero =>
      cases h1
      cases h2
      exact e3 _ _ hp
    | succ i => exact hps i p' L' h1 h2
theorem eak_go (h : EaK kd Ls ta σ H) (k : ∀ (ps : List Addr) H2, ps.length = Ls.length → Ex H H2 → (∀ p ∈ ps, H p = none) → (∀ (i : Nat) (p : Addr) (L : List Nat), ps[i]? = some p → Ls[i]? = some L → H2 p = some (kd (lotV L))) → QA (ps.map .ref) H2) : ta σ H QA := h H (Ex.refl H) QA k
theorem go_or (h : t σ H fun c H1 => if c = true then QB true H1 else u σ H1 QB) : tOr t u σ H QB := h
theorem go_next (h : tz D σ H) : tNext { D with nx := tz D } σ H := h
end
def matOf (Ls : List (List Nat)) : Nat → Nat → Int := fun i j => (((Ls.getD i []).getD j 0 : Nat) : Int)
theorem lotV_row {n : Nat} {L : List Nat} (h : L.length = n) : lotV L = rowV n fun j => ((L.getD j 0 : Nat) : Int) := by
  subst h
  unfold rowV
  rw [range_map_get L 0 fun x => V.int (x : Int)]
  rfl
theorem mat_rows {kd : List V → HO} {Ls : List (List Nat)} {n : Nat} {H : Hp} {ps : List Addr} (hz : ∀ L ∈ Ls, L.length = n) (h2 : ps.length = Ls.length) (h3 : ∀ (i : Nat) (p : Addr) (L : List Nat), ps[i]? = some p → Ls[i]? = some L → H p = some (kd (lotV L))) :
    ∀ (i : Nat) (p : Addr), ps[i]? = some p → H p = some (kd (rowV n (matOf Ls i))) := fun i p hp => by
  have lt : i < Ls.length := by
    rw [← h2]
    exact (List.getElem?_eq_some_iff.mp hp).1
  have e := List.getElem?_eq_getElem lt
  rw [h3 i p _ hp e, lotV_row (hz _ (List.getElem_mem lt))]
  unfold matOf
  rw [List.getD_eq_getElem?_getD, e]
  rfl
def fiveL : List (List Nat) := [[0, 1, 1, 0, 0, 0], [0, 0, 1, 1, 0, 0], [0, 0, 0, 1, 1, 0], [1, 0, 0, 0, 1, 1], [1, 1, 0, 0, 0, 1]]
def sixL : List (List Nat) := fiveL ++ [[0, 1, 1, 0, 0, 0]]
def fourL : List (List Nat) := [[0, 4, 0, 0], [0, 0, 4, 0], [4, 0, 0, 0], [1, 1, 1, 0]]
theorem asc6 : Asc 6 [1, 2, 4] := ⟨by decide, by decide⟩
theorem firm6 : firmB (matOf sixL) [1, 2, 4] = true := by decide +kernel
theorem next6 : nextF (matOf sixL) 6 [1, 2, 4] = some [0, 3] := by decide +kernel
theorem sm03 : Sm [0, 3] := ⟨by decide, by decide⟩
abbrev slaw : Stmt := topS 36
abbrev Nlaw : List Str := ["_law_script", "_law_deck_here", "_law_menu_here", "_law_way", "_law_rows_here", "_law_five"]
theorem sclaw : FnScope Nlaw ["_law_script"] (defScope slaw) := ⟨rfl, rfl, rfl, by decide +kernel, rfl, by decide +kernel, by decide +kernel⟩
section
variable {P : Program} {w : World} {K : PySem.W.Frag} {mg : Str → Option Value} {base : Heap}
/-- law(script) -/
def spLaw (K : PySem.W.Frag) : Sp := fun vs H Q _ => ∃ (s : Addr) (ns : List Int), vs = [.ref s] ∧ SqL K H s (ns.map V.int) ∧ ∀ H', Q (.bl true) H'
theorem ok_law {f : Addr} {fd : FuncData} (F : Fun K "law" "law" slaw f fd) (T : Txt mg) (c_Ldeck : Cal P w K mg base 1 "_law_deck" ["_law_script"] (spDeck K)) (c_Lmenu : Cal P w K mg base 3 "_law_menu" ["_law_deck_here"] spMenu) (c_Ldraw : Cal P w K mg base 1 "_law_draw" ["_law_deck_here", "_law_many"] spDraw)
    (c_Lany : Cal P w K mg base 7 "_law_any" ["_law_deck_here", "_law_size", "_law_menu_here"] spBuild) (c_Lone : Cal P w K mg base 2 "_law_one" ["_law_deck_here", "_law_items"] spOne) (c_Lnested : Cal P w K mg base 5 "_law_nested" ["_law_deck_here", "_law_menu_here"] spGiven) (c_Lstiff : Cal P w K mg base 3 "_law_stiff" ["_law_deck_here", "_law_menu_here"] spGiven)
    (c_Lisright : CalG P w K mg base 7 "_law_is_right" ["_law_deck_here", "_law_rows_here"] spRight) (c_nextfirm : Cal P w K mg base 5 "next_firm" ["table", "lot"] spNextFirm) : FnG P w K mg base 8 f fd ["_law_script"] (spLaw K) := by
  have nd := sclaw.nd
  refine fnG_of F sclaw (fun vs H Q E h => ?_) (fun cdv A outer s H vs Q hgd hr h => ?_)
  · obtain ⟨_, _, rfl, _⟩ := h
    rfl
  · obtain ⟨s0, ns, rfl, hs, q⟩ := h
    refine ⟨_, (pss_cons (ps_set (i := 1) nd rfl (Or.inl rfl) (pe_cal c_Ldeck hr (by decide) rfl (pa_cons (pv 0) pa_nil)))
        (pss_cons (ps_par (i := 2) (j := 3) rfl nd rfl rfl (by decide) rfl rfl (pa_cons (pe_cal c_Lmenu hr (by decide) rfl (pa_cons (pv 1) pa_nil)) (pa_cons (pe_cal c_Ldraw hr (by decide) rfl (pa_cons (pv 1) (pa_cons pe_int pa_nil))) pa_nil)) rfl)
        (pss_cons (ps_set (i := 4) nd rfl (Or.inl rfl) (pe_cal c_Lany hr (by decide) rfl (pa_cons (pv 1) (pa_cons (pe_cal c_Lone hr (by decide) rfl (pa_cons (pv 1) (pa_cons (pe_lst (pa_cons pe_int (pa_cons pe_int (pa_cons pe_int (pa_cons pe_int pa_nil))))) pa_nil))) (pa_cons (pv 2) pa_nil)))))
        (pss_cons (ps_if (pt_cmpR op_eq (pv 3) pe_int (nomark _)) (pss_one (ps_set (i := 4) nd rfl (Or.inl rfl) (pe_cal c_Lnested hr (by decide) rfl (pa_cons (pv 1) (pa_cons (pv 2) pa_nil))))) pss_nil)
        (pss_cons (ps_if (pt_cmpR op_eq (pv 3) pe_int (nomark _)) (pss_one (ps_set (i := 4) nd rfl (Or.inl rfl) (pe_cal c_Lstiff hr (by decide) rfl (pa_cons (pv 1) (pa_cons (pv 2) pa_nil))))) pss_nil)
        (pss_cons (ps_if (PW.pt (pw_or (pt_not (pt_val (pe_calG' c_Lisright hgd hr (by decide) rfl (pa_cons (pv 1) (pa_cons (pv 4) pa_nil))))) (pw_or1 (pt_not (pt_val (pe_calG' c_Lisright hgd hr (by decide) rfl (pa_cons (pv 1) (pa_cons (pe_cal c_Lany hr (by decide) rfl (pa_cons (pv 1) (pa_cons (pe_cal c_Ldraw hr (by decide) rfl (pa_cons (pv 1) (pa_cons pe_int pa_nil))) (pa_cons (pv 2) pa_nil)))) pa_nil)))))))) (pss_one (ps_ret pe_bl)) pss_nil)
        (pss_cons (ps_set (i := 5) nd rfl (Or.inl rfl) (pe_tup (pa_cons (pe_tup (pa_cons pe_int (pa_cons pe_int (pa_cons pe_int (pa_cons pe_int (pa_cons pe_int (pa_cons pe_int pa_nil))))))) (pa_cons (pe_tup (pa_cons pe_int (pa_cons pe_int (pa_cons pe_int (pa_cons pe_int (pa_cons pe_int (pa_cons pe_int pa_nil))))))) (pa_cons (pe_tup (pa_cons pe_int (pa_cons pe_int (pa_cons pe_int (pa_cons pe_int (pa_cons pe_int (pa_cons pe_int pa_nil))))))) (pa_cons (pe_tup (pa_cons pe_int (pa_cons pe_int (pa_cons pe_int (pa_cons pe_int (pa_cons pe_int (pa_cons pe_int pa_nil))))))) (pa_cons (pe_tup (pa_cons pe_int (pa_cons pe_int (pa_cons pe_int (pa_cons pe_int (pa_cons pe_int (pa_cons pe_int pa_nil))))))) pa_nil)))))))
        (pss_cons (ps_if (pt_cmpR op_ne (pe_callB (cr_reprK (K := K) rfl hgd hr.units) rfl T.repr bb_repr (pa_cons (pe_cal c_nextfirm hr (by decide) rfl (pa_cons (pe_tup (pa_cons pe_int (pa_cons (pe_op (op_catK (K := K) rfl) (pv 5) (pe_tup (pa_cons (pe_tup (pa_cons pe_int (pa_cons pe_int (pa_cons pe_int (pa_cons pe_int (pa_cons pe_int (pa_cons pe_int pa_nil))))))) pa_nil))) pa_nil))) (pa_cons (pe_tup (pa_cons pe_int (pa_cons pe_int (pa_cons pe_int pa_nil)))) pa_nil))) pa_nil)) (pe_callB (cr_reprK (K := K) rfl hgd hr.units) rfl T.repr bb_repr (pa_cons (pe_tup (pa_cons pe_int (pa_cons pe_int pa_nil))) pa_nil)) (nomark _)) (pss_one (ps_ret pe_bl)) pss_nil)
        (pss_one (ps_ret (pe_calG' c_Lisright hgd hr (by decide) rfl (pa_cons (pv 1) (pa_cons (pe_lst (pa_cons (pe_lst (pa_cons pe_int (pa_cons pe_int (pa_cons pe_int (pa_cons pe_int pa_nil))))) (pa_cons (pe_lst (pa_cons pe_int (pa_cons pe_int (pa_cons pe_int (pa_cons pe_int pa_nil))))) (pa_cons (pe_lst (pa_cons pe_int (pa_cons pe_int (pa_cons pe_int (pa_cons pe_int pa_nil))))) (pa_cons (pe_lst (pa_cons pe_int (pa_cons pe_int (pa_cons pe_int (pa_cons pe_int pa_nil))))) pa_nil))))) pa_nil))))))))))))), ?_⟩
    -- deck
    refine q_asgC (ea_cons (ev_var rfl) ea_nil) fun H1 e1 => ⟨s0, ns, rfl, ex_l e1 hs, fun a l H2 d2 e2 => ?_⟩
    -- menu, way
    refine go_seq (go_par (go_cons (go_call (ea_go (ea_cons (ev_var rfl) ea_nil) fun H3 e3 => ⟨a, l, rfl, d2.mono e3, fun m mns H4 nm hm lm1 lm2 d4 k4 => ?_⟩))))
    have nmd := (d2.mono e3).fresh nm
    have menu4 : MenuAt a l H4 m := by
      match mns, lm1, hm with
      | n0 :: n1 :: mns, _, hm =>
        exact ⟨n0, n1, mns, hm, nmd, by
          have : mns.length + 1 + 1 ≤ 4 := lm2
          omega⟩
    refine go_cons (go_call (ea_go (ea_cons (ev_var rfl) (ea_cons ev_c ea_nil)) fun H5 e5 => ⟨a, l, 4, rfl, by decide, by decide, d4.mono e5, fun way H6 hw d6 k6 => go_nil ⟨_, _, rfl, ?_⟩⟩))
    have menu6 := menu4.keep ((Keep.of e5).trans k6)
    -- rows = any(deck, one(deck, [3, 4, 5, 5]), menu)
    refine go_seq (go_set (go_call (go_cons (ev_go (ev_var rfl) fun H7 e7 => go_cons (go_call (go_cons (ev_go (ev_var rfl) fun H8 e8 => go_cons (el_go (xs := lotV [3, 4, 5, 5]) (el_lst (ea_cons ev_c (ea_cons ev_c (ea_cons ev_c (ea_cons ev_c ea_nil)))) (by show 4 ≤ 100000; decide)) fun z H9 nz e9 hz => go_nil ?_))))))))
    have e69 := e7.trans (e8.trans e9)
    have zz := (d6.mono (e7.trans e8)).fresh nz
    refine ⟨a, l, z, _, rfl, d6.mono e69, hz, zz.1, zz.2, by decide, by decide, fun v HA hv dA kA => ?_⟩
    obtain ⟨n, hn, rfl⟩ := List.mem_map.mp hv
    have hn5 : n ≤ 5 := by
      simp at hn
      omega
    have menuA := menu6.keep ((Keep.of e69).trans kA)
    refine go_cons (ev_go (ev_var rfl) fun HB eB => go_nil ⟨a, l, m, n, rfl, by omega, dA.mono eB, menuA.keep (Keep.of eB), fun R ps M HC mC dC kC => ?_⟩)
    have PS : ∃ n M, n ≤ 6 ∧ Deck a l HC ∧ MenuAt a l HC m ∧ MatD a l n M HC R := ⟨n, M, by omega, dC, menuA.keep ((Keep.of eB).trans kC), mC.matD (dA.mono eB)⟩
    clear mC dC kC menuA menu6 menu4
    have mono : ∀ (R : Addr) H1 H2, Ex H1 H2 → (∃ n M, n ≤ 6 ∧ Deck a l H1 ∧ MenuAt a l H1 m ∧ MatD a l n M H1 R) → ∃ n M, n ≤ 6 ∧ Deck a l H2 ∧ MenuAt a l H2 m ∧ MatD a l n M H2 R := fun R H1 H2 e ⟨n, M, h1, h2, h3, h4⟩ => ⟨n, M, h1, h2.mono e, h3.keep (Keep.of e), h4.mono e⟩
    refine go_nx ?_
    -- if way == 0
    refine q_wordIf (pr := R) (PS := fun R H' => ∃ n M, n ≤ 6 ∧ Deck a l H' ∧ MenuAt a l H' m ∧ MatD a l n M H' R) PS rfl (fun H1 e => mono R _ H1 e PS) (et_eqI (i := (way : Int)) (j := 0) (ev_var rfl) ev_c) (fun H1 e Q q => ?_) fun R1 HD PD => ?_
    · obtain ⟨n, M, _, h2, h3, _⟩ := mono R _ H1 e PS
      exact c_call (ea_cons (ev_var rfl) (ea_cons (ev_var rfl) ea_nil)) fun H2 e2 => ⟨a, l, m, rfl, h2.mono e2, h3.keep (Keep.of e2), fun n' hn' R' ps' M' H' m' d' k' => q R' H' ⟨n', M', hn', d', h3.keep ((Keep.of e2).trans k'), m'.matD (h2.mono e2)⟩⟩
    clear PS
    -- if way == 1
    refine q_wordIf (pr := R1) (PS := fun R H' => ∃ n M, n ≤ 6 ∧ Deck a l H' ∧ MenuAt a l H' m ∧ MatD a l n M H' R) PD rfl (fun H1 e => mono R1 _ H1 e PD) (et_eqI (i := (way : Int)) (j := 1) (ev_var rfl) ev_c) (fun H1 e Q q => ?_) fun R2 HE PE => ?_
    · obtain ⟨n, M, _, h2, h3, _⟩ := mono R1 _ H1 e PD
      exact c_call (ea_cons (ev_var rfl) (ea_cons (ev_var rfl) ea_nil)) fun H2 e2 => ⟨a, l, m, rfl, h2.mono e2, h3.keep (Keep.of e2), fun n' hn' R' ps' M' H' m' d' k' => q R' H' ⟨n', M', hn', d', h3.keep ((Keep.of e2).trans k'), m'.matD (h2.mono e2)⟩⟩
    clear PD
    obtain ⟨n2, M2, hn2, dE, menuE, mE⟩ := PE
    -- if not is_right(deck, rows) or not is_right(deck, any(..))
    refine go_seq (go_if (go_or (go_notB (go_call (ea_go (ea_cons (ev_var rfl) (ea_cons (ev_var rfl) ea_nil)) fun HF eF => ⟨a, l, R2, n2, M2, rfl, dE.mono eF, mE.mono eF, hn2, fun HG dG kG => ⟨true, rfl, ite_f ?_⟩⟩)))))
    have menuG := menuE.keep ((Keep.of eF).trans kG)
    refine go_notB (go_call (go_cons (ev_go (ev_var rfl) fun HH eH => go_cons (go_call (go_cons (ev_go (ev_var rfl) fun HI eI => go_cons (go_call (ea_go (ea_cons (ev_var rfl) (ea_cons ev_c ea_nil)) fun HJ eJ => ⟨a, l, 5, rfl, by decide, by decide, dG.mono (eH.trans (eI.trans eJ)), fun n3 HK hn3 dK kK => ?_⟩))))))))
    have menuK := menuG.keep ((Keep.of (eH.trans (eI.trans eJ))).trans kK)
    refine go_cons (ev_go (ev_var rfl) fun HL eL => go_nil ⟨a, l, m, n3, rfl, by omega, dK.mono eL, menuK.keep (Keep.of eL), fun R3 ps3 M3 HM mM dM kM => go_nil ⟨a, l, R3, n3, M3, rfl, dM, mM.matD (dK.mono eL), by omega, fun HN dN kN => ⟨true, rfl, ite_f (go_next ?_)⟩⟩⟩)
    -- five
    refine go_seq (go_set (go_tup (eak_go (kd := .tup) (Ls := fiveL) (eak_cons (eu_tup (ea_cons ev_c (ea_cons ev_c (ea_cons ev_c (ea_cons ev_c (ea_cons ev_c (ea_cons ev_c ea_nil)))))) (by show 6 ≤ 100000; decide)) (eak_cons (eu_tup (ea_cons ev_c (ea_cons ev_c (ea_cons ev_c (ea_cons ev_c (ea_cons ev_c (ea_cons ev_c ea_nil)))))) (by show 6 ≤ 100000; decide))
      (eak_cons (eu_tup (ea_cons ev_c (ea_cons ev_c (ea_cons ev_c (ea_cons ev_c (ea_cons ev_c (ea_cons ev_c ea_nil)))))) (by show 6 ≤ 100000; decide)) (eak_cons (eu_tup (ea_cons ev_c (ea_cons ev_c (ea_cons ev_c (ea_cons ev_c (ea_cons ev_c (ea_cons ev_c ea_nil)))))) (by show 6 ≤ 100000; decide))
      (eak_cons (eu_tup (ea_cons ev_c (ea_cons ev_c (ea_cons ev_c (ea_cons ev_c (ea_cons ev_c (ea_cons ev_c ea_nil)))))) (by show 6 ≤ 100000; decide)) eak_nil))))) fun ps5 HO lp5 eO np5 hps5 => ⟨by rw [List.length_map, lp5]; decide, fun v5 n5 => ?_⟩)))
    have x5 : Ex HO (upd HO v5 (.tup (ps5.map V.ref))) := Ex.new n5
    have hv5 : (upd HO v5 (.tup (ps5.map V.ref))) v5 = some (.tup (ps5.map V.ref)) := upd_same
    generalize upd HO v5 (.tup (ps5.map V.ref)) = HP at x5 hv5
    have dP := dN.mono (eO.trans x5)
    have t5 : Tups HP ps5 fiveL := ⟨lp5, fun i p L h1 h2 => x5 _ _ (hps5 i p L h1 h2)⟩
    refine go_nx ?_
    -- if repr(next_firm(..)) != repr((0, 3))
    refine q_when (b := false) (fun HQ eQ Q2 q2 => ?_) (fun hb => nomatch hb) fun _ HQ eQ => ?_
    · refine go_test (go_op (go_cb (go_cons (go_call (go_cons (go_tup (go_cons (ev_go (v := nV 6) ev_c fun J1 f1 => go_cons (go_op (ev_go (ev_var rfl) fun J2 f2 => go_tup (eak_go (kd := .tup) (Ls := [[0, 1, 1, 0, 0, 0]]) (eak_cons (eu_tup (ea_cons ev_c (ea_cons ev_c (ea_cons ev_c (ea_cons ev_c (ea_cons ev_c (ea_cons ev_c ea_nil)))))) (by show 6 ≤ 100000; decide)) eak_nil) fun ps1 J3 lp1 f3 np1 hps1 => ⟨by rw [List.length_map, lp1]; decide, fun u nu => ?_⟩)))))))))))
      have f03 := eQ.trans (f1.trans (f2.trans f3))
      have xu : Ex J3 (upd J3 u (.tup (ps1.map V.ref))) := Ex.new nu
      have hu : (upd J3 u (.tup (ps1.map V.ref))) u = some (.tup (ps1.map V.ref)) := upd_same
      generalize upd J3 u (.tup (ps1.map V.ref)) = J4 at xu hu
      have l5 : ps5.length = 5 := lp5
      have l1 : ps1.length = 1 := lp1
      refine ⟨v5, u, _, _, rfl, rfl, st_of ((f03.trans xu) _ _ hv5), st_of hu, by rw [List.length_map, List.length_map, l5, l1]; decide, (fun ex => ?_), (fun _ ey => ?_), fun _ _ r nr => go_nil ⟨by show 2 ≤ sizeLine; decide, fun t nt => ?_⟩⟩
      · have := congrArg List.length ex
        rw [List.length_map, l5] at this
        cases this
      · have := congrArg List.length ey
        rw [List.length_map, l1] at this
        cases this
      · have xr : Ex J4 (upd J4 r (.tup (ps5.map V.ref ++ ps1.map V.ref))) := Ex.new nr
        have hr6 : (upd J4 r (.tup (ps5.map V.ref ++ ps1.map V.ref))) r = some (.tup ((ps5 ++ ps1).map V.ref)) := by rw [upd_same, List.map_append]
        generalize upd J4 r (.tup (ps5.map V.ref ++ ps1.map V.ref)) = J5 at xr hr6 nt
        have xt : Ex J5 (upd J5 t (.tup [nV 6, .ref r])) := Ex.new nt
        have ht : (upd J5 t (.tup [nV 6, .ref r])) t = some (.tup [nV 6, .ref r]) := upd_same
        generalize upd J5 t (.tup [nV 6, .ref r]) = J6 at xt ht
        have t1 : Tups J3 ps1 [[0, 1, 1, 0, 0, 0]] := ⟨lp1, hps1⟩
        have t6 : Tups J6 (ps5 ++ ps1) sixL := (t5.mono (f03.trans (xu.trans (xr.trans xt)))).append (t1.mono (xu.trans (xr.trans xt)))
        have tab : TabAt 6 (matOf sixL) J6 t := ⟨r, ht, ps5 ++ ps1, by rw [List.length_append, l5, l1], xt _ _ hr6, mat_rows (kd := .tup) (n := 6) (by decide) t6.1 t6.2⟩
        refine go_cons (eu_go (xs := lotV [1, 2, 4]) (eu_tup (ea_cons ev_c (ea_cons ev_c (ea_cons ev_c ea_nil))) (by show 3 ≤ 100000; decide)) fun l6 J7 nl6 f7 hl6 => go_nil (next_go (n := 6) (M := matOf sixL) (L := [1, 2, 4]) (tab.mono f7) hl6 asc6 firm6 (by decide) fun v J8 f8 hv => ?_))
        rw [next6] at hv
        obtain ⟨p, rfl, hp⟩ : ∃ p, v = .ref p ∧ J8 p = some (.tup (lotV [0, 3])) := by
          rcases hv with ⟨h1, _⟩ | ⟨few, p, h1, h2, h3⟩
          · cases h1
          · obtain rfl := Option.some.inj h1
            exact ⟨p, h2, h3⟩
        refine go_nil (rr_lot hp sm03 (go_cb (go_cons (eu_go (xs := lotV [0, 3]) (eu_tup (ea_cons ev_c (ea_cons ev_c ea_nil)) (by show 2 ≤ 100000; decide)) fun p2 J9 np2 f9 hp2 => go_nil (rr_lot hp2 sm03 ⟨rfl, _, rfl, ?_⟩)))))
        rw [decide_eq_true rfl]
        exact q2 J9 (f1.trans (f2.trans (f3.trans (xu.trans (xr.trans (xt.trans (f7.trans (f8.trans f9))))))))
    · -- return is_right(deck, [..])
      refine go_ret (go_call (go_cons (ev_go (ev_var rfl) fun J1 f1 => go_cons (go_lst (eak_go (kd := .lst) (Ls := fourL) (eak_cons (el_lst (ea_cons ev_c (ea_cons ev_c (ea_cons ev_c (ea_cons ev_c ea_nil)))) (by show 4 ≤ 100000; decide)) (eak_cons (el_lst (ea_cons ev_c (ea_cons ev_c (ea_cons ev_c (ea_cons ev_c ea_nil)))) (by show 4 ≤ 100000; decide))
        (eak_cons (el_lst (ea_cons ev_c (ea_cons ev_c (ea_cons ev_c (ea_cons ev_c ea_nil)))) (by show 4 ≤ 100000; decide)) (eak_cons (el_lst (ea_cons ev_c (ea_cons ev_c (ea_cons ev_c (ea_cons ev_c ea_nil)))) (by show 4 ≤ 100000; decide)) eak_nil)))) fun ps4 J2 lp4 f2 np4 hps4 => ⟨by rw [List.length_map, lp4]; decide, fun R4 n4 => go_nil ?_⟩)))))
      have x4 : Ex J2 (upd J2 R4 (.lst (ps4.map V.ref))) := Ex.new n4
      have d1 := dP.mono (eQ.trans f1)
      have d2 := d1.mono f2
      refine ⟨a, l, R4, 4, matOf fourL, rfl, d2.mono x4, ⟨ps4, lp4, upd_same, mat_rows (kd := .lst) (n := 4) (by decide) lp4 fun i p L h1 h2 => x4 _ _ (hps4 i p L h1 h2), d2.fresh n4, fun p hp => d1.fresh (np4 p hp)⟩, by decide, fun H' _ _ => q H'⟩
end
end K25
namespace K25
open PySem PySem.Spec PyProof.Rows L2 Evl
/-! ### what the top has written -/
set_option maxHeartbeats 4000000 in
theorem all_mk {l : PySem.W.OpenLaw} {w : World} {K : PySem.W.Frag} {h : Heap} {mg : Str → Option Value} {fa f1 f2 f3 f4 f5 f6 f7 f8 f9 f10 f11 f12 f13 f14 f15 f16 f17 f18 f19 f20 f21 f22 f23 f24 f25 f26 f27 f28 f29 f30 : Addr} (X : K.In h) (G : h.Ns mainGlobals mg) (hfa : mg "law" = some (.ref fa))
    {od1 an1 od2 an2 od3 an3 od4 an4 od5 an5 od6 an6 od7 an7 od8 an8 od9 an9 od10 an10 od11 an11 od12 an12 od13 an13 od14 an14 od15 an15 od16 an16 od17 an17 od18 an18 od19 an19 od20 an20 od21 an21 od22 an22 od23 an23 od24 an24 od25 an25 od26 an26 od27 an27 od28 an28 od29 an29 od30 an30 : Option Addr} {sl1 sl2 sl3 sl4 sl5 sl6 sl7 sl8 sl9 sl10 sl11 sl12 sl13 sl14 sl15 sl16 sl17 sl18 sl19 sl20 sl21 sl22 sl23 sl24 sl25 sl26 sl27 sl28 sl29 sl30 : Array (Option Value)} {oc1 kV1 dc1 pm1 cd1 ct1 oc2 kV2 dc2 pm2 cd2 ct2 oc3 kV3 dc3 pm3 cd3 ct3 oc4 kV4 dc4 pm4 cd4 ct4 oc5 kV5 dc5 pm5 cd5 ct5 oc6 kV6 dc6 pm6 cd6 ct6 oc7 kV7 dc7 pm7 cd7 ct7 oc8 kV8 dc8 pm8 cd8 ct8 oc9 kV9 dc9 pm9 cd9 ct9 oc10 kV10 dc10 pm10 cd10 ct10 oc11 kV11 dc11 pm11 cd11 ct11 oc12 kV12 dc12 pm12 cd12 ct12 oc13 kV13 dc13 pm13 cd13 ct13 oc14 kV14 dc14 pm14 cd14 ct14 oc15 kV15 dc15 pm15 cd15 ct15 oc16 kV16 dc16 pm16 cd16 ct16 oc17 kV17 dc17 pm17 cd17 ct17 oc18 kV18 dc18 pm18 cd18 ct18 oc19 kV19 dc19 pm19 cd19 ct19 oc20 kV20 dc20 pm20 cd20 ct20 oc21 kV21 dc21 pm21 cd21 ct21 oc22 kV22 dc22 pm22 cd22 ct22 oc23 kV23 dc23 pm23 cd23 ct23 oc24 kV24 dc24 pm24 cd24 ct24 oc25 kV25 dc25 pm25 cd25 ct25 oc26 kV26 dc26 pm26 cd26 ct26 oc27 kV27 dc27 pm27 cd27 ct27 oc28 kV28 dc28 pm28 cd28 ct28 oc29 kV29 dc29 pm29 cd29 ct29 oc30 kV30 dc30 pm30 cd30 ct30 : Value}
    (a1 : PySem.W.nsIn K mainGlobals "part" = some (some (.ref f1))) (l1 : K.lookup f1 = some ⟨oc1, od1, .func (PySem.W.fnOf "part" "part" (defArgs spart) (defBody spart) (defScope spart) .none kV1 dc1 pm1 an1 cd1 ct1), sl1⟩) (c1 : PySem.W.codeIn K cd1 "part" = true) (k1 : PySem.W.keepIn K (.ref f1) = true)
    (a2 : PySem.W.nsIn K mainGlobals "_fills" = some (some (.ref f2))) (l2 : K.lookup f2 = some ⟨oc2, od2, .func (PySem.W.fnOf "_fills" "_fills" (defArgs sfills) (defBody sfills) (defScope sfills) .none kV2 dc2 pm2 an2 cd2 ct2), sl2⟩) (c2 : PySem.W.codeIn K cd2 "_fills" = true) (k2 : PySem.W.keepIn K (.ref f2) = true)
    (a3 : PySem.W.nsIn K mainGlobals "_is_firm_lot" = some (some (.ref f3))) (l3 : K.lookup f3 = some ⟨oc3, od3, .func (PySem.W.fnOf "_is_firm_lot" "_is_firm_lot" (defArgs sisfirmlot) (defBody sisfirmlot) (defScope sisfirmlot) .none kV3 dc3 pm3 an3 cd3 ct3), sl3⟩) (c3 : PySem.W.codeIn K cd3 "_is_firm_lot" = true) (k3 : PySem.W.keepIn K (.ref f3) = true)
    (a4 : PySem.W.nsIn K mainGlobals "_lots_of" = some (some (.ref f4))) (l4 : K.lookup f4 = some ⟨oc4, od4, .func (PySem.W.fnOf "_lots_of" "_lots_of" (defArgs slotsof) (defBody slotsof) (defScope slotsof) .none kV4 dc4 pm4 an4 cd4 ct4), sl4⟩) (c4 : PySem.W.codeIn K cd4 "_lots_of" = true) (k4 : PySem.W.keepIn K (.ref f4) = true)
    (a5 : PySem.W.nsIn K mainGlobals "is_firm" = some (some (.ref f5))) (l5 : K.lookup f5 = some ⟨oc5, od5, .func (PySem.W.fnOf "is_firm" "is_firm" (defArgs sisfirm) (defBody sisfirm) (defScope sisfirm) .none kV5 dc5 pm5 an5 cd5 ct5), sl5⟩) (c5 : PySem.W.codeIn K cd5 "is_firm" = true) (k5 : PySem.W.keepIn K (.ref f5) = true)
    (a6 : PySem.W.nsIn K mainGlobals "firm_lots" = some (some (.ref f6))) (l6 : K.lookup f6 = some ⟨oc6, od6, .func (PySem.W.fnOf "firm_lots" "firm_lots" (defArgs sfirmlots) (defBody sfirmlots) (defScope sfirmlots) .none kV6 dc6 pm6 an6 cd6 ct6), sl6⟩) (c6 : PySem.W.codeIn K cd6 "firm_lots" = true) (k6 : PySem.W.keepIn K (.ref f6) = true)
    (a7 : PySem.W.nsIn K mainGlobals "_few_lots" = some (some (.ref f7))) (l7 : K.lookup f7 = some ⟨oc7, od7, .func (PySem.W.fnOf "_few_lots" "_few_lots" (defArgs sfewlots) (defBody sfewlots) (defScope sfewlots) .none kV7 dc7 pm7 an7 cd7 ct7), sl7⟩) (c7 : PySem.W.codeIn K cd7 "_few_lots" = true) (k7 : PySem.W.keepIn K (.ref f7) = true)
    (a8 : PySem.W.nsIn K mainGlobals "_need_firm" = some (some (.ref f8))) (l8 : K.lookup f8 = some ⟨oc8, od8, .func (PySem.W.fnOf "_need_firm" "_need_firm" (defArgs sneedfirm) (defBody sneedfirm) (defScope sneedfirm) .none kV8 dc8 pm8 an8 cd8 ct8), sl8⟩) (c8 : PySem.W.codeIn K cd8 "_need_firm" = true) (k8 : PySem.W.keepIn K (.ref f8) = true)
    (a9 : PySem.W.nsIn K mainGlobals "next_firm" = some (some (.ref f9))) (l9 : K.lookup f9 = some ⟨oc9, od9, .func (PySem.W.fnOf "next_firm" "next_firm" (defArgs snextfirm) (defBody snextfirm) (defScope snextfirm) .none kV9 dc9 pm9 an9 cd9 ct9), sl9⟩) (c9 : PySem.W.codeIn K cd9 "next_firm" = true) (k9 : PySem.W.keepIn K (.ref f9) = true)
    (a10 : PySem.W.nsIn K mainGlobals "_law_deck" = some (some (.ref f10))) (l10 : K.lookup f10 = some ⟨oc10, od10, .func (PySem.W.fnOf "_law_deck" "_law_deck" (defArgs sLdeck) (defBody sLdeck) (defScope sLdeck) .none kV10 dc10 pm10 an10 cd10 ct10), sl10⟩) (c10 : PySem.W.codeIn K cd10 "_law_deck" = true) (k10 : PySem.W.keepIn K (.ref f10) = true)
    (a11 : PySem.W.nsIn K mainGlobals "_law_draw" = some (some (.ref f11))) (l11 : K.lookup f11 = some ⟨oc11, od11, .func (PySem.W.fnOf "_law_draw" "_law_draw" (defArgs sLdraw) (defBody sLdraw) (defScope sLdraw) .none kV11 dc11 pm11 an11 cd11 ct11), sl11⟩) (c11 : PySem.W.codeIn K cd11 "_law_draw" = true) (k11 : PySem.W.keepIn K (.ref f11) = true)
    (a12 : PySem.W.nsIn K mainGlobals "_law_one" = some (some (.ref f12))) (l12 : K.lookup f12 = some ⟨oc12, od12, .func (PySem.W.fnOf "_law_one" "_law_one" (defArgs sLone) (defBody sLone) (defScope sLone) .none kV12 dc12 pm12 an12 cd12 ct12), sl12⟩) (c12 : PySem.W.codeIn K cd12 "_law_one" = true) (k12 : PySem.W.keepIn K (.ref f12) = true)
    (a13 : PySem.W.nsIn K mainGlobals "_law_mixed" = some (some (.ref f13))) (l13 : K.lookup f13 = some ⟨oc13, od13, .func (PySem.W.fnOf "_law_mixed" "_law_mixed" (defArgs sLmixed) (defBody sLmixed) (defScope sLmixed) .none kV13 dc13 pm13 an13 cd13 ct13), sl13⟩) (c13 : PySem.W.codeIn K cd13 "_law_mixed" = true) (k13 : PySem.W.keepIn K (.ref f13) = true)
    (a14 : PySem.W.nsIn K mainGlobals "_law_table" = some (some (.ref f14))) (l14 : K.lookup f14 = some ⟨oc14, od14, .func (PySem.W.fnOf "_law_table" "_law_table" (defArgs sLtable) (defBody sLtable) (defScope sLtable) .none kV14 dc14 pm14 an14 cd14 ct14), sl14⟩) (c14 : PySem.W.codeIn K cd14 "_law_table" = true) (k14 : PySem.W.keepIn K (.ref f14) = true)
    (a15 : PySem.W.nsIn K mainGlobals "_law_lots" = some (some (.ref f15))) (l15 : K.lookup f15 = some ⟨oc15, od15, .func (PySem.W.fnOf "_law_lots" "_law_lots" (defArgs sLlots) (defBody sLlots) (defScope sLlots) .none kV15 dc15 pm15 an15 cd15 ct15), sl15⟩) (c15 : PySem.W.codeIn K cd15 "_law_lots" = true) (k15 : PySem.W.keepIn K (.ref f15) = true)
    (a16 : PySem.W.nsIn K mainGlobals "_law_spread" = some (some (.ref f16))) (l16 : K.lookup f16 = some ⟨oc16, od16, .func (PySem.W.fnOf "_law_spread" "_law_spread" (defArgs sLspread) (defBody sLspread) (defScope sLspread) .none kV16 dc16 pm16 an16 cd16 ct16), sl16⟩) (c16 : PySem.W.codeIn K cd16 "_law_spread" = true) (k16 : PySem.W.keepIn K (.ref f16) = true)
    (a17 : PySem.W.nsIn K mainGlobals "_law_is_firm" = some (some (.ref f17))) (l17 : K.lookup f17 = some ⟨oc17, od17, .func (PySem.W.fnOf "_law_is_firm" "_law_is_firm" (defArgs sLisfirm) (defBody sLisfirm) (defScope sLisfirm) .none kV17 dc17 pm17 an17 cd17 ct17), sl17⟩) (c17 : PySem.W.codeIn K cd17 "_law_is_firm" = true) (k17 : PySem.W.keepIn K (.ref f17) = true)
    (a18 : PySem.W.nsIn K mainGlobals "_law_menu" = some (some (.ref f18))) (l18 : K.lookup f18 = some ⟨oc18, od18, .func (PySem.W.fnOf "_law_menu" "_law_menu" (defArgs sLmenu) (defBody sLmenu) (defScope sLmenu) .none kV18 dc18 pm18 an18 cd18 ct18), sl18⟩) (c18 : PySem.W.codeIn K cd18 "_law_menu" = true) (k18 : PySem.W.keepIn K (.ref f18) = true)
    (a19 : PySem.W.nsIn K mainGlobals "_law_rows" = some (some (.ref f19))) (l19 : K.lookup f19 = some ⟨oc19, od19, .func (PySem.W.fnOf "_law_rows" "_law_rows" (defArgs sLrows) (defBody sLrows) (defScope sLrows) .none kV19 dc19 pm19 an19 cd19 ct19), sl19⟩) (c19 : PySem.W.codeIn K cd19 "_law_rows" = true) (k19 : PySem.W.keepIn K (.ref f19) = true)
    (a20 : PySem.W.nsIn K mainGlobals "_law_core" = some (some (.ref f20))) (l20 : K.lookup f20 = some ⟨oc20, od20, .func (PySem.W.fnOf "_law_core" "_law_core" (defArgs sLcore) (defBody sLcore) (defScope sLcore) .none kV20 dc20 pm20 an20 cd20 ct20), sl20⟩) (c20 : PySem.W.codeIn K cd20 "_law_core" = true) (k20 : PySem.W.keepIn K (.ref f20) = true)
    (a21 : PySem.W.nsIn K mainGlobals "_law_named" = some (some (.ref f21))) (l21 : K.lookup f21 = some ⟨oc21, od21, .func (PySem.W.fnOf "_law_named" "_law_named" (defArgs sLnamed) (defBody sLnamed) (defScope sLnamed) .none kV21 dc21 pm21 an21 cd21 ct21), sl21⟩) (c21 : PySem.W.codeIn K cd21 "_law_named" = true) (k21 : PySem.W.keepIn K (.ref f21) = true)
    (a22 : PySem.W.nsIn K mainGlobals "_law_set_in" = some (some (.ref f22))) (l22 : K.lookup f22 = some ⟨oc22, od22, .func (PySem.W.fnOf "_law_set_in" "_law_set_in" (defArgs sLsetin) (defBody sLsetin) (defScope sLsetin) .none kV22 dc22 pm22 an22 cd22 ct22), sl22⟩) (c22 : PySem.W.codeIn K cd22 "_law_set_in" = true) (k22 : PySem.W.keepIn K (.ref f22) = true)
    (a23 : PySem.W.nsIn K mainGlobals "_law_small" = some (some (.ref f23))) (l23 : K.lookup f23 = some ⟨oc23, od23, .func (PySem.W.fnOf "_law_small" "_law_small" (defArgs sLsmall) (defBody sLsmall) (defScope sLsmall) .none kV23 dc23 pm23 an23 cd23 ct23), sl23⟩) (c23 : PySem.W.codeIn K cd23 "_law_small" = true) (k23 : PySem.W.keepIn K (.ref f23) = true)
    (a24 : PySem.W.nsIn K mainGlobals "_law_made" = some (some (.ref f24))) (l24 : K.lookup f24 = some ⟨oc24, od24, .func (PySem.W.fnOf "_law_made" "_law_made" (defArgs sLmade) (defBody sLmade) (defScope sLmade) .none kV24 dc24 pm24 an24 cd24 ct24), sl24⟩) (c24 : PySem.W.codeIn K cd24 "_law_made" = true) (k24 : PySem.W.keepIn K (.ref f24) = true)
    (a25 : PySem.W.nsIn K mainGlobals "_law_any" = some (some (.ref f25))) (l25 : K.lookup f25 = some ⟨oc25, od25, .func (PySem.W.fnOf "_law_any" "_law_any" (defArgs sLany) (defBody sLany) (defScope sLany) .none kV25 dc25 pm25 an25 cd25 ct25), sl25⟩) (c25 : PySem.W.codeIn K cd25 "_law_any" = true) (k25 : PySem.W.keepIn K (.ref f25) = true)
    (a26 : PySem.W.nsIn K mainGlobals "_law_stiff" = some (some (.ref f26))) (l26 : K.lookup f26 = some ⟨oc26, od26, .func (PySem.W.fnOf "_law_stiff" "_law_stiff" (defArgs sLstiff) (defBody sLstiff) (defScope sLstiff) .none kV26 dc26 pm26 an26 cd26 ct26), sl26⟩) (c26 : PySem.W.codeIn K cd26 "_law_stiff" = true) (k26 : PySem.W.keepIn K (.ref f26) = true)
    (a27 : PySem.W.nsIn K mainGlobals "_law_is_told" = some (some (.ref f27))) (l27 : K.lookup f27 = some ⟨oc27, od27, .func (PySem.W.fnOf "_law_is_told" "_law_is_told" (defArgs sListold) (defBody sListold) (defScope sListold) .none kV27 dc27 pm27 an27 cd27 ct27), sl27⟩) (c27 : PySem.W.codeIn K cd27 "_law_is_told" = true) (k27 : PySem.W.keepIn K (.ref f27) = true)
    (a28 : PySem.W.nsIn K mainGlobals "_law_is_right" = some (some (.ref f28))) (l28 : K.lookup f28 = some ⟨oc28, od28, .func (PySem.W.fnOf "_law_is_right" "_law_is_right" (defArgs sLisright) (defBody sLisright) (defScope sLisright) .none kV28 dc28 pm28 an28 cd28 ct28), sl28⟩) (c28 : PySem.W.codeIn K cd28 "_law_is_right" = true) (k28 : PySem.W.keepIn K (.ref f28) = true)
    (a29 : PySem.W.nsIn K mainGlobals "_law_nested" = some (some (.ref f29))) (l29 : K.lookup f29 = some ⟨oc29, od29, .func (PySem.W.fnOf "_law_nested" "_law_nested" (defArgs sLnested) (defBody sLnested) (defScope sLnested) .none kV29 dc29 pm29 an29 cd29 ct29), sl29⟩) (c29 : PySem.W.codeIn K cd29 "_law_nested" = true) (k29 : PySem.W.keepIn K (.ref f29) = true)
    (a30 : PySem.W.nsIn K mainGlobals "law" = some (some (.ref f30))) (l30 : K.lookup f30 = some ⟨oc30, od30, .func (PySem.W.fnOf "law" "law" (defArgs slaw) (defBody slaw) (defScope slaw) .none kV30 dc30 pm30 an30 cd30 ct30), sl30⟩) (c30 : PySem.W.codeIn K cd30 "law" = true) (k30 : PySem.W.keepIn K (.ref f30) = true)
    (z_len : PySem.W.nsIn K mainGlobals "len" = some none) (z_range : PySem.W.nsIn K mainGlobals "range" = some none) (z_tuple : PySem.W.nsIn K mainGlobals "tuple" = some none) (z_list : PySem.W.nsIn K mainGlobals "list" = some none) (z_enumerate : PySem.W.nsIn K mainGlobals "enumerate" = some none) (z_sorted : PySem.W.nsIn K mainGlobals "sorted" = some none) (z_min : PySem.W.nsIn K mainGlobals "min" = some none) (z_int : PySem.W.nsIn K mainGlobals "int" = some none) (z_repr : PySem.W.nsIn K mainGlobals "repr" = some none) :
    ∃ fd : FuncData, (∀ (s : Shared) (v : Value), BindsTo s fd ⟨[v], []⟩ [("_law_script", v)]) ∧ ∀ base : Heap, K.In base → base.Ns mainGlobals mg → FnG l.prog w K mg base 8 fa fd ["_law_script"] (spLaw K) := by
  have e := hfa.symm.trans (PySem.W.mg_of X G a30)
  cases e
  have T : Txt mg := ⟨PySem.W.mg_none_of X G z_len, PySem.W.mg_none_of X G z_range, PySem.W.mg_none_of X G z_tuple, PySem.W.mg_none_of X G z_list, PySem.W.mg_none_of X G z_enumerate, PySem.W.mg_none_of X G z_sorted, PySem.W.mg_none_of X G z_min, PySem.W.mg_none_of X G z_int, PySem.W.mg_none_of X G z_repr⟩
  have F1 := fun_mk (st := spart) l1 c1 k1
  have b1 := F1.binds (ps := ["table", "lot"]) fun _ _ _ _ _ _ us hl => match us, hl with | [_, _], _ => rfl
  have F2 := fun_mk (st := sfills) l2 c2 k2
  have b2 := F2.binds (ps := ["rows", "lot", "one", "other"]) fun _ _ _ _ _ _ us hl => match us, hl with | [_, _, _, _], _ => rfl
  have F3 := fun_mk (st := sisfirmlot) l3 c3 k3
  have b3 := F3.binds (ps := ["rows", "lot"]) fun _ _ _ _ _ _ us hl => match us, hl with | [_, _], _ => rfl
  have F4 := fun_mk (st := slotsof) l4 c4 k4
  have b4 := F4.binds (ps := ["size", "many"]) fun _ _ _ _ _ _ us hl => match us, hl with | [_, _], _ => rfl
  have F5 := fun_mk (st := sisfirm) l5 c5 k5
  have b5 := F5.binds (ps := ["table"]) fun _ _ _ _ _ _ us hl => match us, hl with | [_], _ => rfl
  have F6 := fun_mk (st := sfirmlots) l6 c6 k6
  have b6 := F6.binds (ps := ["table"]) fun _ _ _ _ _ _ us hl => match us, hl with | [_], _ => rfl
  have F7 := fun_mk (st := sfewlots) l7 c7 k7
  have b7 := F7.binds (ps := ["things"]) fun _ _ _ _ _ _ us hl => match us, hl with | [_], _ => rfl
  have F8 := fun_mk (st := sneedfirm) l8 c8 k8
  have b8 := F8.binds (ps := ["table", "lot"]) fun _ _ _ _ _ _ us hl => match us, hl with | [_, _], _ => rfl
  have F9 := fun_mk (st := snextfirm) l9 c9 k9
  have b9 := F9.binds (ps := ["table", "lot"]) fun _ _ _ _ _ _ us hl => match us, hl with | [_, _], _ => rfl
  have F10 := fun_mk (st := sLdeck) l10 c10 k10
  have b10 := F10.binds (ps := ["_law_script"]) fun _ _ _ _ _ _ us hl => match us, hl with | [_], _ => rfl
  have F11 := fun_mk (st := sLdraw) l11 c11 k11
  have b11 := F11.binds (ps := ["_law_deck_here", "_law_many"]) fun _ _ _ _ _ _ us hl => match us, hl with | [_, _], _ => rfl
  have F12 := fun_mk (st := sLone) l12 c12 k12
  have b12 := F12.binds (ps := ["_law_deck_here", "_law_items"]) fun _ _ _ _ _ _ us hl => match us, hl with | [_, _], _ => rfl
  have F13 := fun_mk (st := sLmixed) l13 c13 k13
  have b13 := F13.binds (ps := ["_law_deck_here", "_law_items"]) fun _ _ _ _ _ _ us hl => match us, hl with | [_, _], _ => rfl
  have F14 := fun_mk (st := sLtable) l14 c14 k14
  have b14 := F14.binds (ps := ["_law_rows_here"]) fun _ _ _ _ _ _ us hl => match us, hl with | [_], _ => rfl
  have F15 := fun_mk (st := sLlots) l15 c15 k15
  have b15 := F15.binds (ps := ["_law_size"]) fun _ _ _ _ _ _ us hl => match us, hl with | [_], _ => rfl
  have F16 := fun_mk (st := sLspread) l16 c16 k16
  have b16 := F16.binds (ps := ["_law_rows_here", "_law_lot", "_law_first", "_law_second"]) fun _ _ _ _ _ _ us hl => match us, hl with | [_, _, _, _], _ => rfl
  have F17 := fun_mk (st := sLisfirm) l17 c17 k17
  have b17 := F17.binds (ps := ["_law_rows_here", "_law_lot"]) fun _ _ _ _ _ _ us hl => match us, hl with | [_, _], _ => rfl
  have F18 := fun_mk (st := sLmenu) l18 c18 k18
  have b18 := F18.binds (ps := ["_law_deck_here"]) fun _ _ _ _ _ _ us hl => match us, hl with | [_], _ => rfl
  have F19 := fun_mk (st := sLrows) l19 c19 k19
  have b19 := F19.binds (ps := ["_law_deck_here", "_law_size", "_law_menu_here"]) fun _ _ _ _ _ _ us hl => match us, hl with | [_, _, _], _ => rfl
  have F20 := fun_mk (st := sLcore) l20 c20 k20
  have b20 := F20.binds (ps := ["_law_deck_here", "_law_size", "_law_menu_here"]) fun _ _ _ _ _ _ us hl => match us, hl with | [_, _, _], _ => rfl
  have F21 := fun_mk (st := sLnamed) l21 c21 k21
  have b21 := F21.binds (ps := ["_law_rows_here", "_law_naming"]) fun _ _ _ _ _ _ us hl => match us, hl with | [_, _], _ => rfl
  have F22 := fun_mk (st := sLsetin) l22 c22 k22
  have b22 := F22.binds (ps := ["_law_rows_here", "_law_thing", "_law_other"]) fun _ _ _ _ _ _ us hl => match us, hl with | [_, _, _], _ => rfl
  have F23 := fun_mk (st := sLsmall) l23 c23 k23
  have b23 := F23.binds (ps := ["_law_deck_here", "_law_size", "_law_menu_here"]) fun _ _ _ _ _ _ us hl => match us, hl with | [_, _, _], _ => rfl
  have F24 := fun_mk (st := sLmade) l24 c24 k24
  have b24 := F24.binds (ps := ["_law_deck_here", "_law_size", "_law_menu_here"]) fun _ _ _ _ _ _ us hl => match us, hl with | [_, _, _], _ => rfl
  have F25 := fun_mk (st := sLany) l25 c25 k25
  have b25 := F25.binds (ps := ["_law_deck_here", "_law_size", "_law_menu_here"]) fun _ _ _ _ _ _ us hl => match us, hl with | [_, _, _], _ => rfl
  have F26 := fun_mk (st := sLstiff) l26 c26 k26
  have b26 := F26.binds (ps := ["_law_deck_here", "_law_menu_here"]) fun _ _ _ _ _ _ us hl => match us, hl with | [_, _], _ => rfl
  have F27 := fun_mk (st := sListold) l27 c27 k27
  have b27 := F27.binds (ps := ["_law_table_here", "_law_told", "_law_lot"]) fun _ _ _ _ _ _ us hl => match us, hl with | [_, _, _], _ => rfl
  have F28 := fun_mk (st := sLisright) l28 c28 k28
  have b28 := F28.binds (ps := ["_law_deck_here", "_law_rows_here"]) fun _ _ _ _ _ _ us hl => match us, hl with | [_, _], _ => rfl
  have F29 := fun_mk (st := sLnested) l29 c29 k29
  have b29 := F29.binds (ps := ["_law_deck_here", "_law_menu_here"]) fun _ _ _ _ _ _ us hl => match us, hl with | [_, _], _ => rfl
  have F30 := fun_mk (st := slaw) l30 c30 k30
  refine ⟨PySem.W.fnOf "law" "law" (defArgs slaw) (defBody slaw) (defScope slaw) .none kV30 dc30 pm30 an30 cd30 ct30, fun s v => .of_eq rfl, fun base _ _ => ?_⟩
  have c_part : Cal l.prog w K mg base 1 "part" ["table", "lot"] spPart := ⟨_, _, ok_part F1 T, PySem.W.mg_of X G a1, k1, b1⟩
  have c_fills : Cal l.prog w K mg base 1 "_fills" ["rows", "lot", "one", "other"] spFills := ⟨_, _, ok_fills F2 T, PySem.W.mg_of X G a2, k2, b2⟩
  have c_isfirmlot : Cal l.prog w K mg base 2 "_is_firm_lot" ["rows", "lot"] spIsFirmLot := ⟨_, _, ok_isfirmlot F3 T c_fills, PySem.W.mg_of X G a3, k3, b3⟩
  have c_lotsof : Cal l.prog w K mg base 1 "_lots_of" ["size", "many"] spLotsOf := ⟨_, _, ok_lotsof F4 T, PySem.W.mg_of X G a4, k4, b4⟩
  have c_isfirm : Cal l.prog w K mg base 3 "is_firm" ["table"] spIsFirm := ⟨_, _, ok_isfirm F5 T c_isfirmlot, PySem.W.mg_of X G a5, k5, b5⟩
  have c_firmlots : Cal l.prog w K mg base 3 "firm_lots" ["table"] spFirmLots := ⟨_, _, ok_firmlots F6 T c_isfirmlot c_lotsof, PySem.W.mg_of X G a6, k6, b6⟩
  have c_fewlots : Cal l.prog w K mg base 1 "_few_lots" ["things"] spFewLots := ⟨_, _, ok_fewlots F7 T, PySem.W.mg_of X G a7, k7, b7⟩
  have c_needfirm : Cal l.prog w K mg base 4 "_need_firm" ["table", "lot"] spNeedFirm := ⟨_, _, ok_needfirm F8 T c_isfirm c_part, PySem.W.mg_of X G a8, k8, b8⟩
  have c_nextfirm : Cal l.prog w K mg base 5 "next_firm" ["table", "lot"] spNextFirm := ⟨_, _, ok_nextfirm F9 T c_needfirm c_fewlots c_isfirm c_part, PySem.W.mg_of X G a9, k9, b9⟩
  have c_Ldeck : Cal l.prog w K mg base 1 "_law_deck" ["_law_script"] (spDeck K) := ⟨_, _, ok_Ldeck F10 T, PySem.W.mg_of X G a10, k10, b10⟩
  have c_Ldraw : Cal l.prog w K mg base 1 "_law_draw" ["_law_deck_here", "_law_many"] spDraw := ⟨_, _, ok_Ldraw F11 T, PySem.W.mg_of X G a11, k11, b11⟩
  have c_Lone : Cal l.prog w K mg base 2 "_law_one" ["_law_deck_here", "_law_items"] spOne := ⟨_, _, ok_Lone F12 T c_Ldraw, PySem.W.mg_of X G a12, k12, b12⟩
  have c_Lmixed : Cal l.prog w K mg base 2 "_law_mixed" ["_law_deck_here", "_law_items"] spMixed := ⟨_, _, ok_Lmixed F13 T c_Ldraw, PySem.W.mg_of X G a13, k13, b13⟩
  have c_Ltable : Cal l.prog w K mg base 1 "_law_table" ["_law_rows_here"] spTable := ⟨_, _, ok_Ltable F14 T, PySem.W.mg_of X G a14, k14, b14⟩
  have c_Llots : Cal l.prog w K mg base 1 "_law_lots" ["_law_size"] spLlots := ⟨_, _, ok_Llots F15 T, PySem.W.mg_of X G a15, k15, b15⟩
  have c_Lspread : Cal l.prog w K mg base 1 "_law_spread" ["_law_rows_here", "_law_lot", "_law_first", "_law_second"] spSpread := ⟨_, _, ok_Lspread F16 T, PySem.W.mg_of X G a16, k16, b16⟩
  have c_Lisfirm : Cal l.prog w K mg base 2 "_law_is_firm" ["_law_rows_here", "_law_lot"] spLisfirm := ⟨_, _, ok_Lisfirm F17 T c_Lspread, PySem.W.mg_of X G a17, k17, b17⟩
  have c_Lmenu : Cal l.prog w K mg base 3 "_law_menu" ["_law_deck_here"] spMenu := ⟨_, _, ok_Lmenu F18 T c_Ldraw c_Lone, PySem.W.mg_of X G a18, k18, b18⟩
  have c_Lrows : Cal l.prog w K mg base 3 "_law_rows" ["_law_deck_here", "_law_size", "_law_menu_here"] spBuild := ⟨_, _, ok_Lrows F19 T c_Ldraw c_Lone c_Lmixed, PySem.W.mg_of X G a19, k19, b19⟩
  have c_Lcore : Cal l.prog w K mg base 4 "_law_core" ["_law_deck_here", "_law_size", "_law_menu_here"] spBuild := ⟨_, _, ok_Lcore F20 T c_Lrows c_Lisfirm, PySem.W.mg_of X G a20, k20, b20⟩
  have c_Lnamed : Cal l.prog w K mg base 1 "_law_named" ["_law_rows_here", "_law_naming"] spNamed := ⟨_, _, ok_Lnamed F21 T, PySem.W.mg_of X G a21, k21, b21⟩
  have c_Lsetin : Cal l.prog w K mg base 1 "_law_set_in" ["_law_rows_here", "_law_thing", "_law_other"] spSetIn := ⟨_, _, ok_Lsetin F22 T, PySem.W.mg_of X G a22, k22, b22⟩
  have c_Lsmall : Cal l.prog w K mg base 5 "_law_small" ["_law_deck_here", "_law_size", "_law_menu_here"] spBuild := ⟨_, _, ok_Lsmall F23 T c_Ldraw c_Lone c_Lrows c_Lcore, PySem.W.mg_of X G a23, k23, b23⟩
  have c_Lmade : Cal l.prog w K mg base 6 "_law_made" ["_law_deck_here", "_law_size", "_law_menu_here"] spBuild := ⟨_, _, ok_Lmade F24 T c_Ldraw c_Lmixed c_Lsetin c_Lsmall c_Lnamed, PySem.W.mg_of X G a24, k24, b24⟩
  have c_Lany : Cal l.prog w K mg base 7 "_law_any" ["_law_deck_here", "_law_size", "_law_menu_here"] spBuild := ⟨_, _, ok_Lany F25 T c_Ldraw c_Lcore c_Lrows c_Lmade, PySem.W.mg_of X G a25, k25, b25⟩
  have c_Lstiff : Cal l.prog w K mg base 3 "_law_stiff" ["_law_deck_here", "_law_menu_here"] spGiven := ⟨_, _, ok_Lstiff F26 T c_Lone c_Lmixed c_Lnamed, PySem.W.mg_of X G a26, k26, b26⟩
  have c_Listold : CalG l.prog w K mg base 6 "_law_is_told" ["_law_table_here", "_law_told", "_law_lot"] spTold := ⟨_, _, ok_Listold F27 T c_nextfirm, PySem.W.mg_of X G a27, k27, b27⟩
  have c_Lisright : CalG l.prog w K mg base 7 "_law_is_right" ["_law_deck_here", "_law_rows_here"] spRight := ⟨_, _, ok_Lisright F28 T c_Ltable c_firmlots c_Llots c_Lisfirm c_Lmixed c_Listold, PySem.W.mg_of X G a28, k28, b28⟩
  have c_Lnested : Cal l.prog w K mg base 5 "_law_nested" ["_law_deck_here", "_law_menu_here"] spGiven := ⟨_, _, ok_Lnested F29 T c_Ldraw c_Lone c_Lcore c_Lsetin, PySem.W.mg_of X G a29, k29, b29⟩
  exact ok_law F30 T c_Ldeck c_Lmenu c_Ldraw c_Lany c_Lone c_Lnested c_Lstiff c_Lisright c_nextfirm
end K25
open PySem PySem.W PyProof.Rows in
set_option maxRecDepth 100000 in
set_option maxHeartbeats 0 in
theorem PySem.Challenge.cw_piecetrees_k25_whole_next_firm_is_none_j_holds : PySem.Challenge.rw_piecetrees_k25_whole_next_firm_is_none_j.Holds := by
  w_on; o_law; k_head; (case hw => w_witness2)
  k_fill
  refine K25.walkG_of (l := PySem.Challenge.rw_piecetrees_k25_whole_next_firm_is_none_j) (n := 63) (k := 8) (x := "_law_script") (sp := fun K => K25.spLaw K) rfl (by decide) rfl ⟨rfl, by decide, by decide⟩ rfl (fun w h Y => PySem.W.kIn_of Y) ?F (fun K H a ns hl _ hS => ⟨a, ns, rfl, hS, fun _ => rfl⟩)
  case F =>
    intro w mg fa h KX G hmg
    refine' K25.all_mk KX G hmg ?a1 ?l1 ?c1 ?k1 ?a2 ?l2 ?c2 ?k2 ?a3 ?l3 ?c3 ?k3 ?a4 ?l4 ?c4 ?k4 ?a5 ?l5 ?c5 ?k5 ?a6 ?l6 ?c6 ?k6 ?a7 ?l7 ?c7 ?k7 ?a8 ?l8 ?c8 ?k8 ?a9 ?l9 ?c9 ?k9 ?a10 ?l10 ?c10 ?k10 ?a11 ?l11 ?c11 ?k11 ?a12 ?l12 ?c12 ?k12 ?a13 ?l13 ?c13 ?k13 ?a14 ?l14 ?c14 ?k14 ?a15 ?l15 ?c15 ?k15 ?a16 ?l16 ?c16 ?k16 ?a17 ?l17 ?c17 ?k17 ?a18 ?l18 ?c18 ?k18 ?a19 ?l19 ?c19 ?k19 ?a20 ?l20 ?c20 ?k20 ?a21 ?l21 ?c21 ?k21 ?a22 ?l22 ?c22 ?k22 ?a23 ?l23 ?c23 ?k23 ?a24 ?l24 ?c24 ?k24 ?a25 ?l25 ?c25 ?k25 ?a26 ?l26 ?c26 ?k26 ?a27 ?l27 ?c27 ?k27 ?a28 ?l28 ?c28 ?k28 ?a29 ?l29 ?c29 ?k29 ?a30 ?l30 ?c30 ?k30 ?z_len ?z_range ?z_tuple ?z_list ?z_enumerate ?z_sorted ?z_min ?z_int ?z_repr
    (case a1 => k_is)
    (case l1 => k_is)
    (case c1 => k_is)
    (case k1 => k_is)
    (case a2 => k_is)
    (case l2 => k_is)
    (case c2 => k_is)
    (case k2 => k_is)
    (case a3 => k_is)
    (case l3 => k_is)
    (case c3 => k_is)
    (case k3 => k_is)
    (case a4 => k_is)
    (case l4 => k_is)
    (case c4 => k_is)
    (case k4 => k_is)
    (case a5 => k_is)
    (case l5 => k_is)
    (case c5 => k_is)
    (case k5 => k_is)
    (case a6 => k_is)
    (case l6 => k_is)
    (case c6 => k_is)
    (case k6 => k_is)
    (case a7 => k_is)
    (case l7 => k_is)
    (case c7 => k_is)
    (case k7 => k_is)
    (case a8 => k_is)
    (case l8 => k_is)
    (case c8 => k_is)
    (case k8 => k_is)
    (case a9 => k_is)
    (case l9 => k_is)
    (case c9 => k_is)
    (case k9 => k_is)
    (case a10 => k_is)
    (case l10 => k_is)
    (case c10 => k_is)
    (case k10 => k_is)
    (case a11 => k_is)
    (case l11 => k_is)
    (case c11 => k_is)
    (case k11 => k_is)
    (case a12 => k_is)
    (case l12 => k_is)
    (case c12 => k_is)
    (case k12 => k_is)
    (case a13 => k_is)
    (case l13 => k_is)
    (case c13 => k_is)
    (case k13 => k_is)
    (case a14 => k_is)
    (case l14 => k_is)
    (case c14 => k_is)
    (case k14 => k_is)
    (case a15 => k_is)
    (case l15 => k_is)
    (case c15 => k_is)
    (case k15 => k_is)
    (case a16 => k_is)
    (case l16 => k_is)
    (case c16 => k_is)
    (case k16 => k_is)
    (case a17 => k_is)
    (case l17 => k_is)
    (case c17 => k_is)
    (case k17 => k_is)
    (case a18 => k_is)
    (case l18 => k_is)
    (case c18 => k_is)
    (case k18 => k_is)
    (case a19 => k_is)
    (case l19 => k_is)
    (case c19 => k_is)
    (case k19 => k_is)
    (case a20 => k_is)
    (case l20 => k_is)
    (case c20 => k_is)
    (case k20 => k_is)
    (case a21 => k_is)
    (case l21 => k_is)
    (case c21 => k_is)
    (case k21 => k_is)
    (case a22 => k_is)
    (case l22 => k_is)
    (case c22 => k_is)
    (case k22 => k_is)
    (case a23 => k_is)
    (case l23 => k_is)
    (case c23 => k_is)
    (case k23 => k_is)
    (case a24 => k_is)
    (case l24 => k_is)
    (case c24 => k_is)
    (case k24 => k_is)
    (case a25 => k_is)
    (case l25 => k_is)
    (case c25 => k_is)
    (case k25 => k_is)
    (case a26 => k_is)
    (case l26 => k_is)
    (case c26 => k_is)
    (case k26 => k_is)
    (case a27 => k_is)
    (case l27 => k_is)
    (case c27 => k_is)
    (case k27 => k_is)
    (case a28 => k_is)
    (case l28 => k_is)
    (case c28 => k_is)
    (case k28 => k_is)
    (case a29 => k_is)
    (case l29 => k_is)
    (case c29 => k_is)
    (case k29 => k_is)
    (case a30 => k_is)
    (case l30 => k_is)
    (case c30 => k_is)
    (case k30 => k_is)
    (case z_len => k_is)
    (case z_range => k_is)
    (case z_tuple => k_is)
    (case z_list => k_is)
    (case z_enumerate => k_is)
    (case z_sorted => k_is)
    (case z_min => k_is)
    (case z_int => k_is)
    (case z_repr => k_is)
