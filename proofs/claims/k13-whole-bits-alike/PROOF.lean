import PyProof.Rows.All
import Wide.All
import OpenK.AllK
import Wide.FinOn
import HandS.ForMost
import HandS.Deep
import HandS.IsInst
import HandS.TupAny
import HandS.Star
import HandS.Defaults
import HandS.SetKeys
import HandS.Conv
import HandS.Style
import HandS.SortKw
import KE.SortKeyHeap
import KE.KeyNested
import KE.Datum
import KE.KDictItemsList
import HandS.Rev
import HandS.ListItems
import HandS.DictTup
import KE.KDictCopyH
import HandS.DictComp
import PyProof.RulesMatch
import PyProof.RulesMatchSeq
import PyProof.Rows.MatchSeqLen
import HandS.SortInts
import HandS.New0
import PySem.Challenge.RW_shadowlinks_k13_whole_bits_alike
set_option Elab.async false
set_option linter.all false
set_option maxRecDepth 100000
set_option maxHeartbeats 2000000
section
set_option autoImplicit false
namespace Mth

/-- a strict total order, as a Bool -/
class SOrd (α : Type) where
  lt : α → α → Bool
  irr : ∀ x, lt x x = false
  tr : ∀ x y z, lt x y = true → lt y z = true → lt x z = true
  tri : ∀ x y, lt x y = true ∨ x = y ∨ lt y x = true

theorem SOrd.asym {α : Type} [SOrd α] {x y : α} (h : SOrd.lt x y = true) : SOrd.lt y x = false := by
  cases e : SOrd.lt y x with
  | false => rfl
  | true =>
    have := SOrd.tr x y x h e
    rw [SOrd.irr] at this
    exact this.symm
theorem SOrd.ne {α : Type} [SOrd α] {x y : α} (h : SOrd.lt x y = true) : x ≠ y := by
  intro e
  rw [e, SOrd.irr] at h
  cases h

abbrev Lit (α : Type) := α × Bool
abbrev Cl (α : Type) := List (Lit α)

section
variable {α : Type} [DecidableEq α]

/-! ### satisfaction -/
def hC (a : α → Bool) (c : Cl α) : Bool := c.any fun l => a l.1 == l.2
def hT (a : α → Bool) (cs : List (Cl α)) : Bool := cs.all (hC a)
theorem hC_iff {a : α → Bool} {c : Cl α} : hC a c = true ↔ ∃ l ∈ c, a l.1 = l.2 := by
  simp [hC]
theorem hT_iff {a : α → Bool} {cs : List (Cl α)} : hT a cs = true ↔ ∀ c ∈ cs, hC a c = true := by
  simp [hT]
def Fol (cs : List (Cl α)) (c : Cl α) : Prop := ∀ a, hT a cs = true → hC a c = true
def setA (a : α → Bool) (x : α) (b : Bool) : α → Bool := fun y => if y = x then b else a y
theorem setA_same {a : α → Bool} {x : α} {b : Bool} : setA a x b x = b := by simp [setA]
theorem setA_ne {a : α → Bool} {x y : α} {b : Bool} (h : y ≠ x) : setA a x b y = a y := by simp [setA, h]
theorem setA_self {a : α → Bool} {x : α} : setA a x (a x) = a := by
  funext y
  unfold setA
  split
  · rename_i h; rw [h]
  · rfl

/-- no name with both signs -/
def NT (c : Cl α) : Prop := ∀ n, ¬ ((n, true) ∈ c ∧ (n, false) ∈ c)
def Sub (c d : Cl α) : Prop := ∀ l ∈ c, l ∈ d
theorem hC_sub {a : α → Bool} {c d : Cl α} (h : Sub c d) (e : hC a c = true) : hC a d = true := by
  obtain ⟨l, hl, q⟩ := hC_iff.mp e
  exact hC_iff.mpr ⟨l, h l hl, q⟩
theorem NT.sub {c d : Cl α} (h : Sub c d) (n : NT d) : NT c := fun x hx => n x ⟨h _ hx.1, h _ hx.2⟩
theorem NT.flip {c : Cl α} (n : NT c) {x : α} {b : Bool} (h : (x, b) ∈ c) : (x, !b) ∉ c := by
  intro q
  cases b with
  | true => exact n x ⟨h, q⟩
  | false => exact n x ⟨q, h⟩

/-! ### resolvents, as sets -/
def IsRes (c d : Cl α) (x : α) (r : Cl α) : Prop := NT r ∧ ∀ l, l ∈ r ↔ (l ∈ c ∨ l ∈ d) ∧ l.1 ≠ x
/-- K' is what is left of K when x is eliminated -/
structure ElimRel (K : List (Cl α)) (x : α) (K' : List (Cl α)) : Prop where
  from_ : ∀ r ∈ K', (r ∈ K ∧ ∀ l ∈ r, l.1 ≠ x) ∨ ∃ c ∈ K, ∃ d ∈ K, (x, true) ∈ c ∧ (x, false) ∈ d ∧ IsRes c d x r
  kept : ∀ r ∈ K, (∀ l ∈ r, l.1 ≠ x) → ∃ s ∈ K', Sub s r
  res : ∀ c ∈ K, ∀ d ∈ K, (x, true) ∈ c → (x, false) ∈ d → ∀ r, IsRes c d x r → ∃ s ∈ K', Sub s r
def ElimOk (K : List (Cl α)) (x : α) (K' : List (Cl α)) : Prop := ∀ a, hT a K' = true ↔ ∃ b, hT (setA a x b) K = true

theorem hC_setA {a : α → Bool} {x : α} {b : Bool} {c : Cl α} (h : ∀ l ∈ c, l.1 ≠ x) : hC (setA a x b) c = hC a c := by
  rw [Bool.eq_iff_iff, hC_iff, hC_iff]
  constructor
  · rintro ⟨l, hl, e⟩; exact ⟨l, hl, by rw [setA_ne (h l hl)] at e; exact e⟩
  · rintro ⟨l, hl, e⟩; exact ⟨l, hl, by rw [setA_ne (h l hl)]; exact e⟩

theorem ElimRel.ok {K K' : List (Cl α)} {x : α} (hN : ∀ c ∈ K, NT c) (h : ElimRel K x K') : ElimOk K x K' := by
  intro a
  constructor
  · intro hk
    rw [hT_iff] at hk
    -- suppose both values fail
    by_cases ht : hT (setA a x true) K = true
    · exact ⟨true, ht⟩
    by_cases hf : hT (setA a x false) K = true
    · exact ⟨false, hf⟩
    exfalso
    have get : ∀ b, ¬ hT (setA a x b) K = true → ∃ c ∈ K, hC (setA a x b) c = false := by
      intro b hb
      rw [hT_iff] at hb
      obtain ⟨c, hc⟩ := Classical.not_forall.mp hb
      obtain ⟨hc1, hc2⟩ := Classical.not_imp.mp hc
      exact ⟨c, hc1, by simpa using hc2⟩
    obtain ⟨d, hd, ed⟩ := get true ht
    obtain ⟨c, hc, ec⟩ := get false hf
    have nd : ∀ l ∈ d, setA a x true l.1 ≠ l.2 := fun l hl e => by
      rw [hC_iff.mpr ⟨l, hl, e⟩] at ed; cases ed
    have nc : ∀ l ∈ c, setA a x false l.1 ≠ l.2 := fun l hl e => by
      rw [hC_iff.mpr ⟨l, hl, e⟩] at ec; cases ec
    have nx : ∀ {c : Cl α} {b : Bool}, c ∈ K → hC (setA a x b) c = false → (∃ l ∈ c, l.1 = x) := by
      intro c b hc e
      apply Classical.byContradiction
      intro hn
      have hn' : ∀ l ∈ c, l.1 ≠ x := fun l hl q => hn ⟨l, hl, q⟩
      obtain ⟨s, hs, hsub⟩ := h.kept c hc hn'
      have := hC_sub hsub (hk s hs)
      rw [hC_setA hn', this] at e
      cases e
    have hcx : (x, true) ∈ c := by
      obtain ⟨⟨n, b⟩, hl, e⟩ := nx hc ec
      have q := nc _ hl
      simp only at e
      subst e
      rw [setA_same] at q
      cases b with
      | true => exact hl
      | false => exact absurd rfl q
    have hdx : (x, false) ∈ d := by
      obtain ⟨⟨n, b⟩, hl, e⟩ := nx hd ed
      have q := nd _ hl
      simp only at e
      subst e
      rw [setA_same] at q
      cases b with
      | false => exact hl
      | true => exact absurd rfl q
    -- the resolvent
    have hr : IsRes c d x ((c ++ d).filter fun l => decide (l.1 ≠ x)) := by
      refine ⟨fun n ⟨h1, h2⟩ => ?_, fun l => ?_⟩
      · simp only [List.mem_filter, List.mem_append, decide_eq_true_eq] at h1 h2
        obtain ⟨m1, ne⟩ := h1
        have f : ∀ b, ((n, b) ∈ c ∨ (n, b) ∈ d) → a n ≠ b := by
          intro b m
          rcases m with m | m
          · have := nc _ m; rwa [setA_ne ne] at this
          · have := nd _ m; rwa [setA_ne ne] at this
        have t1 := f true m1
        have t2 := f false h2.1
        cases e : a n with
        | true => exact t1 e
        | false => exact t2 e
      · simp only [List.mem_filter, List.mem_append, decide_eq_true_eq]
    obtain ⟨s, hs, hsub⟩ := h.res c hc d hd hcx hdx _ hr
    obtain ⟨l, hl, e⟩ := hC_iff.mp (hC_sub hsub (hk s hs))
    simp only [List.mem_filter, List.mem_append, decide_eq_true_eq] at hl
    rcases hl with ⟨m | m, ne⟩
    · exact nc l m (by rw [setA_ne ne]; exact e)
    · exact nd l m (by rw [setA_ne ne]; exact e)
  · rintro ⟨b, hb⟩
    rw [hT_iff] at hb
    rw [hT_iff]
    intro r hr
    rcases h.from_ r hr with ⟨hk, hx⟩ | ⟨c, hc, d, hd, hcx, hdx, hres⟩
    · have := hb r hk
      rwa [hC_setA hx] at this
    · have use : ∀ l, (l ∈ c ∨ l ∈ d) → l.1 ≠ x → setA a x b l.1 = l.2 → hC a r = true := fun l m ne e =>
        hC_iff.mpr ⟨l, (hres.2 l).mpr ⟨m, ne⟩, by rwa [setA_ne ne] at e⟩
      have hxr : ∀ l ∈ r, l.1 ≠ x := fun l hl => ((hres.2 l).mp hl).2
      obtain ⟨l1, m1, e1⟩ := hC_iff.mp (hb c hc)
      obtain ⟨l2, m2, e2⟩ := hC_iff.mp (hb d hd)
      by_cases n1 : l1.1 = x
      · by_cases n2 : l2.1 = x
        · rw [n1, setA_same] at e1
          rw [n2, setA_same] at e2
          cases b with
          | true =>
            have hl2 : l2 = (x, true) := by rw [← n2, e2]
            rw [hl2] at m2
            exact (hN d hd x ⟨m2, hdx⟩).elim
          | false =>
            have hl1 : l1 = (x, false) := by rw [← n1, e1]
            rw [hl1] at m1
            exact (hN c hc x ⟨hcx, m1⟩).elim
        · exact use l2 (.inr m2) n2 e2
      · exact use l1 (.inl m1) n1 e1

/-! ### following, over the names left -/
theorem ElimOk.fol {K K' : List (Cl α)} {x : α} (h : ElimOk K x K') {c : Cl α} (hx : ∀ l ∈ c, l.1 ≠ x) : Fol K' c ↔ Fol K c := by
  constructor
  · intro f a ha
    exact f a ((h a).mpr ⟨a x, by rw [setA_self]; exact ha⟩)
  · intro f a ha
    obtain ⟨b, hb⟩ := (h a).mp ha
    have := f _ hb
    rwa [hC_setA hx] at this

/-! ### the closure: valuations of literals -/
def VX (X : List α) (v : Lit α → Bool) : Prop := ∀ n, (n ∈ X → v (n, true) = !v (n, false)) ∧ (v (n, true) = true ∨ v (n, false) = true)
def sv (v : Lit α → Bool) (c : Cl α) : Prop := ∃ l ∈ c, v l = true
def ClInv (cs : List (Cl α)) (X : List α) (S : List (Cl α)) : Prop :=
  ∀ c, NT c → ((∀ v, VX X v → (∀ d ∈ cs, sv v d) → sv v c) ↔ ∃ s ∈ S, Sub s c)
theorem VX.flip {X : List α} {v : Lit α → Bool} (h : VX X v) (n : α) (b : Bool) (e : v (n, b) = false) : v (n, !b) = true := by
  rcases (h n).2 with q | q <;> cases b <;> simp_all
theorem VX.ex {X : List α} {v : Lit α → Bool} (h : VX X v) {n : α} (hn : n ∈ X) (b : Bool) (e : v (n, b) = true) : v (n, !b) = false := by
  have := (h n).1 hn
  cases b <;> simp_all
theorem VX.mono {X Y : List α} {v : Lit α → Bool} (h : VX Y v) (s : ∀ n ∈ X, n ∈ Y) : VX X v := fun n => ⟨fun hn => (h n).1 (s n hn), (h n).2⟩
theorem sv_sub {v : Lit α → Bool} {c d : Cl α} (h : Sub c d) (s : sv v c) : sv v d := let ⟨l, hl, e⟩ := s; ⟨l, h l hl, e⟩

theorem ClInv.start {cs S : List (Cl α)} (h1 : ∀ s ∈ S, s ∈ cs) (h2 : ∀ c ∈ cs, ∃ s ∈ S, Sub s c) : ClInv cs [] S := by
  intro c hc
  constructor
  · intro f
    let v : Lit α → Bool := fun l => !decide (l ∈ c)
    have hv : VX [] v := by
      intro n
      refine And.intro (fun h => by cases h) ?_
      by_cases h : (n, true) ∈ c
      · have : (n, false) ∉ c := fun q => hc n ⟨h, q⟩
        exact .inr (by simp [v, this])
      · exact .inl (by simp [v, h])
    apply Classical.byContradiction
    intro hn
    have : ∀ d ∈ cs, sv v d := by
      intro d hd
      obtain ⟨s, hs, hsd⟩ := h2 d hd
      have : ¬ Sub s c := fun q => hn ⟨s, hs, q⟩
      obtain ⟨l, hl⟩ := Classical.not_forall.mp this
      obtain ⟨m, q⟩ := Classical.not_imp.mp hl
      exact ⟨l, hsd l m, by simp [v, q]⟩
    obtain ⟨l, hl, e⟩ := f v hv this
    simp [v, hl] at e
  · rintro ⟨s, hs, sub⟩ v _ hd
    exact sv_sub sub (hd s (h1 s hs))

/-- T: the least of S and its resolvents about y -/
structure CutRel (S : List (Cl α)) (y : α) (T : List (Cl α)) : Prop where
  from_ : ∀ r ∈ T, r ∈ S ∨ ∃ c ∈ S, ∃ d ∈ S, (y, true) ∈ c ∧ (y, false) ∈ d ∧ IsRes c d y r
  kept : ∀ r ∈ S, ∃ s ∈ T, Sub s r
  res : ∀ c ∈ S, ∀ d ∈ S, (y, true) ∈ c → (y, false) ∈ d → ∀ r, IsRes c d y r → ∃ s ∈ T, Sub s r

theorem ClInv.step {cs S T : List (Cl α)} {X : List α} {y : α} (hN : ∀ c ∈ S, NT c) (I : ClInv cs X S) (R : CutRel S y T) : ClInv cs (X ++ [y]) T := by
  have sub : ∀ n ∈ X, n ∈ X ++ [y] := fun n h => List.mem_append_left _ h
  have hy : y ∈ X ++ [y] := by simp
  intro c hc
  constructor
  · intro f
    -- a clause that has y with a sign: S already has it
    have A : ∀ (c : Cl α) (b : Bool), NT c → (y, b) ∈ c → (∀ v, VX (X ++ [y]) v → (∀ d ∈ cs, sv v d) → sv v c) → ∃ s ∈ S, Sub s c := by
      intro c b hc hb f
      refine (I c hc).mp fun v hv hd => ?_
      apply Classical.byContradiction
      intro hn
      have e : v (y, b) = false := by
        cases e : v (y, b) with
        | false => rfl
        | true => exact (hn ⟨_, hb, e⟩).elim
      refine hn (f v (fun n => ⟨fun hm => ?_, (hv n).2⟩) hd)
      rcases List.mem_append.mp hm with hm | hm
      · exact (hv n).1 hm
      · have : n = y := by simpa using hm
        subst this
        have := hv.flip n b e
        cases b <;> simp_all
    by_cases h1 : (y, true) ∈ c
    · obtain ⟨s, hs, q⟩ := A c true hc h1 f
      obtain ⟨t, ht, q'⟩ := R.kept s hs
      exact ⟨t, ht, fun l hl => q l (q' l hl)⟩
    by_cases h2 : (y, false) ∈ c
    · obtain ⟨s, hs, q⟩ := A c false hc h2 f
      obtain ⟨t, ht, q'⟩ := R.kept s hs
      exact ⟨t, ht, fun l hl => q l (q' l hl)⟩
    have B : ∀ b, ∃ s ∈ S, Sub s ((y, b) :: c) := by
      intro b
      refine A _ b (fun n ⟨m1, m2⟩ => ?_) (List.mem_cons_self) fun v hv hd => sv_sub (fun l hl => List.mem_cons_of_mem _ hl) (f v hv hd)
      rcases List.mem_cons.mp m1 with e1 | m1
      · rcases List.mem_cons.mp m2 with e2 | m2
        · have a1 := congrArg Prod.snd e1
          have a2 := congrArg Prod.snd e2
          simp at a1 a2
          rw [a1] at a2; cases a2
        · injection e1 with e1 _; rw [e1] at m2; exact h2 m2
      · rcases List.mem_cons.mp m2 with e2 | m2
        · injection e2 with e2 _; rw [e2] at m1; exact h1 m1
        · exact hc n ⟨m1, m2⟩
    obtain ⟨s1, hs1, q1⟩ := B true
    obtain ⟨s2, hs2, q2⟩ := B false
    have done : ∀ s ∈ S, Sub s c → ∃ t ∈ T, Sub t c := fun s hs q => by
      obtain ⟨t, ht, q'⟩ := R.kept s hs
      exact ⟨t, ht, fun l hl => q l (q' l hl)⟩
    by_cases m1 : (y, true) ∈ s1
    · by_cases m2 : (y, false) ∈ s2
      · have hsub : Sub ((s1 ++ s2).filter fun l => decide (l.1 ≠ y)) c := by
          intro l hl
          simp only [List.mem_filter, List.mem_append, decide_eq_true_eq] at hl
          obtain ⟨m, ne⟩ := hl
          rcases m with m | m
          · rcases List.mem_cons.mp (q1 l m) with e | e
            · rw [e] at ne; exact (ne rfl).elim
            · exact e
          · rcases List.mem_cons.mp (q2 l m) with e | e
            · rw [e] at ne; exact (ne rfl).elim
            · exact e
        obtain ⟨t, ht, q⟩ := R.res s1 hs1 s2 hs2 m1 m2 _ ⟨hc.sub hsub, fun l => by simp only [List.mem_filter, List.mem_append, decide_eq_true_eq]⟩
        exact ⟨t, ht, fun l hl => hsub l (q l hl)⟩
      · refine done s2 hs2 fun l hl => ?_
        rcases List.mem_cons.mp (q2 l hl) with e | e
        · rw [e] at hl; exact (m2 hl).elim
        · exact e
    · refine done s1 hs1 fun l hl => ?_
      rcases List.mem_cons.mp (q1 l hl) with e | e
      · rw [e] at hl; exact (m1 hl).elim
      · exact e
  · rintro ⟨t, ht, q⟩ v hv hd
    have hs : ∀ s ∈ S, sv v s := fun s hs => (I s (hN s hs)).mpr ⟨s, hs, fun _ h => h⟩ v (hv.mono sub) hd
    refine sv_sub q ?_
    rcases R.from_ t ht with m | ⟨c1, h1, c2, h2, m1, m2, res⟩
    · exact hs t m
    · obtain ⟨l1, a1, e1⟩ := hs c1 h1
      obtain ⟨l2, a2, e2⟩ := hs c2 h2
      by_cases n1 : l1.1 = y
      · by_cases n2 : l2.1 = y
        · obtain ⟨x1, b1⟩ := l1
          obtain ⟨x2, b2⟩ := l2
          simp only at n1 n2
          subst n1
          subst n2
          cases b1 with
          | false => exact (hN c1 h1 x2 ⟨m1, a1⟩).elim
          | true =>
            cases b2 with
            | true => exact (hN c2 h2 x2 ⟨a2, m2⟩).elim
            | false =>
              have := hv.ex hy true e1
              rw [show (!true) = false from rfl, e2] at this
              cases this
        · exact ⟨l2, (res.2 l2).mpr ⟨.inr a2, n2⟩, e2⟩
      · exact ⟨l1, (res.2 l1).mpr ⟨.inl a1, n1⟩, e1⟩

theorem ClInv.fol {cs S : List (Cl α)} {X : List α} (I : ClInv cs X S) (hcs : ∀ d ∈ cs, ∀ l ∈ d, l.1 ∈ X) {c : Cl α} (hc : NT c) (hX : ∀ l ∈ c, l.1 ∈ X) : Fol cs c ↔ ∃ s ∈ S, Sub s c := by
  rw [← I c hc]
  constructor
  · intro f v hv hd
    have key : ∀ l : Lit α, l.1 ∈ X → (v (l.1, true) = l.2 ↔ v l = true) := by
      rintro ⟨n, b⟩ hl
      have := (hv n).1 hl
      cases b <;> simp_all
    have ht : hT (fun n => v (n, true)) cs = true := hT_iff.mpr fun d hm => by
      obtain ⟨l, hl, e⟩ := hd d hm
      exact hC_iff.mpr ⟨l, hl, (key l (hcs d hm l hl)).mpr e⟩
    obtain ⟨l, hl, e⟩ := hC_iff.mp (f _ ht)
    exact ⟨l, hl, (key l (hX l hl)).mp e⟩
  · intro f a ha
    have hv : VX X (fun l : Lit α => a l.1 == l.2) := fun n => by
      cases e : a n <;> simp [e]
    obtain ⟨l, hl, e⟩ := f _ hv fun d hm => by
      obtain ⟨l, hl, e⟩ := hC_iff.mp (hT_iff.mp ha d hm)
      exact ⟨l, hl, by simpa using e⟩
    exact hC_iff.mpr ⟨l, hl, by simpa using e⟩
end
end Mth
end
section
set_option autoImplicit false
namespace Mth

theorem snoc_ind {α : Type} {P : List α → Prop} (h0 : P []) (h1 : ∀ l a, P l → P (l ++ [a])) (l : List α) : P l := by
  have : ∀ r : List α, P r.reverse := by
    intro r
    induction r with
    | nil => exact h0
    | cons a r ih => rw [List.reverse_cons]; exact h1 _ _ ih
  have := this l.reverse
  rwa [List.reverse_reverse] at this

/-! ### orders -/
def lexLt {β : Type} [SOrd β] [DecidableEq β] : List β → List β → Bool
  | [], [] => false
  | [], _ :: _ => true
  | _ :: _, [] => false
  | x :: xs, y :: ys => if x = y then lexLt xs ys else SOrd.lt x y
theorem lexLt_irr {β : Type} [SOrd β] [DecidableEq β] : ∀ x : List β, lexLt x x = false
  | [] => rfl
  | x :: xs => by rw [lexLt, if_pos rfl]; exact lexLt_irr xs
theorem lexLt_tr {β : Type} [SOrd β] [DecidableEq β] : ∀ x y z : List β, lexLt x y = true → lexLt y z = true → lexLt x z = true
  | [], [], _, h, _ => by cases h
  | [], _ :: _, [], _, h => by cases h
  | [], _ :: _, _ :: _, _, _ => rfl
  | _ :: _, [], _, h, _ => by cases h
  | _ :: _, _ :: _, [], _, h => by cases h
  | x :: xs, y :: ys, z :: zs, h1, h2 => by
    rw [lexLt] at h1 h2 ⊢
    by_cases e1 : x = y
    · rw [if_pos e1] at h1
      by_cases e2 : y = z
      · rw [if_pos e2] at h2
        rw [if_pos (e1.trans e2)]
        exact lexLt_tr xs ys zs h1 h2
      · rw [if_neg e2] at h2
        rw [if_neg (by rw [e1]; exact e2), e1]
        exact h2
    · rw [if_neg e1] at h1
      by_cases e2 : y = z
      · rw [← e2, if_neg e1]
        exact h1
      · rw [if_neg e2] at h2
        have h3 := SOrd.tr x y z h1 h2
        rw [if_neg (SOrd.ne h3)]
        exact h3
theorem lexLt_tri {β : Type} [SOrd β] [DecidableEq β] : ∀ x y : List β, lexLt x y = true ∨ x = y ∨ lexLt y x = true
  | [], [] => .inr (.inl rfl)
  | [], _ :: _ => .inl rfl
  | _ :: _, [] => .inr (.inr rfl)
  | x :: xs, y :: ys => by
    rw [lexLt, lexLt]
    by_cases e : x = y
    · rw [if_pos e, if_pos e.symm, e]
      rcases lexLt_tri xs ys with h | h | h
      · exact .inl h
      · exact .inr (.inl (by rw [h]))
      · exact .inr (.inr h)
    · rw [if_neg e, if_neg (Ne.symm e)]
      rcases SOrd.tri x y with h | h | h
      · exact .inl h
      · exact (e h).elim
      · exact .inr (.inr h)
instance instList {β : Type} [SOrd β] [DecidableEq β] : SOrd (List β) := ⟨lexLt, lexLt_irr, lexLt_tr, lexLt_tri⟩
def litLt {α : Type} [SOrd α] [DecidableEq α] (p q : Lit α) : Bool := if p.1 = q.1 then (!p.2 && q.2) else SOrd.lt p.1 q.1
instance instLit {α : Type} [SOrd α] [DecidableEq α] : SOrd (Lit α) where
  lt := litLt
  irr := fun x => by rw [litLt, if_pos rfl]; cases x.2 <;> rfl
  tr := fun x y z h1 h2 => by
    unfold litLt at h1 h2 ⊢
    by_cases e1 : x.1 = y.1
    · rw [if_pos e1] at h1
      by_cases e2 : y.1 = z.1
      · rw [if_pos e2] at h2
        rw [if_pos (e1.trans e2)]
        cases hx : x.2 <;> cases hy : y.2 <;> cases hz : z.2 <;> simp_all
      · rw [if_neg e2] at h2
        rw [if_neg (by rw [e1]; exact e2), e1]
        exact h2
    · rw [if_neg e1] at h1
      by_cases e2 : y.1 = z.1
      · rw [← e2, if_neg e1]; exact h1
      · rw [if_neg e2] at h2
        have h3 := SOrd.tr _ _ _ h1 h2
        rw [if_neg (SOrd.ne h3)]
        exact h3
  tri := fun x y => by
    unfold litLt
    by_cases e : x.1 = y.1
    · rw [if_pos e, if_pos e.symm]
      obtain ⟨n, b⟩ := x
      obtain ⟨m, c⟩ := y
      simp only at e
      subst e
      cases b <;> cases c <;> simp
    · rw [if_neg e, if_neg (Ne.symm e)]
      rcases SOrd.tri x.1 y.1 with h | h | h
      · exact .inl h
      · exact (e h).elim
      · exact .inr (.inr h)
theorem lt_litLt {α : Type} [SOrd α] [DecidableEq α] {p q : Lit α} (h : SOrd.lt p.1 q.1 = true) : SOrd.lt p q = true := by
  show litLt p q = true
  unfold litLt
  rw [if_neg (SOrd.ne h)]
  exact h

def Srt {β : Type} [SOrd β] (l : List β) : Prop := l.Pairwise fun x y => SOrd.lt x y = true
theorem Srt.nodup {β : Type} [SOrd β] {l : List β} (h : Srt l) : l.Nodup := List.Pairwise.imp (fun h => SOrd.ne h) h
theorem Srt.uniq {β : Type} [SOrd β] {l m : List β} (h1 : Srt l) (h2 : Srt m) (h : ∀ x, x ∈ l ↔ x ∈ m) : l = m := by
  have hp : l.Perm m := (List.perm_ext_iff_of_nodup h1.nodup h2.nodup).mpr h
  exact hp.eq_of_pairwise (fun a b _ _ h1 h2 => by rw [SOrd.asym h1] at h2; cases h2) h1 h2
/-- a weakly sorted list without duplicates is strictly sorted -/
theorem Srt.of_weak {β : Type} [SOrd β] {l : List β} (h : l.Pairwise fun x y => SOrd.lt y x = false) (n : l.Nodup) : Srt l := by
  have : l.Pairwise fun x y => SOrd.lt y x = false ∧ x ≠ y := List.pairwise_and_iff.mpr ⟨h, n⟩
  refine List.Pairwise.imp (fun {x y} ⟨h1, h2⟩ => ?_) this
  rcases SOrd.tri x y with q | q | q
  · exact q
  · exact (h2 q).elim
  · rw [h1] at q; cases q

/-! ### lists without duplicates -/
theorem nodup_le {β : Type} [DecidableEq β] : ∀ {l m : List β}, l.Nodup → (∀ x ∈ l, x ∈ m) → l.length ≤ m.length
  | [], _, _, _ => Nat.zero_le _
  | x :: l, m, h, s => by
    rw [List.nodup_cons] at h
    have hx : x ∈ m := s x List.mem_cons_self
    have := nodup_le (l := l) (m := m.erase x) h.2 fun y hy => (List.mem_erase_of_ne (fun e : y = x => h.1 (by rw [← e]; exact hy))).mpr (s y (List.mem_cons_of_mem _ hy))
    rw [List.length_erase_of_mem hx] at this
    have h1 : 0 < m.length := List.length_pos_of_mem hx
    rw [List.length_cons]
    omega
theorem sub_full {β : Type} [DecidableEq β] {l m : List β} (h : l.Nodup) (s : ∀ x ∈ l, x ∈ m) (hl : m.length ≤ l.length) : ∀ x ∈ m, x ∈ l := by
  intro x hx
  apply Classical.byContradiction
  intro hn
  have := nodup_le (l := l) (m := m.erase x) h fun y hy => (List.mem_erase_of_ne (fun e : y = x => hn (by rw [← e]; exact hy))).mpr (s y hy)
  rw [List.length_erase_of_mem hx] at this
  have h1 : 0 < m.length := List.length_pos_of_mem hx
  omega

section
variable {α : Type} [DecidableEq α] [SOrd α]

/-! ### valid clauses -/
structure VC (ns : List α) (c : Cl α) : Prop where
  asc : c.Pairwise fun l m => SOrd.lt l.1 m.1 = true
  sub : ∀ l ∈ c, l.1 ∈ ns
theorem VC.srt {ns : List α} {c : Cl α} (h : VC ns c) : Srt c := List.Pairwise.imp (fun h => lt_litLt h) h.asc
theorem VC.nodup {ns : List α} {c : Cl α} (h : VC ns c) : c.Nodup := h.srt.nodup
theorem asc_inj {c : Cl α} (h : c.Pairwise fun l m => SOrd.lt l.1 m.1 = true) {l m : Lit α} (hl : l ∈ c) (hm : m ∈ c) (e : l.1 = m.1) : l = m := by
  induction c with
  | nil => cases hl
  | cons x c ih =>
    rw [List.pairwise_cons] at h
    rcases List.mem_cons.mp hl with h1 | h1
    · rcases List.mem_cons.mp hm with h2 | h2
      · rw [h1, h2]
      · have := SOrd.ne (h.1 m h2)
        rw [h1] at e
        exact (this e).elim
    · rcases List.mem_cons.mp hm with h2 | h2
      · have := SOrd.ne (h.1 l h1)
        rw [h2] at e
        exact (this e.symm).elim
      · exact ih h.2 h1 h2
theorem VC.nt {ns : List α} {c : Cl α} (h : VC ns c) : NT c := fun n ⟨h1, h2⟩ => by
  have := asc_inj h.asc h1 h2 rfl
  injection this with _ e
  cases e
theorem VC.uniq {ns ms : List α} {c d : Cl α} (h : VC ns c) (k : VC ms d) (e : ∀ l, l ∈ c ↔ l ∈ d) : c = d := Srt.uniq h.srt k.srt e
theorem VC.eraseIdx {ns : List α} {c : Cl α} (h : VC ns c) (k : Nat) : VC ns (c.eraseIdx k) :=
  ⟨h.asc.sublist (List.eraseIdx_sublist c k), fun l hl => h.sub l ((List.eraseIdx_sublist c k).subset hl)⟩
theorem VC.filter {ns : List α} {c : Cl α} (h : VC ns c) (p : Lit α → Bool) : VC ns (c.filter p) :=
  ⟨h.asc.sublist List.filter_sublist, fun l hl => h.sub l (List.mem_filter.mp hl).1⟩
theorem VC.mono {ns ms : List α} {c : Cl α} (h : VC ns c) (s : ∀ n ∈ ns, n ∈ ms) : VC ms c := ⟨h.asc, fun l hl => s _ (h.sub l hl)⟩
theorem VC.nil {ns : List α} : VC ns ([] : Cl α) := ⟨List.Pairwise.nil, fun _ h => by cases h⟩

def Asc (ns : List α) : Prop := ns.Pairwise fun x y => SOrd.lt x y = true

/-! ### all clauses, all rows: as the law's loops make them -/
def moreC (n : α) (acc : List (Cl α)) : List (Cl α) := acc.flatMap fun c => [c, c ++ [(n, false)], c ++ [(n, true)]]
def allC (ns : List α) : List (Cl α) := ns.foldl (fun acc n => moreC n acc) [[]]
theorem allC_snoc (ns : List α) (n : α) : allC (ns ++ [n]) = moreC n (allC ns) := by unfold allC; rw [List.foldl_append]; rfl
theorem moreC_len (n : α) (acc : List (Cl α)) : (moreC n acc).length = 3 * acc.length := by
  unfold moreC
  induction acc with
  | nil => rfl
  | cons c acc ih => rw [List.flatMap_cons, List.length_append, ih, List.length_cons]; simp only [List.length_cons, List.length_nil]; omega
theorem allC_len (ns : List α) : (allC ns).length = 3 ^ ns.length := by
  induction ns using snoc_ind with
  | h0 => rfl
  | h1 l a ih => rw [allC_snoc, moreC_len, ih, List.length_append, List.length_singleton, Nat.pow_succ]; omega
theorem mem_moreC {n : α} {acc : List (Cl α)} {c : Cl α} : c ∈ moreC n acc ↔ ∃ d ∈ acc, c = d ∨ c = d ++ [(n, false)] ∨ c = d ++ [(n, true)] := by
  unfold moreC
  simp [List.mem_flatMap]
theorem mem_allC {ns : List α} (h : Asc ns) {c : Cl α} : c ∈ allC ns ↔ VC ns c := by
  induction ns using snoc_ind generalizing c with
  | h0 =>
    show c ∈ [[]] ↔ _
    rw [List.mem_singleton]
    constructor
    · rintro rfl; exact VC.nil
    · intro v
      cases c with
      | nil => rfl
      | cons l c => exact absurd (v.sub l List.mem_cons_self) (by simp)
  | h1 l a ih =>
    have hp := List.pairwise_append.mp h
    rw [allC_snoc, mem_moreC]
    constructor
    · rintro ⟨d, hd, e⟩
      have vd := (ih hp.1).mp hd
      have up : VC (l ++ [a]) d := vd.mono fun n hn => List.mem_append_left _ hn
      have more : ∀ b, VC (l ++ [a]) (d ++ [(a, b)]) := fun b =>
        ⟨List.pairwise_append.mpr ⟨vd.asc, List.pairwise_singleton _ _, fun x hx y hy => by
          rw [List.mem_singleton] at hy
          subst hy
          exact hp.2.2 _ (vd.sub x hx) a (by simp)⟩, fun x hx => by
          rcases List.mem_append.mp hx with hx | hx
          · exact up.sub x hx
          · rw [List.mem_singleton] at hx; subst hx; simp⟩
      rcases e with e | e | e
      · rw [e]; exact up
      · rw [e]; exact more _
      · rw [e]; exact more _
    · intro v
      induction c using snoc_ind with
      | h0 => exact ⟨[], (ih hp.1).mpr VC.nil, .inl rfl⟩
      | h1 d x _ =>
        obtain ⟨n, b⟩ := x
        have va := List.pairwise_append.mp v.asc
        have key : ∀ y ∈ d, y.1 ∈ l := fun y hy => by
          rcases List.mem_append.mp (v.sub y (List.mem_append_left _ hy)) with q | q
          · exact q
          · have q : y.1 = a := by simpa using q
            have lt1 := va.2.2 y hy (n, b) (by simp)
            rw [q] at lt1
            rcases List.mem_append.mp (v.sub (n, b) (by simp)) with q2 | q2
            · have := hp.2.2 n q2 a (by simp)
              rw [SOrd.asym lt1] at this
              cases this
            · have q2 : n = a := by simpa using q2
              simp only [q2] at lt1
              rw [SOrd.irr] at lt1
              cases lt1
        have vd : VC l d := ⟨va.1, key⟩
        rcases List.mem_append.mp (v.sub (n, b) (by simp)) with q | q
        · refine ⟨d ++ [(n, b)], (ih hp.1).mpr ⟨v.asc, fun y hy => ?_⟩, .inl rfl⟩
          rcases List.mem_append.mp hy with hy | hy
          · exact key y hy
          · rw [List.mem_singleton] at hy; subst hy; exact q
        · have q : n = a := by simpa using q
          subst q
          refine ⟨d, (ih hp.1).mpr vd, ?_⟩
          cases b with
          | false => exact .inr (.inl rfl)
          | true => exact .inr (.inr rfl)
theorem vc_count {ns : List α} (h : Asc ns) {L : List (Cl α)} (n : L.Nodup) (v : ∀ c ∈ L, VC ns c) : L.length ≤ 3 ^ ns.length := by
  rw [← allC_len]
  exact nodup_le n fun c hc => (mem_allC h).mpr (v c hc)
theorem vc_len {ns : List α} {c : Cl α} (v : VC ns c) : c.length ≤ ns.length := by
  have : (c.map (·.1)).Nodup := List.pairwise_map.mpr (List.Pairwise.imp (fun h => SOrd.ne h) v.asc)
  rw [← List.length_map (f := (·.1)) (as := c)]
  exact nodup_le this fun x hx => by
    obtain ⟨l, hl, e⟩ := List.mem_map.mp hx
    rw [← e]; exact v.sub l hl

def moreR (n : α) (acc : List (Cl α)) : List (Cl α) := acc.flatMap fun r => [r ++ [(n, false)], r ++ [(n, true)]]
def rowsL (ns : List α) : List (Cl α) := ns.foldl (fun acc n => moreR n acc) [[]]
theorem rowsL_snoc (ns : List α) (n : α) : rowsL (ns ++ [n]) = moreR n (rowsL ns) := by unfold rowsL; rw [List.foldl_append]; rfl
theorem moreR_len (n : α) (acc : List (Cl α)) : (moreR n acc).length = 2 * acc.length := by
  unfold moreR
  induction acc with
  | nil => rfl
  | cons c acc ih => rw [List.flatMap_cons, List.length_append, ih, List.length_cons]; simp only [List.length_cons, List.length_nil]; omega
theorem rowsL_len (ns : List α) : (rowsL ns).length = 2 ^ ns.length := by
  induction ns using snoc_ind with
  | h0 => rfl
  | h1 l a ih => rw [rowsL_snoc, moreR_len, ih, List.length_append, List.length_singleton, Nat.pow_succ]; omega
def rowOf (a : α → Bool) (ns : List α) : Cl α := ns.map fun n => (n, a n)
theorem mem_rowOf {a : α → Bool} {ns : List α} {l : Lit α} : l ∈ rowOf a ns ↔ l.1 ∈ ns ∧ a l.1 = l.2 := by
  unfold rowOf
  rw [List.mem_map]
  constructor
  · rintro ⟨n, hn, e⟩; subst e; exact ⟨hn, rfl⟩
  · rintro ⟨h1, h2⟩; exact ⟨l.1, h1, by rw [h2]⟩
theorem rowOf_vc {a : α → Bool} {ns : List α} (h : Asc ns) : VC ns (rowOf a ns) :=
  ⟨List.Pairwise.map _ (fun x y h => h) h, fun l hl => (mem_rowOf.mp hl).1⟩
theorem mem_rowsL {ns : List α} (h : ns.Nodup) {r : Cl α} : r ∈ rowsL ns ↔ ∃ a, r = rowOf a ns := by
  induction ns using snoc_ind generalizing r with
  | h0 =>
    show r ∈ [[]] ↔ _
    rw [List.mem_singleton]
    exact ⟨fun e => ⟨fun _ => true, e⟩, fun ⟨_, e⟩ => e⟩
  | h1 l x ih =>
    have hp := List.nodup_append.mp h
    have hx : x ∉ l := fun q => hp.2.2 x q x (by simp) rfl
    rw [rowsL_snoc]
    unfold moreR
    rw [List.mem_flatMap]
    constructor
    · rintro ⟨d, hd, e⟩
      obtain ⟨a, rfl⟩ := (ih hp.1).mp hd
      have go : ∀ b, rowOf a l ++ [(x, b)] = rowOf (setA a x b) (l ++ [x]) := fun b => by
        unfold rowOf
        rw [List.map_append, List.map_singleton, setA_same]
        congr 1
        refine List.map_congr_left fun n hn => ?_
        rw [setA_ne (fun q : n = x => hx (by rw [← q]; exact hn))]
      simp only [List.mem_cons, List.not_mem_nil, or_false] at e
      rcases e with e | e
      · exact ⟨_, e.trans (go false)⟩
      · exact ⟨_, e.trans (go true)⟩
    · rintro ⟨a, rfl⟩
      refine ⟨rowOf a l, (ih hp.1).mpr ⟨a, rfl⟩, ?_⟩
      unfold rowOf
      rw [List.map_append, List.map_singleton]
      cases a x <;> simp

/-! ### a clause at a row -/
def hR (c r : Cl α) : Bool := c.any fun l => decide (l ∈ r)
theorem hR_iff {c r : Cl α} : hR c r = true ↔ ∃ l ∈ c, l ∈ r := by simp [hR]
theorem hR_row {ns : List α} {c : Cl α} {a : α → Bool} (h : ∀ l ∈ c, l.1 ∈ ns) : hR c (rowOf a ns) = hC a c := by
  rw [Bool.eq_iff_iff, hR_iff, hC_iff]
  constructor
  · rintro ⟨l, hl, q⟩; exact ⟨l, hl, (mem_rowOf.mp q).2⟩
  · rintro ⟨l, hl, q⟩; exact ⟨l, hl, mem_rowOf.mpr ⟨h l hl, q⟩⟩
/-- in all rows -/
def inAll (c : Cl α) (rows : List (Cl α)) : Bool := rows.all fun r => hR c r
def sols (ns : List α) (cs : List (Cl α)) : List (Cl α) := (rowsL ns).filter fun r => cs.all fun c => hR c r
theorem mem_sols {ns : List α} (h : Asc ns) {cs : List (Cl α)} (v : ∀ c ∈ cs, ∀ l ∈ c, l.1 ∈ ns) {r : Cl α} : r ∈ sols ns cs ↔ ∃ a, r = rowOf a ns ∧ hT a cs = true := by
  have nd : ns.Nodup := List.Pairwise.imp (fun h => SOrd.ne h) h
  unfold sols
  rw [List.mem_filter, mem_rowsL nd]
  have key : ∀ a, (cs.all fun c => hR c (rowOf a ns)) = hT a cs := fun a => by
    unfold hT
    rw [Bool.eq_iff_iff, List.all_eq_true, List.all_eq_true]
    exact ⟨fun q c hc => by rw [← hR_row (v c hc)]; exact q c hc, fun q c hc => by rw [hR_row (v c hc)]; exact q c hc⟩
  constructor
  · rintro ⟨⟨a, rfl⟩, q⟩; rw [key] at q; exact ⟨a, rfl, q⟩
  · rintro ⟨a, rfl, q⟩; exact ⟨⟨a, rfl⟩, by rw [key]; exact q⟩
theorem inAll_sols {ns : List α} (h : Asc ns) {cs : List (Cl α)} (v : ∀ c ∈ cs, ∀ l ∈ c, l.1 ∈ ns) {c : Cl α} (hc : ∀ l ∈ c, l.1 ∈ ns) : inAll c (sols ns cs) = true ↔ Fol cs c := by
  unfold inAll
  rw [List.all_eq_true]
  constructor
  · intro f a ha
    have := f _ ((mem_sols h v).mpr ⟨a, rfl, ha⟩)
    rwa [hR_row hc] at this
  · intro f r hr
    obtain ⟨a, rfl, ha⟩ := (mem_sols h v).mp hr
    rw [hR_row hc]
    exact f a ha

/-! ### prime clauses -/
structure IsPr (F : Cl α → Prop) (ns : List α) (c : Cl α) : Prop where
  vc : VC ns c
  fol : F c
  least : ∀ k, k < c.length → ¬ F (c.eraseIdx k)
theorem IsPr.congr {F G : Cl α → Prop} {ns : List α} (h : ∀ c, VC ns c → (F c ↔ G c)) {c : Cl α} : IsPr F ns c ↔ IsPr G ns c :=
  ⟨fun p => ⟨p.vc, (h c p.vc).mp p.fol, fun k hk q => p.least k hk ((h _ (p.vc.eraseIdx k)).mpr q)⟩,
   fun p => ⟨p.vc, (h c p.vc).mpr p.fol, fun k hk q => p.least k hk ((h _ (p.vc.eraseIdx k)).mp q)⟩⟩

/-! ### the least ones -/
structure IsLeast (cs L : List (Cl α)) : Prop where
  mem : ∀ c ∈ L, c ∈ cs
  low : ∀ c ∈ cs, ∃ d ∈ L, Sub d c
  anti : ∀ c ∈ L, ∀ d ∈ L, Sub c d → c = d
  srt : Srt L
theorem eraseIdx_sub {c s : Cl α} (hc : c.Nodup) (hs : Sub s c) (hn : ∃ l ∈ c, l ∉ s) : ∃ k, k < c.length ∧ Sub s (c.eraseIdx k) := by
  obtain ⟨l, hl, ns⟩ := hn
  obtain ⟨k, hk, e⟩ := List.getElem_of_mem hl
  refine ⟨k, hk, fun m hm => ?_⟩
  obtain ⟨j, hj, ej⟩ := List.getElem_of_mem (hs m hm)
  have hne : j ≠ k := by
    intro q
    subst q
    rw [e] at ej
    exact ns (ej ▸ hm)
  rw [List.mem_eraseIdx_iff_getElem]
  exact ⟨j, hj, hne, ej⟩

theorem primes_of {cs S : List (Cl α)} {ns : List α} (vs : ∀ c ∈ S, VC ns c) (anti : ∀ c ∈ S, ∀ d ∈ S, Sub c d → c = d)
    (hF : ∀ c, VC ns c → (Fol cs c ↔ ∃ s ∈ S, Sub s c)) (c : Cl α) : c ∈ S ↔ IsPr (Fol cs) ns c := by
  constructor
  · intro hc
    have v := vs c hc
    refine ⟨v, (hF c v).mpr ⟨c, hc, fun _ h => h⟩, fun k hk f => ?_⟩
    obtain ⟨s, hs, q⟩ := (hF _ (v.eraseIdx k)).mp f
    have sub : Sub s c := fun l hl => (List.eraseIdx_sublist c k).subset (q l hl)
    have e := anti s hs c hc sub
    rw [e] at q
    have hm : c[k] ∈ c.eraseIdx k := q _ (List.getElem_mem hk)
    rw [List.mem_eraseIdx_iff_getElem] at hm
    obtain ⟨j, hj, hne, ej⟩ := hm
    exact hne ((List.getElem_inj v.nodup).mp ej)
  · intro p
    obtain ⟨s, hs, q⟩ := (hF c p.vc).mp p.fol
    have : ¬ ∃ l ∈ c, l ∉ s := fun hn => by
      obtain ⟨k, hk, q'⟩ := eraseIdx_sub p.vc.nodup q hn
      exact p.least k hk ((hF _ (p.vc.eraseIdx k)).mpr ⟨s, hs, q'⟩)
    have e : s = c := (vs s hs).uniq p.vc fun l => ⟨q l, fun hl => Classical.byContradiction fun hn => this ⟨l, hl, hn⟩⟩
    rw [← e]
    exact hs
end
end Mth
end
section
set_option autoImplicit false
namespace Mth
section
variable {α : Type} [DecidableEq α] [SOrd α]

/-! ### the loop of least_clauses -/
def subB (o c : Cl α) : Bool := o.all fun l => decide (l ∈ c)
theorem subB_iff {o c : Cl α} : subB o c = true ↔ Sub o c := by simp [subB, Sub]
structure LInv (done acc : List (Cl α)) : Prop where
  mem : ∀ o ∈ acc, o ∈ done
  low : ∀ c ∈ done, ∃ o ∈ acc, Sub o c
  no : acc.Pairwise fun o p => ¬ Sub o p
  len : acc.Pairwise fun o p => o.length ≤ p.length
theorem LInv.nil : LInv ([] : List (Cl α)) [] := ⟨(fun _ h => by cases h), (fun _ h => by cases h), .nil, .nil⟩
theorem LInv.keep {done acc : List (Cl α)} {c : Cl α} (I : LInv done acc) (h : (acc.any fun o => subB o c) = true) : LInv (done ++ [c]) acc := by
  refine ⟨fun o ho => List.mem_append_left _ (I.mem o ho), fun d hd => ?_, I.no, I.len⟩
  rcases List.mem_append.mp hd with hd | hd
  · exact I.low d hd
  · rw [List.mem_singleton] at hd
    subst hd
    obtain ⟨o, ho, q⟩ := List.any_eq_true.mp h
    exact ⟨o, ho, subB_iff.mp q⟩
theorem LInv.add {done acc : List (Cl α)} {c : Cl α} (I : LInv done acc) (h : (acc.any fun o => subB o c) = false) (hl : ∀ d ∈ done, d.length ≤ c.length) : LInv (done ++ [c]) (acc ++ [c]) := by
  refine ⟨fun o ho => ?_, fun d hd => ?_, ?_, ?_⟩
  · rcases List.mem_append.mp ho with ho | ho
    · exact List.mem_append_left _ (I.mem o ho)
    · exact List.mem_append_right _ ho
  · rcases List.mem_append.mp hd with hd | hd
    · obtain ⟨o, ho, q⟩ := I.low d hd
      exact ⟨o, List.mem_append_left _ ho, q⟩
    · rw [List.mem_singleton] at hd
      subst hd
      exact ⟨d, List.mem_append_right _ (by simp), fun _ h => h⟩
  · refine List.pairwise_append.mpr ⟨I.no, List.pairwise_singleton _ _, fun o ho p hp q => ?_⟩
    rw [List.mem_singleton] at hp
    subst hp
    have : (acc.any fun o => subB o p) = true := List.any_eq_true.mpr ⟨o, ho, subB_iff.mpr q⟩
    rw [h] at this
    cases this
  · refine List.pairwise_append.mpr ⟨I.len, List.pairwise_singleton _ _, fun o ho p hp => ?_⟩
    rw [List.mem_singleton] at hp
    subst hp
    exact hl o (I.mem o ho)
theorem pw_get {β : Type} {R : β → β → Prop} {l : List β} (h : l.Pairwise R) {i j : Nat} (hij : i < j) (hj : j < l.length) : R (l[i]'(by omega)) l[j] :=
  List.pairwise_iff_getElem.mp h i j (by omega) hj hij
theorem LInv.anti {done acc : List (Cl α)} (I : LInv done acc) (hn : ∀ c ∈ done, c.Nodup) : ∀ c ∈ acc, ∀ d ∈ acc, Sub c d → c = d := by
  intro c hc d hd s
  obtain ⟨i, hi, rfl⟩ := List.getElem_of_mem hc
  obtain ⟨j, hj, rfl⟩ := List.getElem_of_mem hd
  rcases Nat.lt_trichotomy i j with h | h | h
  · exact (pw_get I.no h hj s).elim
  · subst h; rfl
  · have h1 := pw_get I.len h hi
    exact (pw_get I.no h hi (sub_full (hn _ (I.mem _ hc)) s h1)).elim
theorem LInv.nodup {done acc : List (Cl α)} (I : LInv done acc) : acc.Nodup := List.Pairwise.imp (fun {a b} h e => h (by rw [e]; exact fun _ h => h)) I.no
/-- the end: ys an arrangement of cs, L the found ones in order -/
theorem LInv.least {cs ys acc L : List (Cl α)} (I : LInv ys acc) (hp : ys.Perm cs) (hn : ∀ c ∈ cs, c.Nodup) (hL : Srt L) (hpL : L.Perm acc) : IsLeast cs L :=
  ⟨fun c hc => hp.mem_iff.mp (I.mem c (hpL.mem_iff.mp hc)), fun c hc => by
    obtain ⟨o, ho, q⟩ := I.low c (hp.mem_iff.mpr hc)
    exact ⟨o, hpL.mem_iff.mpr ho, q⟩, fun c hc d hd s => I.anti (fun c hc => hn c (hp.mem_iff.mp hc)) c (hpL.mem_iff.mp hc) d (hpL.mem_iff.mp hd) s, hL⟩

/-! ### the loop of resolvent -/
structure RInv (x : α) (p zs : Cl α) : Prop where
  nd : (zs.map (·.1)).Nodup
  mem : ∀ l, l ∈ zs ↔ l ∈ p ∧ l.1 ≠ x
theorem RInv.nil {x : α} : RInv x ([] : Cl α) [] := ⟨List.nodup_nil, fun l => by simp⟩
theorem RInv.skip {x : α} {p zs : Cl α} {l : Lit α} (I : RInv x p zs) (h : l.1 = x) : RInv x (p ++ [l]) zs :=
  ⟨I.nd, fun m => by
    rw [I.mem, List.mem_append, List.mem_singleton]
    constructor
    · rintro ⟨a, b⟩; exact ⟨.inl a, b⟩
    · rintro ⟨a | a, b⟩
      · exact ⟨a, b⟩
      · rw [a] at b; exact (b h).elim⟩
theorem RInv.old {x : α} {p zs : Cl α} {l : Lit α} (I : RInv x p zs) (h : l ∈ zs) : RInv x (p ++ [l]) zs :=
  ⟨I.nd, fun m => by
    rw [I.mem, List.mem_append, List.mem_singleton]
    constructor
    · rintro ⟨a, b⟩; exact ⟨.inl a, b⟩
    · rintro ⟨a | a, b⟩
      · exact ⟨a, b⟩
      · rw [a]; exact (I.mem l).mp h⟩
theorem RInv.new {x : α} {p zs : Cl α} {l : Lit α} (I : RInv x p zs) (h : l.1 ≠ x) (hn : l.1 ∉ zs.map (·.1)) : RInv x (p ++ [l]) (zs ++ [l]) :=
  ⟨by
    rw [List.map_append, List.map_singleton]
    exact List.nodup_append.mpr ⟨I.nd, List.pairwise_singleton _ _, fun a ha b hb e => by
      rw [List.mem_singleton] at hb
      exact hn (by rw [← hb, ← e]; exact ha)⟩, fun m => by
    rw [List.mem_append, List.mem_append, List.mem_singleton, I.mem]
    constructor
    · rintro (⟨a, b⟩ | a)
      · exact ⟨.inl a, b⟩
      · exact ⟨.inr a, by rw [a]; exact h⟩
    · rintro ⟨a | a, b⟩
      · exact .inl ⟨a, b⟩
      · exact .inr a⟩
theorem RInv.clash {x : α} {c d p q zs : Cl α} {l : Lit α} (I : RInv x p zs) (h : l.1 ≠ x) (hz : (l.1, !l.2) ∈ zs) (e : c ++ d = p ++ l :: q) (r : Cl α) : ¬ IsRes c d x r := by
  intro R
  have h1 : (l.1, !l.2) ∈ c ++ d := by rw [e]; exact List.mem_append_left _ ((I.mem _).mp hz).1
  have h2 : l ∈ c ++ d := by rw [e]; simp
  have m1 := (R.2 (l.1, !l.2)).mpr ⟨List.mem_append.mp h1, h⟩
  have m2 := (R.2 l).mpr ⟨List.mem_append.mp h2, h⟩
  exact R.1.flip (x := l.1) (b := l.2) m2 m1
theorem RInv.res {x : α} {c d zs r : Cl α} {ns : List α} (I : RInv x (c ++ d) zs) (hc : VC ns c) (hd : VC ns d) (hp : r.Perm zs) (hs : r.Pairwise fun l m => SOrd.lt m l = false) : VC ns r ∧ IsRes c d x r := by
  have nd : r.Nodup := hp.nodup_iff.mpr (List.Pairwise.of_map (·.1) (fun a b h e => h (by rw [e])) I.nd)
  have ndn : (r.map (·.1)).Nodup := (hp.map (·.1)).nodup_iff.mpr I.nd
  have st : Srt r := Srt.of_weak hs nd
  have asc : r.Pairwise fun l m => SOrd.lt l.1 m.1 = true := by
    have h2 : r.Pairwise fun l m => l.1 ≠ m.1 := List.pairwise_map.mp ndn
    refine List.Pairwise.imp (fun {l m} ⟨h1, h2⟩ => ?_) (List.pairwise_and_iff.mpr ⟨st, h2⟩)
    have h3 : litLt l m = true := h1
    unfold litLt at h3
    rwa [if_neg h2] at h3
  have mem : ∀ l, l ∈ r ↔ (l ∈ c ∨ l ∈ d) ∧ l.1 ≠ x := fun l => by rw [hp.mem_iff, I.mem, List.mem_append]
  have v : VC ns r := ⟨asc, fun l hl => by
    rcases ((mem l).mp hl).1 with q | q
    · exact hc.sub l q
    · exact hd.sub l q⟩
  exact ⟨v, v.nt, mem⟩

/-! ### all resolvents -/
structure RList (ns : List α) (cs : List (Cl α)) (x : α) (fs : List (Cl α)) : Prop where
  mem : ∀ r ∈ fs, VC ns r ∧ ∃ c ∈ cs, ∃ d ∈ cs, (x, true) ∈ c ∧ (x, false) ∈ d ∧ IsRes c d x r
  all : ∀ c ∈ cs, ∀ d ∈ cs, (x, true) ∈ c → (x, false) ∈ d → ∀ r, IsRes c d x r → ∃ s ∈ fs, IsRes c d x s
theorem IsRes.sub {c d r s : Cl α} {x : α} (h : IsRes c d x r) (k : IsRes c d x s) : Sub r s := fun l hl => (k.2 l).mpr ((h.2 l).mp hl)
theorem RList.cut {ns : List α} {S T fs : List (Cl α)} {x : α} (R : RList ns S x fs) (L : IsLeast (S ++ fs) T) : CutRel S x T := by
  refine ⟨fun r hr => ?_, fun r hr => L.low r (List.mem_append_left _ hr), fun c hc d hd h1 h2 r hres => ?_⟩
  · rcases List.mem_append.mp (L.mem r hr) with q | q
    · exact .inl q
    · exact .inr (R.mem r q).2
  · obtain ⟨s, hs, q⟩ := R.all c hc d hd h1 h2 r hres
    obtain ⟨t, ht, q'⟩ := L.low s (List.mem_append_right _ hs)
    exact ⟨t, ht, fun l hl => q.sub hres l (q' l hl)⟩
def noName (x : α) (c : Cl α) : Bool := !decide ((x, false) ∈ c) && !decide ((x, true) ∈ c)
theorem noName_iff {x : α} {c : Cl α} : noName x c = true ↔ ∀ l ∈ c, l.1 ≠ x := by
  unfold noName
  simp only [Bool.and_eq_true, Bool.not_eq_true', decide_eq_false_iff_not]
  constructor
  · rintro ⟨h1, h2⟩ ⟨n, b⟩ hl e
    simp only at e
    subst e
    cases b with
    | true => exact h2 hl
    | false => exact h1 hl
  · intro h
    exact ⟨fun q => h _ q rfl, fun q => h _ q rfl⟩
theorem RList.elim {ns : List α} {K K' fs : List (Cl α)} {x : α} (R : RList ns K x fs) (L : IsLeast (K.filter (noName x) ++ fs) K') : ElimRel K x K' := by
  refine ⟨fun r hr => ?_, fun r hr hx => L.low r (List.mem_append_left _ (List.mem_filter.mpr ⟨hr, noName_iff.mpr hx⟩)), fun c hc d hd h1 h2 r hres => ?_⟩
  · rcases List.mem_append.mp (L.mem r hr) with q | q
    · obtain ⟨q1, q2⟩ := List.mem_filter.mp q
      exact .inl ⟨q1, noName_iff.mp q2⟩
    · exact .inr (R.mem r q).2
  · obtain ⟨s, hs, q⟩ := R.all c hc d hd h1 h2 r hres
    obtain ⟨t, ht, q'⟩ := L.low s (List.mem_append_right _ hs)
    exact ⟨t, ht, fun l hl => q.sub hres l (q' l hl)⟩

/-! ### the closure's loop -/
structure ClI (cs : List (Cl α)) (ns : List α) (X : List α) (S : List (Cl α)) : Prop where
  inv : ClInv cs X S
  vc : ∀ c ∈ S, VC ns c
  anti : ∀ c ∈ S, ∀ d ∈ S, Sub c d → c = d
  srt : Srt S
theorem ClI.start {cs S : List (Cl α)} {ns : List α} (v : ∀ c ∈ cs, VC ns c) (L : IsLeast cs S) : ClI cs ns [] S :=
  ⟨.start L.mem L.low, fun c hc => v c (L.mem c hc), L.anti, L.srt⟩
theorem ClI.step {cs S T fs : List (Cl α)} {ns X : List α} {x : α} (I : ClI cs ns X S) (R : RList ns S x fs) (L : IsLeast (S ++ fs) T) : ClI cs ns (X ++ [x]) T :=
  ⟨I.inv.step (fun c hc => (I.vc c hc).nt) (R.cut L), fun c hc => by
    rcases List.mem_append.mp (L.mem c hc) with q | q
    · exact I.vc c q
    · exact (R.mem c q).1, L.anti, L.srt⟩
theorem ClI.done {cs S : List (Cl α)} {ns : List α} (v : ∀ c ∈ cs, VC ns c) (I : ClI cs ns ns S) (c : Cl α) : c ∈ S ↔ IsPr (Fol cs) ns c :=
  primes_of I.vc I.anti (fun c hc => I.inv.fol (fun d hd => (v d hd).sub) hc.nt hc.sub) c

/-! ### the certificate's loop: rests, what of a clause is not in con -/
def filt (con c : Cl α) : Cl α := c.filter fun l => !decide (l ∈ con)
theorem mem_filt {con c : Cl α} {l : Lit α} : l ∈ filt con c ↔ l ∈ c ∧ l ∉ con := by simp [filt]
/-- no literal against the constraint -/
def NA (con c : Cl α) : Prop := ∀ l ∈ c, (l.1, !l.2) ∉ con
def Fls (con : Cl α) (a : α → Bool) : Prop := hC a con = false
theorem Fls.ne {con : Cl α} {a : α → Bool} (h : Fls con a) {l : Lit α} (hl : l ∈ con) : a l.1 ≠ l.2 := fun e => by
  have : hC a con = true := hC_iff.mpr ⟨l, hl, e⟩
  rw [Fls, this] at h
  cases h
theorem hC_filt {con c : Cl α} {a : α → Bool} (h : Fls con a) : hC a (filt con c) = hC a c := by
  rw [Bool.eq_iff_iff, hC_iff, hC_iff]
  constructor
  · rintro ⟨l, hl, e⟩; exact ⟨l, (mem_filt.mp hl).1, e⟩
  · rintro ⟨l, hl, e⟩; exact ⟨l, mem_filt.mpr ⟨hl, fun q => h.ne q e⟩, e⟩
theorem filt_res {con c d r : Cl α} {x : α} (h : IsRes c d x r) : IsRes (filt con c) (filt con d) x (filt con r) := by
  refine ⟨h.1.sub fun l hl => (mem_filt.mp hl).1, fun l => ?_⟩
  rw [mem_filt, mem_filt, mem_filt, h.2 l]
  constructor
  · rintro ⟨⟨q | q, q2⟩, q3⟩
    · exact ⟨.inl ⟨q, q3⟩, q2⟩
    · exact ⟨.inr ⟨q, q3⟩, q2⟩
  · rintro ⟨⟨q, q3⟩ | ⟨q, q3⟩, q2⟩
    · exact ⟨⟨.inl q, q2⟩, q3⟩
    · exact ⟨⟨.inr q, q2⟩, q3⟩
theorem res_of_filt {con c d r : Cl α} {x : α} (nc : NA con c) (nd : NA con d) (h : IsRes (filt con c) (filt con d) x r) : IsRes c d x ((c ++ d).filter fun l => decide (l.1 ≠ x)) := by
  refine ⟨fun n ⟨m1, m2⟩ => ?_, fun l => by simp only [List.mem_filter, List.mem_append, decide_eq_true_eq]⟩
  simp only [List.mem_filter, List.mem_append, decide_eq_true_eq] at m1 m2
  have no : ∀ b, ((n, b) ∈ c ∨ (n, b) ∈ d) → (n, !b) ∉ con := fun b q => by
    rcases q with q | q
    · exact nc _ q
    · exact nd _ q
  have f1 : (n, true) ∉ con := no false m2.1
  have f2 : (n, false) ∉ con := no true m1.1
  have up : ∀ b, ((n, b) ∈ c ∨ (n, b) ∈ d) → (n, b) ∉ con → (n, b) ∈ r := fun b q nq => by
    refine (h.2 (n, b)).mpr ⟨?_, m1.2⟩
    rcases q with q | q
    · exact .inl (mem_filt.mpr ⟨q, nq⟩)
    · exact .inr (mem_filt.mpr ⟨q, nq⟩)
  exact h.1 n ⟨up true m1.1 f1, up false m2.1 f2⟩
theorem NA.res {con c d r : Cl α} {x : α} (nc : NA con c) (nd : NA con d) (h : IsRes c d x r) : NA con r := fun l hl => by
  rcases ((h.2 l).mp hl).1 with q | q
  · exact nc l q
  · exact nd l q
def CertInv (con : Cl α) (cs : List (Cl α)) (X : List α) (rs : List (Cl α)) : Prop :=
  ∀ a, Fls con a → (hT a rs = true ↔ ∃ a', (∀ n, n ∉ X → a' n = a n) ∧ Fls con a' ∧ hT a' cs = true)
theorem CertInv.start {con : Cl α} {cs rs : List (Cl α)} (h1 : ∀ r ∈ rs, ∃ c ∈ cs, NA con c ∧ r = filt con c) (h2 : ∀ c ∈ cs, NA con c → filt con c ∈ rs) : CertInv con cs [] rs := by
  intro a ha
  have key : hT a rs = true ↔ hT a cs = true := by
    rw [hT_iff, hT_iff]
    constructor
    · intro f c hc
      by_cases na : NA con c
      · have := f _ (h2 c hc na)
        rwa [hC_filt ha] at this
      · obtain ⟨l, hl⟩ := Classical.not_forall.mp na
        obtain ⟨m, q⟩ := Classical.not_imp.mp hl
        have q := ha.ne (Classical.not_not.mp q)
        refine hC_iff.mpr ⟨l, m, ?_⟩
        simp only at q
        cases e : a l.1 <;> cases e2 : l.2 <;> simp_all
    · intro f r hr
      obtain ⟨c, hc, _, rfl⟩ := h1 r hr
      rw [hC_filt ha]
      exact f c hc
  rw [key]
  constructor
  · intro h; exact ⟨a, fun _ _ => rfl, ha, h⟩
  · rintro ⟨a', e, _, h⟩
    have : a' = a := funext fun n => e n (by simp)
    rw [← this]; exact h
theorem CertInv.step {con : Cl α} {cs rs rs' : List (Cl α)} {X : List α} {x : α} (I : CertInv con cs X rs) (hc : ∀ r ∈ rs, ∀ l ∈ r, l.1 = x → ∀ b, (x, b) ∉ con) (E : ElimOk rs x rs') : CertInv con cs (X ++ [x]) rs' := by
  intro a ha
  constructor
  · intro h
    obtain ⟨b, hb⟩ := (E a).mp h
    by_cases hx : ∃ b, (x, b) ∈ con
    · obtain ⟨b', hb'⟩ := hx
      have nox : ∀ r ∈ rs, ∀ l ∈ r, l.1 ≠ x := fun r hr l hl e => hc r hr l hl e b' hb'
      have : hT a rs = true := by
        rw [hT_iff] at hb ⊢
        intro r hr
        have := hb r hr
        rwa [hC_setA (nox r hr)] at this
      obtain ⟨a', e1, e2, e3⟩ := (I a ha).mp this
      exact ⟨a', fun n hn => e1 n (fun q => hn (List.mem_append_left _ q)), e2, e3⟩
    · have hf : Fls con (setA a x b) := by
        unfold Fls
        rw [hC_setA]
        · exact ha
        · intro l hl e
          exact hx ⟨l.2, by rw [← e]; exact hl⟩
      obtain ⟨a', e1, e2, e3⟩ := (I _ hf).mp hb
      refine ⟨a', fun n hn => ?_, e2, e3⟩
      rw [e1 n fun q => hn (List.mem_append_left _ q), setA_ne]
      rintro rfl
      exact hn (by simp)
  · rintro ⟨a', e1, e2, e3⟩
    have hf : Fls con (setA a x (a' x)) := by
      cases e : hC (setA a x (a' x)) con with
      | false => exact e
      | true =>
        obtain ⟨l, hl, q⟩ := hC_iff.mp e
        by_cases n : l.1 = x
        · rw [n, setA_same, ← n] at q
          exact (e2.ne hl q).elim
        · rw [setA_ne n] at q
          exact (ha.ne hl q).elim
    refine (E a).mpr ⟨a' x, (I _ hf).mpr ⟨a', fun n hn => ?_, e2, e3⟩⟩
    by_cases q : n = x
    · rw [q, setA_same]
    · rw [setA_ne q]
      exact e1 n fun m => by
        rcases List.mem_append.mp m with m | m
        · exact hn m
        · exact q (by simpa using m)
theorem fls_ex {con : Cl α} (h : NT con) : ∃ a, Fls con a := by
  refine ⟨fun n => decide ((n, false) ∈ con), ?_⟩
  cases e : hC (fun n => decide ((n, false) ∈ con)) con with
  | false => exact e
  | true =>
    obtain ⟨⟨n, b⟩, hl, q⟩ := hC_iff.mp e
    cases b with
    | true => exact (h n ⟨hl, by simpa using q⟩).elim
    | false =>
      have : (n, false) ∉ con := by simpa using q
      exact (this hl).elim
theorem CertInv.done {con : Cl α} {cs rs : List (Cl α)} {X : List α} (I : CertInv con cs X rs) (hn : NT con) (hr : ∀ r ∈ rs, r = []) : ([] ∈ rs) ↔ Fol cs con := by
  constructor
  · intro h a ha
    cases e : hC a con with
    | true => rfl
    | false =>
      have := (I a e).mpr ⟨a, fun _ _ => rfl, e, ha⟩
      have := hT_iff.mp this [] h
      simp [hC] at this
  · intro f
    apply Classical.byContradiction
    intro h
    obtain ⟨a, ha⟩ := fls_ex hn
    have : hT a rs = true := hT_iff.mpr fun r hm => by
      rw [hr r hm] at hm
      exact (h hm).elim
    obtain ⟨a', _, e2, e3⟩ := (I a ha).mp this
    rw [Fls, f a' e3] at e2
    cases e2
end
end Mth
end
section
namespace Sh
open PySem L2

/-! ### tuples stand still -/
/-- every tuple that could be read can be read -/
def TG (H H' : Hp) : Prop := ∀ b xs, Rd H b (.tup xs) → Rd H' b (.tup xs)
theorem TG.refl (H : Hp) : TG H H := fun _ _ h => h
theorem TG.trans {H H1 H2 : Hp} (a : TG H H1) (b : TG H1 H2) : TG H H2 := fun c xs h => b c xs (a c xs h)
theorem rd_same {H H' : Hp} (s : Same H H') {b : Addr} {u : HO} (h : Rd H b u) : Rd H' b u := by
  rcases h with h | ⟨o, h⟩
  · exact .inl (s _ _ h)
  · exact .inr ⟨o, s _ _ h⟩
theorem TG.of {H H' : Hp} (s : Same H H') : TG H H' := fun _ _ h => rd_same s h
theorem same_new {H : Hp} {p : Addr} {o : HO} (h : H p = none) : Same H (upd H p o) := fun a u e => by
  rw [upd_ne (ne_of_none e h)]
  exact e
/-- an object that H does not know may change -/
theorem same_mut {H H' : Hp} {p : Addr} {o : HO} (e : Same H H') (h : H p = none) : Same H (upd H' p o) := fun a u ha => by
  rw [upd_ne (ne_of_none ha h)]
  exact e a u ha
theorem same_two {H H1 : Hp} {p : Addr} {o : HO} (e : Same H H1) (h : H1 p = none) : Same H (upd H1 p o) := e.trans (same_new h)
theorem tg_upd {H : Hp} {p : Addr} {o : HO} (h : ∀ xs, ¬ Rd H p (.tup xs)) : TG H (upd H p o) := fun b xs r => by
  by_cases e : b = p
  · rw [e] at r; exact (h xs r).elim
  · rcases r with r | ⟨o', r⟩
    · exact .inl (by rw [upd_ne e]; exact r)
    · exact .inr ⟨o', by rw [upd_ne e]; exact r⟩
theorem notup {H : Hp} {p : Addr} {o : HO} (h : H p = some o) (ht : ∀ xs, o ≠ .tup xs) (hf : ∀ ob xs, o ≠ .frz ob (.tup xs)) : ∀ xs, ¬ Rd H p (.tup xs) := fun xs r => by
  rcases r with r | ⟨o', r⟩
  · rw [h] at r; exact ht xs (Option.some.inj r)
  · rw [h] at r; exact hf o' xs (Option.some.inj r)
theorem tg_lst {H : Hp} {p : Addr} {ys : List V} {o : HO} (h : H p = some (.lst ys)) : TG H (upd H p o) := tg_upd (notup h (fun _ q => by cases q) fun _ _ q => by cases q)
theorem tg_dK {H : Hp} {p : Addr} {ys : List (Key × V)} {o : HO} (h : H p = some (.dK ys)) : TG H (upd H p o) := tg_upd (notup h (fun _ q => by cases q) fun _ _ q => by cases q)
theorem tg_ext {H : Hp} {p : Addr} {φ : Heap → Prop} {o : HO} (h : H p = some (.ext φ)) : TG H (upd H p o) := tg_upd (notup h (fun _ q => by cases q) fun _ _ q => by cases q)
theorem tg_fext {H : Hp} {p : Addr} {ob : Obj} {φ : Heap → Prop} {o : HO} (h : H p = some (.frz ob (.ext φ))) : TG H (upd H p o) := tg_upd (notup h (fun _ q => by cases q) fun _ _ q => by cases q)
theorem tg_new {H : Hp} {p : Addr} {o : HO} (h : H p = none) : TG H (upd H p o) := .of (same_new h)
theorem sqt_tg {K : PySem.W.Frag} {H H' : Hp} {a : Addr} {xs : List V} (t : TG H H') (h : SqT K H a xs) : SqT K H' a xs := by
  rcases h with h | h
  · exact .inl (t _ _ h)
  · exact .inr h

/-! ### data without lists -/
mutual
def pureD : PyData → Bool
  | .list _ => false
  | .dict _ => false
  | .tuple ds => pureDs ds
  | .none => true
  | .bool _ => true
  | .int _ => true
  | .str _ => true
def pureDs : List PyData → Bool
  | [] => true
  | d :: ds => pureD d && pureDs ds
end
mutual
theorem dp_tg {K : PySem.W.Frag} {H H' : Hp} (t : TG H H') : ∀ (d : PyData) (v : V), pureD d = true → Dp K H v d → Dp K H' v d
  | .none, _, _, h => by cases h; exact .non
  | .bool _, _, _, h => by cases h; exact .bl _
  | .int _, _, _, h => by cases h; exact .int _
  | .str _, _, _, h => by cases h; exact .str _
  | .list _, _, p, _ => by simp [pureD] at p
  | .dict _, _, p, _ => by simp [pureD] at p
  | .tuple ds, _, p, h => by
    cases h with
    | tup hs ha => exact .tup (sqt_tg t hs) (dpAll_tg t ds _ (by simpa [pureD] using p) ha)
theorem dpAll_tg {K : PySem.W.Frag} {H H' : Hp} (t : TG H H') : ∀ (ds : List PyData) (vs : List V), pureDs ds = true → DpAll K H vs ds → DpAll K H' vs ds
  | [], _, _, h => by cases h; exact .nil
  | d :: ds, _, p, h => by
    simp only [pureDs, Bool.and_eq_true] at p
    cases h with
    | cons h1 h2 => exact .cons (dp_tg t d _ p.1 h1) (dpAll_tg t ds _ p.2 h2)
end

/-! ### what is said of a kind of data -/
/-- an encoding of Lean values as data -/
structure Enc {α : Type} [DecidableEq α] (f : α → PyData) : Prop where
  pure : ∀ a, pureD (f a) = true
  eqv : ∀ a b, PyData.eqv (f a) (f b) = decide (a = b)
  lay : ∀ a, (f a).plain = true
  dep : ∀ a, (f a).depth ≤ 8
section
variable {α : Type} [DecidableEq α] {f : α → PyData}
theorem Enc.pures (E : Enc f) : ∀ xs : List α, pureDs (xs.map f) = true
  | [] => rfl
  | x :: xs => by rw [List.map_cons, pureDs, E.pure x, E.pures xs]; rfl
theorem Enc.lays (E : Enc f) : ∀ xs : List α, PyData.plainAll (xs.map f) = true
  | [] => rfl
  | x :: xs => by
    have h1 := E.lay x
    have h2 := E.lays xs
    rw [List.map_cons, PyData.plainAll, h1, h2]; rfl
theorem Enc.deps (E : Enc f) : ∀ xs : List α, PyData.depthAll (xs.map f) ≤ 8
  | [] => Nat.zero_le _
  | x :: xs => by
    rw [List.map_cons, PyData.depthAll]
    exact Nat.max_le.mpr ⟨E.dep x, E.deps xs⟩
theorem Enc.eqvs (E : Enc f) : ∀ xs ys : List α, PyData.eqvAll (xs.map f) (ys.map f) = decide (xs = ys)
  | [], [] => by simp [PyData.eqvAll]
  | [], _ :: _ => by simp [PyData.eqvAll]
  | _ :: _, [] => by simp [PyData.eqvAll]
  | x :: xs, y :: ys => by
    rw [List.map_cons, List.map_cons, PyData.eqvAll, E.eqv x y, E.eqvs xs ys, ← Bool.decide_and]
    exact decide_eq_decide.mpr (by rw [List.cons.injEq])
/-- tuples of such -/
theorem Enc.tup (E : Enc f) (hd : ∀ a, (f a).depth ≤ 7) : Enc (fun xs : List α => PyData.tuple (xs.map f)) where
  pure xs := by show pureDs _ = true; exact E.pures xs
  eqv xs ys := by simp only [PyData.eqv]; exact E.eqvs xs ys
  lay xs := by simp only [PyData.plain]; exact E.lays xs
  dep xs := by
    simp only [PyData.depth]
    have : ∀ xs : List α, PyData.depthAll (xs.map f) ≤ 7 := by
      intro xs
      induction xs with
      | nil => exact Nat.zero_le _
      | cons x xs ih => rw [List.map_cons, PyData.depthAll]; exact Nat.max_le.mpr ⟨hd x, ih⟩
    have := this xs
    omega
theorem Enc.any (E : Enc f) (xs : List α) (x : α) : ((xs.map f).any fun z => PyData.eqv z (f x)) = decide (x ∈ xs) := by
  rw [Bool.eq_iff_iff, List.any_eq_true, decide_eq_true_eq]
  constructor
  · rintro ⟨z, hz, e⟩
    obtain ⟨y, hy, rfl⟩ := List.mem_map.mp hz
    rw [E.eqv, decide_eq_true_eq] at e
    rw [← e]; exact hy
  · intro h
    exact ⟨f x, List.mem_map_of_mem h, by rw [E.eqv, decide_eq_true_eq]⟩
theorem Enc.tg (E : Enc f) {K : PySem.W.Frag} {H H' : Hp} (t : TG H H') {x : α} {v : V} (h : Dp K H v (f x)) : Dp K H' v (f x) := dp_tg t _ _ (E.pure x) h
theorem Enc.tgs (E : Enc f) {K : PySem.W.Frag} {H H' : Hp} (t : TG H H') {xs : List α} {vs : List V} (h : DpAll K H vs (xs.map f)) : DpAll K H' vs (xs.map f) := dpAll_tg t _ _ (E.pures xs) h
end
theorem encStr : Enc (fun x : Str => PyData.str x) where
  pure _ := rfl
  eqv a b := by simp only [PyData.eqv]; exact PySem.W.beq_decide a b
  lay _ := rfl
  dep _ := Nat.zero_le _

abbrev Lit := Mth.Lit Str
abbrev Cl := Mth.Cl Str
def b2 (b : Bool) : Int := if b = true then 1 else 0
theorem b2_inj {a b : Bool} : b2 a = b2 b ↔ a = b := by cases a <;> cases b <;> simp [b2]
def dLit (l : Lit) : PyData := .tuple [.str l.1, .int (b2 l.2)]
def dCl (c : Cl) : PyData := .tuple (c.map dLit)
def dCls (cs : List Cl) : PyData := .tuple (cs.map dCl)
def dNm (ns : List Str) : PyData := .tuple (ns.map fun x => .str x)
def dTh (ns : List Str) (cs : List Cl) : PyData := .tuple [dNm ns, dCls cs]
theorem encLit : Enc dLit where
  pure _ := rfl
  eqv a b := by
    simp only [dLit, PyData.eqv, PyData.eqvAll, Bool.and_true]
    rw [PySem.W.beq_decide, PySem.W.beq_decide, ← Bool.decide_and]
    exact decide_eq_decide.mpr ⟨fun ⟨h1, h2⟩ => Prod.ext h1 (b2_inj.mp h2), fun e => by rw [e]; exact ⟨rfl, rfl⟩⟩
  lay _ := rfl
  dep _ := by simp [dLit, PyData.depth, PyData.depthAll]
theorem dep_lit (l : Lit) : (dLit l).depth = 1 := by simp [dLit, PyData.depth, PyData.depthAll]
theorem encCl : Enc dCl := encLit.tup fun a => by rw [dep_lit]; decide
theorem dep_all {α : Type} {f : α → PyData} {k : Nat} (h : ∀ a, (f a).depth ≤ k) : ∀ xs : List α, PyData.depthAll (xs.map f) ≤ k
  | [] => Nat.zero_le _
  | x :: xs => by rw [List.map_cons, PyData.depthAll]; exact Nat.max_le.mpr ⟨h x, dep_all h xs⟩
theorem dep_cl (c : Cl) : (dCl c).depth ≤ 2 := by
  simp only [dCl, PyData.depth]
  have := dep_all (f := dLit) (k := 1) (fun a => by rw [dep_lit]; exact Nat.le_refl _) c
  omega
theorem encCls : Enc dCls := encCl.tup fun a => Nat.le_trans (dep_cl a) (by decide)
theorem encNm : Enc dNm := encStr.tup fun a => Nat.zero_le _
theorem pure_th (ns : List Str) (cs : List Cl) : pureD (dTh ns cs) = true := by
  have h1 := encNm.pure ns
  have h2 := encCls.pure cs
  simp [dTh, pureD, pureDs, h1, h2]

/-! ### reading the predicate -/
section
variable {K : PySem.W.Frag} {H : Hp} {v : V}
theorem dp_tup {ds : List PyData} (h : Dp K H v (.tuple ds)) : ∃ a xs, v = .ref a ∧ SqT K H a xs ∧ DpAll K H xs ds := by
  cases h with
  | tup hs ha => exact ⟨_, _, rfl, hs, ha⟩
theorem dp_str {x : Str} (h : Dp K H v (.str x)) : v = .str x := by cases h; rfl
theorem dp_int {i : Int} (h : Dp K H v (.int i)) : v = .int i := by cases h; rfl
theorem dp_lit {l : Lit} (h : Dp K H v (dLit l)) : ∃ a, v = .ref a ∧ SqT K H a [.str l.1, .int (b2 l.2)] := by
  obtain ⟨a, xs, e, hs, ha⟩ := dp_tup h
  cases ha with
  | cons h1 t =>
    cases t with
    | cons h2 t =>
      cases t
      rw [dp_str h1, dp_int h2] at hs
      exact ⟨a, e, hs⟩
theorem mk_lit {a : Addr} {l : Lit} (h : SqT K H a [.str l.1, .int (b2 l.2)]) : Dp K H (.ref a) (dLit l) := .tup h (.cons (.str _) (.cons (.int _) .nil))
theorem strs_all : ∀ {ns : List Str} {vs : List V}, DpAll K H vs (ns.map fun x => .str x) → vs = ns.map V.str
  | [], _, h => by cases h; rfl
  | n :: ns, _, h => by
    cases h with
    | cons h1 h2 => rw [dp_str h1, strs_all h2]; rfl
theorem mk_strs : ∀ ns : List Str, DpAll K H (ns.map V.str) (ns.map fun x => .str x)
  | [] => .nil
  | n :: ns => .cons (.str _) (mk_strs ns)
theorem dp_nm {ns : List Str} (h : Dp K H v (dNm ns)) : ∃ a, v = .ref a ∧ SqT K H a (ns.map V.str) := by
  obtain ⟨a, xs, e, hs, ha⟩ := dp_tup h
  rw [strs_all ha] at hs
  exact ⟨a, e, hs⟩
theorem mk_nm {a : Addr} {ns : List Str} (h : SqT K H a (ns.map V.str)) : Dp K H (.ref a) (dNm ns) := .tup h (mk_strs ns)
theorem dp_th {ns : List Str} {cs : List Cl} (h : Dp K H v (dTh ns cs)) : ∃ a v1 v2, v = .ref a ∧ SqT K H a [v1, v2] ∧ Dp K H v1 (dNm ns) ∧ Dp K H v2 (dCls cs) := by
  obtain ⟨a, xs, e, hs, ha⟩ := dp_tup h
  cases ha with
  | cons h1 t =>
    cases t with
    | cons h2 t => cases t; exact ⟨a, _, _, e, hs, h1, h2⟩
theorem mk_th {a : Addr} {v1 v2 : V} {ns : List Str} {cs : List Cl} (h : SqT K H a [v1, v2]) (h1 : Dp K H v1 (dNm ns)) (h2 : Dp K H v2 (dCls cs)) : Dp K H (.ref a) (dTh ns cs) := .tup h (.cons h1 (.cons h2 .nil))
end
section
variable {K : PySem.W.Frag} {H : Hp} {α : Type} {f : α → PyData}
theorem all_len : ∀ {ds : List PyData} {vs : List V}, DpAll K H vs ds → vs.length = ds.length
  | [], _, h => by cases h; rfl
  | _ :: ds, _, h => by
    cases h with
    | cons _ h2 => rw [List.length_cons, List.length_cons, all_len h2]
theorem allf_len {xs : List α} {vs : List V} (h : DpAll K H vs (xs.map f)) : vs.length = xs.length := by rw [all_len h, List.length_map]
theorem all_get : ∀ {xs : List α} {vs : List V} {i : Nat} {v : V}, DpAll K H vs (xs.map f) → vs[i]? = some v → ∃ x, xs[i]? = some x ∧ Dp K H v (f x)
  | [], _, i, v, h, e => by cases h; simp at e
  | x :: xs, _, 0, v, h, e => by
    cases h with
    | cons h1 h2 => simp at e; subst e; exact ⟨x, rfl, h1⟩
  | x :: xs, _, i + 1, v, h, e => by
    cases h with
    | cons h1 h2 => exact all_get (i := i) h2 (by simpa using e)
theorem all_get' : ∀ {xs : List α} {vs : List V} {i : Nat} {x : α}, DpAll K H vs (xs.map f) → xs[i]? = some x → ∃ v, vs[i]? = some v ∧ Dp K H v (f x)
  | [], _, i, v, h, e => by simp at e
  | x :: xs, _, 0, v, h, e => by
    cases h with
    | cons h1 h2 => simp at e; subst e; exact ⟨_, rfl, h1⟩
  | x :: xs, _, i + 1, v, h, e => by
    cases h with
    | cons h1 h2 => exact all_get' (i := i) h2 (by simpa using e)
theorem all_app : ∀ {ds es : List PyData} {vs ws : List V}, DpAll K H vs ds → DpAll K H ws es → DpAll K H (vs ++ ws) (ds ++ es)
  | [], _, _, _, h, k => by cases h; exact k
  | _ :: ds, _, _, _, h, k => by
    cases h with
    | cons h1 h2 => exact .cons h1 (all_app h2 k)
theorem all_snoc {xs : List α} {x : α} {vs : List V} {v : V} (h : DpAll K H vs (xs.map f)) (k : Dp K H v (f x)) : DpAll K H (vs ++ [v]) ((xs ++ [x]).map f) := by
  rw [List.map_append]; exact all_app h (.cons k .nil)
theorem all_take : ∀ {ds : List PyData} {vs : List V} (n : Nat), DpAll K H vs ds → DpAll K H (vs.take n) (ds.take n)
  | _, _, 0, _ => .nil
  | [], _, n + 1, h => by cases h; exact .nil
  | _ :: ds, _, n + 1, h => by
    cases h with
    | cons h1 h2 => exact .cons h1 (all_take n h2)
theorem all_drop : ∀ {ds : List PyData} {vs : List V} (n : Nat), DpAll K H vs ds → DpAll K H (vs.drop n) (ds.drop n)
  | _, _, 0, h => h
  | [], _, n + 1, h => by cases h; exact .nil
  | _ :: ds, _, n + 1, h => by
    cases h with
    | cons h1 h2 => exact all_drop n h2
theorem all_set : ∀ {ds : List PyData} {vs : List V} (n : Nat) {v : V} {d : PyData}, DpAll K H vs ds → Dp K H v d → DpAll K H (vs.set n v) (ds.set n d)
  | [], _, _, _, _, h, _ => by cases h; exact .nil
  | _ :: ds, _, 0, _, _, h, k => by
    cases h with
    | cons h1 h2 => exact .cons k h2
  | _ :: ds, _, n + 1, _, _, h, k => by
    cases h with
    | cons h1 h2 => exact .cons h1 (all_set n h2 k)
theorem all_erase : ∀ {ds : List PyData} {vs : List V} (n : Nat), DpAll K H vs ds → DpAll K H (vs.eraseIdx n) (ds.eraseIdx n)
  | [], _, _, h => by cases h; exact .nil
  | _ :: ds, _, 0, h => by
    cases h with
    | cons h1 h2 => exact h2
  | _ :: ds, _, n + 1, h => by
    cases h with
    | cons h1 h2 => exact .cons h1 (all_erase n h2)
theorem all_rev : ∀ {ds : List PyData} {vs : List V}, DpAll K H vs ds → DpAll K H vs.reverse ds.reverse
  | [], _, h => by cases h; exact .nil
  | _ :: ds, _, h => by
    cases h with
    | cons h1 h2 => rw [List.reverse_cons, List.reverse_cons]; exact all_app (all_rev h2) (.cons h1 .nil)
end

/-- at p a list of such stands -/
def Ls (K : PySem.W.Frag) (H : Hp) (p : Addr) {α : Type} (f : α → PyData) (xs : List α) : Prop := ∃ vs, H p = some (.lst vs) ∧ DpAll K H vs (xs.map f)
theorem Ls.same {K : PySem.W.Frag} {H H' : Hp} {p : Addr} {α : Type} [DecidableEq α] {f : α → PyData} {xs : List α} (E : Enc f) (s : Same H H') (h : Ls K H p f xs) : Ls K H' p f xs :=
  let ⟨vs, e, d⟩ := h; ⟨vs, s _ _ e, E.tgs (.of s) d⟩
theorem Ls.nil {K : PySem.W.Frag} {H : Hp} {p : Addr} {α : Type} {f : α → PyData} : Ls K (upd H p (.lst [])) p f ([] : List α) := ⟨[], upd_same, .nil⟩
theorem Ls.push {K : PySem.W.Frag} {H : Hp} {p : Addr} {α : Type} [DecidableEq α] {f : α → PyData} {xs : List α} {vs : List V} {v : V} {x : α} (E : Enc f) (h : H p = some (.lst vs)) (d : DpAll K H vs (xs.map f)) (k : Dp K H v (f x)) : Ls K (upd H p (.lst (vs ++ [v]))) p f (xs ++ [x]) :=
  ⟨_, upd_same, E.tgs (tg_lst h) (all_snoc d k)⟩

/-! ### the order of texts -/
instance : Mth.SOrd Str where
  lt x y := decide (x.cps.toList < y.cps.toList)
  irr x := decide_eq_false (List.lt_irrefl _)
  tr x y z h1 h2 := decide_eq_true (List.lt_trans (of_decide_eq_true h1) (of_decide_eq_true h2))
  tri x y := by
    by_cases h1 : x.cps.toList < y.cps.toList
    · exact .inl (decide_eq_true h1)
    · by_cases h2 : y.cps.toList < x.cps.toList
      · exact .inr (.inr (decide_eq_true h2))
      · exact .inr (.inl (PySem.W.str_of_cps (List.le_antisymm (List.not_lt.mp h2) (List.not_lt.mp h1))))
end Sh
end
section
namespace Sh
open PySem L2
section
variable {X : Cx} {α : Type} [DecidableEq α] {f : α → PyData}

/-! ### in, not in, ==, != of data -/
def rInE (K : PySem.W.Frag) (f : α → PyData) (yes : Bool) (no : Bool) : R2 := fun x y H Q => ∃ (a : α) (as : List α), Dp K H x (f a) ∧ (Dp K H y (.tuple (as.map f)) ∨ Dp K H y (.list (as.map f))) ∧ (a ∈ as → Q (.bl yes) H) ∧ (a ∉ as → Q (.bl no) H)
theorem two_in {Q : VK} {H : Hp} {yes no : Bool} {a : α} {as : List α} (h1 : a ∈ as → Q (.bl yes) H) (h2 : a ∉ as → Q (.bl no) H) : Q (.bl (if decide (a ∈ as) = true then yes else no)) H := by
  by_cases h : a ∈ as
  · rw [decide_eq_true h]; exact h1 h
  · rw [decide_eq_false h]; exact h2 h
theorem room8 {A : Around} {d : PyData} {k : Nat} (hu : A.units + 65 < cLine) (h : d.depth ≤ 8) : A.units + 1 + min k d.depth < cLine := by
  have := Nat.min_le_right k d.depth
  omega
theorem op_inE (E : Enc f) (hu : X.A.units + 65 < cLine) : OpR X (compareOp .In) (rInE X.K f true false) := by
  intro pins s σ H x y v u Q I rx ry h
  obtain ⟨a, as, ha, hy, q1, q2⟩ := h
  obtain ⟨bs, r1⟩ := Dp.reads I _ x v ha rx
  have q' : EP X pins σ Q (.bool ((as.map f).any fun z => PyData.eqv z (f a))) s := ⟨.bl _, H, I, rfl, by rw [E.any]; have := two_in q1 q2; revert this; cases decide (a ∈ as) <;> exact id⟩
  rcases hy with hy | hy
  · obtain ⟨cs, r2⟩ := Dp.reads I _ y u hy ry
    exact SeqAt.in_tuple_data r2 r1 (E.lays as) (E.lay a) (room8 hu (E.dep a)) q'
  · obtain ⟨cs, r2⟩ := Dp.reads I _ y u hy ry
    exact SeqAt.in_list_data r2 r1 (E.lays as) (E.lay a) (room8 hu (E.dep a)) q'
theorem op_notInE (E : Enc f) (hu : X.A.units + 65 < cLine) : OpR X (compareOp .NotIn) (rInE X.K f false true) := by
  intro pins s σ H x y v u Q I rx ry h
  obtain ⟨a, as, ha, hy, q1, q2⟩ := h
  obtain ⟨bs, r1⟩ := Dp.reads I _ x v ha rx
  have q' : EP X pins σ Q (.bool (!(as.map f).any fun z => PyData.eqv z (f a))) s := ⟨.bl _, H, I, rfl, by rw [E.any]; have := two_in q1 q2; revert this; cases decide (a ∈ as) <;> exact id⟩
  rcases hy with hy | hy
  · obtain ⟨cs, r2⟩ := Dp.reads I _ y u hy ry
    exact SeqAt.notIn_tuple_data r2 r1 (E.lays as) (E.lay a) (room8 hu (E.dep a)) q'
  · obtain ⟨cs, r2⟩ := Dp.reads I _ y u hy ry
    exact SeqAt.notIn_list_data r2 r1 (E.lays as) (E.lay a) (room8 hu (E.dep a)) q'
def rNeP (K : PySem.W.Frag) : R2 := fun x y H Q => ∃ d e, Dp K H x d ∧ Dp K H y e ∧ d.plain = true ∧ e.plain = true ∧ d.depth ≤ 20 ∧ Q (.bl (!PyData.eqv d e)) H
theorem op_neP (hu : X.A.units + 65 < cLine) : OpR X (compareOp .NotEq) (rNeP X.K) := by
  intro pins s σ H x y v u Q I rx ry h
  obtain ⟨d, e, hd, he, pd, pe, hz, q⟩ := h
  obtain ⟨as, r1⟩ := Dp.reads I d x v hd rx
  obtain ⟨bs, r2⟩ := Dp.reads I e y u he ry
  exact SeqAt.ne_plain r1 r2 pd pe (by have := Nat.min_le_left d.depth e.depth; omega) ⟨.bl _, H, I, rfl, q⟩

/-! ### tuples joined and cut -/
/-- some value that holds d, all else as it stood -/
def Give (K : PySem.W.Frag) (H : Hp) (d : PyData) (Q : VK) : Prop := ∀ v H', Same H H' → Dp K H' v d → Q v H'
theorem sq_len {pins : List (Addr × Obj)} {σ : St} {H : Hp} {s : Shared} (I : Inv X pins σ H s) {a : Addr} {xs : List V} (h : SqT X.K H a xs) : xs.length ≤ sizeLine := let ⟨_, _, _, z⟩ := I.tuple h; z
def rCatD (K : PySem.W.Frag) : R2 := fun x y H Q => ∃ ds es, Dp K H x (.tuple ds) ∧ Dp K H y (.tuple es) ∧ pureDs ds = true ∧ pureDs es = true ∧ ds.length + es.length ≤ 100000 ∧ Give K H (.tuple (ds ++ es)) Q
theorem op_catD : OpR X (binaryOp .Add) (rCatD X.K) := by
  intro pins s σ H x y v u Q I rx ry h
  obtain ⟨ds, es, hd, he, pd, pe, hz, q⟩ := h
  obtain ⟨a, xs, rfl, hs, ha⟩ := dp_tup hd
  obtain ⟨b, ys, rfl, ht, hb⟩ := dp_tup he
  have l1 := all_len ha
  have l2 := all_len hb
  refine op_catA pins s σ H _ _ v u Q I rx ry ⟨a, b, xs, ys, rfl, rfl, hs, ht, Nat.le_trans (by omega) (show 100000 ≤ sizeLine by decide), fun e => ?_, fun _ e => ?_, fun _ _ p hp => ?_⟩
  · subst e
    cases ha
    exact q _ _ (Same.refl _) he
  · subst e
    cases hb
    exact q _ _ (Same.refl _) (by rw [List.append_nil]; exact hd)
  · refine q _ _ (same_new hp) (.tup (.inl (.inl upd_same)) (all_app (dpAll_tg (tg_new hp) _ _ pd ha) (dpAll_tg (tg_new hp) _ _ pe hb)))
/-- t[:k], t[k:] -/
def rCutD (K : PySem.W.Frag) : V → Option Int → Option Int → Hp → VK → Prop := fun x lo hi H Q => ∃ (ds : List PyData) (k : Nat), Dp K H x (.tuple ds) ∧ pureDs ds = true ∧ k ≤ ds.length ∧ ((lo = none ∧ hi = some (k : Int) ∧ Give K H (.tuple (ds.take k)) Q) ∨ (lo = some (k : Int) ∧ hi = none ∧ Give K H (.tuple (ds.drop k)) Q))
theorem cut_hi (xs : List V) (k : Nat) (h : k ≤ xs.length) : cutV xs none (some (k : Int)) = xs.take k := by
  unfold cutV
  rw [HT.sIx_none, HT.sIx_nat, Nat.min_eq_left h]
  rfl
theorem cut_lo (xs : List V) (k : Nat) (h : k ≤ xs.length) : cutV xs (some (k : Int)) none = xs.drop k := by
  unfold cutV
  rw [HT.sIx_none, HT.sIx_nat, Nat.min_eq_left h]
  exact List.take_of_length_le (by rw [List.length_drop]; omega)
theorem pure_take : ∀ (ds : List PyData) (k : Nat), pureDs ds = true → pureDs (ds.take k) = true
  | _, 0, _ => rfl
  | [], _ + 1, _ => rfl
  | d :: ds, k + 1, h => by
    simp only [pureDs, Bool.and_eq_true] at h
    rw [List.take_succ_cons, pureDs, h.1, pure_take ds k h.2]; rfl
theorem pure_drop : ∀ (ds : List PyData) (k : Nat), pureDs ds = true → pureDs (ds.drop k) = true
  | _, 0, h => h
  | [], _ + 1, _ => rfl
  | d :: ds, k + 1, h => by
    simp only [pureDs, Bool.and_eq_true] at h
    exact pure_drop ds k h.2
theorem sl_cutD : SlR X (rCutD X.K) := by
  intro pins s σ H x v vl vu lo hi sl Q I rx hs pl pu h
  obtain ⟨ds, k, hd, pd, hk, h⟩ := h
  obtain ⟨a, xs, rfl, ht, ha⟩ := dp_tup hd
  have l1 := all_len ha
  refine sl_tupA pins s σ H _ v vl vu lo hi sl Q I rx hs pl pu ⟨a, xs, rfl, ht, fun hw => ?_, fun hw p hp => ?_⟩
  · rcases h with ⟨rfl, rfl, q⟩ | ⟨rfl, rfl, q⟩
    · rw [HT.sIx_nat, Nat.min_eq_left (by omega)] at hw
      refine q _ _ (Same.refl _) ?_
      rw [List.take_of_length_le (by omega)]
      exact hd
    · rw [HT.sIx_nat, Nat.min_eq_left (by omega)] at hw
      refine q _ _ (Same.refl _) ?_
      rw [hw.1]
      exact hd
  · rcases h with ⟨rfl, rfl, q⟩ | ⟨rfl, rfl, q⟩
    · rw [cut_hi _ _ (by omega)]
      exact q _ _ (same_new hp) (.tup (.inl (.inl upd_same)) (dpAll_tg (tg_new hp) _ _ (pure_take _ _ pd) (all_take k ha)))
    · rw [cut_lo _ _ (by omega)]
      exact q _ _ (same_new hp) (.tup (.inl (.inl upd_same)) (dpAll_tg (tg_new hp) _ _ (pure_drop _ _ pd) (all_drop k ha)))

/-! ### sorted -/
theorem pairs_each {γ : Type} {pins : List (Addr × Obj)} {σ : St} {H : Hp} {s : Shared} (I : Inv X pins σ H s) {g : γ → PyData} : ∀ {ws : List V} {its : List Value} {xs : List γ}, Vals ws its → DpAll X.K H ws (xs.map g) →
    PySem.W.EachIs (fun (u : Value) (p : V × γ) => (RelV p.1 u ∧ Dp X.K H p.1 (g p.2)) ∧ ∃ as, Reads s.heap u (g p.2) as) its (ws.zip xs)
  | [], _, xs, r, h => by cases r; exact .nil
  | w :: ws, _, [], r, h => by cases h
  | w :: ws, _, x :: xs, r, h => by
    cases r with
    | cons r1 r2 =>
      cases h with
      | cons h1 h2 => exact .cons ⟨⟨r1, h1⟩, Dp.reads I _ _ _ h1 r1⟩ (pairs_each I r2 h2)
theorem each_vals {γ : Type} {H : Hp} {K : PySem.W.Frag} {g : γ → PyData} : ∀ {out : List Value} {ps : List (V × γ)}, PySem.W.EachIs (fun (u : Value) (p : V × γ) => RelV p.1 u ∧ Dp K H p.1 (g p.2)) out ps → Vals (ps.map (·.1)) out ∧ DpAll K H (ps.map (·.1)) ((ps.map (·.2)).map g)
  | _, _, .nil => ⟨.nil, .nil⟩
  | _, _, .cons h t => ⟨.cons h.1 (each_vals t).1, .cons h.2 (each_vals t).2⟩
theorem dataLe_total {β : Type} (k : β → PyData) : PySem.W.TotalLe (PySem.W.dataLe false k) := by
  first
    | exact PySem.W.dataLe_total _ _
    | exact PySem.W.sortLe_total _ _ _
theorem zip_snd {γ : Type} : ∀ {ws : List V} {xs : List γ}, ws.length = xs.length → (ws.zip xs).map (·.2) = xs
  | [], [], _ => rfl
  | [], _ :: _, h => by cases h
  | _ :: _, [], h => by cases h
  | w :: ws, x :: xs, h => by rw [List.zip_cons_cons, List.map_cons, zip_snd (by simpa using h)]
def rSortE (K : PySem.W.Frag) (f : α → PyData) : List V → Hp → VK → Prop := fun vs H Q => ∃ (a : Addr) (ws : List V) (xs : List α), vs = [.ref a] ∧ SqL K H a ws ∧ DpAll K H ws (xs.map f) ∧ (2 ≤ xs.length → PySem.W.AllAlike (xs.map f) ∧ PySem.W.Sortable (xs.map f)) ∧
  ∀ (ys : List α) (us : List V) (p : Addr), ys.Perm xs → ys.Pairwise (fun x y => PySem.W.dataLt (f y) (f x) = false) → H p = none → DpAll K H us (ys.map f) → Q (.ref p) (upd H p (.lst us))
theorem swo_none : SrtO.Swo (fun _ _ : Value => false) := ⟨(fun _ _ h => by cases h), (fun _ _ _ _ _ => rfl)⟩
theorem perm_short {β : Type} : ∀ {l m : List β}, l.length ≤ 1 → m.Perm l → m = l
  | [], _, _, hp => hp.eq_nil
  | [x], _, _, hp => List.perm_singleton.mp hp
  | _ :: _ :: _, _, h, _ => absurd h (by simp)
theorem pw_short {β : Type} {R : β → β → Prop} : ∀ {l : List β}, l.length ≤ 1 → l.Pairwise R
  | [], _ => .nil
  | [x], _ => List.pairwise_singleton _ _
  | _ :: _ :: _, h => absurd h (by simp)
theorem cr_sortE (E : Enc f) (hu : X.A.units + 65 < cLine) : CallR X (.builtin "sorted") (rSortE X.K f) := by
  intro pins s σ H vs us Q I r h
  obtain ⟨a, ws, xs, rfl, hs, hd, hal, q⟩ := h
  obtain ⟨its, rv, hl, hz⟩ := I.list hs
  rw [Vals.ref1 r]
  have ll := allf_len hd
  have lv := rv.length
  have fin : ∀ (out : List Value) (ys : List α) (ws' : List V), out.length = its.length → Vals ws' out → DpAll X.K H ws' (ys.map f) → ys.Perm xs → ys.Pairwise (fun x y => PySem.W.dataLt (f y) (f x) = false) →
      EP X pins σ Q (.ref (s.heap.objs.size + 1)) { s with heap := PyProof.Rows.sortedAll s.heap its out.toArray } := fun out ys ws' hlen hv hda hp hpw => by
    obtain ⟨ep, he'⟩ := PyProof.Rows.sortedAll_at s.heap its out.toArray
    exact ⟨.ref _, upd H (s.heap.objs.size + 1) (.lst ws'), I.laid (t' := s.toks) (fun _ _ => PyProof.Rows.sortedAll_old) (Nat.le_succ _) ⟨by rw [hv.length, hlen, ← lv]; exact hz, out, ep, hv, he'⟩, rfl, q _ _ _ hp hpw (I.hok.fresh (Nat.le_succ _)) hda⟩
  by_cases h2 : 2 ≤ xs.length
  · have ee := pairs_each I rv hd
    have e2 : ((ws.zip xs).map fun p => f p.2) = xs.map f := by
      rw [show (fun p : V × α => f p.2) = f ∘ (fun p : V × α => p.2) from rfl, ← List.map_map, zip_snd ll]
    refine PySem.W.sorted_data (bs := ws.zip xs) (enc := fun p => f p.2) (R := fun (u : Value) (p : V × α) => RelV p.1 u ∧ Dp X.K H p.1 (f p.2)) hl.isList (ee.mono fun _ _ h => h.1) (ee.mono fun _ _ h => h.2) (by rw [e2]; exact (hal h2).1) (by rw [e2]; exact (hal h2).2)
      (by rw [List.length_zip]; exact Nat.le_trans (Nat.min_le_left _ _) hz) (fun b _ => by have := E.dep b.2; omega) fun out hlo heo => ?_
    obtain ⟨k1, k2⟩ := each_vals heo
    have hperm := List.mergeSort_perm (ws.zip xs) (PySem.W.dataLe false fun p : V × α => f p.2)
    refine fin out (((ws.zip xs).mergeSort (PySem.W.dataLe false fun p : V × α => f p.2)).map (·.2)) _ ?_ k1 k2 ?_ ?_
    · rw [hlo, List.length_zip, ll, Nat.min_self, ← lv, ll]
    · have := hperm.map (fun p : V × α => p.2)
      rwa [zip_snd ll] at this
    · refine List.pairwise_map.mpr (List.Pairwise.imp (fun {x y} hxy => ?_) (PySem.W.sort_pairwise (dataLe_total _) (ws.zip xs)))
      rw [PySem.W.dataLe_eq] at hxy
      simpa using hxy
  · refine SrtO.sorted_ord swo_none hl.isList (by rw [← lv]; exact hz) (fun h2' => absurd h2' (by rw [← lv, ll]; exact h2)) fun out h1 h3 => ?_
    have eo : out = its := perm_short (by rw [← lv, ll]; omega) h3.perm
    subst eo
    exact fin out xs ws rfl rv hd (List.Perm.refl _) (pw_short (by omega))
end
end Sh
end
section
namespace Sh
open PySem PySem.Spec L2 PyProof.Rows
section
variable {X : Cx}

/-! ### sorted(xs, key=len), xs a list of clauses -/
def rSortLen (K : PySem.W.Frag) : List V → Hp → VK → Prop := fun vs H Q => ∃ (a : Addr) (ws : List V) (cs : List Cl), vs = [.ref a] ∧ SqL K H a ws ∧ DpAll K H ws (cs.map dCl) ∧
  ∀ (ys : List Cl) (us : List V) (p : Addr), ys.Perm cs → ys.Pairwise (fun x y => x.length ≤ y.length) → H p = none → DpAll K H us (ys.map dCl) → Q (.ref p) (upd H p (.lst us))
theorem lenD_int : ∀ x y : Int, PySem.W.dataLt (.int x) (.int y) = decide (x < y) := by
  intro x y
  have h := congrFun (congrFun (PySem.W.dataLe_int (fun b : Int => b)) y) x
  rw [PySem.W.dataLe_eq] at h
  simp only [cond] at h
  have : PySem.W.dataLt (.int x) (.int y) = !decide (y ≤ x) := by rw [← h, Bool.not_not]
  rw [this]
  by_cases q : y ≤ x
  · rw [decide_eq_true q, decide_eq_false (by omega)]; rfl
  · rw [decide_eq_false q, decide_eq_true (by omega)]; rfl
theorem pe_sortedLen {e : Expr} {te : TE} {p q kp pos : Pos} (hg : Gl X "sorted") (hm : X.mg "sorted" = none) (hg2 : Gl X "len") (hm2 : X.mg "len" = none) (hu : X.A.units + 65 < cLine) (he : PE X e te)
    (hs : starEach [e] X.env = (false, eval e X.env) :: starEach [] X.env := by rfl) :
    PE X (.Call (.Name "sorted" p) [e] [⟨some "key", .Name "len" q, kp⟩] pos) (tCB (rSortLen X.K) (tCons te tNil)) := by
  refine ⟨fun pins s σ H Q I h => ?_⟩
  refine wpAny_Call_Name_kw (ld_blt (u := .builtin "sorted") I hg hm (by decide +kernel) ?_)
  refine PyProof.Rows.callWith_kw (thn ((pa_cons he pa_nil hs).run pos pins s σ H _ I h) fun us s1 ⟨vs, H1, I1, r1, q1⟩ => ?_) (by rw [hs] <;> rfl) (by rw [hs] <;> rfl)
  show wpAny _ _ (evalAll [(do let v ← eval (.Name "len" q) X.env; standAt pos; pure v)]) _ _ s1
  refine wpAny_evalAll_cons (wpAny_bind (ld_blt (u := .builtin "len") I1 hg2 hm2 PySem.boot_len (wpAny_bind (wpAny_standAt (wpAny_pure ?_)))))
  refine wpAny_evalAll_nil ?_
  show wpAny _ _ (call (.builtin "sorted") us [(Str.ofString "key", .builtin "len")]) _ _ s1
  obtain ⟨a, ws, cs, ev, hs, hd, q⟩ := q1
  subst ev
  obtain ⟨u, eu, ru⟩ := vals1 r1
  subst eu
  obtain rfl : u = Value.ref a := ru
  obtain ⟨its, rv, hl, hz⟩ := I1.list hs
  have ll := allf_len hd
  have lv := rv.length
  have ee := pairs_each I1 rv hd
  refine PySem.W.sorted_key_data (b := false) (kw := [(Str.ofString "key", .builtin "len")]) (f := .builtin "len") (bs := ws.zip cs) (R := fun (u : Value) (p : V × Cl) => (RelV p.1 u ∧ Dp X.K H1 p.1 (dCl p.2)) ∧ ∃ as, Reads s1.heap u (dCl p.2) as) (fun p => PyData.int (p.2.length : Nat)) hl.isList ee
    (PySem.W.AllAlike.of fun _ _ => rfl) (PySem.W.Sortable.others fun b => ⟨(fun z => nomatch z), (fun _ z => nomatch z)⟩) (by rw [List.length_zip]; exact Nat.le_trans (Nat.min_le_left _ _) hz) (fun x _ => by show _ + 2 + 0 < _; omega) (PyProof.Rows.ksk_s1 _ _) (fun _ => PyProof.Rows.ksk_l1 _ _) (fun x => PyProof.Rows.ksk_t4 "len" x) ?turn ?fin
  case turn =>
    rintro v x ⟨⟨rx, _⟩, as, hr⟩ hx h tk kp'
    have hr' : Reads h v (dCl x.2) as := PyProof.Rows.Reads.keeps kp' hr
    have sz : x.2.length ≤ sizeLine := by
      obtain ⟨i, hi⟩ := List.mem_iff_getElem?.mp hx
      rw [List.getElem?_zip_eq_some] at hi
      obtain ⟨w', hw', dw⟩ := all_get' hd hi.2
      obtain ⟨b, xs, _, hsq, ha⟩ := dp_tup dw
      have := sq_len I1 hsq
      rw [all_len ha, List.length_map] at this
      exact this
    cases hr' with
    | @tuple l o vs n _ _ g1 g2 g3 g4 =>
      have n1 : vs.size = x.2.length := by
        have := SeqAt.ReadsAll.length _ _ _ g4
        simpa using this
      refine PyProof.Rows.len_tuple (items := vs) ⟨o, g1, g2, n, g3⟩ (by have := line63; rw [n1]; omega) ?_
      refine ⟨h, tk + 1 + 1, rfl, fun _ _ q => q, ?_⟩
      show Reads h (.int ((vs.size : Nat) : Int) _) (.int ((x.2.length : Nat) : Int)) []
      rw [n1]
      exact Reads.int _ _
  case fin =>
    intro out c h' tk kp' hf hD hlo heo
    obtain ⟨k1, k2⟩ := each_vals (heo.mono fun _ _ h => h.1)
    have hperm := List.mergeSort_perm (ws.zip cs) (PySem.W.dataLe false fun p : V × Cl => PyData.int (p.2.length : Nat))
    have I2 : Inv X pins σ H1 { s1 with heap := h', toks := tk } := I1.kept (t' := tk) kp'
    have hp : H1 (s1.heap.objs.size + 1) = none := I1.hok.fresh (Nat.le_succ _)
    refine ⟨.ref (s1.heap.objs.size + 1), upd H1 (s1.heap.objs.size + 1) (.lst (((ws.zip cs).mergeSort (PySem.W.dataLe false fun p : V × Cl => PyData.int (p.2.length : Nat))).map (·.1))), I1.laid (t' := tk) kp' (Nat.le_succ _) ⟨?_, out, c, k1, hD⟩, rfl, q (((ws.zip cs).mergeSort (PySem.W.dataLe false fun p : V × Cl => PyData.int (p.2.length : Nat))).map (·.2)) _ _ ?_ ?_ hp k2⟩
    · rw [List.length_map, hperm.length_eq, List.length_zip]
      exact Nat.le_trans (Nat.min_le_left _ _) hz
    · have := hperm.map (fun p : V × Cl => p.2)
      rwa [zip_snd ll] at this
    · refine List.pairwise_map.mpr (List.Pairwise.imp (fun {x y} hxy => ?_) (PySem.W.sort_pairwise (dataLe_total _) (ws.zip cs)))
      rw [PySem.W.dataLe_eq] at hxy
      simp only [cond, lenD_int, Bool.not_eq_true', decide_eq_false_iff_not] at hxy
      omega
end
end Sh
end
section
namespace Sh
open PySem L2
def top (i : Nat) : Stmt := PySem.Challenge.pw_shadowlinks_k13_whole_bits_alike.main.body.getD i (.Pass ⟨0, 0, 0, 0⟩)

/-! ### short words -/
section
variable {X : Cx}
theorem gn (i : Nat) (nd : X.N.Nodup) {x : Str} {pos : Pos} (hi : X.N[i]? = some x := by rfl) (hx : Loc X.env.scope x := by first | exact Or.inl rfl | exact Or.inr rfl) (hf : X.fn x = true ∨ X.env.scope.names.lookup x = some .local := by first | exact .inl rfl | exact .inr rfl | assumption) : PG X (.Name x pos) (gName i) := pg_name nd hi hx hf
theorem st_ (i : Nat) (nd : X.N.Nodup) {x : Str} {e : Expr} {te : TE} {pos pos' : Pos} (he : PE X e te) (hi : X.N[i]? = some x := by rfl) (hx : Loc X.env.scope x := by first | exact Or.inl rfl | exact Or.inr rfl)
    (hs : swapsWith e (some (.Name x pos')) pos.line X.env = pure false := by rfl) (hf : X.fn x = true ∨ X.env.scope.names.lookup x = some .local := by first | exact .inl rfl | exact .inr rfl | assumption) : PS X (.Assign [.Name x pos'] e pos) (tAsg te (gName i)) := ps_set nd hi hx he hs hf
theorem for_ {tg iter : Expr} {body : List Stmt} {wi : TI} {g : L2.TG} {tb : TS} {pos : Pos} (hi : PI X tg iter wi) (hg : PG X tg g) (hb : PSs X body tb) (hp : PassesOwn (model X.prog X.w) X.A X.env X.xe := by exact PassesOwn.never) (hc : X.calm = true := by rfl)
    (hs : ∀ x, foldedSetIterable iter X.env x = pure x := by intro _; rfl) : PS X (.For tg iter body [] pos) (tFor wi g tb) := ps_for hp hc hi hg hb hs
theorem in_ {α : Type} [DecidableEq α] {f : α → PyData} (E : Enc f) {a b : Expr} {ta tb : TE} {pos : Pos} (hu : X.A.units + 65 < cLine) (ha : PE X a ta) (hb : PE X b tb) (hm : behindInMarks .In b = false := by rfl) : PT X (.Compare a [.In] [b] pos) (tTest (tOp (rInE X.K f true false) ta tb)) := pt_cmpR (op_inE E hu) ha hb hm
theorem notIn_ {α : Type} [DecidableEq α] {f : α → PyData} (E : Enc f) {a b : Expr} {ta tb : TE} {pos : Pos} (hu : X.A.units + 65 < cLine) (ha : PE X a ta) (hb : PE X b tb) (hm : behindInMarks .NotIn b = false := by rfl) : PT X (.Compare a [.NotIn] [b] pos) (tTest (tOp (rInE X.K f false true) ta tb)) := pt_cmpR (op_notInE E hu) ha hb hm
end
theorem hu65 {A : Around} {k : Nat} (hr : Room k A) : A.units + 65 < cLine := by have := hr.un; omega
theorem at0 {v : V} {r : List V} : atI (v :: r) 0 = some v := atI_nat (j := 0) rfl
theorem at1 {v w : V} {r : List V} : atI (v :: w :: r) 1 = some w := atI_nat (j := 1) rfl
section
variable {X : Cx}
/-- within a comprehension: the written part by name -/
theorem inK (K : PySem.W.Frag) {α : Type} [DecidableEq α] {f : α → PyData} (E : Enc f) {a b : Expr} {ta tb : TE} {pos : Pos} (hu : X.A.units + 65 < cLine) (ha : PE X a ta) (hb : PE X b tb) (hK : X.K = K := by rfl) (hm : behindInMarks .In b = false := by rfl) : PT X (.Compare a [.In] [b] pos) (tTest (tOp (rInE K f true false) ta tb)) := by
  subst hK; exact in_ E hu ha hb hm
theorem notInK (K : PySem.W.Frag) {α : Type} [DecidableEq α] {f : α → PyData} (E : Enc f) {a b : Expr} {ta tb : TE} {pos : Pos} (hu : X.A.units + 65 < cLine) (ha : PE X a ta) (hb : PE X b tb) (hK : X.K = K := by rfl) (hm : behindInMarks .NotIn b = false := by rfl) : PT X (.Compare a [.NotIn] [b] pos) (tTest (tOp (rInE K f false true) ta tb)) := by
  subst hK; exact notIn_ E hu ha hb hm
theorem ixT {a b : Expr} {ta tb : TE} {pos : Pos} (ha : PE X a ta) (hb : PE X b tb) (hs : PlainIx b := by exact fun _ _ => rfl) : PE X (.Subscript a b pos) (tOp (rIxT X.K) ta tb) := pe_ix ix_tup ha hb hs
theorem ixTK (K : PySem.W.Frag) {a b : Expr} {ta tb : TE} {pos : Pos} (ha : PE X a ta) (hb : PE X b tb) (hK : X.K = K := by rfl) (hs : PlainIx b := by exact fun _ _ => rfl) : PE X (.Subscript a b pos) (tOp (rIxT K) ta tb) := by
  subst hK; exact pe_ix ix_tup ha hb hs
end
end Sh
end
section
namespace Sh
open PySem PySem.Spec L2
theorem at_split {α : Type} : ∀ {xs : List α} {i : Nat} {x : α}, xs[i]? = some x → xs = xs.take i ++ x :: xs.drop (i + 1)
  | [], _, _, h => by simp at h
  | _ :: _, 0, _, h => by simp at h; subst h; rfl
  | y :: ys, i + 1, x, h => by
    have := at_split (xs := ys) (i := i) (x := x) (by simpa using h)
    rw [List.take_succ_cons, List.drop_succ_cons, List.cons_append, ← this]
theorem take_snoc {α : Type} {xs : List α} {i : Nat} {x : α} (h : xs[i]? = some x) : xs.take (i + 1) = xs.take i ++ [x] := by
  rw [List.take_add_one, h]; rfl
section
variable {K : PySem.W.Frag} {a : Addr} {vs : List V} {α : Type} [DecidableEq α] {f : α → PyData} {xs : List α} {g : L2.TG} {tb : TS} {D : Ends} {σ : St} {H : Hp}
theorem for_tupE {H0 : Hp} (E : Enc f) (Pv : List α → St → Hp → Prop) (hq : SqT K H0 a vs) (hda : DpAll K H0 vs (xs.map f)) (h0 : Pv [] σ H) (hl : ∀ done σ1 H1, Pv done σ1 H1 → TG H0 H1)
    (hs : ∀ done x rest v σ1 H1, xs = done ++ x :: rest → Pv done σ1 H1 → Dp K H1 v (f x) → g v σ1 H1 fun σ2 H2 => tb { D with nx := Pv (done ++ [x]), ct := Pv (done ++ [x]), bk := D.nx } σ2 H2) (hd : ∀ σ1 H1, Pv xs σ1 H1 → D.nx σ1 H1) :
    ∃ W : Nat → Nat → St → Hp → Prop, (∃ m, W 0 m σ H) ∧ ∀ i m σ H, W i m σ H →
      ((Itt K a).stop i H ∧ D.nx σ H) ∨ ((Itt K a).go i H ∧ ∃ N : St → Hp → Prop, (∀ σ' H', N σ' H' → ∃ m', m' < m ∧ W (i + 1) m' σ' H') ∧ ∀ x H', (Itt K a).yld i H x H' → g x σ H' fun σ2 H2 => tb { D with nx := N, ct := N, bk := D.nx } σ2 H2) := by
  have hlen := allf_len hda
  refine for_tup (xs := vs) (fun i σ H => Pv (xs.take i) σ H) h0 (fun i σ1 H1 _ h => sqt_tg (hl _ _ _ h) hq) (fun i v σ1 H1 hx hP => ?_) (fun σ1 H1 hP => hd _ _ ?_)
  · obtain ⟨x, hx1, hx2⟩ := all_get hda hx
    have := hs (xs.take i) x (xs.drop (i + 1)) v σ1 H1 (at_split hx1) hP (E.tg (hl _ _ _ hP) hx2)
    rw [← take_snoc hx1] at this
    exact this
  · rw [hlen, List.take_length] at hP; exact hP
theorem for_listE {H0 : Hp} (E : Enc f) (Pv : List α → St → Hp → Prop) (hda : DpAll K H0 vs (xs.map f)) (h0 : Pv [] σ H) (hl : ∀ done σ1 H1, Pv done σ1 H1 → TG H0 H1 ∧ SqL K H1 a vs)
    (hs : ∀ done x rest v σ1 H1, xs = done ++ x :: rest → Pv done σ1 H1 → Dp K H1 v (f x) → g v σ1 H1 fun σ2 H2 => tb { D with nx := Pv (done ++ [x]), ct := Pv (done ++ [x]), bk := D.nx } σ2 H2) (hd : ∀ σ1 H1, Pv xs σ1 H1 → D.nx σ1 H1) :
    ∃ W : Nat → Nat → St → Hp → Prop, (∃ m, W 0 m σ H) ∧ ∀ i m σ H, W i m σ H →
      ((Itl K a).stop i H ∧ D.nx σ H) ∨ ((Itl K a).go i H ∧ ∃ N : St → Hp → Prop, (∀ σ' H', N σ' H' → ∃ m', m' < m ∧ W (i + 1) m' σ' H') ∧ ∀ x H', (Itl K a).yld i H x H' → g x σ H' fun σ2 H2 => tb { D with nx := N, ct := N, bk := D.nx } σ2 H2) := by
  have hlen := allf_len hda
  refine for_list (xs := vs) (fun i σ H => Pv (xs.take i) σ H) h0 (fun i σ1 H1 _ h => (hl _ _ _ h).2) (fun i v σ1 H1 hx hP => ?_) (fun σ1 H1 hP => hd _ _ ?_)
  · obtain ⟨x, hx1, hx2⟩ := all_get hda hx
    have := hs (xs.take i) x (xs.drop (i + 1)) v σ1 H1 (at_split hx1) hP (E.tg (hl _ _ _ hP).1 hx2)
    rw [← take_snoc hx1] at this
    exact this
  · rw [hlen, List.take_length] at hP; exact hP
end
section
variable {K : PySem.W.Frag} {a : Addr} {vs : List V} {α β : Type} [DecidableEq α] [DecidableEq β] {f : α → PyData} {f' : β → PyData} {xs : List α} {g : L2.TG} {tt : TT} {te : TE} {ws : List Nat} {σ : St} {H1 : Hp} {D : Addr} {Qd : Hp → Prop}
/-- one turn of a comprehension -/
def Turn (K : PySem.W.Frag) (f : α → PyData) (f' : β → PyData) (p : α → Bool) (φ : α → β) (g : L2.TG) (tt : TT) (te : TE) (ws : List Nat) (σ : St) (H1 : Hp) (x : α) : Prop :=
  ∀ (v : V) (H : Hp) (yes : V → Hp → Prop) (no : Hp → Prop), Same H1 H → Dp K H v (f x) → (p x = true → ∀ y H', Same H H' → Dp K H' y (f' (φ x)) → yes y H') → (p x = false → ∀ H', Same H H' → no H') →
    g v (wipe σ ws) H fun σ2 H2 => wipe σ2 ws = wipe σ ws ∧ tt σ2 H2 fun b H3 => if b = true then te σ2 H3 yes else no H3
theorem filter_take {p : α → Bool} {φ : α → β} {i : Nat} {x : α} (h : xs[i]? = some x) : ((xs.take (i + 1)).filter p).map φ = ((xs.take i).filter p).map φ ++ (if p x = true then [φ x] else []) := by
  rw [take_snoc h, List.filter_append, List.map_append]
  congr 1
  by_cases q : p x = true
  · rw [if_pos q, List.filter_cons_of_pos q]; rfl
  · rw [if_neg q, List.filter_cons_of_neg q]; rfl
theorem lc_turn (E' : Enc f') {p : α → Bool} {φ : α → β} {i : Nat} {x : α} {v : V} {H : Hp} (hD : H1 D = none) (hz : xs.length ≤ 1000000) (hx : xs[i]? = some x) (hv : Dp K H v (f x)) (hS : Same H1 H) (hL : Ls K H D f' (((xs.take i).filter p).map φ))
    (t : Turn K f f' p φ g tt te ws σ H1 x) : g v (wipe σ ws) H fun σ2 H2 => wipe σ2 ws = wipe σ ws ∧ tt σ2 H2 fun b H3 =>
      if b = true then te σ2 H3 fun y H4 => ∃ acc, H4 D = some (.lst acc) ∧ acc.length < sizeLine ∧ (Same H1 (upd H4 D (.lst (acc ++ [y]))) ∧ Ls K (upd H4 D (.lst (acc ++ [y]))) D f' (((xs.take (i + 1)).filter p).map φ)) else (Same H1 H3 ∧ Ls K H3 D f' (((xs.take (i + 1)).filter p).map φ)) := by
  refine t v H _ _ hS hv (fun hp y H' hs hy => ?_) (fun hp H' hs => ⟨hS.trans hs, ?_⟩)
  · obtain ⟨acc, ha, hd⟩ := hL.same E' hs
    have l1 := allf_len hd
    have l2 : (((xs.take i).filter p).map φ).length ≤ xs.length := by rw [List.length_map]; exact Nat.le_trans (List.length_filter_le _ _) (by rw [List.length_take]; exact Nat.min_le_right _ _)
    refine ⟨acc, ha, Nat.lt_of_le_of_lt (by omega : acc.length ≤ 1000000) (by decide), same_mut (hS.trans hs) hD, ?_⟩
    rw [filter_take hx, if_pos hp]
    exact Ls.push E' ha hd hy
  · rw [filter_take hx, if_neg (by rw [hp]; decide), List.append_nil]
    exact hL.same E' hs
theorem lc_tupE (E : Enc f) (E' : Enc f') (p : α → Bool) (φ : α → β) (hD : H1 D = none) (hz : xs.length ≤ 1000000) (hq : SqT K H1 a vs) (hda : DpAll K H1 vs (xs.map f)) (turn : ∀ x ∈ xs, Turn K f f' p φ g tt te ws σ H1 x)
    (hd : ∀ H, Same H1 H → Ls K H D f' ((xs.filter p).map φ) → Qd H) :
    ∃ W : Nat → Nat → Hp → Prop, (∃ m, W 0 m (upd H1 D (.lst []))) ∧ ∀ i m H, W i m H →
      ((Itt K a).stop i H ∧ Qd H) ∨ ((Itt K a).go i H ∧ ∃ Nx : Hp → Prop, (∀ H', Nx H' → ∃ m', m' < m ∧ W (i + 1) m' H') ∧ ∀ x H', (Itt K a).yld i H x H' → g x (wipe σ ws) H' fun σ2 H2 => wipe σ2 ws = wipe σ ws ∧ tt σ2 H2 fun b H3 =>
        if b = true then te σ2 H3 fun y H4 => ∃ acc, H4 D = some (.lst acc) ∧ acc.length < sizeLine ∧ Nx (upd H4 D (.lst (acc ++ [y]))) else Nx H3) := by
  have hlen := allf_len hda
  refine lc_tup (xs := vs) (fun i H => Same H1 H ∧ Ls K H D f' (((xs.take i).filter p).map φ)) ⟨same_new hD, Ls.nil⟩ (fun i H _ h => sqt_tg (.of h.1) hq) (fun i v H hx hP => ?_) (fun H hP => hd H hP.1 ?_)
  · obtain ⟨x, hx1, hx2⟩ := all_get hda hx
    exact lc_turn E' hD hz hx1 (E.tg (.of hP.1) hx2) hP.1 hP.2 (turn x (List.mem_of_getElem? hx1))
  · have := hP.2; rw [hlen, List.take_length] at this; exact this
theorem lc_listE (E : Enc f) (E' : Enc f') (p : α → Bool) (φ : α → β) (hD : H1 D = none) (hz : xs.length ≤ 1000000) (hq : SqL K H1 a vs) (hda : DpAll K H1 vs (xs.map f)) (turn : ∀ x ∈ xs, Turn K f f' p φ g tt te ws σ H1 x)
    (hd : ∀ H, Same H1 H → Ls K H D f' ((xs.filter p).map φ) → Qd H) :
    ∃ W : Nat → Nat → Hp → Prop, (∃ m, W 0 m (upd H1 D (.lst []))) ∧ ∀ i m H, W i m H →
      ((Itl K a).stop i H ∧ Qd H) ∨ ((Itl K a).go i H ∧ ∃ Nx : Hp → Prop, (∀ H', Nx H' → ∃ m', m' < m ∧ W (i + 1) m' H') ∧ ∀ x H', (Itl K a).yld i H x H' → g x (wipe σ ws) H' fun σ2 H2 => wipe σ2 ws = wipe σ ws ∧ tt σ2 H2 fun b H3 =>
        if b = true then te σ2 H3 fun y H4 => ∃ acc, H4 D = some (.lst acc) ∧ acc.length < sizeLine ∧ Nx (upd H4 D (.lst (acc ++ [y]))) else Nx H3) := by
  have hlen := allf_len hda
  refine lc_list (xs := vs) (fun i H => Same H1 H ∧ Ls K H D f' (((xs.take i).filter p).map φ)) ⟨same_new hD, Ls.nil⟩ (fun i H _ h => h.1.seq hq) (fun i v H hx hP => ?_) (fun H hP => hd H hP.1 ?_)
  · obtain ⟨x, hx1, hx2⟩ := all_get hda hx
    exact lc_turn E' hD hz hx1 (E.tg (.of hP.1) hx2) hP.1 hP.2 (turn x (List.mem_of_getElem? hx1))
  · have := hP.2; rw [hlen, List.take_length] at this; exact this
end
/-- bools as data -/
theorem encBl : Enc PyData.bool where
  pure _ := rfl
  eqv a b := by simp only [PyData.eqv]; cases a <;> cases b <;> rfl
  lay _ := rfl
  dep _ := Nat.zero_le _
theorem encInt : Enc PyData.int where
  pure _ := rfl
  eqv a b := by simp only [PyData.eqv]; exact PySem.W.beq_decide a b
  lay _ := rfl
  dep _ := Nat.zero_le _
section
variable {K : PySem.W.Frag} {H : Hp} {v : V}
theorem dp_bl {b : Bool} (h : Dp K H v (.bool b)) : v = .bl b := by cases h; rfl
theorem bls_all : ∀ {bs : List Bool} {vs : List V}, DpAll K H vs (bs.map .bool) → vs = bs.map V.bl
  | [], _, h => by cases h; rfl
  | n :: ns, _, h => by
    cases h with
    | cons h1 h2 => rw [dp_bl h1, bls_all h2]; rfl
end
end Sh
end
section
namespace Sh
open PySem PySem.Spec L2
theorem two_bl {Q : VK} {H : Hp} {c : Prop} [Decidable c] (h1 : c → Q (.bl true) H) (h2 : ¬ c → Q (.bl false) H) : Q (.bl (decide c)) H := by
  by_cases h : c
  · rw [decide_eq_true h]; exact h1 h
  · rw [decide_eq_false h]; exact h2 h
theorem two_nb {Q : VK} {H : Hp} {c : Prop} [Decidable c] (h1 : ¬ c → Q (.bl true) H) (h2 : c → Q (.bl false) H) : Q (.bl (!decide c)) H := by
  by_cases h : c
  · rw [decide_eq_true h]; exact h2 h
  · rw [decide_eq_false h]; exact h1 h
theorem opImp {X : Cx} {f : Value → Value → Sem Value} {r r' : R2} (h : ∀ x y H Q, r' x y H Q → r x y H Q) (o : OpR X f r) : OpR X f r' := fun pins s σ H x y v u Q I rx ry q => o pins s σ H x y v u Q I rx ry (h _ _ _ _ q)
def rB (p : Int → Int → Prop) : R2 := fun x y H Q => ∃ i j : Int, x = .int i ∧ y = .int j ∧ (p i j → Q (.bl true) H) ∧ (¬ p i j → Q (.bl false) H)
def rBS (p : Str → Str → Prop) : R2 := fun x y H Q => ∃ i j : Str, x = .str i ∧ y = .str j ∧ (p i j → Q (.bl true) H) ∧ (¬ p i j → Q (.bl false) H)
def rN2 (yes no : Bool) : R2 := fun x y H Q => y = .non ∧ (x = .non → Q (.bl yes) H) ∧ (x ≠ .non → Q (.bl no) H)
section
variable {X : Cx}
theorem o_eqI : OpR X (compareOp .Eq) (rB fun i j => i = j) := opImp (fun x y H Q ⟨i, j, e1, e2, h1, h2⟩ => by
  subst e1 e2; exact ⟨rfl, two_bl (fun e => h1 (by cases e; rfl)) fun e => h2 fun z => e (by rw [z])⟩) op_eq
theorem o_neI : OpR X (compareOp .NotEq) (rB fun i j => i ≠ j) := opImp (fun x y H Q ⟨i, j, e1, e2, h1, h2⟩ => by
  subst e1 e2; exact ⟨rfl, two_nb (fun e => h1 fun z => e (by rw [z])) fun e => h2 fun z => z (by cases e; rfl)⟩) op_ne
theorem o_eqS : OpR X (compareOp .Eq) (rBS fun i j => i = j) := opImp (fun x y H Q ⟨i, j, e1, e2, h1, h2⟩ => by
  subst e1 e2; exact ⟨rfl, two_bl (fun e => h1 (by cases e; rfl)) fun e => h2 fun z => e (by rw [z])⟩) op_eq
theorem o_neS : OpR X (compareOp .NotEq) (rBS fun i j => i ≠ j) := opImp (fun x y H Q ⟨i, j, e1, e2, h1, h2⟩ => by
  subst e1 e2; exact ⟨rfl, two_nb (fun e => h1 fun z => e (by rw [z])) fun e => h2 fun z => z (by cases e; rfl)⟩) op_ne
theorem o_lt : OpR X (compareOp .Lt) (rB fun i j => i < j) := opImp (fun x y H Q ⟨i, j, e1, e2, h1, h2⟩ => ⟨i, j, e1, e2, two_bl h1 h2⟩) op_lt
theorem o_le : OpR X (compareOp .LtE) (rB fun i j => i ≤ j) := opImp (fun x y H Q ⟨i, j, e1, e2, h1, h2⟩ => ⟨i, j, e1, e2, two_bl h1 h2⟩) op_le
theorem o_gt : OpR X (compareOp .Gt) (rB fun i j => j < i) := opImp (fun x y H Q ⟨i, j, e1, e2, h1, h2⟩ => ⟨i, j, e1, e2, two_bl h1 h2⟩) op_gt
theorem o_ge : OpR X (compareOp .GtE) (rB fun i j => j ≤ i) := opImp (fun x y H Q ⟨i, j, e1, e2, h1, h2⟩ => ⟨i, j, e1, e2, two_bl h1 h2⟩) op_ge
theorem o_isN : OpR X (compareOp .Is) (rN2 true false) := opImp (fun x y H Q ⟨e, h1, h2⟩ => ⟨e, two_bl h1 h2⟩) op_isN
theorem o_notN : OpR X (compareOp .IsNot) (rN2 false true) := opImp (fun x y H Q ⟨e, h1, h2⟩ => ⟨e, two_nb h2 h1⟩) op_notN
variable {a b e : Expr} {ta tb te : TE} {pos p p2 p3 : Pos}
theorem tC_ {op : CmpOp} {r : R2} (ho : OpR X (compareOp op) r) (ha : PE X a ta) (hb : PE X b tb) (hm : behindInMarks op b = false := by rfl) : PT X (.Compare a [op] [b] pos) (tTest (tOp r ta tb)) := pt_cmpR ho ha hb hm
theorem eC_ {op : CmpOp} {r : R2} (ho : OpR X (compareOp op) r) (ha : PE X a ta) (hb : PE X b tb) (hm : behindInMarks op b = false := by rfl) : PE X (.Compare a [op] [b] pos) (tOp r ta tb) := pe_cmpR ho ha hb hm
/-- xs.append(e) -/
theorem app_ {o : Expr} {to : TE} {apos cpos : Pos} (ho : PE X o to) (he : PE X e te) (hbase : attributeBase o "append" X.env (eval o X.env) = eval o X.env := by rfl)
    (hfew : ((backTo cpos (starEach [e] X.env)).all (fun x => !x.1) && (backToKw cpos (keywordEach [] X.env)).all (fun x => x.1.isSome)
      && decide ([e].length + ([] : List Keyword).length + (if ([] : List Keyword).isEmpty then 0 else 1) < 30)) = true := by rfl) (hline : (apos.endLine == cpos.line) = true := by rfl)
    (hs : starEach [e] X.env = (false, eval e X.env) :: starEach [] X.env := by rfl) : PS X (.Expr (.Call (.Attribute o "append" apos) [e] [] cpos) pos) (tDrop (tBM X.K "list" rAppend to (tCons te tNil))) :=
  ps_expr (pe_bm PySem.F.plainAttrs_list PySem.F.slot_list_append PySem.F.type_list_append mt_append ho (pa_cons he pa_nil hs) hbase hfew hline hs (by rfl))
/-- tuple(a new list) of data -/
def rTupE (K : PySem.W.Frag) : List V → Hp → VK → Prop := fun vs H Q => ∃ v ds, vs = [v] ∧ Dp K H v (.list ds) ∧ pureDs ds = true ∧ Give K H (.tuple ds) Q
theorem call_tupE : CallR X (.type "tuple") (rTupE X.K) := fun pins s σ H vs us Q I r h => by
  obtain ⟨v, ds, rfl, hv, hp, q⟩ := h
  cases hv with
  | lst hs ha => exact call_tuple_of pins s σ H _ us Q I r ⟨_, _, rfl, .inl ⟨hs, fun l hl => q _ _ (same_new hl) (.tup (.inl (.inl upd_same)) (dpAll_tg (tg_new hl) _ _ hp ha))⟩⟩
theorem tup_ (hg : Gl X "tuple") (hm : X.mg "tuple" = none) (he : PE X e te) (hs : starEach [e] X.env = (false, eval e X.env) :: starEach [] X.env := by rfl) : PE X (.Call (.Name "tuple" p) [e] [] pos) (tCB (rTupE X.K) (tCons te tNil)) := pe_callTy call_tupE hg hm (by decide +kernel) (pa_cons he pa_nil hs) (by decide) (by decide) hs
end
theorem Ls.dp {K : PySem.W.Frag} {H : Hp} {p : Addr} {α : Type} {f : α → PyData} {xs : List α} (h : Ls K H p f xs) : Dp K H (.ref p) (.list (xs.map f)) := let ⟨_, e, d⟩ := h; .lst (.inl (.inl e)) d

/-! ### assignments as dicts -/
def asg (ns : List Str) (a : Str → Bool) : List (Key × V) := ns.map fun n => (Sum.inr n, .int (b2 (a n)))
theorem valV_asg {ns : List Str} {a : Str → Bool} {n : Str} (h : n ∈ ns) : valV (asg ns a) (Sum.inr n) = some (.int (b2 (a n))) := by
  induction ns with
  | nil => cases h
  | cons m ns ih =>
    unfold valV asg
    rw [List.map_cons, List.find?_cons]
    by_cases e : m = n
    · subst e
      simp
    · have hn : decide ((Sum.inr m : Key) = Sum.inr n) = false := decide_eq_false fun z => e (Sum.inr.inj z)
      simp only [hn]
      exact ih ((List.mem_cons.mp h).resolve_left fun z => e z.symm)
/-- the kind: an instance of Bits -/
def Kd (C : Addr) (H : Hp) (v : V) : Prop := ∃ p dx, v = .ref p ∧ H p = some (.ins C dx [])
theorem Kd.same {C : Addr} {H H' : Hp} {v : V} (s : Same H H') (h : Kd C H v) : Kd C H' v := let ⟨p, dx, e, q⟩ := h; ⟨p, dx, e, s _ _ q⟩
end Sh
end
section
namespace Sh
open PySem PySem.Spec L2
/-- a def of the module that keeps its promise -/
def Def (P : Program) (w : World) (K : PySem.W.Frag) (mg : Str → Option Value) (base : Heap) (k : Nat) (x : Str) (ps : List Str) (sp : Sp) : Prop :=
  ∃ f fd, FnOk P w K mg base CX0 k f fd ps sp ∧ mg x = some (.ref f) ∧ PySem.W.keepIn K (.ref f) = true ∧ Binds K fd ps []
/-- a method of the class at C -/
def MDef (P : Program) (w : World) (K : PySem.W.Frag) (mg : Str → Option Value) (base : Heap) (C : Addr) (k : Nat) (m : Str) (ps : List Str) (sp : Sp) : Prop :=
  ∃ f fd, FnOk P w K mg base CX0 k f fd ps sp ∧ Meth K C m f ∧ Binds K fd ps []
section
variable {X : Cx} {k j : Nat} {x m : Str} {ps : List Str} {sp : Sp} {e o : Expr} {es : List Expr} {t : TA} {ta : TE} {p pos apos : Pos} {C : Addr}
theorem call_ (G : Def X.prog X.w X.K X.mg X.base k x ps sp) (hr : Room j X.A) (ha : PA X (e :: es) t) (hk : k ≤ j := by decide) (hg : Gl X x := by rfl) (hdb : (x == ("__debug__" : Str)) = false := by decide)
    (he : starEach (e :: es) X.env = (false, eval e X.env) :: starEach es X.env := by rfl) (hpl : (backTo pos (starEach es X.env)).any (·.1) = false := by rfl) : PE X (.Call (.Name x p) (e :: es) [] pos) (tCall sp [] E0 t) := by
  obtain ⟨f, fd, F, hm, kp, b⟩ := G
  exact pe_call F (hr.mono hk) hg hm kp b .nil pass0 ha hdb he hpl
theorem meth_ {pl : Sem Bool} (cl : Cls X.K C) (G : MDef X.prog X.w X.K X.mg X.base C k m ps sp) (hr : Room j X.A) (ho : PE X o ta) (ha : PA X (e :: es) t) (hk : k ≤ j := by decide)
    (hst : starEach (e :: es) X.env = (false, eval e X.env) :: starEach es X.env := by rfl) (hpl : (backTo pos (starEach es X.env)).any (·.1) = false := by rfl)
    (ht : eval (.Call (.Attribute o m apos) (e :: es) [] pos) X.env = (do
      let ov ← eval o X.env
      standAt apos.atName
      let (f, first) ← holding [ov] (getMethod ov m pl)
      callWith pos f first (backTo pos (starEach (e :: es) X.env)) (backToKw pos (keywordEach [] X.env))) := by rfl) : PE X (.Call (.Attribute o m apos) (e :: es) [] pos) (tMeth C m sp [] E0 ta t) := by
  obtain ⟨f, fd, F, hm, b⟩ := G
  exact pe_meth ho cl hm F (hr.mono hk) b .nil pass0 ha hst hpl ht
end
theorem DGet.asg {H : Hp} {d : Addr} {ns : List Str} {a : Str → Bool} {n : Str} (h : H d = some (.dK (asg ns a))) (hn : n ∈ ns) : DGet H d (.str n) (some (.int (b2 (a n)))) := by
  have := DGet.k (k := Sum.inr n) h
  rw [valV_asg hn] at this
  exact this
theorem b1 {fd : FuncData} {K : PySem.W.Frag} {a : Str} (h : ∀ u, bindArgs fd ⟨[u], []⟩ = pure [(a, u)]) : Binds K fd [a] [] := .all fun us hl => match us, hl with | [_], _ => h _
theorem b2' {fd : FuncData} {K : PySem.W.Frag} {a b : Str} (h : ∀ u v, bindArgs fd ⟨[u, v], []⟩ = pure [(a, u), (b, v)]) : Binds K fd [a, b] [] := .all fun us hl => match us, hl with | [_, _], _ => h _ _
theorem b3 {fd : FuncData} {K : PySem.W.Frag} {a b c : Str} (h : ∀ u v w, bindArgs fd ⟨[u, v, w], []⟩ = pure [(a, u), (b, v), (c, w)]) : Binds K fd [a, b, c] [] := .all fun us hl => match us, hl with | [_, _, _], _ => h _ _ _
/-- a def's own: its text stands at f -/
def At (K : PySem.W.Frag) (mg : Str → Option Value) (x : Str) (st : Stmt) : Prop := ∃ f fd, Fun K x x st f fd ∧ mg x = some (.ref f)
def AtM (K : PySem.W.Frag) (C : Addr) (x q : Str) (st : Stmt) : Prop := ∃ f fd, Fun K x q st f fd ∧ Meth K C x f
section
variable {P : Program} {w : World} {K : PySem.W.Frag} {mg : Str → Option Value} {base : Heap} {x q : Str} {st : Stmt} {N ps : List Str} {k : Nat} {sp : Sp} {C : Addr}
theorem At.def (T : At K mg x st) (S : FnScope N ps (defScope st)) (len : ∀ vs H Q E, sp vs H Q E → vs.length = ps.length)
    (hb : ∀ (kV doc pm : Value) (an : Option Addr) (cdv ct : Value) (us : List Value), us.length = ps.length → bindArgs (PySem.W.fnOf x x (defArgs st) (defBody st) (defScope st) .none kV doc pm an cdv ct) ⟨us, []⟩ = pure (ps.zip us))
    (hbody : ∀ (f : Addr) (cdv : Value) (A : Around) (outer : List Env) (s : Shared) (H : Hp) (vs : List V) (Q : VK) (E : XK), Room k (A.deeper (PyProof.Rows.envOfC x (defScope st) s.heap.objs.size f cdv)) → sp vs H Q E →
      ∃ t, PSs (cxOf CX0 P w K mg base N x (defScope st) f cdv A outer s H E).nox (defBody st) t ∧ t { nx := fun _ H' => Q .non H', rt := Q } (start N vs) H) : Def P w K mg base (k + 1) x ps sp := by
  obtain ⟨f, fd, F, hm⟩ := T
  exact ⟨f, fd, F.ok S len fun cdv A outer s H vs Q E hr h => hbody f cdv A outer s H vs Q E hr h, hm, F.kp, F.binds hb⟩
theorem AtM.def (T : AtM K C x q st) (S : FnScope N ps (defScope st)) (len : ∀ vs H Q E, sp vs H Q E → vs.length = ps.length)
    (hb : ∀ (kV doc pm : Value) (an : Option Addr) (cdv ct : Value) (us : List Value), us.length = ps.length → bindArgs (PySem.W.fnOf x q (defArgs st) (defBody st) (defScope st) .none kV doc pm an cdv ct) ⟨us, []⟩ = pure (ps.zip us))
    (hbody : ∀ (f : Addr) (cdv : Value) (A : Around) (outer : List Env) (s : Shared) (H : Hp) (vs : List V) (Q : VK) (E : XK), Room k (A.deeper (PyProof.Rows.envOfC q (defScope st) s.heap.objs.size f cdv)) → sp vs H Q E →
      ∃ t, PSs (cxOf CX0 P w K mg base N q (defScope st) f cdv A outer s H E).nox (defBody st) t ∧ t { nx := fun _ H' => Q .non H', rt := Q } (start N vs) H) : MDef P w K mg base C (k + 1) x ps sp := by
  obtain ⟨f, fd, F, hm⟩ := T
  exact ⟨f, fd, F.ok S len fun cdv A outer s H vs Q E hr h => hbody f cdv A outer s H vs Q E hr h, hm, F.binds hb⟩
end
end Sh
end
section
namespace Sh
open PySem PySem.Spec L2
abbrev sDrop : Stmt := top 6
theorem scDrop : FnScope ["names", "gone", "name"] ["names", "gone"] (defScope sDrop) := ⟨rfl, rfl, rfl, by decide +kernel, rfl, by decide +kernel, by decide +kernel⟩
abbrev sHolds : Stmt := inClass (top 30) 3
theorem scHolds : FnScope ["self", "constraint", "assignment", "name", "sign"] ["self", "constraint", "assignment"] (defScope sHolds) := ⟨rfl, rfl, rfl, by decide +kernel, rfl, by decide +kernel, by decide +kernel⟩
abbrev sSat : Stmt := top 8
theorem scSat : FnScope ["kind", "theory", "assignment", "constraint"] ["kind", "theory", "assignment"] (defScope sSat) := ⟨rfl, rfl, rfl, by decide +kernel, rfl, by decide +kernel, by decide +kernel⟩
abbrev sContains : Stmt := top 16
theorem scContains : FnScope ["first", "second", "literal"] ["first", "second"] (defScope sContains) := ⟨rfl, rfl, rfl, by decide +kernel, rfl, by decide +kernel, by decide +kernel⟩
abbrev sLeast : Stmt := top 17
theorem scLeast : FnScope ["clauses", "least", "clause", "other"] ["clauses"] (defScope sLeast) := ⟨rfl, rfl, rfl, by decide +kernel, rfl, by decide +kernel, by decide +kernel⟩
section
variable {P : Program} {w : World} {K : PySem.W.Frag} {mg : Str → Option Value} {base : Heap} {C : Addr}
/-! ### contains -/
def spContains (K : PySem.W.Frag) : Sp := fun vs H Q _ => ∃ (v1 v2 : V) (c d : Cl), vs = [v1, v2] ∧ Dp K H v1 (dCl c) ∧ Dp K H v2 (dCl d) ∧ Q (.bl (Mth.subB d c)) H
theorem ok_contains (T : At K mg "contains" sContains) : Def P w K mg base 1 "contains" ["first", "second"] (spContains K) := by
  refine T.def scContains (fun vs H Q E h => ?_) (fun _ _ _ _ _ _ us hl => match us, hl with | [_, _], _ => rfl) (fun f cdv A outer s H vs Q E hr h => ?_)
  · obtain ⟨v1, v2, c, d, rfl, _⟩ := h; rfl
  obtain ⟨v1, v2, c, d, rfl, h1, h2, q⟩ := h
  refine ⟨_, pss_cons (for_ (pi_tup (pv 1)) (gn 2 scContains.nd) (pss_one (ps_if (notIn_ encLit (hu65 hr) (pv 2) (pv 0)) (pss_one (ps_ret pe_bl)) pss_nil))) (pss_one (ps_ret pe_bl)), ?_⟩
  obtain ⟨a, xs, rfl, hs, ha⟩ := dp_tup h2
  refine ⟨_, rfl, a, rfl, ⟨xs, hs⟩, for_tupE encLit (fun done σ H' => (∃ y, σ = [some v1, some (.ref a), y]) ∧ H' = H ∧ Mth.Sub done c) hs ha ⟨⟨none, rfl⟩, rfl, (fun _ h => by cases h)⟩ (fun _ _ _ h => h.2.1 ▸ TG.refl H) (fun done l rest v σ H' he hP hv => ?_) (fun σ H' hP => ?_)⟩
  · obtain ⟨⟨y, rfl⟩, rfl, hj⟩ := hP
    refine ⟨_, rfl, _, rfl, l, c, hv, .inl h1, fun hm => ⟨_, rfl, iteF ⟨⟨_, rfl⟩, rfl, fun l' hl' => ?_⟩⟩, fun hm => ⟨_, rfl, iteT ?_⟩⟩
    · rcases List.mem_append.mp hl' with z | z
      · exact hj _ z
      · rw [List.mem_singleton.mp z]; exact hm
    · have e : Mth.subB d c = false := by
        cases e : Mth.subB d c with
        | false => rfl
        | true => exact absurd (Mth.subB_iff.mp e l (by rw [he]; exact List.mem_append_right _ List.mem_cons_self)) hm
      rw [e] at q
      exact q
  · obtain ⟨⟨y, rfl⟩, rfl, hj⟩ := hP
    rw [Mth.subB_iff.mpr hj] at q
    exact q
/-! ### drop_name -/
def spDrop (K : PySem.W.Frag) : Sp := fun vs H Q _ => ∃ (v : V) (ns : List Str) (g : Str), vs = [v, .str g] ∧ Dp K H v (dNm ns) ∧ ns.length ≤ 1000 ∧ Give K H (dNm (ns.filter fun n => decide (n ≠ g))) Q
theorem ok_drop (T : At K mg "drop_name" sDrop) (mt : mg "tuple" = none) : Def P w K mg base 1 "drop_name" ["names", "gone"] (spDrop K) := by
  refine T.def scDrop (fun vs H Q E h => ?_) (fun _ _ _ _ _ _ us hl => match us, hl with | [_, _], _ => rfl) (fun f cdv A outer s H vs Q E hr h => ?_)
  · obtain ⟨v, ns, g, rfl, _⟩ := h; rfl
  obtain ⟨v, ns, g, rfl, h1, hz, q⟩ := h
  refine ⟨_, pss_one (ps_ret (tup_ (by rfl) mt (pe_lc (own := [("name", 2)]) (g := gName 2) (by rfl) scDrop.nd (pi_tup (pv 0)) (blkOk_by (N := ["names", "gone", "name"]) (sc := defScope sDrop) (by decide +kernel)) (fun _ _ _ _ _ => gn 2 scDrop.nd)
    (fun _ _ _ _ _ => pts_one (tC_ o_neS (pv 2) (pv 1))) (fun _ _ _ _ _ => pv 2)))), ?_⟩
  obtain ⟨a, xs, rfl, hs, ha⟩ := dp_tup h1
  refine ⟨_, rfl, a, rfl, ⟨xs, hs⟩, fun D hD => lc_tupE encStr encStr (fun n => decide (n ≠ g)) id hD (by omega) hs ha (fun x _ v H' yes no hS hv hy hn => ?_) (fun H' hS hL => ?_)⟩
  · refine ⟨rfl, _, rfl, _, rfl, x, g, dp_str hv, rfl, fun e => ⟨_, rfl, iteT ⟨_, rfl, hy (decide_eq_true e) _ _ (Same.refl _) hv⟩⟩, fun e => ⟨_, rfl, iteF (hn (decide_eq_false e) _ (Same.refl _))⟩⟩
  · rw [List.map_id] at hL
    exact ⟨_, _, rfl, hL.dp, encStr.pures _, fun v H2 hS2 hd => q v H2 (hS.trans hS2) hd⟩
/-! ### holds -/
def spHolds (K : PySem.W.Frag) : Sp := fun vs H Q _ => ∃ (v0 v1 : V) (d : Addr) (c : Cl) (ns : List Str) (a : Str → Bool), vs = [v0, v1, .ref d] ∧ Dp K H v1 (dCl c) ∧ H d = some (.dK (asg ns a)) ∧ (∀ l ∈ c, l.1 ∈ ns) ∧ Q (.bl (Mth.hC a c)) H
theorem ok_holds (T : AtM K C "holds" "Bits.holds" sHolds) : MDef P w K mg base C 1 "holds" ["self", "constraint", "assignment"] (spHolds K) := by
  refine T.def scHolds (fun vs H Q E h => ?_) (fun _ _ _ _ _ _ us hl => match us, hl with | [_, _, _], _ => rfl) (fun f cdv A outer s H vs Q E hr h => ?_)
  · obtain ⟨v0, v1, d, c, ns, a, rfl, _⟩ := h; rfl
  obtain ⟨v0, v1, d, c, ns, a, rfl, h1, h2, hn, q⟩ := h
  refine ⟨_, pss_cons (for_ (pi_tup (pv 1)) (pg_tup (by rfl) (pgs_cons (gn 3 scHolds.nd) (pgs_cons (gn 4 scHolds.nd) pgs_nil)))
    (pss_one (ps_if (tC_ o_eqI (pe_dget (hu_of hr) (pv 2) (pv 3) (fun _ _ => rfl)) (pv 4)) (pss_one (ps_ret pe_bl)) pss_nil))) (pss_one (ps_ret pe_bl)), ?_⟩
  obtain ⟨p, xs, rfl, hs, ha⟩ := dp_tup h1
  refine ⟨_, rfl, p, rfl, ⟨xs, hs⟩, for_tupE encLit (fun done σ H' => (∃ y z, σ = [some v0, some (.ref p), some (.ref d), y, z]) ∧ H' = H ∧ Mth.hC a done = false) hs ha ⟨⟨none, none, rfl⟩, rfl, rfl⟩ (fun _ _ _ h => h.2.1 ▸ TG.refl H) (fun done l rest v σ H' he hP hv => ?_) (fun σ H' hP => ?_)⟩
  · obtain ⟨⟨y, z, rfl⟩, rfl, hh⟩ := hP
    obtain ⟨b, rfl, hb⟩ := dp_lit hv
    have hm : l ∈ c := by rw [he]; exact List.mem_append_right _ List.mem_cons_self
    refine ⟨b, _, rfl, hb, rfl, _, _, rfl, _, _, rfl, rfl, ?_⟩
    refine ⟨_, rfl, _, rfl, d, _, rfl, DGet.asg h2 (hn l hm), _, rfl, _, _, rfl, rfl, fun e => ⟨_, rfl, iteT ?_⟩, fun e => ⟨_, rfl, iteF ⟨⟨_, _, rfl⟩, rfl, ?_⟩⟩⟩
    · rw [Mth.hC_iff.mpr ⟨l, hm, b2_inj.mp e⟩] at q
      exact q
    · show Mth.hC a (done ++ [l]) = false
      unfold Mth.hC at hh ⊢
      rw [List.any_append, hh]
      simpa using fun z => e (by rw [z])
  · obtain ⟨⟨y, z, rfl⟩, rfl, hh⟩ := hP
    rw [hh] at q
    exact q
/-! ### satisfies -/
def spSat (K : PySem.W.Frag) (C : Addr) : Sp := fun vs H Q _ => ∃ (v0 v1 : V) (d : Addr) (cs : List Cl) (ms ns : List Str) (a : Str → Bool), vs = [v0, v1, .ref d] ∧ Kd C H v0 ∧ Dp K H v1 (dTh ms cs) ∧ H d = some (.dK (asg ns a)) ∧ (∀ c ∈ cs, ∀ l ∈ c, l.1 ∈ ns) ∧ Q (.bl (Mth.hT a cs)) H
theorem ok_sat (T : At K mg "satisfies" sSat) (cl : Cls K C) (G : MDef P w K mg base C 1 "holds" ["self", "constraint", "assignment"] (spHolds K)) : Def P w K mg base 2 "satisfies" ["kind", "theory", "assignment"] (spSat K C) := by
  refine T.def scSat (fun vs H Q E h => ?_) (fun _ _ _ _ _ _ us hl => match us, hl with | [_, _, _], _ => rfl) (fun f cdv A outer s H vs Q E hr h => ?_)
  · obtain ⟨v0, v1, d, cs, ms, ns, a, rfl, _⟩ := h; rfl
  obtain ⟨v0, v1, d, cs, ms, ns, a, rfl, hK, h1, h2, hn, q⟩ := h
  obtain ⟨kp, kx, rfl, hk⟩ := hK
  refine ⟨_, pss_cons (for_ (pi_tup (pe_ix ix_tup (pv 1) pe_int (fun _ _ => rfl))) (gn 3 scSat.nd)
    (pss_one (ps_if (pt_not (pt_val (meth_ cl G hr (pv 0) (pa_cons (pv 3) (pa_cons (pv 2) pa_nil))))) (pss_one (ps_ret pe_bl)) pss_nil))) (pss_one (ps_ret pe_bl)), ?_⟩
  obtain ⟨p, w1, w2, rfl, hs, hm1, hm2⟩ := dp_th h1
  obtain ⟨b, xs, rfl, hs2, ha⟩ := dp_tup hm2
  refine ⟨_, rfl, p, _, _, _, rfl, rfl, hs, atI_nat (j := 1) rfl, b, rfl, ⟨xs, hs2⟩, for_tupE encCl (fun done σ H' => (∃ y, σ = [some (.ref kp), some (.ref p), some (.ref d), y]) ∧ H' = H ∧ Mth.hT a done = true) hs2 ha ⟨⟨none, rfl⟩, rfl, rfl⟩ (fun _ _ _ h => h.2.1 ▸ TG.refl H) (fun done c rest v σ H' he hP hv => ?_) (fun σ H' hP => ?_)⟩
  · obtain ⟨⟨y, rfl⟩, rfl, hh⟩ := hP
    have hm : c ∈ cs := by rw [he]; exact List.mem_append_right _ List.mem_cons_self
    refine ⟨_, rfl, kp, kx, _, rfl, hk, rfl, _, rfl, _, rfl, _, v, d, c, ns, a, rfl, hv, h2, hn c hm, _, rfl, ?_⟩
    cases e : Mth.hC a c with
    | true => exact iteF ⟨⟨_, rfl⟩, rfl, by unfold Mth.hT at hh ⊢; rw [List.all_append, hh]; simpa using e⟩
    | false =>
      have e2 : Mth.hT a cs = false := by
        cases e2 : Mth.hT a cs with
        | false => rfl
        | true => rw [Mth.hT_iff.mp e2 c hm] at e; cases e
      rw [e2] at q
      exact iteT q
  · obtain ⟨⟨y, rfl⟩, rfl, hh⟩ := hP
    rw [hh] at q
    exact q
end
end Sh
end
section
namespace Sh
open PySem PySem.Spec L2
/-! the order of clauses, as Python has it -/
theorem alike_lit (x y : Lit) : PySem.W.alike (dLit x) (dLit y) = true := by simp [dLit, PySem.W.alike, PySem.W.alikeAll]
theorem alike_cl : ∀ x y : Cl, PySem.W.alikeAll (x.map dLit) (y.map dLit) = true
  | [], _ => by simp [PySem.W.alikeAll]
  | _ :: _, [] => by simp [PySem.W.alikeAll]
  | a :: x, b :: y => by
    rw [List.map_cons, List.map_cons, PySem.W.alikeAll, alike_lit, alike_cl x y]; rfl
theorem lt_lit (x y : Lit) : PySem.W.dataLt (dLit x) (dLit y) = Mth.SOrd.lt x y := by
  show PySem.W.dataLt (.tuple [.str x.1, .int (b2 x.2)]) (.tuple [.str y.1, .int (b2 y.2)]) = Mth.litLt x y
  rw [PySem.W.dataLt_pair (by simp [PySem.W.alike]) (by simp [PySem.W.alike]), PySem.W.dataLt_int, PySem.W.dataLt_str]
  have e1 : PyData.eqv (.str x.1) (.str y.1) = decide (x.1 = y.1) := encStr.eqv x.1 y.1
  have e2 : PyData.eqv (.int (b2 x.2)) (.int (b2 y.2)) = decide (b2 x.2 = b2 y.2) := by simp only [PyData.eqv]; exact PySem.W.beq_decide _ _
  unfold Mth.litLt
  by_cases h : x.1 = y.1
  · rw [if_pos h, if_pos (e1.trans (decide_eq_true h))]
    by_cases h2 : b2 x.2 = b2 y.2
    · rw [if_pos (e2.trans (decide_eq_true h2)), b2_inj.mp h2]
      cases y.2 <;> rfl
    · rw [if_neg (by rw [e2, decide_eq_false h2]; decide)]
      revert h2
      cases x.2 <;> cases y.2 <;> simp [b2]
  · rw [if_neg h, if_neg (by rw [e1, decide_eq_false h]; decide)]
    rfl
theorem lt_row : ∀ x y : Cl, PyProof.Rows.lexLt PyProof.Rows.itemOrd (PySem.W.keyToksAll (x.map dLit)) (PySem.W.keyToksAll (y.map dLit)) = Mth.lexLt x y
  | [], [] => PyProof.Rows.lex_irrefl _
  | [], b :: y => by
    rw [List.map_cons, PySem.W.toks_all_cons]
    simp only [List.map_nil, PySem.W.keyToksAll]
    rfl
  | a :: x, [] => by
    rw [List.map_cons, PySem.W.toks_all_cons]
    simp only [List.map_nil, PySem.W.keyToksAll]
    rfl
  | a :: x, b :: y => by
    rw [List.map_cons, List.map_cons, PySem.W.dataLt_cons (alike_lit a b), lt_row x y, lt_lit, encLit.eqv]
    rw [Mth.lexLt]
    by_cases h : a = b
    · rw [if_pos h, if_pos (decide_eq_true h)]
    · rw [if_neg h, if_neg (by simpa using h)]
theorem lt_cl (x y : Cl) : PySem.W.dataLt (dCl x) (dCl y) = Mth.SOrd.lt x y := by
  unfold dCl
  rw [PySem.W.dataLt_tuple, lt_row]
  rfl
theorem alikes (cs : List Cl) : PySem.W.AllAlike (cs.map dCl) := .of fun b b' => by
  simp only [dCl, PySem.W.alike]; exact alike_cl b b'
theorem sortables {cs : List Cl} (h : ∀ c ∈ cs, c ≠ []) : PySem.W.Sortable (cs.map dCl) := .inl fun d hd => by
  obtain ⟨c, hc, rfl⟩ := List.mem_map.mp hd
  match c, h c hc with
  | l :: ls, _ => exact ⟨_, _, rfl⟩
theorem alikes_lit (c : Cl) : PySem.W.AllAlike (c.map dLit) := .of fun b b' => alike_lit b b'
theorem sortables_lit (c : Cl) : PySem.W.Sortable (c.map dLit) := .inl fun d hd => by
  obtain ⟨l, hc, rfl⟩ := List.mem_map.mp hd
  exact ⟨_, _, rfl⟩
theorem srt_cls {ys : List Cl} (h : ys.Pairwise fun x y => PySem.W.dataLt (dCl y) (dCl x) = false) (n : ys.Nodup) : Mth.Srt ys := Mth.Srt.of_weak (h.imp fun {a b} q => by rw [lt_cl] at q; exact q) n
theorem pw_lit {ys : Cl} (h : ys.Pairwise fun x y => PySem.W.dataLt (dLit y) (dLit x) = false) : ys.Pairwise fun l m => Mth.SOrd.lt m l = false := h.imp fun {a b} q => by rw [lt_lit] at q; exact q
theorem no_empty {cs : List Cl} (h2 : 2 ≤ cs.length) (hn : cs.Nodup) (ha : ∀ c ∈ cs, ∀ d ∈ cs, Mth.Sub c d → c = d) : ∀ c ∈ cs, c ≠ [] := by
  intro c hc e
  subst e
  match cs, h2 with
  | x :: y :: r, _ =>
    have hx := ha [] hc x List.mem_cons_self (fun _ h => by cases h)
    have hy := ha [] hc y (List.mem_cons_of_mem _ List.mem_cons_self) (fun _ h => by cases h)
    rw [← hx, ← hy] at hn
    exact absurd hn (by simp)
section
variable {P : Program} {w : World} {K : PySem.W.Frag} {mg : Str → Option Value} {base : Heap} {C : Addr}
/-! ### least_clauses -/
theorem sorted_ {X : Cx} {α : Type} [DecidableEq α] {f : α → PyData} (E : Enc f) {e : Expr} {te : TE} {p pos : Pos} (hu : X.A.units + 65 < cLine) (hm : X.mg "sorted" = none) (he : PE X e te) (hg : Gl X "sorted" := by rfl) (hs : starEach [e] X.env = (false, eval e X.env) :: starEach [] X.env := by rfl) :
    PE X (.Call (.Name "sorted" p) [e] [] pos) (tCB (rSortE X.K f) (tCons te tNil)) := pe_callB (cr_sortE E hu) hg hm (by decide +kernel) (pa_cons he pa_nil hs) (by decide) (by decide) hs
theorem list_ {X : Cx} {e : Expr} {te : TE} {p pos : Pos} (hm : X.mg "list" = none) (he : PE X e te) (hg : Gl X "list" := by rfl) (hs : starEach [e] X.env = (false, eval e X.env) :: starEach [] X.env := by rfl) :
    PE X (.Call (.Name "list" p) [e] [] pos) (tCB (fun xs H Q => ∃ p ys, xs = [.ref p] ∧ (SqL X.K H p ys ∨ SqT X.K H p ys) ∧ ∀ l, H l = none → Q (.ref l) (upd H l (.lst ys))) (tCons te tNil)) := pe_callTy call_list_of hg hm (by decide +kernel) (pa_cons he pa_nil hs) (by decide) (by decide) hs
theorem any_ {X : Cx} {e : Expr} {te : TE} {p pos : Pos} (hc : X.calm = true) (hm : X.mg "any" = none) (he : PE X e te) (hg : Gl X "any" := by rfl) (hs : starEach [e] X.env = (false, eval e X.env) :: starEach [] X.env := by rfl) :
    PE X (.Call (.Name "any" p) [e] [] pos) (tCB (rAny X.K) (tCons te tNil)) := pe_callB (cr_any hc) hg hm (by decide +kernel) (pa_cons he pa_nil hs) (by decide) (by decide) hs
def DpS (K : PySem.W.Frag) (H : Hp) (v : V) (ds : List PyData) : Prop := Dp K H v (.list ds) ∨ Dp K H v (.tuple ds)
theorem DpS.sq {H : Hp} {v : V} {ds : List PyData} (h : DpS K H v ds) : ∃ a xs, v = .ref a ∧ (SqL K H a xs ∨ SqT K H a xs) ∧ DpAll K H xs ds := by
  rcases h with h | h
  · cases h with
    | lst hs ha => exact ⟨_, _, rfl, .inl hs, ha⟩
  · cases h with
    | tup hs ha => exact ⟨_, _, rfl, .inr hs, ha⟩
def spLeast (K : PySem.W.Frag) : Sp := fun vs H Q _ => ∃ (v : V) (cs : List Cl), vs = [v] ∧ DpS K H v (cs.map dCl) ∧ cs.length ≤ 100000 ∧ (∀ c ∈ cs, c.Nodup) ∧ ∀ L, Mth.IsLeast cs L → Give K H (dCls L) Q
theorem ok_least (T : At K mg "least_clauses" sLeast) (ms : mg "sorted" = none) (ml : mg "list" = none) (mn : mg "len" = none) (ma : mg "any" = none) (mt : mg "tuple" = none) (G : Def P w K mg base 1 "contains" ["first", "second"] (spContains K)) :
    Def P w K mg base 2 "least_clauses" ["clauses"] (spLeast K) := by
  refine T.def scLeast (fun vs H Q E h => ?_) (fun _ _ _ _ _ _ us hl => match us, hl with | [_], _ => rfl) (fun f cdv A outer s H vs Q E hr h => ?_)
  · obtain ⟨v, cs, rfl, _⟩ := h; rfl
  obtain ⟨v, cs, rfl, h1, hz, hn, q⟩ := h
  refine ⟨_, pss_cons (st_ 1 scLeast.nd (pe_lst pa_nil)) (pss_cons (for_ (pi_list (pe_sortedLen (by rfl) ms (by rfl) mn (hu65 hr) (list_ ml (pv 0)))) (gn 2 scLeast.nd)
    (pss_one (ps_if (pt_not (pt_val (any_ (by rfl) ma (pe_lc (own := [("other", 3)]) (g := gName 3) (tt := tYes) (by rfl) scLeast.nd (pi_list (pv 1)) (blkOk_by (N := ["clauses", "least", "clause", "other"]) (sc := defScope sLeast) (by decide +kernel)) (fun _ _ _ _ _ => gn 3 scLeast.nd)
      (fun _ _ _ _ _ => pts_nil) (fun _ _ _ _ _ => call_ G hr (pa_cons (pv 2) (pa_cons (pv 3) pa_nil))))))) (pss_one (app_ (pv 1) (pv 2))) pss_nil)))
    (pss_one (ps_ret (tup_ (by rfl) mt (sorted_ encCl (hu65 hr) ms (pv 1)))))), ?_⟩
  obtain ⟨a, xs, rfl, hs, ha⟩ := h1.sq
  refine ⟨Nat.zero_le _, fun p hp => ⟨_, rfl, a, xs, rfl, ?_, fun l hl => ?_⟩⟩
  · rcases hs with hs | hs
    · exact .inl ((same_new hp).seq hs)
    · exact .inr (sqt_tg (tg_new hp) hs)
  have hl' : H l = none := (same_new hp).free hl
  have npl : l ≠ p := fun e => by rw [e, upd_same] at hl; cases hl
  have S1 : Same H (upd (upd H p (.lst [])) l (.lst xs)) := (same_new hp).trans (same_new hl)
  refine ⟨l, xs, cs, rfl, .inl (.inl upd_same), encCl.tgs (.of S1) ha, fun ys us r hperm hlen hr' hus => ?_⟩
  have nrp : r ≠ p := fun e => by rw [e, upd_ne npl.symm, upd_same] at hr'; cases hr'
  have S2 : Same H (upd (upd (upd H p (.lst [])) l (.lst xs)) r (.lst us)) := S1.trans (same_new hr')
  have L2' : Ls K (upd (upd (upd H p (.lst [])) l (.lst xs)) r (.lst us)) p dCl [] := (Ls.nil.same encCl (same_new hl)).same encCl (same_new hr')
  have hus2 : DpAll K (upd (upd (upd H p (.lst [])) l (.lst xs)) r (.lst us)) us (ys.map dCl) := encCl.tgs (tg_new hr') hus
  have hr2 : (upd (upd (upd H p (.lst [])) l (.lst xs)) r (.lst us)) r = some (.lst us) := upd_same
  generalize upd (upd (upd H p (.lst [])) l (.lst xs)) r (.lst us) = Hr at S2 L2' hus2 hr2
  have hny : ∀ c ∈ ys, c.Nodup := fun c hc => hn c (hperm.mem_iff.mp hc)
  refine ⟨r, rfl, ⟨us, .inl (.inl hr2)⟩, for_listE (f := dCl) (xs := ys) (vs := us) encCl (fun done σ H' => ∃ acc y z, σ = [some (.ref a), some (.ref p), y, z] ∧ Same H H' ∧ TG Hr H' ∧ H' r = some (.lst us) ∧ Ls K H' p dCl acc ∧ Mth.LInv done acc ∧ acc.length ≤ done.length) hus2
    ⟨[], none, none, rfl, S2, .refl _, hr2, L2', .nil, Nat.le_refl _⟩ (fun done σ1 H1 ⟨_, _, _, _, _, t, e, _⟩ => ⟨t, .inl (.inl e)⟩) (fun done c rest v σ1 H1 he hP hv => ?_) (fun σ1 H1 hP => ?_)⟩
  · obtain ⟨acc, y, z, rfl, hS, hT, hre, ⟨avs, hpe, had⟩, hI, hac⟩ := hP
    have hcl : done.length ≤ cs.length := by rw [← hperm.length_eq, he, List.length_append]; omega
    refine ⟨_, rfl, p, rfl, ⟨avs, .inl (.inl hpe)⟩, fun D hD => lc_listE encCl encBl (fun _ => true) (fun o => Mth.subB o c) hD (by omega) (.inl (.inl hpe)) had (fun o _ v' H' yes no hS' hv' hy hno => ?_) (fun H' hS' hL => ?_)⟩
    · exact ⟨rfl, iteT (B := no H') ⟨_, rfl, _, rfl, v, v', c, o, rfl, encCl.tg (.of hS') hv, hv', hy rfl _ _ (Same.refl _) (.bl _)⟩⟩
    · obtain ⟨bvs, hb1, hb2⟩ := hL
      rw [List.filter_eq_self.mpr (fun _ _ => rfl)] at hb2
      have hb3 := bls_all hb2
      subst hb3
      refine ⟨D, _, rfl, .inl (.inl hb1), _, rfl, ?_⟩
      have ep : H' p = some (.lst avs) := hS' _ _ hpe
      have had' : DpAll K H' avs (acc.map dCl) := encCl.tgs (.of hS') had
      have hv2 : Dp K H' v (dCl c) := encCl.tg (.of hS') hv
      have hrp : r ≠ p := nrp
      have e0 : ((acc.map fun o => Mth.subB o c).any id) = acc.any fun o => Mth.subB o c := by rw [List.any_map]; rfl
      rw [e0]
      cases e : (acc.any fun o => Mth.subB o c) with
      | true => exact iteF ⟨acc, _, _, rfl, hS.trans hS', hT.trans (.of hS'), hS' _ _ hre, ⟨avs, ep, had'⟩, hI.keep e, by rw [List.length_append]; omega⟩
      | false =>
        refine iteT ⟨_, rfl, .inl ⟨rfl, _, .inl (.inl ep)⟩, _, rfl, p, avs, v, rfl, rfl, ep, ?_, ?_⟩
        · have := allf_len had
          exact Nat.lt_of_le_of_lt (by omega : avs.length ≤ 100000) (by decide)
        · refine ⟨acc ++ [c], _, _, rfl, same_mut (hS.trans hS') hp, (hT.trans (.of hS')).trans (tg_lst ep), ?_, Ls.push encCl ep had' hv2, hI.add e fun d hd => ?_, by rw [List.length_append, List.length_append]; exact Nat.add_le_add_right hac 1⟩
          · rw [upd_ne hrp]; exact hS' _ _ hre
          · rw [he] at hlen
            exact (List.pairwise_append.mp hlen).2.2 d hd c List.mem_cons_self
  · obtain ⟨acc, y, z, rfl, hS, hT, hre, ⟨avs, hpe, had⟩, hI, hac⟩ := hP
    refine ⟨_, rfl, p, avs, acc, rfl, .inl (.inl hpe), had, fun h2 => ⟨alikes acc, sortables (no_empty h2 hI.nodup (hI.anti hny))⟩, fun L us' r' hpL hsL hr3 hda => ?_⟩
    have hn' : L.Nodup := hpL.nodup_iff.mpr hI.nodup
    exact ⟨_, _, rfl, .lst (.inl (.inl upd_same)) (encCl.tgs (tg_new hr3) hda), encCl.pures _, fun v' H' hS' hd' => q L (hI.least hperm hn (srt_cls hsL hn') hpL) v' H' ((hS.trans (same_new hr3)).trans hS') hd'⟩
end
end Sh
end
section
namespace Sh
open PySem PySem.Spec L2 PyProof.Rows
/-! ### sorted(d.items()), d a dict of literals -/
def lits (c : Cl) : List (Key × V) := c.map fun l => (Sum.inr l.1, .int (b2 l.2))
def LitT (h : Heap) (b : Addr) (l : Lit) : Prop := ∃ t t', h.get? b = some { cls := .type "tuple", data := .seq #[Value.str l.1 t, Value.int (b2 l.2) t'] }
theorem LitT.reads {h : Heap} {b : Addr} {l : Lit} (x : LitT h b l) : Reads h (.ref b) (dLit l) [] := by
  obtain ⟨t, t', e⟩ := x
  exact Reads.tuple (as := []) e rfl rfl (ReadsAll.cons (as := []) (bs := []) (.str _ _) (ReadsAll.cons (as := []) (bs := []) (.int _ _) .nil))
theorem LitT.inj {h : Heap} {b : Addr} {l m : Lit} (x : LitT h b l) (y : LitT h b m) : l = m := by
  obtain ⟨t, t', e⟩ := x
  obtain ⟨u, u', e'⟩ := y
  rw [e] at e'
  injection e' with e'
  injection e' with _ _ e'
  injection e' with e' _
  have e' := congrArg Array.toList e'
  simp at e'
  exact Prod.ext e'.1.1 (b2_inj.mp e'.2.1)
theorem each_refs {W : Addr → Lit → Prop} : ∀ {out : List Value} {zs : Cl}, PySem.W.EachIs (fun (u : Value) (l : Lit) => ∃ b, u = .ref b ∧ W b l) out zs → ∃ bs : List Addr, out = bs.map Value.ref ∧ PySem.W.EachIs W bs zs
  | _, _, .nil => ⟨[], rfl, .nil⟩
  | _, _, .cons h t => by
    obtain ⟨b, rfl, hb⟩ := h
    obtain ⟨bs, rfl, hbs⟩ := each_refs t
    exact ⟨b :: bs, rfl, .cons hb hbs⟩
theorem each_dp {K : PySem.W.Frag} {H : Hp} : ∀ {bs : List Addr} {zs : Cl}, PySem.W.EachIs (fun b l => H b = some (.tup [.str l.1, .int (b2 l.2)])) bs zs → DpAll K H (bs.map V.ref) (zs.map dLit)
  | _, _, .nil => .nil
  | _, _, .cons h t => .cons (mk_lit (.inl (.inl h))) (each_dp t)
theorem each_mem {α β : Type} {R : α → β → Prop} : ∀ {xs : List α} {ys : List β}, PySem.W.EachIs R xs ys → ∀ x ∈ xs, ∃ y ∈ ys, R x y
  | _, _, .nil, _, h => by cases h
  | _, _, .cons h t, x, hx => by
    rcases List.mem_cons.mp hx with rfl | hx
    · exact ⟨_, List.mem_cons_self, h⟩
    · obtain ⟨y, hy, r⟩ := each_mem t x hx
      exact ⟨y, List.mem_cons_of_mem _ hy, r⟩
def rSortIt (K : PySem.W.Frag) (x : V) (H : Hp) (Q : VK) : Prop := ∃ (d : Addr) (c : Cl), x = .ref d ∧ H d = some (.dK (lits c)) ∧
  ∀ (r : Cl) (p : Addr) (us : List V) (H' : Hp), r.Perm c → r.Pairwise (fun x y => PySem.W.dataLt (dLit y) (dLit x) = false) → Same H H' → H p = none → H' p = some (.lst us) → DpAll K H' us (r.map dLit) → Q (.ref p) H'
theorem sort_items {X : Cx} {pins : List (Addr × Obj)} {σ : L2.St} {H : Hp} {s : Shared} {Q : VK} {v d : Addr} {c : Cl} (I : Inv X pins σ H s) (hc : X.calm = true) (hu : X.A.units + 65 < cLine) (hv : s.heap.IsItemsView v d) (hd : H d = some (.dK (lits c)))
    (q : ∀ (r : Cl) (p : Addr) (us : List V) (H' : Hp), r.Perm c → r.Pairwise (fun x y => PySem.W.dataLt (dLit y) (dLit x) = false) → Same H H' → H p = none → H' p = some (.lst us) → DpAll X.K H' us (r.map dLit) → Q (.ref p) H') :
    wpAny (model X.prog X.w) X.A (call (.builtin "sorted") [.ref v]) (EP X pins σ Q) X.xe s := by
  have hh : X.A.handled = none := I.ok.hd hc
  obtain ⟨hz, hs0, vs, kv, hdo⟩ := I.hok d _ hd
  obtain ⟨ep, o, es, ho, hx, hdat, _, hp, hn⟩ := hdo.dictAt
  have lk : (lits c).length = vs.length := Paired.length kv
  have les : es.size = vs.length := by rw [← hp.length]; simp
  have lc : (lits c).length = c.length := by unfold lits; rw [List.length_map]
  refine DT.sortedI (es := es) (ep := ep) hh hv ⟨o, ho, hx, hdat⟩ (by omega) fun h' tk as hk hlt hl hG => ?_
  have nd : as.Nodup := List.Pairwise.imp (fun h => Nat.ne_of_lt h) hG.rise
  have lac : as.length = c.length := by omega
  have pr : ∀ (j : Nat) (b : Addr), as[j]? = some b → ∃ l, c[j]? = some l ∧ LitT h' b l := by
    intro j b hj
    obtain ⟨en, he, hg⟩ := hG.pairs j b hj
    have hjc : j < c.length := by rw [← lac]; exact (List.getElem?_eq_some_iff.mp hj).1
    have hjv : j < vs.length := by omega
    obtain ⟨hkey, hval⟩ := hp.get? (e := en) (by rw [← he]; simp) (List.getElem?_eq_getElem hjv)
    obtain ⟨p0, e0, r1, r2⟩ := L2.DX.pget kv (List.getElem?_eq_getElem hjv)
    have e1 : (lits c)[j]? = some (Sum.inr c[j].1, .int (b2 c[j].2)) := by unfold lits; rw [List.getElem?_map, List.getElem?_eq_getElem hjc]; rfl
    rw [e1] at e0
    have e0' := Option.some.inj e0
    subst e0'
    refine ⟨c[j], List.getElem?_eq_getElem hjc, ?_⟩
    have rk : RelV (kV (Sum.inr c[j].1)) en.key := by
      rw [show (Sum.inr c[j].1 : Key) = vs[j].1 from r1]
      exact relV_key (show keyIs _ en.key = true from hkey)
    obtain ⟨t, et⟩ := (show ∃ t, en.key = Value.str c[j].1 t from rk)
    have r3 : RelV (.int (b2 c[j].2)) en.val := by rw [hval]; exact r2
    obtain ⟨t', et'⟩ := (show ∃ t, en.val = Value.int (b2 c[j].2) t from r3)
    exact ⟨t, t', by rw [hg, et, et']⟩
  have hob : (h'.push { cls := .type "list", data := .seq (as.map Value.ref).toArray }).get? h'.objs.size = some (seqObj "list" (as.map Value.ref).toArray 0) := Heap.get?_push_size _ rfl
  have kb : ∀ b o, s.heap.get? b = some o → (h'.push { cls := .type "list", data := .seq (as.map Value.ref).toArray }).get? b = some o := fun b o e => Heap.get?_push_of_some _ (hk b o e)
  have ne0 : ∀ b o, h'.get? b = some o → b ≠ h'.objs.size := fun b o e => Nat.ne_of_lt (Heap.lt_size e)
  generalize hh2 : h'.push { cls := .type "list", data := .seq (as.map Value.ref).toArray } = h2 at hob kb ⊢
  have ka : ∀ b o, h'.get? b = some o → h2.get? b = some o := fun b o e => by rw [← hh2]; exact Heap.get?_push_of_some _ e
  have ea : ∀ (as' : List Addr) (c' : Cl), as'.length = c'.length → (∀ (j : Nat) (b : Addr), as'[j]? = some b → ∃ l, c'[j]? = some l ∧ b ∈ as ∧ LitT h' b l) → PySem.W.EachIs (fun (u : Value) (l : Lit) => ∃ b, u = .ref b ∧ b ∈ as ∧ LitT h' b l) (as'.map Value.ref) c' := by
    intro as'
    induction as' with
    | nil => intro c' hl _; cases c' with
      | nil => exact .nil
      | cons _ _ => cases hl
    | cons b as' ih => intro c' hl hj; cases c' with
      | nil => cases hl
      | cons l c' =>
        obtain ⟨l', e, hm, hT⟩ := hj 0 b rfl
        have e' : l = l' := Option.some.inj e
        subst e'
        exact .cons ⟨b, rfl, hm, hT⟩ (ih c' (Nat.succ.inj hl) fun j b' h => hj (j + 1) b' h)
  have e1 := ea as c lac fun j b hj => by
    obtain ⟨l, h1, h2⟩ := pr j b hj
    exact ⟨l, h1, List.mem_of_getElem? hj, h2⟩
  have e2 : PySem.W.EachIs (fun (u : Value) (l : Lit) => ∃ as', Reads h2 u (dLit l) as' ∧ h'.objs.size ∉ as') (as.map Value.ref) c := e1.mono fun u l ⟨b, eb, _, t, t', hT⟩ => by
    subst eb
    exact ⟨[], LitT.reads ⟨t, t', ka _ _ hT⟩, by simp⟩
  refine PySem.W.list_sort_data (s := { s with heap := h2, toks := tk }) (enc := dLit) (bs := c) hob e1 e2 (alikes_lit c) (sortables_lit c) (by omega) (fun b _ => by rw [dep_lit]; show X.A.units + 1 + 1 + 1 < cLine; omega) fun out hlo heo => ?_
  show EP X pins σ Q (.ref h'.objs.size) { s with heap := sortedHeap h2 h'.objs.size (as.map Value.ref) out.toArray, toks := tk }
  obtain ⟨bs, rfl, hbs⟩ := each_refs heo
  have kF : ∀ b o, b ≠ h'.objs.size → h2.get? b = some o → (sortedHeap h2 h'.objs.size (as.map Value.ref) (bs.map Value.ref).toArray).get? b = some o := fun b o hb e => (PyProof.Rows.sortedHeap_old hb (Heap.lt_size e)).trans e
  have kS : ∀ b o, s.heap.get? b = some o → (sortedHeap h2 h'.objs.size (as.map Value.ref) (bs.map Value.ref).toArray).get? b = some o := fun b o e => kF b o (ne0 _ _ (hk b o e)) (kb b o e)
  obtain ⟨eF, heF⟩ := PyProof.Rows.sortedHeap_at (vs := as.map Value.ref) (out := (bs.map Value.ref).toArray) hob
  have I1 : Inv X pins σ H { s with heap := sortedHeap h2 h'.objs.size (as.map Value.ref) (bs.map Value.ref).toArray, toks := tk } := I.kept (t' := tk) kS
  have hn0 : H h'.objs.size = none := I.hok.fresh (Nat.le_of_lt hlt)
  have hperm := List.mergeSort_perm c (PySem.W.dataLe false dLit)
  have hlen : (bs.map V.ref).length ≤ sizeLine := by
    have h1 := hlo
    rw [List.length_map] at h1 ⊢
    omega
  have rv : Vals (bs.map V.ref) (bs.map Value.ref).toArray.toList := by
    rw [List.toList_toArray]
    exact LiI.vals_refs bs
  have I2 : Inv X pins σ (upd H h'.objs.size (.lst (bs.map V.ref))) { s with heap := sortedHeap h2 h'.objs.size (as.map Value.ref) (bs.map Value.ref).toArray, toks := tk } :=
    I1.take (h' := sortedHeap h2 h'.objs.size (as.map Value.ref) (bs.map Value.ref).toArray) (t' := tk) (fun b ob _ e => e) (I.fpOk (Nat.le_of_lt hlt) hn0) ⟨hlen, _, eF, rv, heF⟩
  obtain ⟨H2, I3, g, qt⟩ := L2.DX.takeT (P := fun b vs => ∃ l : Lit, vs = [.str l.1, .int (b2 l.2)] ∧ LitT h' b l) I as _ I2 nd fun b hb => by
    obtain ⟨j, hj⟩ := List.mem_iff_getElem?.mp hb
    obtain ⟨l, hl1, t, t', hT⟩ := pr j b hj
    have hbl : s.heap.objs.size ≤ b := Nat.le_of_lt (hG.above b hb)
    refine ⟨hbl, ?_, _, ⟨l, rfl, t, t', hT⟩, fun H3 => ⟨(by show 2 ≤ sizeLine; decide), [Value.str l.1 t, Value.int (b2 l.2) t'], .cons ⟨t, rfl⟩ (.cons ⟨t', rfl⟩ .nil), ⟨_, kF _ _ (ne0 _ _ hT) (ka _ _ hT), rfl, 0, rfl⟩⟩⟩
    rw [upd_ne (ne0 _ _ hT)]
    exact I.hok.fresh hbl
  refine ⟨.ref h'.objs.size, H2, I3, rfl, q _ h'.objs.size (bs.map V.ref) H2 hperm ?_ (fun b o e => g b o (by rw [upd_ne (ne_of_none e hn0)]; exact e)) hn0 (g _ _ upd_same) (each_dp (hbs.mono fun b l ⟨hm, hT⟩ => ?_))⟩
  · refine List.Pairwise.imp (fun {x y} hxy => ?_) (PySem.W.sort_pairwise (dataLe_total _) c)
    rw [PySem.W.dataLe_eq] at hxy
    simpa using hxy
  · obtain ⟨vs', ⟨l', e', hT'⟩, hH⟩ := qt b hm
    rw [hT.inj hT', hH, e']
def tSortIt (K : PySem.W.Frag) (te : TE) : TE := fun σ H Q => te σ H fun x H1 => rSortIt K x H1 Q
/-- sorted(e.items()) -/
theorem pe_sortItems {X : Cx} {e : Expr} {te : TE} {p apos cpos pos : Pos} (hc : X.calm = true) (hu : X.A.units + 65 < cLine) (hm : X.mg "sorted" = none) (he : PE X e te) (hg : Gl X "sorted" := by rfl) (hbase : attributeBase e "items" X.env (eval e X.env) = eval e X.env := by rfl) (hline : (apos.endLine == cpos.line) = true := by rfl)
    (hs : starEach [.Call (.Attribute e "items" apos) [] [] cpos] X.env = (false, eval (.Call (.Attribute e "items" apos) [] [] cpos) X.env) :: starEach [] X.env := by rfl) :
    PE X (.Call (.Name "sorted" p) [.Call (.Attribute e "items" apos) [] [] cpos] [] pos) (tSortIt X.K te) := by
  refine ⟨fun pins s σ H Q I hq => ?_⟩
  refine wpAny_Call_Name_kw (ld_blt (u := .builtin "sorted") I hg hm (by decide +kernel) ?_)
  refine PyProof.Rows.callWith_builtin1 ?_ hs rfl
  rw [hs]
  show wpAny _ _ (spliced ((false, eval (.Call (.Attribute e "items" apos) [] [] cpos) X.env) :: backTo pos (starEach [] X.env))) _ _ s
  refine Calls.spliced_cons ?_
  refine wpAny_Call_method (T := "dict") (id := "dict.items") hbase rfl hline F.plainAttrs_dict F.slot_dict_items F.type_dict_items (thn (he.run pins s σ H _ I hq) fun u s1 ⟨x, H1, I1, rx, d, c, ex, hd, q⟩ => ?_)
  subst ex
  obtain rfl : u = Value.ref d := rx
  obtain ⟨hz, hs0, vs, kv, hdo⟩ := I1.hok d _ hd
  refine ⟨hdo.typeIs, hdo.mapOf.noDict, ?_⟩
  show wpAny _ _ (callWith cpos (.builtin "dict.items") [.ref d] [] []) _ X.xe s1
  refine method_meetsIn F.slot_dict_items F.entry_dict_items rfl (PySem.evalArgs_none ⟨rfl, hdo.typeIs, F.args_dict_items_1 _, _, meets_dict_items (mixKind X.prog X.w) d hs0, ⟨vs, hdo⟩, ?_⟩)
  refine Calls.spliced_nil ?_
  have I2 : Inv X pins σ H1 { s1 with heap := s1.heap.push { cls := .type "dict_items", data := .fields #[.ref d] } } := I1.kept (t' := s1.toks) fun b ob q => Heap.get?_push_of_some _ q
  exact sort_items I2 hc hu ⟨_, Heap.get?_push_size _ rfl, rfl, rfl⟩ hd q
end Sh
end
section
namespace Sh
open PySem PySem.Spec L2
abbrev sResolvent : Stmt := top 18
theorem scResolvent : FnScope ["first", "second", "name", "signs", "other", "sign"] ["first", "second", "name"] (defScope sResolvent) := ⟨rfl, rfl, rfl, by decide +kernel, rfl, by decide +kernel, by decide +kernel⟩
abbrev sResolvents : Stmt := top 19
theorem scResolvents : FnScope ["clauses", "name", "found", "first", "second", "clause"] ["clauses", "name"] (defScope sResolvents) := ⟨rfl, rfl, rfl, by decide +kernel, rfl, by decide +kernel, by decide +kernel⟩
theorem tyL {K : PySem.W.Frag} {H : Hp} {p : Addr} {xs : List V} (h : H p = some (.lst xs)) : tyV K "list" (.ref p) H := .inl ⟨rfl, _, .inl (.inl h)⟩
theorem valV_lits {zs : Cl} {n : Str} {b : Bool} (nd : (zs.map (·.1)).Nodup) (h : (n, b) ∈ zs) : valV (lits zs) (Sum.inr n) = some (.int (b2 b)) := by
  induction zs with
  | nil => cases h
  | cons z zs ih =>
    rw [List.map_cons, List.nodup_cons] at nd
    unfold valV lits
    rw [List.map_cons, List.find?_cons]
    rcases List.mem_cons.mp h with e | h
    · rw [← e]; simp
    · have hn : z.1 ≠ n := fun e => nd.1 (by rw [e]; exact List.mem_map.mpr ⟨_, h, rfl⟩)
      have hd : decide ((Sum.inr z.1 : Key) = Sum.inr n) = false := decide_eq_false fun e => hn (Sum.inr.inj e)
      simp only [hd]
      exact ih nd.2 h
theorem valV_lits_none {zs : Cl} {n : Str} (h : n ∉ zs.map (·.1)) : valV (lits zs) (Sum.inr n) = none := by
  induction zs with
  | nil => rfl
  | cons z zs ih =>
    rw [List.map_cons, List.mem_cons, not_or] at h
    unfold valV lits
    rw [List.map_cons, List.find?_cons]
    have hd : decide ((Sum.inr z.1 : Key) = Sum.inr n) = false := decide_eq_false fun e => h.1 (Sum.inr.inj e).symm
    simp only [hd]
    exact ih h.2
theorem lits_len (zs : Cl) : (lits zs).length = zs.length := by unfold lits; rw [List.length_map]
theorem lits_snoc (zs : Cl) (l : Lit) : lits (zs ++ [l]) = lits zs ++ [(Sum.inr l.1, .int (b2 l.2))] := by unfold lits; rw [List.map_append]; rfl
theorem RInv_len {x : Str} {p zs : Cl} (I : Mth.RInv x p zs) : zs.length ≤ p.length :=
  Mth.nodup_le (List.Pairwise.of_map (·.1) (fun a b h e => h (by rw [e])) I.nd) fun l hl => ((I.mem l).mp hl).1
section
variable {P : Program} {w : World} {K : PySem.W.Frag} {mg : Str → Option Value} {base : Heap} {C : Addr}
/-! ### resolvent -/
def spResolvent (K : PySem.W.Frag) : Sp := fun vs H Q _ => ∃ (v1 v2 : V) (n : Str) (c d : Cl) (ns : List Str), vs = [v1, v2, .str n] ∧ Dp K H v1 (dCl c) ∧ Dp K H v2 (dCl d) ∧ Mth.VC ns c ∧ Mth.VC ns d ∧ ns.length ≤ 1000 ∧
  ((∀ r, ¬ Mth.IsRes c d n r) → ∀ H', Same H H' → Q .non H') ∧ ∀ r, Mth.VC ns r → Mth.IsRes c d n r → Give K H (dCl r) Q
theorem ok_resolvent (T : At K mg "resolvent" sResolvent) (ms : mg "sorted" = none) (mt : mg "tuple" = none) : Def P w K mg base 1 "resolvent" ["first", "second", "name"] (spResolvent K) := by
  refine T.def scResolvent (fun vs H Q E h => ?_) (fun _ _ _ _ _ _ us hl => match us, hl with | [_, _, _], _ => rfl) (fun f cdv A outer s H vs Q E hr h => ?_)
  · obtain ⟨v1, v2, n, c, d, ns, rfl, _⟩ := h; rfl
  obtain ⟨v1, v2, n, c, d, ns, rfl, h1, h2, hc, hd, hz, qn, qs⟩ := h
  refine ⟨_, pss_cons (st_ 3 scResolvent.nd pe_dnewK) (pss_cons (for_ (pi_tup (pe_op op_catD (pv 0) (pv 1))) (pg_tup (by rfl) (pgs_cons (gn 4 scResolvent.nd) (pgs_cons (gn 5 scResolvent.nd) pgs_nil)))
    (pss_one (ps_if (PW.pt (pw_and (tC_ o_neS (pv 4) (pv 2)) (pw_and1 (tC_ o_neI (pe_dsetd (pv 3) (pv 4) (pv 5) ⟨rfl, rfl, rfl, rfl⟩) (pv 5))))) (pss_one (ps_ret pe_non)) pss_nil)))
    (pss_one (ps_ret (tup_ (by rfl) mt (pe_sortItems (by rfl) (hu65 hr) ms (pv 3)))))), ?_⟩
  have lc := Mth.vc_len hc
  have ld := Mth.vc_len hd
  intro sp hsp
  have S0 : Same H (upd H sp (.dK [])) := same_new hsp
  refine ⟨_, rfl, _, rfl, c.map dLit, d.map dLit, encCl.tg (.of S0) h1, encCl.tg (.of S0) h2, encLit.pures c, encLit.pures d, by rw [List.length_map, List.length_map]; omega, fun v H1 hS1 hv => ?_⟩
  rw [← List.map_append] at hv
  obtain ⟨a, xs, rfl, hs, ha⟩ := dp_tup hv
  have hspe : H1 sp = some (.dK (lits [])) := hS1 _ _ upd_same
  have S1 := S0.trans hS1
  refine ⟨a, rfl, ⟨xs, hs⟩, for_tupE encLit (fun done σ H' => ∃ zs y z, σ = [some v1, some v2, some (.str n), some (.ref sp), y, z] ∧ Same H H' ∧ TG H1 H' ∧ H' sp = some (.dK (lits zs)) ∧ Mth.RInv n done zs) hs ha
    ⟨[], none, none, rfl, S1, .refl _, hspe, .nil⟩ (fun _ _ _ ⟨_, _, _, _, _, t, _⟩ => t) (fun done l rest v σ H' he hP hv => ?_) (fun σ H' hP => ?_)⟩
  · obtain ⟨zs, y, z, rfl, hS, hT, hde, hI⟩ := hP
    obtain ⟨b, rfl, hb⟩ := dp_lit hv
    refine ⟨b, _, rfl, hb, rfl, _, _, rfl, _, _, rfl, rfl, ?_⟩
    have hzl : zs.length ≤ 2000 := by
      have h1 := RInv_len hI
      have h2 := congrArg List.length he
      rw [List.length_append, List.length_append, List.length_cons] at h2
      omega
    refine ⟨_, rfl, _, rfl, _, _, rfl, rfl, fun hne => ⟨_, rfl, iteT ?_⟩, fun he' => ⟨_, rfl, iteF (iteF ?_)⟩⟩
    · refine ⟨_, rfl, sp, rfl, .inl ⟨_, .inl hde⟩, _, rfl, _, rfl, lits zs, Sum.inr l.1, hde, rfl, by rw [lits_len]; exact Nat.lt_of_le_of_lt hzl (by decide), fun v hv => ?_, fun hnone => ?_⟩
      · have hin : ∃ b', (l.1, b') ∈ zs := by
          by_cases q : l.1 ∈ zs.map (·.1)
          · obtain ⟨m, hm, e⟩ := List.mem_map.mp q
            exact ⟨m.2, by rw [← e]; exact hm⟩
          · rw [valV_lits_none q] at hv; cases hv
        obtain ⟨b', hb'⟩ := hin
        rw [valV_lits hI.nd hb'] at hv
        cases hv
        refine ⟨_, rfl, _, _, rfl, rfl, fun e => ⟨_, rfl, iteT ?_⟩, fun e => ⟨_, rfl, iteF ?_⟩⟩
        · have eb : b' = !l.2 := by
            have : b' ≠ l.2 := fun z => e (by rw [z])
            revert this; cases b' <;> cases l.2 <;> simp
          exact qn (fun r => hI.clash hne (by rw [← eb]; exact hb') he r) _ hS
        · have eb : b' = l.2 := b2_inj.mp (Decidable.not_not.mp e)
          exact ⟨zs, _, _, rfl, hS, hT, hde, hI.old (by rw [eb] at hb'; exact hb')⟩
      · have hnin : l.1 ∉ zs.map (·.1) := fun q => by
          obtain ⟨m, hm, e⟩ := List.mem_map.mp q
          rw [← e, valV_lits hI.nd (b := m.2) hm] at hnone
          cases hnone
        refine ⟨_, rfl, _, _, rfl, rfl, fun e => absurd rfl e, fun e => ⟨_, rfl, iteF ?_⟩⟩
        refine ⟨zs ++ [l], _, _, rfl, same_mut hS hsp, hT.trans (tg_dK hde), ?_, hI.new hne hnin⟩
        rw [putK_new _ hnone, lits_snoc]
        exact upd_same
    · exact ⟨zs, _, _, rfl, hS, hT, hde, hI.skip (Decidable.not_not.mp he')⟩
  · obtain ⟨zs, y, z, rfl, hS, hT, hde, hI⟩ := hP
    refine ⟨_, rfl, sp, zs, rfl, hde, fun r p us H2 hperm hpw hS2 hp hpe hda => ?_⟩
    obtain ⟨k1, k2⟩ := hI.res hc hd hperm (pw_lit hpw)
    exact ⟨_, _, rfl, .lst (.inl (.inl hpe)) hda, encLit.pures r, fun v H3 hS3 hv3 => qs r k1 k2 v H3 ((hS.trans hS2).trans hS3) hv3⟩
end
end Sh
end
section
namespace Sh
open PySem PySem.Spec L2
abbrev sElimName : Stmt := top 20
theorem scElimName : FnScope ["clauses", "name", "others", "clause"] ["clauses", "name"] (defScope sElimName) := ⟨rfl, rfl, rfl, by decide +kernel, rfl, by decide +kernel, by decide +kernel⟩
abbrev sClose : Stmt := top 21
theorem scClose : FnScope ["clauses", "names", "found", "name"] ["clauses", "names"] (defScope sClose) := ⟨rfl, rfl, rfl, by decide +kernel, rfl, by decide +kernel, by decide +kernel⟩
structure RP (ns : List Str) (cs : List Cl) (x : Str) (D : Cl → Cl → Prop) (fs : List Cl) : Prop where
  mem : ∀ r ∈ fs, Mth.VC ns r ∧ ∃ c ∈ cs, ∃ d ∈ cs, (x, true) ∈ c ∧ (x, false) ∈ d ∧ Mth.IsRes c d x r
  all : ∀ c d, D c d → (x, true) ∈ c → (x, false) ∈ d → ∀ r, Mth.IsRes c d x r → ∃ s ∈ fs, Mth.IsRes c d x s
theorem RP.weak {ns : List Str} {cs : List Cl} {x : Str} {D D' : Cl → Cl → Prop} {fs : List Cl} (R : RP ns cs x D fs) (h : ∀ c d, D' c d → (x, true) ∈ c → (x, false) ∈ d → D c d) : RP ns cs x D' fs :=
  ⟨R.mem, fun c d hd h1 h2 => R.all c d (h c d hd h1 h2) h1 h2⟩
theorem RP.none {ns : List Str} {cs : List Cl} {x : Str} {D D' : Cl → Cl → Prop} {fs : List Cl} {c0 d0 : Cl} (R : RP ns cs x D fs) (n : ∀ r, ¬ Mth.IsRes c0 d0 x r) (h : ∀ c d, D' c d → D c d ∨ (c = c0 ∧ d = d0)) : RP ns cs x D' fs :=
  ⟨R.mem, fun c d hd h1 h2 r hr => by
    rcases h c d hd with q | ⟨rfl, rfl⟩
    · exact R.all c d q h1 h2 r hr
    · exact (n r hr).elim⟩
theorem RP.add {ns : List Str} {cs : List Cl} {x : Str} {D D' : Cl → Cl → Prop} {fs : List Cl} {c0 d0 r0 : Cl} (R : RP ns cs x D fs) (hc : c0 ∈ cs) (hd : d0 ∈ cs) (h1 : (x, true) ∈ c0) (h2 : (x, false) ∈ d0) (hv : Mth.VC ns r0) (hr : Mth.IsRes c0 d0 x r0)
    (h : ∀ c d, D' c d → D c d ∨ (c = c0 ∧ d = d0)) : RP ns cs x D' (fs ++ [r0]) :=
  ⟨fun r hr' => by
    rcases List.mem_append.mp hr' with q | q
    · exact R.mem r q
    · rw [List.mem_singleton.mp q]; exact ⟨hv, c0, hc, d0, hd, h1, h2, hr⟩, fun c d hd k1 k2 r hr' => by
    rcases h c d hd with q | ⟨rfl, rfl⟩
    · obtain ⟨s, hs, q'⟩ := R.all c d q k1 k2 r hr'
      exact ⟨s, List.mem_append_left _ hs, q'⟩
    · exact ⟨r0, List.mem_append_right _ (List.mem_singleton.mpr rfl), hr⟩⟩
section
variable {P : Program} {w : World} {K : PySem.W.Frag} {mg : Str → Option Value} {base : Heap} {C : Addr}
/-! ### resolvents -/
def spResolvents (K : PySem.W.Frag) : Sp := fun vs H Q _ => ∃ (v1 : V) (n : Str) (cs : List Cl) (ns : List Str), vs = [v1, .str n] ∧ Dp K H v1 (dCls cs) ∧ (∀ c ∈ cs, Mth.VC ns c) ∧ ns.length ≤ 1000 ∧ cs.length ≤ 250 ∧
  ∀ fs, Mth.RList ns cs n fs → fs.length ≤ 62500 → Give K H (.list (fs.map dCl)) Q
theorem ok_resolvents (T : At K mg "resolvents" sResolvents) (G : Def P w K mg base 1 "resolvent" ["first", "second", "name"] (spResolvent K)) : Def P w K mg base 2 "resolvents" ["clauses", "name"] (spResolvents K) := by
  refine T.def scResolvents (fun vs H Q E h => ?_) (fun _ _ _ _ _ _ us hl => match us, hl with | [_, _], _ => rfl) (fun f cdv A outer s H vs Q E hr h => ?_)
  · obtain ⟨v1, n, cs, ns, rfl, _⟩ := h; rfl
  obtain ⟨v1, n, cs, ns, rfl, h1, hv, hz, hcl, q⟩ := h
  refine ⟨_, pss_cons (st_ 2 scResolvents.nd (pe_lst pa_nil)) (pss_cons (for_ (pi_tup (pv 0)) (gn 3 scResolvents.nd)
    (pss_one (ps_if (in_ encLit (hu65 hr) (pe_tup (pa_cons (pv 1) (pa_cons pe_int pa_nil))) (pv 3))
      (pss_one (for_ (pi_tup (pv 0)) (gn 4 scResolvents.nd)
        (pss_cons (st_ 5 scResolvents.nd (pe_ifExp (in_ encLit (hu65 hr) (pe_tup (pa_cons (pv 1) (pa_cons pe_int pa_nil))) (pv 4)) (call_ G hr (pa_cons (pv 3) (pa_cons (pv 4) (pa_cons (pv 1) pa_nil)))) pe_non))
          (pss_one (ps_if (tC_ o_notN (pv 5) pe_non) (pss_one (app_ (pv 2) (pv 5))) pss_nil))))) pss_nil)))
    (pss_one (ps_ret (pv 2)))), ?_⟩
  obtain ⟨a, xs, rfl, hs, ha⟩ := dp_tup h1
  refine ⟨Nat.zero_le _, fun p hp => ?_⟩
  have S0 : Same H (upd H p (.lst [])) := same_new hp
  refine ⟨_, rfl, a, rfl, ⟨xs, sqt_tg (.of S0) hs⟩, for_tupE encCl (fun done σ H' => ∃ fs y z u, σ = [some (.ref a), some (.str n), some (.ref p), y, z, u] ∧ Same H H' ∧ Ls K H' p dCl fs ∧ RP ns cs n (fun c d => c ∈ done ∧ d ∈ cs) fs ∧ fs.length ≤ done.length * cs.length)
    hs ha ⟨[], none, none, none, rfl, S0, Ls.nil, ⟨(fun _ h => by cases h), (fun _ _ h => by cases h.1)⟩, Nat.zero_le _⟩ (fun done σ1 H1 ⟨fs, _, _, _, _, t, _⟩ => .of t) (fun done c rest v σ1 H1 he hP hvc => ?_) (fun σ1 H1 hP => ?_)⟩
  · obtain ⟨fs, y, z, u, rfl, hS, hL, hR, hl⟩ := hP
    have hc : c ∈ cs := by rw [he]; exact List.mem_append_right _ List.mem_cons_self
    have fin : ∀ (fs' : List Cl) (H' : Hp), Same H H' → Ls K H' p dCl fs' → RP ns cs n (fun c' d => (c' ∈ done ∧ d ∈ cs) ∨ (c' = c ∧ d ∈ cs)) fs' → fs'.length ≤ done.length * cs.length + cs.length → ∀ z u, ∃ fs y z' u', [some (.ref a), some (.str n), some (.ref p), some v, z, u] = [some (V.ref a), some (.str n), some (.ref p), y, z', u'] ∧ Same H H' ∧ Ls K H' p dCl fs ∧ RP ns cs n (fun c' d => c' ∈ done ++ [c] ∧ d ∈ cs) fs ∧ fs.length ≤ (done ++ [c]).length * cs.length :=
      fun fs' H' hS' hL' hR' hl' z u => ⟨fs', _, _, _, rfl, hS', hL', hR'.weak (fun c' d ⟨h1, h2⟩ _ _ => (List.mem_append.mp h1).imp (fun q => ⟨q, h2⟩) fun q => ⟨List.mem_singleton.mp q, h2⟩), by rw [List.length_append, List.length_singleton, Nat.add_mul, Nat.one_mul]; exact hl'⟩
    refine ⟨_, rfl, (by show 2 ≤ sizeLine; decide), fun t ht => ⟨_, rfl, (n, true), c, mk_lit (.inl (.inl upd_same)), .inl (encCl.tg (tg_new ht) hvc), fun hm => ⟨_, rfl, iteT ?_⟩, fun hm => ⟨_, rfl, iteF ?_⟩⟩⟩
    · have S1 := hS.trans (same_new (o := .tup [.str n, .int 1]) ht)
      refine ⟨_, rfl, a, rfl, ⟨xs, sqt_tg (.of S1) hs⟩, for_tupE encCl (fun done2 σ H' => ∃ fs z u, σ = [some (.ref a), some (.str n), some (.ref p), some v, z, u] ∧ Same H H' ∧ TG H1 H' ∧ Ls K H' p dCl fs ∧ RP ns cs n (fun c' d => (c' ∈ done ∧ d ∈ cs) ∨ (c' = c ∧ d ∈ done2)) fs ∧ fs.length ≤ done.length * cs.length + done2.length)
        hs ha ⟨fs, z, u, rfl, S1, tg_new ht, hL.same encCl (same_new ht), hR.weak (fun c' d h _ _ => h.resolve_right fun q => by cases q.2), hl⟩ (fun _ _ _ ⟨fs, _, _, _, t, _⟩ => .of t) (fun done2 d rest2 v2 σ2 H2 he2 hP hvd => ?_) (fun σ2 H2 hP => ?_)⟩
      · obtain ⟨fs, z, u, rfl, hS, hT, hL, hR, hl⟩ := hP
        have hd : d ∈ cs := by rw [he2]; exact List.mem_append_right _ List.mem_cons_self
        have hd2 : done2.length ≤ 250 := by have := congrArg List.length he2; rw [List.length_append] at this; omega
        have hlen : ∀ m, m ≤ done.length * cs.length + done2.length + 1 → m ≤ done.length * cs.length + (done2 ++ [d]).length := fun m h => by rw [List.length_append, List.length_singleton]; omega
        refine ⟨_, rfl, (by show 2 ≤ sizeLine; decide), fun t2 ht2 => ⟨_, rfl, (n, false), d, mk_lit (.inl (.inl upd_same)), .inl (encCl.tg (tg_new ht2) hvd), fun hm2 => ⟨_, rfl, iteT ?_⟩, fun hm2 => ⟨_, rfl, iteF ?_⟩⟩⟩
        · have T2 := hT.trans (tg_new (o := .tup [.str n, .int 0]) ht2)
          refine ⟨_, rfl, _, rfl, _, rfl, v, v2, n, c, d, ns, rfl, encCl.tg T2 hvc, encCl.tg (tg_new ht2) hvd, hv c hc, hv d hd, hz, fun hno H3 hS3 => ⟨_, rfl, rfl, fun _ => ⟨_, rfl, iteF ?_⟩, fun e => absurd rfl e⟩, fun r hvr hres v3 H3 hS3 hd3 => ⟨_, rfl, rfl, fun e => ?_, fun _ => ⟨_, rfl, iteT ?_⟩⟩⟩
          · have S3 := (same_new (o := .tup [.str n, .int 0]) ht2).trans hS3
            exact ⟨fs, _, _, rfl, hS.trans S3, hT.trans (.of S3), hL.same encCl S3, hR.none hno (fun c' d' h => by
              rcases h with h | ⟨h1, h2⟩
              · exact .inl (.inl h)
              · rcases List.mem_append.mp h2 with q | q
                · exact .inl (.inr ⟨h1, q⟩)
                · exact .inr ⟨h1, List.mem_singleton.mp q⟩), hlen _ (by omega)⟩
          · subst e; cases hd3
          · have S3 := (same_new (o := .tup [.str n, .int 0]) ht2).trans hS3
            obtain ⟨ws, hpe, had⟩ := hL.same encCl S3
            have hwl := allf_len had
            have hfl : fs.length ≤ 1000000 := by
              have h1 : done.length ≤ 250 := by have := congrArg List.length he; rw [List.length_append] at this; omega
              have h2 := Nat.mul_le_mul h1 hcl
              omega
            exact ⟨_, rfl, tyL hpe, _, rfl, p, ws, v3, rfl, rfl, hpe, Nat.lt_of_le_of_lt (by omega : ws.length ≤ 1000000) (by decide),
              fs ++ [r], _, _, rfl, same_mut (hS.trans S3) hp, (hT.trans (.of S3)).trans (tg_lst hpe), Ls.push encCl hpe had hd3, hR.add hc hd hm hm2 hvr hres (fun c' d' h => by
              rcases h with h | ⟨h1, h2⟩
              · exact .inl (.inl h)
              · rcases List.mem_append.mp h2 with q | q
                · exact .inl (.inr ⟨h1, q⟩)
                · exact .inr ⟨h1, List.mem_singleton.mp q⟩), hlen _ (by rw [List.length_append, List.length_singleton]; omega)⟩
        · refine ⟨_, rfl, rfl, fun _ => ⟨_, rfl, iteF ?_⟩, fun e => absurd rfl e⟩
          exact ⟨fs, _, _, rfl, hS.trans (same_new ht2), hT.trans (tg_new ht2), hL.same encCl (same_new ht2), hR.weak (fun c' d' h k1 k2 => by
              rcases h with h | ⟨h1, h2⟩
              · exact .inl h
              · rcases List.mem_append.mp h2 with q | q
                · exact .inr ⟨h1, q⟩
                · rw [List.mem_singleton.mp q] at k2; exact (hm2 k2).elim), hlen _ (by omega)⟩
      · obtain ⟨fs, z, u, rfl, hS, hT, hL, hR, hl⟩ := hP
        exact fin fs H2 hS hL hR hl _ _
    · exact fin fs _ (hS.trans (same_new ht)) (hL.same encCl (same_new ht)) (hR.weak fun c' d h k1 k2 => by
        rcases h with h | ⟨h1, h2⟩
        · exact h
        · rw [h1] at k1; exact (hm k1).elim) (by omega) _ _
  · obtain ⟨fs, y, z, u, rfl, hS, hL, hR, hl⟩ := hP
    refine ⟨_, rfl, q fs ⟨hR.mem, fun c hc d hd k1 k2 => hR.all c d ⟨hc, hd⟩ k1 k2⟩ (Nat.le_trans hl ?_) _ _ hS hL.dp⟩
    exact Nat.le_trans (Nat.mul_le_mul hcl hcl) (by decide)
end
end Sh
end
section
namespace Sh
open PySem PySem.Spec L2
abbrev sBElim : Stmt := inClass (top 30) 6
theorem scBElim : FnScope ["self", "theory", "name"] ["self", "theory", "name"] (defScope sBElim) := ⟨rfl, rfl, rfl, by decide +kernel, rfl, by decide +kernel, by decide +kernel⟩
abbrev sBNormal : Stmt := inClass (top 30) 9
theorem scBNormal : FnScope ["self", "theory"] ["self", "theory"] (defScope sBNormal) := ⟨rfl, rfl, rfl, by decide +kernel, rfl, by decide +kernel, by decide +kernel⟩
theorem map_all {α β : Type} {f : α → β} {xs ys : List α} : (xs ++ ys).map f = xs.map f ++ ys.map f := List.map_append
/-- what is known of a theory -/
structure Th (ns : List Str) (cs : List Cl) : Prop where
  asc : Mth.Asc ns
  len : ns.length ≤ 5
  vc : ∀ c ∈ cs, Mth.VC ns c
  few : cs.length ≤ 250
theorem pow3 {n : Nat} (h : n ≤ 5) : 3 ^ n ≤ 243 := Nat.le_trans (Nat.pow_le_pow_right (by decide) h) (by decide)
section
variable {P : Program} {w : World} {K : PySem.W.Frag} {mg : Str → Option Value} {base : Heap} {C : Addr}
/-! ### eliminate_name -/
def spElimName (K : PySem.W.Frag) : Sp := fun vs H Q _ => ∃ (v1 : V) (n : Str) (cs : List Cl) (ns : List Str), vs = [v1, .str n] ∧ Dp K H v1 (dCls cs) ∧ Th ns cs ∧
  ∀ L, (∃ fs, Mth.RList ns cs n fs ∧ Mth.IsLeast (cs.filter (Mth.noName n) ++ fs) L) → Give K H (dCls L) Q
theorem ok_elimName (T : At K mg "eliminate_name" sElimName) (G1 : Def P w K mg base 2 "resolvents" ["clauses", "name"] (spResolvents K)) (G2 : Def P w K mg base 2 "least_clauses" ["clauses"] (spLeast K)) : Def P w K mg base 3 "eliminate_name" ["clauses", "name"] (spElimName K) := by
  refine T.def scElimName (fun vs H Q E h => ?_) (fun _ _ _ _ _ _ us hl => match us, hl with | [_, _], _ => rfl) (fun f cdv A outer s H vs Q E hr h => ?_)
  · obtain ⟨v1, n, cs, ns, rfl, _⟩ := h; rfl
  obtain ⟨v1, n, cs, ns, rfl, h1, hT, q⟩ := h
  refine ⟨_, pss_cons (ps_setLc (i := 2) (own := [("clause", 3)]) (g := gName 3) (by rfl) scElimName.nd rfl rfl (sw_true rfl rfl rfl (by decide +kernel)) (pi_tup (pv 0)) (blkOk_by (N := ["clauses", "name", "others", "clause"]) (sc := defScope sElimName) (by decide +kernel)) (fun _ _ _ _ _ => gn 3 scElimName.nd)
      (fun _ _ _ _ _ => pts_one (PW.pt (pw_and (notInK K encLit (hu65 hr) (pe_tup (pa_cons (pv 1) (pa_cons pe_int pa_nil))) (pv 3)) (pw_and1 (notInK K encLit (hu65 hr) (pe_tup (pa_cons (pv 1) (pa_cons pe_int pa_nil))) (pv 3)))))) (fun _ _ _ _ _ => pv 3))
    (pss_one (ps_ret (call_ G2 hr (pa_cons (pe_lst (StX.pa_star (pv 2) (StX.pa_star (call_ G1 hr (pa_cons (pv 0) (pa_cons (pv 1) pa_nil))) pa_nil))) pa_nil)))), ?_⟩
  obtain ⟨a, xs, rfl, hs, ha⟩ := dp_tup h1
  have few := hT.few
  have nl := hT.len
  refine ⟨_, rfl, a, rfl, ⟨xs, hs⟩, fun D hD => lc_tupE encCl encCl (Mth.noName n) id hD (by omega) hs ha (fun x _ v H' yes no hS hv hy hn => ?_) (fun H' hS hL => ?_)⟩
  · refine ⟨rfl, _, rfl, (by show 2 ≤ sizeLine; decide), fun t ht => ⟨_, rfl, (n, false), x, mk_lit (.inl (.inl upd_same)), .inl (encCl.tg (tg_new ht) hv), fun hm => ⟨_, rfl, iteF (iteF ?_)⟩, fun hm => ⟨_, rfl, iteT ?_⟩⟩⟩
    · exact hn (by unfold Mth.noName; rw [decide_eq_true hm]; rfl) _ (same_new ht)
    · refine ⟨_, rfl, (by show 2 ≤ sizeLine; decide), fun t2 ht2 => ⟨_, rfl, (n, true), x, mk_lit (.inl (.inl upd_same)), .inl (encCl.tg (tg_new ht2) (encCl.tg (tg_new ht) hv)), fun hm2 => ⟨_, rfl, iteF ?_⟩, fun hm2 => ⟨_, rfl, iteT ?_⟩⟩⟩
      · exact hn (by unfold Mth.noName; rw [decide_eq_true hm2, decide_eq_false hm]; rfl) _ ((same_new ht).trans (same_new ht2))
      · exact ⟨_, rfl, hy (by unfold Mth.noName; rw [decide_eq_false hm2, decide_eq_false hm]; rfl) _ _ ((same_new ht).trans (same_new ht2)) (encCl.tg (tg_new ht2) (encCl.tg (tg_new ht) hv))⟩
  · rw [List.map_id] at hL
    obtain ⟨os, hDe, had⟩ := hL
    refine ⟨_, rfl, D, os, rfl, .inr (.inl (.inl hDe)), _, rfl, _, rfl, _, n, cs, ns, rfl, encCls.tg (.of hS) h1, hT.vc, by omega, few, fun fs hfs hfl v2 H2 hS2 hv2 => ?_⟩
    cases hv2 with
    | @lst b ys _ hs2 ha2 =>
      refine ⟨b, ys, rfl, .inr hs2, ?_⟩
      have lo := allf_len had
      have lf := allf_len ha2
      have lo2 : (cs.filter (Mth.noName n)).length ≤ cs.length := List.length_filter_le _ _
      show (os ++ (ys ++ [])).length ≤ sizeLine ∧ _
      rw [List.append_nil]
      refine ⟨by rw [List.length_append]; exact Nat.le_trans (by omega : os.length + ys.length ≤ 100000) (by decide), fun r hr' => ?_⟩
      have had2 : DpAll K (upd H2 r (.lst (os ++ ys))) (os ++ ys) ((cs.filter (Mth.noName n) ++ fs).map dCl) := by
        rw [List.map_append]
        exact all_app (encCl.tgs (tg_new hr') (encCl.tgs (.of hS2) had)) (encCl.tgs (tg_new hr') ha2)
      refine ⟨.ref r, _, rfl, .inl (.lst (.inl (.inl upd_same)) had2), by rw [List.length_append]; omega, fun c hc => ?_, fun L hL v3 H3 hS3 hd3 => q L ⟨fs, hfs, hL⟩ v3 H3 (((hS.trans hS2).trans (same_new hr')).trans hS3) hd3⟩
      rcases List.mem_append.mp hc with z | z
      · exact (hT.vc c (List.mem_filter.mp z).1).nodup
      · exact (hfs.mem c z).1.nodup
/-! ### close_clauses -/
def spClose (K : PySem.W.Frag) : Sp := fun vs H Q _ => ∃ (v1 v2 : V) (cs : List Cl) (ns : List Str), vs = [v1, v2] ∧ Dp K H v1 (dCls cs) ∧ Dp K H v2 (dNm ns) ∧ Th ns cs ∧
  ∀ L, Mth.Srt L → (∀ c, c ∈ L ↔ Mth.IsPr (Mth.Fol cs) ns c) → Give K H (dCls L) Q
theorem ok_close (T : At K mg "close_clauses" sClose) (G1 : Def P w K mg base 2 "resolvents" ["clauses", "name"] (spResolvents K)) (G2 : Def P w K mg base 2 "least_clauses" ["clauses"] (spLeast K)) : Def P w K mg base 3 "close_clauses" ["clauses", "names"] (spClose K) := by
  refine T.def scClose (fun vs H Q E h => ?_) (fun _ _ _ _ _ _ us hl => match us, hl with | [_, _], _ => rfl) (fun f cdv A outer s H vs Q E hr h => ?_)
  · obtain ⟨v1, v2, cs, ns, rfl, _⟩ := h; rfl
  obtain ⟨v1, v2, cs, ns, rfl, h1, h2, hT, q⟩ := h
  refine ⟨_, pss_cons (st_ 2 scClose.nd (call_ G2 hr (pa_cons (pv 0) pa_nil))) (pss_cons (for_ (pi_tup (pv 1)) (gn 3 scClose.nd)
      (pss_one (st_ 2 scClose.nd (call_ G2 hr (pa_cons (pe_lst (StX.pa_star (pv 2) (StX.pa_star (call_ G1 hr (pa_cons (pv 2) (pa_cons (pv 3) pa_nil))) pa_nil))) pa_nil)))))
    (pss_one (ps_ret (pv 2)))), ?_⟩
  have few := hT.few
  have nl := hT.len
  obtain ⟨a, xs, rfl, hs, ha⟩ := dp_tup h2
  refine ⟨_, rfl, v1, cs, rfl, .inr h1, by omega, fun c hc => (hT.vc c hc).nodup, fun S0 hS0 v H1 hS1 hd1 => ?_⟩
  refine ⟨_, rfl, a, rfl, ⟨xs, sqt_tg (.of hS1) hs⟩, for_tupE encStr (fun done σ H' => ∃ u z S, σ = [some v1, some (.ref a), some u, z] ∧ Same H H' ∧ Dp K H' u (dCls S) ∧ Mth.ClI cs ns done S) hs ha
    ⟨v, none, S0, rfl, hS1, hd1, .start hT.vc hS0⟩ (fun _ _ _ ⟨_, _, _, _, t, _⟩ => .of t) (fun done x rest v' σ H' he hP hv => ?_) (fun σ H' hP => ?_)⟩
  · obtain ⟨u, z, S, rfl, hS, hu, hI⟩ := hP
    rw [dp_str hv]
    have hSl : S.length ≤ 243 := Nat.le_trans (Mth.vc_count hT.asc hI.srt.nodup hI.vc) (pow3 nl)
    obtain ⟨b, us, rfl, hbs, hba⟩ := dp_tup hu
    refine ⟨_, rfl, b, us, rfl, .inl hbs, _, rfl, _, rfl, _, x, S, ns, rfl, hu, hI.vc, by omega, by omega, fun fs hfs hfl v2 H2 hS2 hv2 => ?_⟩
    cases hv2 with
    | @lst b2 ys _ hs2 ha2 =>
      refine ⟨b2, ys, rfl, .inr hs2, ?_⟩
      have lo := allf_len hba
      have lf := allf_len ha2
      show (us ++ (ys ++ [])).length ≤ sizeLine ∧ _
      rw [List.append_nil]
      refine ⟨by rw [List.length_append]; exact Nat.le_trans (by omega : us.length + ys.length ≤ 100000) (by decide), fun r hr' => ?_⟩
      have had2 : DpAll K (upd H2 r (.lst (us ++ ys))) (us ++ ys) ((S ++ fs).map dCl) := by
        rw [List.map_append]
        exact all_app (encCl.tgs (tg_new hr') (encCl.tgs (.of hS2) hba)) (encCl.tgs (tg_new hr') ha2)
      refine ⟨.ref r, _, rfl, .inl (.lst (.inl (.inl upd_same)) had2), by rw [List.length_append]; omega, fun c hc => ?_, fun L hL v3 H3 hS3 hd3 => ⟨v3, _, L, rfl, ((hS.trans hS2).trans (same_new hr')).trans hS3, hd3, hI.step hfs hL⟩⟩
      rcases List.mem_append.mp hc with z | z
      · exact (hI.vc c z).nodup
      · exact (hfs.mem c z).1.nodup
  · obtain ⟨u, z, S, rfl, hS, hu, hI⟩ := hP
    exact ⟨_, rfl, q S hI.srt (hI.done hT.vc) _ _ hS hu⟩
/-! ### Bits.eliminate, Bits.normal -/
def spBElim (K : PySem.W.Frag) : Sp := fun vs H Q _ => ∃ (v0 v1 : V) (n : Str) (cs : List Cl) (ns : List Str), vs = [v0, v1, .str n] ∧ Dp K H v1 (dTh ns cs) ∧ Th ns cs ∧
  ∀ ms L, ms = ns.filter (fun m => decide (m ≠ n)) → Th ms L → Mth.ElimOk cs n L → Give K H (dTh ms L) Q
theorem ok_bElim (T : AtM K C "eliminate" "Bits.eliminate" sBElim) (G1 : Def P w K mg base 1 "drop_name" ["names", "gone"] (spDrop K)) (G2 : Def P w K mg base 3 "eliminate_name" ["clauses", "name"] (spElimName K)) : MDef P w K mg base C 4 "eliminate" ["self", "theory", "name"] (spBElim K) := by
  refine T.def scBElim (fun vs H Q E h => ?_) (fun _ _ _ _ _ _ us hl => match us, hl with | [_, _, _], _ => rfl) (fun f cdv A outer s H vs Q E hr h => ?_)
  · obtain ⟨v0, v1, n, cs, ns, rfl, _⟩ := h; rfl
  obtain ⟨v0, v1, n, cs, ns, rfl, h1, hT, q⟩ := h
  refine ⟨_, pss_one (ps_ret (pe_tup (pa_cons (call_ G1 hr (pa_cons (ixT (pv 1) pe_int) (pa_cons (pv 2) pa_nil))) (pa_cons (call_ G2 hr (pa_cons (ixT (pv 1) pe_int) (pa_cons (pv 2) pa_nil))) pa_nil)))), ?_⟩
  obtain ⟨a, w1, w2, rfl, hs, hw1, hw2⟩ := dp_th h1
  have nl := hT.len
  refine ⟨_, rfl, a, _, _, _, rfl, rfl, hs, at0, _, rfl, w1, ns, n, rfl, hw1, by omega, fun u1 H1 hS1 hu1 => ?_⟩
  refine ⟨_, rfl, a, _, _, _, rfl, rfl, sqt_tg (.of hS1) hs, at1, _, rfl, w2, n, cs, ns, rfl, encCls.tg (.of hS1) hw2, hT, fun L ⟨fs, hfs, hL⟩ u2 H2 hS2 hu2 => ?_⟩
  refine ⟨(by show 2 ≤ sizeLine; decide), fun t ht => ?_⟩
  have hR := hfs.elim hL
  have hvL : ∀ c ∈ L, Mth.VC (ns.filter fun m => decide (m ≠ n)) c := fun c hc => by
    have h0 : Mth.VC ns c ∧ ∀ l ∈ c, l.1 ≠ n := by
      rcases List.mem_append.mp (hL.mem c hc) with z | z
      · exact ⟨hT.vc c (List.mem_filter.mp z).1, Mth.noName_iff.mp (List.mem_filter.mp z).2⟩
      · obtain ⟨k1, c1, _, d1, _, _, _, k2⟩ := hfs.mem c z
        exact ⟨k1, fun l hl => ((k2.2 l).mp hl).2⟩
    exact ⟨h0.1.asc, fun l hl => List.mem_filter.mpr ⟨h0.1.sub l hl, decide_eq_true (h0.2 l hl)⟩⟩
  have hasc : Mth.Asc (ns.filter fun m => decide (m ≠ n)) := List.Pairwise.filter _ hT.asc
  have hfl := List.length_filter_le (fun m => decide (m ≠ n)) ns
  have hlen : (ns.filter fun m => decide (m ≠ n)).length ≤ 5 := Nat.le_trans hfl nl
  refine q _ L rfl ⟨hasc, hlen, hvL, Nat.le_trans (Mth.vc_count hasc hL.srt.nodup hvL) (Nat.le_trans (pow3 hlen) (by decide))⟩ (hR.ok fun c hc => (hT.vc c hc).nt) _ _ ((hS1.trans hS2).trans (same_new ht)) ?_
  exact mk_th (.inl (.inl upd_same)) (encNm.tg (tg_new ht) (encNm.tg (.of hS2) hu1)) (encCls.tg (tg_new ht) hu2)
def spBNormal (K : PySem.W.Frag) : Sp := fun vs H Q _ => ∃ (v0 v1 : V) (cs : List Cl) (ns : List Str), vs = [v0, v1] ∧ Dp K H v1 (dTh ns cs) ∧ Th ns cs ∧
  ∀ L, Mth.Srt L → (∀ c, c ∈ L ↔ Mth.IsPr (Mth.Fol cs) ns c) → Give K H (dTh ns L) Q
theorem ok_bNormal (T : AtM K C "normal" "Bits.normal" sBNormal) (G : Def P w K mg base 3 "close_clauses" ["clauses", "names"] (spClose K)) : MDef P w K mg base C 4 "normal" ["self", "theory"] (spBNormal K) := by
  refine T.def scBNormal (fun vs H Q E h => ?_) (fun _ _ _ _ _ _ us hl => match us, hl with | [_, _], _ => rfl) (fun f cdv A outer s H vs Q E hr h => ?_)
  · obtain ⟨v0, v1, cs, ns, rfl, _⟩ := h; rfl
  obtain ⟨v0, v1, cs, ns, rfl, h1, hT, q⟩ := h
  refine ⟨_, pss_one (ps_ret (pe_tup (pa_cons (ixT (pv 1) pe_int) (pa_cons (call_ G hr (pa_cons (ixT (pv 1) pe_int) (pa_cons (ixT (pv 1) pe_int) pa_nil))) pa_nil)))), ?_⟩
  obtain ⟨a, w1, w2, rfl, hs, hw1, hw2⟩ := dp_th h1
  refine ⟨_, rfl, a, _, _, _, rfl, rfl, hs, at0, _, rfl, a, _, _, _, rfl, rfl, hs, at1, _, rfl, a, _, _, _, rfl, rfl, hs, at0, w2, w1, cs, ns, rfl, hw2, hw1, hT, fun L hL1 hL2 u H1 hS1 hu => ?_⟩
  refine ⟨(by show 2 ≤ sizeLine; decide), fun t ht => q L hL1 hL2 _ _ (hS1.trans (same_new ht)) ?_⟩
  exact mk_th (.inl (.inl upd_same)) (encNm.tg (tg_new ht) (encNm.tg (.of hS1) hw1)) (encCls.tg (tg_new ht) hu)
end
end Sh
end
section
namespace Sh
open PySem PySem.Spec PyProof.Rows L2
/-! ### {**d, k: v} -/
section
variable {prog : Program} {w : World} {K : Type} [DecidableEq K] {knd : KeyKind prog w K} {A : Around} {E : Value → Shared → Prop} {s : Shared}
theorem put_pairs {d : Addr} {kvs : List (K × Value)} {k : K} {key v : Value} {Q : Unit → Shared → Prop} (hkey : knd.is k key = true) (hm : s.heap.DictOf knd d kvs)
    (hQ : ∀ h', h'.DictOf knd d (stored kvs k v) → Heap.SameBut d s.heap h' → Q () { s with heap := h' }) (hsz : kvs.length ≤ sizeLine) :
    wpAny (model prog w) A (dictPut d (knd.hash k) key v) Q E s := by
  obtain ⟨o, es, ep, ho, hc, hd, hk, hp, hn⟩ := hm
  have hes : es.size ≤ sizeLine := by have e1 := hp.length; have e2 : es.toList.length = es.size := by simp
                                      omega
  unfold dictPut
  refine wpAny_bind (wpAny_dictFind_of hkey ho hd hk ?_)
  have hidx : (es.findIdx? fun e => knd.is k e.key) = kvs.findIdx? fun kv => decide (kv.1 = k) := by
    rw [← hp.findIdx k]; obtain ⟨l⟩ := es; simp
  cases hi : es.findIdx? fun e => knd.is k e.key with
  | some i =>
    refine wpAny_updateDict ho hd (hQ _ ⟨_, _, ep, Heap.get?_update_self _ ho (Obj.isFreed_of_dict (Obj.data_mapDict hd _)),
      hc.mapDict _, Obj.data_mapDict hd _, hk.modify _ _, ?_, ?_⟩ (Heap.SameBut.update ..))
    · rw [stored, if_pos (any_of_findIdx_some (hidx ▸ hi))]
      have hl : (es.toList.findIdx? fun e => knd.is k e.key) = some i := by rw [← hi]; obtain ⟨l⟩ := es; simp
      have := hp.modify hn hl v
      obtain ⟨l⟩ := es
      simpa using this
    · rw [stored, if_pos (any_of_findIdx_some (hidx ▸ hi)), keys_map_store]; exact hn
  | none =>
    have hnot : k ∉ kvs.map (·.1) := not_mem_of_findIdx_none (hidx ▸ hi)
    have hany : ¬ (kvs.any fun kv => decide (kv.1 = k)) = true := by
      rw [List.any_eq_true]; rintro ⟨kv, hkv, he⟩
      exact hnot (List.mem_map.mpr ⟨kv, hkv, of_decide_eq_true he⟩)
    refine wpAny_updateDictKeys (hz := hes) ho hd (hQ _ ⟨_, _, ep + 1, Heap.get?_update_self _ ho (Obj.isFreed_of_dict (Obj.data_mapDictKeys hd _)),
      hc.mapDictKeys _, Obj.data_mapDictKeys hd _, hk.push hkey _, ?_, ?_⟩ (Heap.SameBut.update ..))
    · rw [stored, if_neg hany]
      have := hp.append hkey (knd.hash k) v
      obtain ⟨l⟩ := es
      simpa using this
    · rw [stored, if_neg hany, List.map_append, List.nodup_append]
      refine ⟨hn, by simp, ?_⟩
      intro a ha b hb
      simp only [List.map_cons, List.map_nil, List.mem_singleton] at hb
      subst hb
      exact fun e => hnot (e ▸ ha)
theorem merge_pairs {d o : Addr} {kvs more : List (K × Value)} {Q : Unit → Shared → Prop} (hdo : d ≠ o) (hoS : (o == sysModules) = false) (hflat : ∀ k v, knd.is k v = true → ∀ a, v ≠ .ref a)
    (hd : s.heap.DictOf knd d kvs) (ho : s.heap.DictOf knd o more)
    (hQ : ∀ h', h'.DictOf knd d (merged kvs more) → Heap.SameBut d s.heap h' → Q () { s with heap := h' }) (hsz : kvs.length + more.length ≤ sizeLine) :
    wpAny (model prog w) A (mergeMapping d (.ref o) false) Q E s := by
  obtain ⟨od, esd, epd, hod, hcd, hdd, hkd, hpd, hnd⟩ := id hd
  obtain ⟨oo, eso, epo, hoo, hco, hdo', hko, hpo, hno⟩ := id ho
  have hlen : more.length = eso.size := by rw [← hpo.length]; simp
  unfold mergeMapping
  refine wpAny_bind (wpAny_isInstance ho.typeIs isSubtype_dict_dict ?_)
  rw [if_pos rfl]
  refine wpAny_bind (wpAny_specialOf ho.typeIs F.slot_dict_iter.lookup ?_)
  have e0 : (some (Value.builtin "dict.__iter__") == some (Value.builtin "dict.__iter__")) = true := by decide
  rw [e0]
  refine wpAny_bind (wpAny_pure ?_)
  simp only [hoS, Bool.false_eq_true, if_false]
  have loop : wpAny (model prog w) A (do
      let size := (← dictEntries o).size
      let epoch ← dictEpoch o
      for i in List.range size do
        let some e := (← dictEntries o)[i]? | unsupported "dict.changed-during-merge"
        holding [e.key, e.val] (dictPut d e.hash e.key e.val)
        if (← dictEpoch o) != epoch then unsupported "dict.changed-during-merge") Q E s := by
    refine wpAny_bind (wpAny_dictEntries hoo hdo' ?_)
    refine wpAny_bind (wpAny_dictEpoch hoo hdo' ?_)
    refine wpAny_bind ?_
    rw [List.range_eq_range']
    refine wpAny_forIn_list _
      (fun rest _ s' => ∃ h' i, s' = { s with heap := h' } ∧ rest = List.range' i (eso.size - i) ∧ i ≤ eso.size ∧ h'.DictOf knd d (merged kvs (more.take i)) ∧ h'.get? o = some oo ∧ Heap.SameBut d s.heap h')
      _ ?_ ?_ _ _ ⟨s.heap, 0, rfl, by simp, Nat.zero_le _, by simpa [merged] using hd, hoo, Heap.SameBut.refl _ _⟩
    · rintro x rest b s' ⟨h', i, rfl, hr, hi, hd', hoo', hs'⟩
      have hlt : i < eso.size := by
        rcases Nat.lt_or_ge i eso.size with h | h
        · exact h
        · rw [Nat.sub_eq_zero_of_le h] at hr; simp at hr
      obtain ⟨rfl, hrest⟩ : x = i ∧ rest = List.range' (i + 1) (eso.size - (i + 1)) := by
        have e : eso.size - i = (eso.size - (i + 1)) + 1 := by omega
        rw [e, List.range'_succ] at hr
        injection hr with h1 h2
        exact ⟨h1, h2⟩
      refine wpAny_bind (wpAny_dictEntries hoo' hdo' ?_)
      rw [Array.getElem?_eq_getElem hlt]
      obtain ⟨kv, hkv⟩ : ∃ kv, more[x]? = some kv := ⟨more[x]'(by rw [hlen]; exact hlt), List.getElem?_eq_getElem _⟩
      obtain ⟨k, v⟩ := kv
      obtain ⟨hkey, hval⟩ := hpo.get? (e := eso[x]) (by simp [hlt]) hkv
      obtain ⟨k', hkey', hhash⟩ := hko eso[x] (Array.getElem_mem hlt)
      obtain rfl : k' = k := knd.inj _ _ _ hkey' hkey
      have hmx : (merged kvs (more.take x)).length ≤ sizeLine := by
        have e1 := merged_length_le kvs (more.take x)
        have e2 : (more.take x).length ≤ more.length := by rw [List.length_take]; omega
        omega
      refine wpAny_bind (wpAny_holding ?_)
      show wpAny _ _ (dictPut d eso[x].hash eso[x].key eso[x].val) _ _ _
      rw [hhash, hval]
      refine put_pairs hkey hd' (fun h'' hd'' hs'' => ?_) hmx
      have hoo'' : h''.get? o = some oo := (hs''.2 o (Ne.symm hdo)).trans hoo'
      refine wpAny_bind (wpAny_dictEpoch hoo'' hdo' ?_)
      rw [if_neg (by simp)]
      exact wpAny_pure ⟨h'', x + 1, rfl, hrest, hlt, by rw [merged_take_succ kvs more x (k', v) hkv]; exact hd'', hoo'', hs'.trans hs''⟩
    · rintro b s' ⟨h', i, rfl, hr, hi, hd', hoo', hs'⟩
      have hin : i = eso.size := by
        rcases Nat.lt_or_ge i eso.size with h | h
        · have e : eso.size - i = (eso.size - (i + 1)) + 1 := by omega
          rw [e, List.range'_succ] at hr; exact nomatch hr
        · exact Nat.le_antisymm hi h
      refine wpAny_pure (hQ h' ?_ hs')
      rw [hin, ← hlen, List.take_length] at hd'; exact hd'
  refine wpAny_bind (wpAny_dictEntries hod hdd ?_)
  split
  · refine wpAny_bind (wpAny_dictEntries hoo hdo' (wpAny_bind ?_))
    rw [← Array.forIn_toList]
    refine wpAny_forIn_list _ (fun rest _ s' => s' = s ∧ ∀ e ∈ rest, e ∈ eso.toList) _ ?_ ?_ _ _ ⟨rfl, fun _ h => h⟩
    · rintro e rest b s' ⟨rfl, hr⟩
      obtain ⟨k, hk, _⟩ := hko e (by simpa using hr e List.mem_cons_self)
      have hnr := hflat k e.key hk
      split
      · rename_i a ha; exact absurd ha (hnr a)
      · exact wpAny_pure ⟨rfl, fun e' he' => hr e' (List.mem_cons_of_mem _ he')⟩
    · rintro b s' ⟨rfl, _⟩
      exact loop
  · exact loop
end
theorem flat_mix {P : Program} {w : World} : ∀ (k : Key) (v : Value), (mixKind P w).is k v = true → ∀ a, v ≠ .ref a := fun k v h a e => by
  subst e
  have h' : keyIs k (.ref a) = true := h
  cases k with
  | inl i => exact absurd h' (by simp [keyIs, Value.isInt])
  | inr x => exact absurd h' (by simp [keyIs, Value.isStrOf])
theorem merge_one (vs : List (Key × Value)) (k : Key) (u : Value) : merged vs [(k, u)] = stored vs k u := rfl
/-- {**d, k: v}: k a new key -/
def tStarD (td tk tv : TE) : TE := fun σ H Q => ∀ p, H p = none → td σ (upd H p (.dK [])) fun x H1 => ∃ d kvs, x = .ref d ∧ d ≠ p ∧ Rd H1 d (.dK kvs) ∧ H1 p = some (.dK []) ∧ kvs.length ≤ 1000 ∧
  tk σ (upd H1 p (.dK kvs)) fun y H2 => tv σ H2 fun z H3 => ∃ k, y = kV k ∧ valV kvs k = none ∧ H3 p = some (.dK kvs) ∧ ∀ H', Same (upd H3 p (.dK (kvs ++ [(k, z)]))) H' → Q (.ref p) H'
theorem pe_starD {X : Cx} {d k v : Expr} {td tk tv : TE} {pos : Pos} (hd : PE X d td) (hk : PE X k tk) (hv : PE X v tv)
    (hs : (evalEachOpt [none, some k] X.env).zip ((evalEach [d, v] X.env).map fun v => do let x ← v; standAt pos; pure x) = [(none, do let x ← eval d X.env; standAt pos; pure x), (some (eval k X.env), do let x ← eval v X.env; standAt pos; pure x)] := by rfl) :
    PE X (.Dict [none, some k] [d, v] pos) (tStarD td tk tv) := by
  refine ⟨fun pins s σ H Q I hq => ?_⟩
  rw [arm_eval_Dict, hs]
  refine wpAny_bind (wpAny_standAt ?_)
  unfold dictDisplay
  simp only [List.forIn_cons, List.forIn_nil, List.isEmpty_nil, if_true, pure_bind, List.nil_append, List.length_singleton, bind_assoc, show ((1 : Nat) == 17) = false from rfl, Bool.false_eq_true, if_false, List.isEmpty_cons]
  have hn := I.hok.fresh (Nat.le_refl s.heap.objs.size)
  have I1 := I.laid (a := s.heap.objs.size) (o := .dK []) (h' := s.heap.push { cls := .type "dict", data := .dict #[] }) (t' := s.toks) (fun _ _ q => Heap.get?_push_of_some _ q) (Nat.le_refl _) (dk_empty s.heap I.big)
  refine wpAny_bind (wpAny_alloc ?_)
  refine wpAny_bind (wpAny_holding (wpAny_bind (thn (hd.run pins _ σ _ _ I1 (hq _ hn)) fun u s1 ⟨x, H1, I2, rx, d1, kvs, ex, hne, hrd, hpe, hkl, q⟩ => wpAny_bind (wpAny_standAt (wpAny_pure ?_)))))
  subst ex
  obtain rfl : u = Value.ref d1 := rx
  obtain ⟨z1, hd1, more, kv1, do1⟩ := dk_rd I2.hok hrd
  obtain ⟨z2, hd2, vs0, r0, dop⟩ := dk_of I2.hok hpe
  cases r0
  have hmn : (more.map (·.1)).Nodup := let ⟨_, _, _, _, _, _, _, _, n⟩ := do1; n
  have lm : kvs.length = more.length := Paired.length kv1
  refine wpAny_bind ?_
  refine wpAny_onRaise (wpAny_tryCatch (wpAny_onRaise (wpAny_holding (merge_pairs (knd := mixKind X.prog X.w) hne.symm hd1 flat_mix dop do1 (fun h1 dop1 sb1 => ?_) ?_))))
  rotate_left
  · rw [sizeLine_eq, List.length_nil]; omega
  rw [merged_nil_of_nodup more hmn] at dop1
  have he1 : ∃ q, h1.get? s.heap.objs.size = some q := let ⟨q, _, _, hq, _⟩ := dop1; ⟨q, hq⟩
  have I3 : Inv X pins σ (upd H1 s.heap.objs.size (.dK kvs)) { s1 with heap := h1 } := d_write I2 (by rw [hpe]; exact True.intro) sb1 he1 (dk_new (by rw [sizeLine_eq]; omega) hd2 kv1 dop1)
  -- the second part: a dict of its own, then merged
  have hqn : (upd H1 s.heap.objs.size (.dK kvs)) h1.objs.size = none := I3.hok.fresh (Nat.le_refl _)
  refine wpAny_bind (wpAny_holding (wpAny_subDict (knd := mixKind X.prog X.w) (s := { s1 with heap := h1 }) (by show 1 ≤ 15; decide) ?_))
  have I4 : Inv X pins σ (upd H1 s.heap.objs.size (.dK kvs)) { s1 with heap := h1.push { cls := .type "dict", data := .dict #[] } } := I3.kept (t' := s1.toks) fun b o e => Heap.get?_push_of_some _ e
  have hq0 : (h1.push ({ cls := .type "dict", data := .dict #[] } : Obj)).get? h1.objs.size = some { cls := .type "dict", data := .dict #[] } := Heap.get?_push_size _ rfl
  have I5 := I4.pinned (fp := [h1.objs.size]) (fun b hb => by rw [List.mem_singleton.mp hb]; exact I3.fpOk (Nat.le_refl _) hqn) (fun b hb => by rw [List.mem_singleton.mp hb]; exact ⟨_, hq0, fun v => by simp⟩)
  have hmem : (h1.objs.size, ({ cls := .type "dict", data := .dict #[] } : Obj)) ∈ pins ++ pinsAt [h1.objs.size] (h1.push ({ cls := .type "dict", data := .dict #[] } : Obj)) := List.mem_append_right _ (mem_pinsAt (List.mem_singleton.mpr rfl) hq0)
  refine evalPairs_cons (thn (hk.run _ _ σ _ _ I5 q) fun ku s2 ⟨y, H2, I6, ry, q2⟩ => wpAny_bind (thn (hv.run _ s2 σ H2 _ I6 q2) fun vu s3 ⟨z, H3, I7, rz, k, ek, hkn, hp3, q3⟩ => wpAny_bind (wpAny_standAt (wpAny_pure (evalPairs_nil ?_)))))
  subst ek
  obtain ⟨hq3, hq3n, _⟩ := I7.pin _ (List.mem_append_right _ hmem)
  have hq3 : s3.heap.get? h1.objs.size = some { cls := .type "dict", data := .dict #[] } := hq3
  refine ⟨[(k, vu)], ⟨kV_is ry, rfl, True.intro⟩, ⟨_, #[], 0, hq3, ⟨rfl, rfl, rfl⟩, rfl, fun _ he => by simp at he, Pairs.nil, List.nodup_nil⟩, fun h4 doq sb4 => ?_⟩
  have I8 : Inv X pins σ H3 s3 := by
    have := I7.unpinned (pins := pins)
    exact this
  have fq : FpOk X pins H3 h1.objs.size := by
    obtain ⟨f1, f2, f3, f4, f5, f6⟩ := I3.fpOk (H' := H3) (Nat.le_refl _) hq3n
    exact ⟨f1, f2, f3, f4, f5, f6⟩
  have kz : KV [(k, z)] (merged [] [(k, vu)]) := .cons ⟨rfl, rz⟩ .nil
  have hqs : (h1.objs.size == sysModules) = false := beq_eq_false_iff_ne.mpr (Ne.symm (Nat.ne_of_lt I3.big))
  have I9 : Inv X pins σ (upd H3 h1.objs.size (.dK [(k, z)])) { s3 with heap := h4, toks := s3.toks + 1 } := I8.take (h' := h4) (t' := s3.toks + 1) (fun b ob hb e => (sb4.2 b hb).trans e) fq (dk_new (by show 1 ≤ sizeLine; decide) hqs kz doq)
  have npq : s.heap.objs.size ≠ h1.objs.size := fun e => by rw [← e, upd_same] at hqn; cases hqn
  have hp9 : (upd H3 h1.objs.size (.dK [(k, z)])) s.heap.objs.size = some (.dK kvs) := by rw [upd_ne npq]; exact hp3
  obtain ⟨z5, hd5, vs5, kv5, dop5⟩ := dk_of I9.hok hp9
  have l5 : kvs.length = vs5.length := Paired.length kv5
  refine wpAny_bind (wpAny_onRaise (wpAny_holding (merge_pairs (knd := mixKind X.prog X.w) npq hqs flat_mix dop5 doq (fun h6 dop6 sb6 => ?_) ?_)))
  rotate_left
  · have : (merged ([] : List (Key × Value)) [(k, vu)]).length = 1 := rfl
    rw [sizeLine_eq, this]; omega
  have e6 : merged vs5 (merged [] [(k, vu)]) = stored vs5 k vu := rfl
  rw [e6] at dop6
  have kv6 : KV (kvs ++ [(k, z)]) (stored vs5 k vu) := by
    have := kv5.put k rz
    rw [putK_new _ hkn] at this
    exact this
  have he6 : ∃ q, h6.get? s.heap.objs.size = some q := let ⟨q, _, _, hq, _⟩ := dop6; ⟨q, hq⟩
  have I10 : Inv X pins σ (upd (upd H3 h1.objs.size (.dK [(k, z)])) s.heap.objs.size (.dK (kvs ++ [(k, z)]))) { s3 with heap := h6, toks := s3.toks + 1 } :=
    d_write (s := { s3 with heap := h4, toks := s3.toks + 1 }) (t' := s3.toks + 1) I9 (by rw [hp9]; exact True.intro) sb6 he6 (dk_new (by rw [sizeLine_eq, List.length_append, List.length_singleton]; omega) hd5 kv6 dop6)
  refine wpAny_pure ⟨.ref s.heap.objs.size, _, I10, rfl, q3 _ fun b o e => ?_⟩
  by_cases hb : b = s.heap.objs.size
  · subst hb
    rw [upd_same] at e ⊢
    exact e
  · rw [upd_ne hb] at e ⊢
    rw [upd_ne (fun z => by rw [z, hq3n] at e; cases e)]
    exact e
end Sh
end
section
namespace Sh
open PySem PySem.Spec L2
abbrev sBLift : Stmt := inClass (top 30) 7
theorem scBLift : FnScope ["self", "theory", "name", "assignment", "value"] ["self", "theory", "name", "assignment"] (defScope sBLift) := ⟨rfl, rfl, rfl, by decide +kernel, rfl, by decide +kernel, by decide +kernel⟩
abbrev sBGround : Stmt := inClass (top 30) 8
theorem scBGround : FnScope ["self", "theory"] ["self", "theory"] (defScope sBGround) := ⟨rfl, rfl, rfl, by decide +kernel, rfl, by decide +kernel, by decide +kernel⟩
theorem encB2 : Enc (fun b : Bool => PyData.int (b2 b)) where
  pure _ := rfl
  eqv a b := by simp only [PyData.eqv]; cases a <;> cases b <;> rfl
  lay _ := rfl
  dep _ := Nat.zero_le _
theorem asg_snoc {ns : List Str} {a : Str → Bool} {n : Str} {b : Bool} (h : n ∉ ns) : asg ns a ++ [(Sum.inr n, .int (b2 b))] = asg (ns ++ [n]) (Mth.setA a n b) := by
  unfold asg
  rw [List.map_append]
  congr 1
  · exact List.map_congr_left fun m hm => by rw [Mth.setA_ne (fun e => h (by rw [← e]; exact hm))]
  · rw [List.map_singleton, Mth.setA_same]
theorem valV_asg_none {ns : List Str} {a : Str → Bool} {n : Str} (h : n ∉ ns) : valV (asg ns a) (Sum.inr n) = none := by
  induction ns with
  | nil => rfl
  | cons m ns ih =>
    rw [List.mem_cons, not_or] at h
    unfold valV asg
    rw [List.map_cons, List.find?_cons]
    have hd : decide ((Sum.inr m : Key) = Sum.inr n) = false := decide_eq_false fun e => h.1 (Sum.inr.inj e).symm
    simp only [hd]
    exact ih h.2
theorem asg_len (ns : List Str) (a : Str → Bool) : (asg ns a).length = ns.length := by unfold asg; rw [List.length_map]
section
variable {P : Program} {w : World} {K : PySem.W.Frag} {mg : Str → Option Value} {base : Heap} {C : Addr}
def spBLift (K : PySem.W.Frag) (C : Addr) : Sp := fun vs H Q _ => ∃ (v0 v1 : V) (n : Str) (d : Addr) (cs : List Cl) (ms ns : List Str) (a : Str → Bool), vs = [v0, v1, .str n, .ref d] ∧ Kd C H v0 ∧ Dp K H v1 (dTh ms cs) ∧ H d = some (.dK (asg ns a)) ∧ n ∉ ns ∧ ns.length ≤ 5 ∧
  (∀ c ∈ cs, ∀ l ∈ c, l.1 ∈ ns ++ [n]) ∧ (∃ b, Mth.hT (Mth.setA a n b) cs = true) ∧ ∀ b H', Mth.hT (Mth.setA a n b) cs = true → Same H H' → Q (.int (b2 b)) H'
theorem ok_bLift (T : AtM K C "lift" "Bits.lift" sBLift) (G : Def P w K mg base 2 "satisfies" ["kind", "theory", "assignment"] (spSat K C)) : MDef P w K mg base C 3 "lift" ["self", "theory", "name", "assignment"] (spBLift K C) := by
  refine T.def scBLift (fun vs H Q E h => ?_) (fun _ _ _ _ _ _ us hl => match us, hl with | [_, _, _, _], _ => rfl) (fun f cdv A outer s H vs Q E hr h => ?_)
  · obtain ⟨v0, v1, n, d, cs, ms, ns, a, rfl, _⟩ := h; rfl
  obtain ⟨v0, v1, n, d, cs, ms, ns, a, rfl, hK, h1, h2, hn, hz, hv, hex, q⟩ := h
  refine ⟨_, pss_cons (for_ (pi_tup (pe_tup (pa_cons pe_int (pa_cons pe_int pa_nil)))) (gn 4 scBLift.nd) (pss_one (ps_if (pt_val (call_ G hr (pa_cons (pv 0) (pa_cons (pv 1) (pa_cons (pe_starD (pv 3) (pv 2) (pv 4)) pa_nil))))) (pss_one (ps_ret (pv 4))) pss_nil))) (pss_one ps_never), ?_⟩
  refine ⟨(by show 2 ≤ sizeLine; decide), fun t ht => ?_⟩
  have S0 : Same H (upd H t (.tup [.int 0, .int 1])) := same_new ht
  refine ⟨t, rfl, ⟨_, .inl (.inl upd_same)⟩, for_tupE encB2 (xs := [false, true]) (H0 := upd H t (.tup [.int 0, .int 1])) (fun done σ H' => (∃ y, σ = [some v0, some v1, some (.str n), some (.ref d), y]) ∧ Same (upd H t (.tup [.int 0, .int 1])) H' ∧ ∀ b ∈ done, Mth.hT (Mth.setA a n b) cs = false)
    (.inl (.inl upd_same)) (.cons (.int _) (.cons (.int _) .nil)) ⟨⟨none, rfl⟩, .refl _, (fun _ h => by cases h)⟩ (fun _ _ _ h => .of h.2.1) (fun done b rest v σ H' he hP hv' => ?_) (fun σ H' hP => ?_)⟩
  · obtain ⟨⟨y, rfl⟩, hS, hf⟩ := hP
    have S1 := S0.trans hS
    rw [dp_int hv']
    refine ⟨_, rfl, _, rfl, fun p hp => ⟨_, rfl, d, asg ns a, rfl, ?_, .inl ?_, upd_same, by rw [asg_len]; omega, _, rfl, _, rfl, Sum.inr n, rfl, valV_asg_none hn, upd_same, fun H2 hS2 => ?_⟩⟩
    · exact ne_of_none (S1 _ _ h2) hp
    · exact (S1.trans (same_new hp)) _ _ h2
    · have e2 : (upd (upd (upd H' p (.dK [])) p (.dK (asg ns a))) p (.dK (asg ns a ++ [(Sum.inr n, .int (b2 b))]))) = upd H' p (.dK (asg (ns ++ [n]) (Mth.setA a n b))) := by
        rw [asg_snoc hn]
        funext x
        by_cases hx : x = p
        · subst hx; rw [upd_same, upd_same]
        · rw [upd_ne hx, upd_ne hx, upd_ne hx, upd_ne hx]
      rw [e2] at hS2
      have S2 := S1.trans ((same_new hp).trans hS2)
      refine ⟨v0, v1, p, cs, ms, ns ++ [n], Mth.setA a n b, rfl, hK.same S2, dp_tg (.of S2) _ _ (pure_th _ _) h1, hS2 _ _ upd_same, hv, _, rfl, ?_⟩
      cases e : Mth.hT (Mth.setA a n b) cs with
      | true => exact iteT ⟨_, rfl, q b _ e S2⟩
      | false =>
        refine iteF ⟨⟨_, rfl⟩, hS.trans ((same_new hp).trans hS2), fun b' hb' => ?_⟩
        rcases List.mem_append.mp hb' with z | z
        · exact hf b' z
        · rw [List.mem_singleton.mp z]; exact e
  · obtain ⟨⟨y, rfl⟩, hS, hf⟩ := hP
    obtain ⟨b, hb⟩ := hex
    rw [hf b (by cases b <;> simp)] at hb
    cases hb
/-! ### Bits.ground -/
def spBGround (K : PySem.W.Frag) (C : Addr) : Sp := fun vs H Q _ => ∃ (v0 v1 : V) (cs : List Cl) (ms : List Str) (a : Str → Bool), vs = [v0, v1] ∧ Kd C H v0 ∧ Dp K H v1 (dTh ms cs) ∧ (∀ c ∈ cs, c = []) ∧
  (Mth.hT a cs = false → ∀ H', Same H H' → Q .non H') ∧ (Mth.hT a cs = true → ∀ p H', Same H H' → H' p = some (.dK []) → Q (.ref p) H')
theorem ok_bGround (T : AtM K C "ground" "Bits.ground" sBGround) (G : Def P w K mg base 2 "satisfies" ["kind", "theory", "assignment"] (spSat K C)) : MDef P w K mg base C 3 "ground" ["self", "theory"] (spBGround K C) := by
  refine T.def scBGround (fun vs H Q E h => ?_) (fun _ _ _ _ _ _ us hl => match us, hl with | [_, _], _ => rfl) (fun f cdv A outer s H vs Q E hr h => ?_)
  · obtain ⟨v0, v1, cs, ms, a, rfl, _⟩ := h; rfl
  obtain ⟨v0, v1, cs, ms, a, rfl, hK, h1, hv, qn, qs⟩ := h
  refine ⟨_, pss_one (ps_ret (pe_ifExp (pt_val (call_ G hr (pa_cons (pv 0) (pa_cons (pv 1) (pa_cons pe_dnewK pa_nil))))) pe_dnewK pe_non)), ?_⟩
  refine ⟨_, rfl, _, rfl, fun p hp => ?_⟩
  have S1 : Same H (upd H p (.dK [])) := same_new hp
  refine ⟨v0, v1, p, cs, ms, [], a, rfl, hK.same S1, dp_tg (.of S1) _ _ (pure_th _ _) h1, upd_same, (fun c hc l hl => by rw [hv c hc] at hl; cases hl), _, rfl, ?_⟩
  cases e : Mth.hT a cs with
  | true => exact iteT fun p2 hp2 => qs e p2 _ (S1.trans (same_new hp2)) upd_same
  | false => exact iteF (qn e _ S1)
end
end Sh
end
section
namespace Sh
open PySem PySem.Spec L2
abbrev sEliminated : Stmt := top 10
theorem scEliminated : FnScope ["kind", "theory", "names", "theories", "name"] ["kind", "theory", "names"] (defScope sEliminated) := ⟨rfl, rfl, rfl, by decide +kernel, rfl, by decide +kernel, by decide +kernel⟩
abbrev sLifted : Stmt := top 11
theorem scLifted : FnScope ["kind", "theories", "names", "assignment", "found", "k"] ["kind", "theories", "names", "assignment"] (defScope sLifted) := ⟨rfl, rfl, rfl, by decide +kernel, rfl, by decide +kernel, by decide +kernel⟩
abbrev sSolve : Stmt := top 12
theorem scSolve : FnScope ["kind", "theory", "names", "theories", "ground"] ["kind", "theory"] (defScope sSolve) := ⟨rfl, rfl, rfl, by decide +kernel, rfl, by decide +kernel, by decide +kernel⟩
abbrev ThP := List Str × List Cl
def dThP (q : ThP) : PyData := dTh q.1 q.2
theorem encTh : Enc dThP where
  pure q := pure_th _ _
  eqv a b := by
    simp only [dThP, dTh, PyData.eqv, PyData.eqvAll, Bool.and_true]
    rw [encNm.eqv, encCls.eqv, ← Bool.decide_and]
    exact decide_eq_decide.mpr ⟨fun ⟨h1, h2⟩ => Prod.ext h1 h2, fun e => by rw [e]; exact ⟨rfl, rfl⟩⟩
  lay q := by
    have h1 := encNm.lay q.1
    have h2 := encCls.lay q.2
    simp [dThP, dTh, PyData.plain, PyData.plainAll, h1, h2]
  dep q := by
    have h1 : (dNm q.1).depth ≤ 1 := by
      simp only [dNm, PyData.depth]
      have := dep_all (f := fun x : Str => PyData.str x) (k := 0) (fun a => Nat.le_refl _) q.1
      omega
    have h2 : (dCls q.2).depth ≤ 3 := by
      simp only [dCls, PyData.depth]
      have := dep_all (f := dCl) (k := 2) dep_cl q.2
      omega
    simp only [dThP, dTh, PyData.depth, PyData.depthAll]
    omega
/-- k names eliminated, from the last -/
structure Ch (ns : List Str) (cs : List Cl) (Ts : List ThP) (k : Nat) : Prop where
  len : Ts.length = k + 1
  zero : Ts[0]? = some (ns, cs)
  th : ∀ j T, Ts[j]? = some T → T.1 = ns.take (ns.length - j) ∧ Th T.1 T.2
  step : ∀ j T U n, Ts[j]? = some T → Ts[j + 1]? = some U → ns[ns.length - 1 - j]? = some n → Mth.ElimOk T.2 n U.2
theorem Ch.start {ns : List Str} {cs : List Cl} (h : Th ns cs) : Ch ns cs [(ns, cs)] 0 :=
  ⟨rfl, rfl, fun j T e => by
    match j, e with
    | 0, e => cases e; exact ⟨by simp, h⟩
    | j + 1, e => simp at e, fun j T U n e1 e2 => by simp at e2⟩
theorem take_filter {ns : List Str} (hn : ns.Nodup) {m : Nat} {x : Str} (h : ns[m]? = some x) : (ns.take (m + 1)).filter (fun y => decide (y ≠ x)) = ns.take m := by
  have e := take_snoc h
  rw [e, List.filter_append, List.filter_eq_self.mpr, List.filter_cons_of_neg (by simp), List.filter_nil, List.append_nil]
  intro y hy
  refine decide_eq_true fun z => ?_
  subst z
  have h2 : (ns.take (m + 1)).Nodup := List.Nodup.sublist (List.take_sublist _ _) hn
  rw [e] at h2
  exact (List.nodup_append.mp h2).2.2 y hy y (List.mem_singleton.mpr rfl) rfl
theorem Ch.more {ns : List Str} {cs : List Cl} {Ts : List ThP} {k : Nat} {T : ThP} {n : Str} {L : List Cl} (h : Ch ns cs Ts k) (hk : k < ns.length) (hT : Ts[k]? = some T) (hn : ns[ns.length - 1 - k]? = some n) (hL : Th (ns.take (ns.length - (k + 1))) L) (hE : Mth.ElimOk T.2 n L) :
    Ch ns cs (Ts ++ [(ns.take (ns.length - (k + 1)), L)]) (k + 1) := by
  have hl := h.len
  refine ⟨by rw [List.length_append, hl]; rfl, by rw [List.getElem?_append_left (by omega)]; exact h.zero, fun j U e => ?_, fun j U W m e1 e2 e3 => ?_⟩
  · by_cases hj : j < Ts.length
    · rw [List.getElem?_append_left hj] at e; exact h.th j U e
    · have hj2 := (List.getElem?_eq_some_iff.mp e).1
      rw [List.length_append, List.length_singleton] at hj2
      have : j = Ts.length := by omega
      subst this
      rw [List.getElem?_append_right (Nat.le_refl _), Nat.sub_self] at e
      cases e
      rw [hl]
      exact ⟨rfl, hL⟩
  · by_cases hj : j + 1 < Ts.length
    · rw [List.getElem?_append_left hj] at e2
      rw [List.getElem?_append_left (by omega)] at e1
      exact h.step j U W m e1 e2 e3
    · have hj2 := (List.getElem?_eq_some_iff.mp e2).1
      rw [List.length_append, List.length_singleton] at hj2
      have : j = k := by omega
      subst this
      rw [List.getElem?_append_right (by omega)] at e2
      have : j + 1 - Ts.length = 0 := by omega
      rw [this] at e2
      cases e2
      rw [List.getElem?_append_left (by omega), hT] at e1
      cases e1
      rw [hn] at e3
      cases e3
      exact hE
section
variable {P : Program} {w : World} {K : PySem.W.Frag} {mg : Str → Option Value} {base : Heap} {C : Addr}
/-! ### eliminated -/
theorem revL (K : PySem.W.Frag) {X : Cx} {e : Expr} {te : TE} {k : Nat} {p1 p2 p3 pos : Pos} (he : PE X e te) (hK : X.K = K := by rfl) : PE X (.Subscript e (.Slice none none (some (.UnaryOp .USub (.Constant (.int 1) k p1) p2)) p3) pos) (tRevL K te) := by
  subst hK; exact pe_revL he
def spEliminated (K : PySem.W.Frag) (C : Addr) : Sp := fun vs H Q _ => ∃ (v0 v1 v2 : V) (ns : List Str) (cs : List Cl), vs = [v0, v1, v2] ∧ Kd C H v0 ∧ Dp K H v1 (dTh ns cs) ∧ Th ns cs ∧ Dp K H v2 (.list (ns.map .str)) ∧
  ∀ Ts, Ch ns cs Ts ns.length → Give K H (.list (Ts.map dThP)) Q
theorem ok_eliminated (T : At K mg "eliminated" sEliminated) (cl : Cls K C) (G : MDef P w K mg base C 4 "eliminate" ["self", "theory", "name"] (spBElim K)) : Def P w K mg base 5 "eliminated" ["kind", "theory", "names"] (spEliminated K C) := by
  refine T.def scEliminated (fun vs H Q E h => ?_) (fun _ _ _ _ _ _ us hl => match us, hl with | [_, _, _], _ => rfl) (fun f cdv A outer s H vs Q E hr h => ?_)
  · obtain ⟨v0, v1, v2, ns, cs, rfl, _⟩ := h; rfl
  obtain ⟨v0, v1, v2, ns, cs, rfl, hK, h1, hT, h2, q⟩ := h
  obtain ⟨kp, kx, rfl, hk⟩ := hK
  refine ⟨_, pss_cons (st_ 3 scEliminated.nd (pe_lst (pa_cons (pv 1) pa_nil))) (pss_cons (for_ (pi_list (pe_revL (pv 2))) (gn 4 scEliminated.nd)
      (pss_one (app_ (pv 3) (meth_ cl G hr (pv 0) (pa_cons (pe_ix ix_list (pv 3) (pe_un un_neg pe_int) (fun _ _ => rfl)) (pa_cons (pv 4) pa_nil))))))
    (pss_one (ps_ret (pv 3)))), ?_⟩
  cases h2 with
  | @lst a xs _ hs ha =>
    refine ⟨_, rfl, (by show 1 ≤ sizeLine; decide), fun p hp => ?_⟩
    have S0 : Same H (upd H p (.lst [v1])) := same_new hp
    have hL0 : Ls K (upd H p (.lst [v1])) p dThP [(ns, cs)] := ⟨[v1], upd_same, .cons (dp_tg (.of S0) _ _ (pure_th _ _) h1) .nil⟩
    refine ⟨_, rfl, a, xs, rfl, S0.seq hs, fun r hr' => ?_⟩
    have nrp : r ≠ p := fun e => by rw [e, upd_same] at hr'; cases hr'
    have S1 := S0.trans (same_new (o := .lst xs.reverse) hr')
    have hrev : DpAll K H xs.reverse (ns.reverse.map .str) := by have := all_rev ha; rw [← List.map_reverse] at this; exact this
    refine ⟨r, rfl, ⟨xs.reverse, .inl (.inl upd_same)⟩, for_listE (f := PyData.str) (xs := ns.reverse) (vs := xs.reverse) (H0 := H) encStr
      (fun done σ H' => ∃ Ts y, σ = [some (.ref kp), some v1, some (.ref a), some (.ref p), y] ∧ Same H H' ∧ H' r = some (.lst xs.reverse) ∧ Ls K H' p dThP Ts ∧ Ch ns cs Ts done.length) hrev ⟨[(ns, cs)], none, rfl, S1, upd_same, hL0.same encTh (same_new hr'), .start hT⟩
      (fun done σ1 H1 ⟨_, _, _, s, e, _⟩ => ⟨.of s, .inl (.inl e)⟩) (fun done x rest v σ1 H1 he hP hv => ?_) (fun σ1 H1 hP => ?_)⟩
    · obtain ⟨Ts, y, rfl, hS, hre, ⟨ws, hpe, had⟩, hC⟩ := hP
      have hv' := dp_str hv
      subst hv'
      have hlen := congrArg List.length he
      rw [List.length_reverse, List.length_append, List.length_cons] at hlen
      have hk2 : done.length < ns.length := by omega
      have hx : ns[ns.length - 1 - done.length]? = some x := by
        have : ns.reverse[done.length]? = some x := by rw [he, List.getElem?_append_right (Nat.le_refl _), Nat.sub_self]; rfl
        rw [List.getElem?_reverse hk2] at this
        exact this
      have hTl := hC.len
      obtain ⟨T, hTk⟩ : ∃ T, Ts[done.length]? = some T := ⟨_, List.getElem?_eq_getElem (by omega)⟩
      obtain ⟨u, hu, hdu⟩ := all_get' had hTk
      have lw := allf_len had
      have hul : atI ws (-1) = some u := by
        have hne : ws ≠ [] := fun e => by rw [e] at hu; simp at hu
        have e1 := List.dropLast_concat_getLast hne
        have e2 : ws.getLast hne = u := by
          have := List.getLast_eq_getElem hne
          rw [this]
          have h3 := (List.getElem?_eq_some_iff.mp hu).2
          have h4 : ws.length - 1 = done.length := by omega
          simpa [h4] using h3
        rw [← e1, e2]
        exact atI_last _ _
      obtain ⟨hT1, hT2⟩ := hC.th _ _ hTk
      refine ⟨_, rfl, tyL hpe, _, rfl, kp, kx, _, rfl, hS _ _ hk, rfl, _, rfl, _, rfl, p, ws, _, u, rfl, rfl, .inl (.inl hpe), hul, ?_⟩
      refine ⟨_, rfl, _, u, x, T.2, T.1, rfl, hdu, hT2, fun ms L hms hL hE v3 H3 hS3 hd3 => ?_⟩
      have hms' : ms = ns.take (ns.length - (done.length + 1)) := by
        rw [hms, hT1]
        have e : ns.length - done.length = ns.length - 1 - done.length + 1 := by omega
        rw [e, take_filter (Mth.Srt.nodup hT.asc) hx]
        congr 1
        omega
      rw [hms'] at hL hd3
      have hpe3 := hS3 _ _ hpe
      refine ⟨p, ws, v3, rfl, rfl, hpe3, Nat.lt_of_le_of_lt (by have := hT.len; omega : ws.length ≤ 100) (by decide), Ts ++ [(ns.take (ns.length - (done.length + 1)), L)], _, rfl, same_mut (hS.trans hS3) hp, ?_, Ls.push encTh hpe3 (encTh.tgs (.of hS3) had) hd3, ?_⟩
      · rw [upd_ne nrp]; exact hS3 _ _ hre
      · rw [List.length_append]
        exact hC.more hk2 hTk hx hL hE
    · obtain ⟨Ts, y, rfl, hS, hre, hL, hC⟩ := hP
      rw [List.length_reverse] at hC
      exact ⟨_, rfl, q Ts hC _ _ hS hL.dp⟩
/-! ### lifted -/
theorem len_ {X : Cx} {e : Expr} {te : TE} {p pos : Pos} (hm : X.mg "len" = none) (he : PE X e te) (hg : Gl X "len" := by rfl) (hs : starEach [e] X.env = (false, eval e X.env) :: starEach [] X.env := by rfl) :
    PE X (.Call (.Name "len" p) [e] [] pos) (tCB (fun xs H Q => ∃ p ys, xs = [.ref p] ∧ (SqL X.K H p ys ∨ SqT X.K H p ys) ∧ Q (.int ys.length) H) (tCons te tNil)) := pe_callB call_len_seq hg hm PySem.boot_len (pa_cons he pa_nil hs) (by decide) (by decide) hs
def spLifted (K : PySem.W.Frag) (C : Addr) : Sp := fun vs H Q _ => ∃ (v0 v1 v2 : V) (d : Addr) (ns : List Str) (cs : List Cl) (Ts : List ThP) (T : ThP) (a0 : Str → Bool), vs = [v0, v1, v2, .ref d] ∧ Kd C H v0 ∧ Dp K H v1 (.list (Ts.map dThP)) ∧ Th ns cs ∧ Ch ns cs Ts ns.length ∧ Dp K H v2 (.list (ns.map .str)) ∧
  H d = some (.dK []) ∧ Ts[ns.length]? = some T ∧ Mth.hT a0 T.2 = true ∧ ∀ a p H', Mth.hT a cs = true → Same H H' → H' p = some (.dK (asg ns a)) → Q (.ref p) H'
theorem ok_lifted (T : At K mg "lifted" sLifted) (md : mg "dict" = none) (mr : mg "range" = none) (ml : mg "len" = none) (cl : Cls K C) (G : MDef P w K mg base C 3 "lift" ["self", "theory", "name", "assignment"] (spBLift K C)) : Def P w K mg base 4 "lifted" ["kind", "theories", "names", "assignment"] (spLifted K C) := by
  refine T.def scLifted (fun vs H Q E h => ?_) (fun _ _ _ _ _ _ us hl => match us, hl with | [_, _, _, _], _ => rfl) (fun f cdv A outer s H vs Q E hr h => ?_)
  · obtain ⟨v0, v1, v2, d, ns, cs, Ts, T, a0, rfl, _⟩ := h; rfl
  obtain ⟨v0, v1, v2, d, ns, cs, Ts, Tl, a0, rfl, hK, h1, hT, hC, h2, hd, hTl, ha0, q⟩ := h
  obtain ⟨kp, kx, rfl, hk⟩ := hK
  refine ⟨_, pss_cons (st_ 4 scLifted.nd (pe_callTy call_dictD (by rfl) md (by decide +kernel) (pa_cons (pv 3) pa_nil))) (pss_cons (for_ (pi_range1 (by rfl) mr (pa_cons (len_ ml (pv 2)) pa_nil)) (gn 5 scLifted.nd)
      (pss_one (ps_dput (hu_of hr) (pv 4) (pe_ix ix_list (pv 2) (pv 5) (fun _ _ => rfl)) (meth_ cl G hr (pv 0) (pa_cons (pe_ix ix_list (pv 1) (pe_op op_sub (pe_op op_sub (len_ ml (pv 2)) pe_int) (pv 5)) (fun _ _ => rfl)) (pa_cons (pe_ix ix_list (pv 2) (pv 5) (fun _ _ => rfl)) (pa_cons (pv 4) pa_nil)))) rfl)))
    (pss_one (ps_ret (pv 4)))), ?_⟩
  cases h1 with
  | @lst a1 ts _ hts hdt =>
  cases h2 with
  | @lst a2 xs _ hxs hdx =>
    have lx := allf_len hdx
    have hx0 := strs_all hdx
    have nl := hT.len
    have nd : ns.Nodup := Mth.Srt.nodup hT.asc
    refine ⟨_, rfl, d, [], rfl, .inl hd, fun p hp => ?_⟩
    have S0 : Same H (upd H p (.dK [])) := same_new hp
    refine ⟨_, rfl, a2, xs, rfl, .inl (S0.seq hxs), _, rfl, by omega, by omega, for_range (lo := 0) (n := xs.length) (fun k σ H' => ∃ a y T, σ = [some (.ref kp), some (.ref a1), some (.ref a2), some (.ref d), some (.ref p), y] ∧ Same H H' ∧ H' p = some (.dK (asg (ns.take k) a)) ∧ Ts[ns.length - k]? = some T ∧ Mth.hT a T.2 = true)
      ⟨a0, none, Tl, rfl, S0, upd_same, hTl, ha0⟩ (fun k σ H1 hk1 hP => ?_) (fun σ H1 hP => ?_)⟩
    · obtain ⟨a, y, T, rfl, hS, hpe, hTe, hh⟩ := hP
      have hk2 : k < ns.length := by omega
      obtain ⟨n, hn⟩ : ∃ n, ns[k]? = some n := ⟨_, List.getElem?_eq_getElem hk2⟩
      have hxn : xs[k]? = some (.str n) := by rw [hx0, List.getElem?_map, hn]; rfl
      have hTlen := hC.len
      obtain ⟨U, hU⟩ : ∃ U, Ts[ns.length - 1 - k]? = some U := ⟨_, List.getElem?_eq_getElem (by omega)⟩
      obtain ⟨u, hu, hdu⟩ := all_get' hdt hU
      obtain ⟨hU1, hU2⟩ := hC.th _ _ hU
      have eN : ns.length - (ns.length - 1 - k) = k + 1 := by omega
      rw [eN] at hU1
      have hE := hC.step (ns.length - 1 - k) U T n hU (by rw [show ns.length - 1 - k + 1 = ns.length - k by omega]; exact hTe) (by rw [show ns.length - 1 - (ns.length - 1 - k) = k by omega]; exact hn)
      have hnn : n ∉ ns.take k := fun hm => by
        have h2 : (ns.take (k + 1)).Nodup := List.Nodup.sublist (List.take_sublist _ _) nd
        rw [take_snoc hn] at h2
        exact (List.nodup_append.mp h2).2.2 n hm n (List.mem_singleton.mpr rfl) rfl
      have hix : ((xs.length : Int) - 1 - (0 + (k : Int))) = ((ns.length - 1 - k : Nat) : Int) := by omega
      refine ⟨_, rfl, kp, kx, _, rfl, hS _ _ hk, rfl, _, rfl, _, rfl, a2, xs, rfl, .inl (hS.seq hxs), _, _, rfl, rfl, _, rfl, _, _, rfl, rfl, a1, ts, _, u, rfl, rfl, hS.seq hts, by rw [hix]; exact atI_nat hu, ?_⟩
      refine ⟨_, rfl, _, rfl, a2, xs, _, _, rfl, rfl, hS.seq hxs, by rw [Int.zero_add]; exact atI_nat hxn, _, rfl, ?_⟩
      refine ⟨_, u, n, p, U.2, U.1, ns.take k, a, rfl, ⟨kp, kx, rfl, hS _ _ hk⟩, encTh.tg (.of hS) hdu, hpe, hnn, by rw [List.length_take]; omega, fun c hc l hl => ?_, (hE a).mp hh, fun b H2 hb hS2 => ?_⟩
      · have := (hU2.vc c hc).sub l hl
        rw [hU1, take_snoc hn] at this
        exact this
      · have hpe2 := hS2 _ _ hpe
        have hS3 := hS.trans hS2
        refine ⟨_, rfl, _, rfl, _, rfl, a2, xs, _, _, rfl, rfl, hS3.seq hxs, by rw [Int.zero_add]; exact atI_nat hxn, p, _, rfl, DPut.k (k := Sum.inr n) hpe2 (by rw [asg_len, List.length_take]; exact Nat.lt_of_le_of_lt (by omega : min k ns.length ≤ 5) (by decide)), ?_⟩
        rw [putK_new _ (valV_asg_none hnn), asg_snoc hnn, ← take_snoc hn]
        exact ⟨Mth.setA a n b, _, U, rfl, same_mut hS3 hp, upd_same, by rw [show ns.length - (k + 1) = ns.length - 1 - k by omega]; exact hU, hb⟩
    · obtain ⟨a, y, T, rfl, hS, hpe, hTe, hh⟩ := hP
      rw [lx] at hTe hpe
      rw [Nat.sub_self, hC.zero] at hTe
      cases hTe
      rw [List.take_length] at hpe
      exact ⟨_, rfl, q a p _ hh hS hpe⟩
/-! ### solve -/
theorem Ch.down {ns : List Str} {cs : List Cl} {Ts : List ThP} {k : Nat} (h : Ch ns cs Ts k) (hk : k ≤ ns.length) {a : Str → Bool} (ha : Mth.hT a cs = true) : ∀ j, j ≤ k → ∀ T, Ts[j]? = some T → Mth.hT a T.2 = true
  | 0, _, T, e => by rw [h.zero] at e; cases e; exact ha
  | j + 1, hj, T, e => by
    have hl := h.len
    obtain ⟨U, hU⟩ : ∃ U, Ts[j]? = some U := ⟨_, List.getElem?_eq_getElem (by omega)⟩
    have ih := h.down hk ha j (by omega) U hU
    obtain ⟨n, hn⟩ : ∃ n, ns[ns.length - 1 - j]? = some n := ⟨_, List.getElem?_eq_getElem (by omega)⟩
    exact (h.step j U T n hU e hn a).mpr ⟨a n, by rw [Mth.setA_self]; exact ih⟩
theorem hT_nil {cs : List Cl} (h : ∀ c ∈ cs, c = []) (a b : Str → Bool) : Mth.hT a cs = Mth.hT b cs := by
  cases cs with
  | nil => rfl
  | cons c cs =>
    have e := h c List.mem_cons_self
    subst e
    unfold Mth.hT
    rw [List.all_cons, List.all_cons]
    rfl
def spSolve (K : PySem.W.Frag) (C : Addr) : Sp := fun vs H Q _ => ∃ (v0 v1 : V) (ns : List Str) (cs : List Cl), vs = [v0, v1] ∧ Kd C H v0 ∧ Dp K H v1 (dTh ns cs) ∧ Th ns cs ∧
  ((∀ a, Mth.hT a cs = false) → ∀ H', Same H H' → Q .non H') ∧ ∀ a p H', Mth.hT a cs = true → Same H H' → H' p = some (.dK (asg ns a)) → Q (.ref p) H'
theorem ok_solve (T : At K mg "solve" sSolve) (ml : mg "list" = none) (cl : Cls K C) (G1 : Def P w K mg base 5 "eliminated" ["kind", "theory", "names"] (spEliminated K C)) (G2 : MDef P w K mg base C 3 "ground" ["self", "theory"] (spBGround K C))
    (G3 : Def P w K mg base 4 "lifted" ["kind", "theories", "names", "assignment"] (spLifted K C)) : Def P w K mg base 6 "solve" ["kind", "theory"] (spSolve K C) := by
  refine T.def scSolve (fun vs H Q E h => ?_) (fun _ _ _ _ _ _ us hl => match us, hl with | [_, _], _ => rfl) (fun f cdv A outer s H vs Q E hr h => ?_)
  · obtain ⟨v0, v1, ns, cs, rfl, _⟩ := h; rfl
  obtain ⟨v0, v1, ns, cs, rfl, hK, h1, hT, qn, qs⟩ := h
  obtain ⟨kp, kx, rfl, hk⟩ := hK
  refine ⟨_, pss_cons (st_ 2 scSolve.nd (list_ ml (ixT (pv 1) pe_int))) (pss_cons (st_ 3 scSolve.nd (call_ G1 hr (pa_cons (pv 0) (pa_cons (pv 1) (pa_cons (pv 2) pa_nil)))))
    (pss_cons (st_ 4 scSolve.nd (meth_ cl G2 hr (pv 0) (pa_cons (pe_ix ix_list (pv 3) (pe_un un_neg pe_int) (fun _ _ => rfl)) pa_nil)))
    (pss_cons (ps_if (tC_ o_isN (pv 4) pe_non) (pss_one (ps_ret pe_non)) pss_nil)
    (pss_one (ps_ret (call_ G3 hr (pa_cons (pv 0) (pa_cons (pv 3) (pa_cons (pv 2) (pa_cons (pv 4) pa_nil)))))))))), ?_⟩
  obtain ⟨a, w1, w2, rfl, hs, hw1, hw2⟩ := dp_th h1
  obtain ⟨an, rfl, hsn⟩ := dp_nm hw1
  refine ⟨_, rfl, a, _, _, _, rfl, rfl, hs, at0, an, _, rfl, .inr hsn, fun l hl => ?_⟩
  have S0 : Same H (upd H l (.lst (ns.map V.str))) := same_new hl
  refine ⟨_, rfl, _, rfl, _, rfl, _, _, _, ns, cs, rfl, ⟨kp, kx, rfl, S0 _ _ hk⟩, dp_tg (.of S0) _ _ (pure_th _ _) h1, hT, .lst (.inl (.inl upd_same)) (mk_strs ns), fun Ts hC vT H1 hS1 hdT => ?_⟩
  have hlen := hC.len
  obtain ⟨T, hTe⟩ : ∃ T, Ts[ns.length]? = some T := ⟨_, List.getElem?_eq_getElem (by omega)⟩
  obtain ⟨hT1, hT2⟩ := hC.th _ _ hTe
  rw [Nat.sub_self, List.take_zero] at hT1
  have hnil : ∀ c ∈ T.2, c = [] := fun c hc => by
    have hv := hT2.vc c hc
    rw [hT1] at hv
    match c, hv with
    | [], _ => rfl
    | l :: _, hv => exact absurd (hv.sub l List.mem_cons_self) (by simp)
  have Sk := S0.trans hS1
  cases hdT with
  | @lst at' ts _ hts hdt =>
    have lts := allf_len hdt
    obtain ⟨u, hu, hdu⟩ := all_get' hdt hTe
    have hul : atI ts (-1) = some u := by
      have hne : ts ≠ [] := fun e => by rw [e] at hu; simp at hu
      have e1 := List.dropLast_concat_getLast hne
      have e2 : ts.getLast hne = u := by
        have := List.getLast_eq_getElem hne
        rw [this]
        have h3 := (List.getElem?_eq_some_iff.mp hu).2
        have h4 : ts.length - 1 = ns.length := by omega
        simpa [h4] using h3
      rw [← e1, e2]
      exact atI_last _ _
    refine ⟨_, rfl, kp, kx, _, rfl, Sk _ _ hk, rfl, _, rfl, _, rfl, at', ts, _, u, rfl, rfl, hts, hul, _, u, T.2, T.1, (fun _ => false), rfl, ⟨kp, kx, rfl, Sk _ _ hk⟩, hdu, hnil, fun hf H2 hS2 => ?_, fun ht p H2 hS2 hpe => ?_⟩
    · refine ⟨_, rfl, rfl, fun _ => ⟨_, rfl, iteT ?_⟩, fun e => absurd rfl e⟩
      refine qn (fun a' => ?_) _ (Sk.trans hS2)
      cases e : Mth.hT a' cs with
      | false => rfl
      | true =>
        have := hC.down (Nat.le_refl _) e ns.length (Nat.le_refl _) T hTe
        rw [hT_nil hnil a' (fun _ => false), hf] at this
        cases this
    · refine ⟨_, rfl, rfl, (fun e => nomatch e), fun _ => ⟨_, rfl, iteF ?_⟩⟩
      have Sn := S0.trans (hS1.trans hS2)
      have hl2 : H2 l = some (.lst (ns.map V.str)) := (hS1.trans hS2) _ _ upd_same
      exact ⟨_, rfl, _, rfl, _, rfl, _, rfl, _, _, _, p, ns, cs, Ts, T, (fun _ => false), rfl, ⟨kp, kx, rfl, Sn _ _ hk⟩, .lst (hS2.seq hts) (encTh.tgs (.of hS2) hdt), hT, hC, .lst (.inl (.inl hl2)) (mk_strs ns), hpe, hTe, ht, fun a' p' H3 h3 hS3 hp3 => qs a' p' H3 h3 (Sn.trans hS3) hp3⟩
end
end Sh
end
section
namespace Sh
open PySem PySem.Spec PyProof.Rows L2
/-! ### list(reversed(list)) -/
section
variable {prog : Program} {w : World} {A : Around} {E : Value → Shared → Prop} {s : Shared}
theorem init_rev {it l S : Addr} {items : Array Value} {R : Result → Shared → Prop} (hh : A.handled = none) (hit : s.heap.IsRevIter it l ((items.size : Int) - 1)) (hl : s.heap.IsList l items) (hne : l ≠ it) (hSi : S ≠ it) (hSl : S ≠ l) (hn : items.size ≤ sizeLine)
    (hS : s.heap.get? S = some { cls := .type "list", data := .seq #[] })
    (hR : ∀ (h' : Heap) (tk : Nat) (acc : Array Value) (c : Nat), (∀ b o, b ≠ it → b ≠ S → s.heap.get? b = some o → h'.get? b = some o) → h'.get? S = some { cls := .type "list", dict := none, data := .seq acc c, slots := #[] } →
      ItemsOf (fun i v => items[items.size - 1 - i]? = some v) acc items.size → R (.ok (.ret .none)) { s with heap := h', toks := tk }) :
    wpAny (model prog w) A.in1 (Builtin.«list.__init__» ⟨[.ref S, .ref it], []⟩)
      (fun fin s' => match fin with | .done f => R (.ok f) s' | .again c' => c'.quiet = true ∧ codeAny (model prog w) A c' R s') (fun e s' => R (.error e) s') s := by
  show wpAny _ _ (do let old ← Builtin.List.listItems (.ref S); Builtin.List.listUpdate (.ref S) (fun _ => #[]); letGo old.toList.reverse; Builtin.List.listExtendWith (.ref S) (.ref it) .none) _ _ s
  refine wpAny_bind ?_
  unfold Builtin.List.listItems
  refine wpAny_bind (wpAny_seqItems hS rfl (wpAny_pure ?_))
  show wpAny _ _ (updateSeq S (fun _ => #[]) >>= fun _ => letGo (#[] : Array Value).toList.reverse >>= fun _ => Builtin.List.listExtendWith (.ref S) (.ref it) .none) _ _ s
  refine wpAny_bind (wpAny_updateSeq hS rfl ?_)
  have hS₂ := Heap.get?_update_self (Obj.mapSeq (fun _ => (#[] : Array Value))) hS rfl
  have oth : ∀ b o, b ≠ S → s.heap.get? b = some o → (s.heap.update S (Obj.mapSeq (fun _ => (#[] : Array Value)))).get? b = some o :=
    fun b o hb e => (Heap.get?_update_other _ _ (Ne.symm hb)).trans e
  refine wpAny_bind (wpAny_letGo ?_)
  generalize hh2 : s.heap.update S (Obj.mapSeq (fun _ => (#[] : Array Value))) = h2 at hS₂ oth ⊢
  have W := (Walks.listRev (prog := prog) (w := w) (A := A.in1) hh it l hne items).toS
  have hSf : S ∉ [it, l] := by simp only [List.mem_cons, List.not_mem_nil, or_false, not_or]; exact ⟨hSi, hSl⟩
  have hit1 : h2.IsRevIter it l ((items.size : Int) - 1) := hit.at fun o e => oth _ _ hSi.symm e
  have hl1 : h2.IsList l items := let ⟨o, ho, x⟩ := hl; ⟨o, oth _ _ hSl.symm ho, x⟩
  have hT : ({ s with heap := h2 } : Shared).TypeIs (.ref it) "list_reverseiterator" := Heap.IsRevIter.typeIs (s := { s with heap := h2 }) hit1
  have h1 : Builtin.List.listSameRef (.ref S) (.ref it) = false := by simp [Builtin.List.listSameRef, hSi]
  unfold Builtin.List.listExtendWith
  refine wpAny_bind (wpAny_typeOf hT ?_)
  rw [if_neg (by rw [h1]; decide)]
  refine wpAny_bind (wpAny_pyIter_revIter (s := { s with heap := h2 }) hit1 ?_)
  refine wpAny_bind (wpAny_holding ?_)
  unfold Builtin.List.listLengthHint
  refine wpAny_bind (wpAny_specialOf hT RT.nolen_lri ?_)
  show wpAny _ A.in1 (specialOf (Value.ref it) (Str.ofString "__length_hint__") >>= _) _ _ _
  refine wpAny_bind (wpAny_specialOf hT RT.hint_lri ?_)
  generalize hid : ("list_reverseiterator.__length_hint__" : String) = id0
  wp_delta
  rw [show splitId id0 = some ("list_reverseiterator", "__length_hint__") from by subst hid; decide +kernel]
  subst hid
  refine wpAny_bind (wpAny_isInstance (b := true) hT (by rw [isSubtype_type]; kernel_rfl) ?_)
  refine wpAny_pure ?_
  rw [if_neg (by decide)]
  have e0 : ((items.size : Nat) : Int) - 1 - ((0 : Nat) : Int) = (items.size : Int) - 1 := by omega
  refine wpAny_pure ⟨plainId_quiet F.plain_extend_loop _, codeAny_extend_loopS W hn _ hSf _ items.size 0 _ _ _ rfl (Nat.zero_le _) ⟨Nat.zero_le _, by rw [e0]; exact hit1, hl1⟩ hS₂ (ItemsOf.nil _) fun s' acc' c' hm hS' hacc => ?_⟩
  rw [Moved.eq_with hm]
  refine hR s'.heap s'.toks acc' c' (fun b o hb hbS e => hm.heap b o (fun hmem => ?_) (oth b o hbS e)) hS' hacc
  rcases List.mem_cons.mp hmem with e' | hmem
  · exact hbS e'
  · exact hb (List.mem_singleton.mp hmem)
theorem call_list_rev {it l : Addr} {items : Array Value} {Q : Value → Shared → Prop} (hh : A.handled = none) (hit : s.heap.IsRevIter it l ((items.size : Int) - 1)) (hl : s.heap.IsList l items) (hne : l ≠ it) (hn : items.size ≤ sizeLine)
    (hQ : ∀ (h' : Heap) (tk : Nat) (acc : Array Value) (c : Nat), (∀ b o, b ≠ it → s.heap.get? b = some o → h'.get? b = some o) → h'.get? s.heap.objs.size = some { cls := .type "list", dict := none, data := .seq acc c, slots := #[] } →
      ItemsOf (fun i v => items[items.size - 1 - i]? = some v) acc items.size → Q (.ref s.heap.objs.size) { s with heap := h', toks := tk }) :
    wpAny (model prog w) A (call (.type "list") [.ref it]) Q E s := by
  refine callType_codes (Q₁ := fun obj s₁ => obj = .ref s.heap.objs.size ∧ s₁ = { s with heap := s.heap.push { cls := .type "list", data := .seq #[] } }) PySem.F.called_list (PySem.F.typeCall_list_1 _) PySem.F.entry_list_init
    (PySem.code_list_new _ ⟨rfl, rfl⟩) fun obj s₁ h₁ => ?_
  obtain ⟨rfl, rfl⟩ := h₁
  have hS : (s.heap.push { cls := .type "list", data := .seq #[] }).get? s.heap.objs.size = some { cls := .type "list", data := .seq #[] } := Heap.get?_push_size _ rfl
  obtain ⟨oi, hoi, _⟩ := id hit
  obtain ⟨ol, hol, _⟩ := id hl
  refine ⟨⟨_, hS, rfl⟩, PySem.F.args_list_init_2 _ _, init_rev (s := { s with heap := s.heap.push { cls := .type "list", data := .seq #[] } }) (A := A.in1) hh (hit.at fun o e => Heap.get?_push_of_some _ e) (hl.push _) hne (Nat.ne_of_gt (Heap.lt_size hoi)) (Nat.ne_of_gt (Heap.lt_size hol)) hn hS fun h' tk acc c hk hS' hacc => ?_⟩
  exact ⟨rfl, hQ h' tk acc c (fun b o hb e => hk b o hb (Nat.ne_of_lt (Heap.lt_size e)) (Heap.get?_push_of_some _ e)) hS' hacc⟩
end
section
variable {X : Cx}
/-- list(reversed(x)), x a list: a new list -/
def tListRev (K : PySem.W.Frag) (te : TE) : TE := fun σ H Q => te σ H fun v H1 => ∃ (a : Addr) (xs : List V), v = .ref a ∧ SqL K H1 a xs ∧ ∀ q, H1 q = none → Q (.ref q) (upd H1 q (.lst xs.reverse))
theorem pe_listRev {e : Expr} {te : TE} {p p2 pos pos2 : Pos} (hc : X.calm = true) (hm : X.mg "list" = none) (hm2 : X.mg "reversed" = none) (he : PE X e te) (hg : Gl X "list" := by rfl) (hg2 : Gl X "reversed" := by rfl)
    (hs : starEach [e] X.env = (false, eval e X.env) :: starEach [] X.env := by rfl)
    (hs2 : starEach [.Call (.Name "reversed" p2) [e] [] pos2] X.env = (false, eval (.Call (.Name "reversed" p2) [e] [] pos2) X.env) :: starEach [] X.env := by rfl) :
    PE X (.Call (.Name "list" p) [.Call (.Name "reversed" p2) [e] [] pos2] [] pos) (tListRev X.K te) := by
  refine ⟨fun pins s σ H Q I h => ?_⟩
  refine Call_ (ld_blt (u := .type "list") I hg hm (by decide +kernel) (PyProof.Rows.callWith_type1 (args_cons (Call_ (ld_blt I hg2 hm2 PyProof.Rows.boot_reversed (PyProof.Rows.callWith_type1 (args_cons (thn (he.run pins s σ H _ I h) fun u s1 ⟨v, H1, I1, r1, q1⟩ => args_nil ?_) hs) hs rfl))) hs2) hs2 rfl))
  obtain ⟨a, xs, ev, hq, q⟩ := q1
  subst ev
  obtain rfl : u = Value.ref a := r1
  obtain ⟨its, rv, p', hz⟩ := I1.list hq
  refine call_reversed_list p'.isList (args_nil ?_)
  have k0 : ∀ b o, s1.heap.get? b = some o → (s1.heap.push (revObj a ((its.toArray.size : Int) - 1))).get? b = some o := fun b o e => Heap.get?_push_of_some _ e
  have I2 : Inv X pins σ H1 { s1 with heap := s1.heap.push (revObj a ((its.toArray.size : Int) - 1)) } := I1.kept (t' := s1.toks) k0
  obtain ⟨f0, f1, f2, f3, f4, f5⟩ := I1.fpOk (H' := H1) (b := s1.heap.objs.size) (Nat.le_refl _) (I1.hok.fresh (Nat.le_refl _))
  have hl := p'.isList
  obtain ⟨ol, hol, _⟩ := id hl
  have hne : a ≠ s1.heap.objs.size := Nat.ne_of_lt (Heap.lt_size hol)
  have hn : its.toArray.size ≤ sizeLine := by rw [List.size_toArray, ← rv.length]; exact hz
  refine call_list_rev (s := { s1 with heap := s1.heap.push (revObj a ((its.toArray.size : Int) - 1)) }) (I1.ok.hd hc) ⟨_, Heap.get?_push_size _ rfl, rfl, rfl⟩ (hl.push _) hne hn fun h' tk acc c hk hS hi => ?_
  have I3 : Inv X pins σ H1 { s1 with heap := h', toks := tk } := I2.turned (t' := tk) (fun b o hb e => hk b o hb e) f0 f1 f3 f4 f5
  have hsz : (s1.heap.push (revObj a ((its.toArray.size : Int) - 1))).objs.size = s1.heap.objs.size + 1 := Heap.size_push _ _
  have hnew : H1 (s1.heap.push (revObj a ((its.toArray.size : Int) - 1))).objs.size = none := I1.hok.fresh (by rw [hsz]; exact Nat.le_succ _)
  have I4 : Inv X pins σ (upd H1 (s1.heap.push (revObj a ((its.toArray.size : Int) - 1))).objs.size (.lst xs.reverse)) { s1 with heap := h', toks := tk } :=
    I3.take (h' := h') (t' := tk) (fun b ob _ e => e) (I1.fpOk (by rw [hsz]; exact Nat.le_succ _) hnew) ⟨by rw [List.length_reverse]; exact hz, acc.toList, c, RT.vals_rev rv hi, by rw [Array.toArray_toList]; exact hS⟩
  exact ⟨.ref _, _, I4, rfl, q _ hnew⟩
end
/-! ### xs.extend(a tuple) -/
end Sh
namespace Sh
open PySem PySem.Spec PyProof.Rows
set_option maxRecDepth 8000 in
theorem extend_tup (l : Addr) (items : Array Value) (n : Nat) (b : Addr) (ob : Obj) (items2 : Array Value) (n2 : Nat) (hc : ob.cls = .type "tuple") (hd : ob.data = .seq items2 n2) (hs0 : ¬(!items.isEmpty && Builtin.List.listTooLong (items.size + items2.size)) = true) (hs1 : items.size ≤ sizeLine) (hs2 : items.size + items2.size ≤ sizeLine + 1) :
    Meets (Builtin.«list.extend» ⟨[.ref l, .ref b], []⟩) (fun _ R s => s.heap.get? l = some { cls := .type "list", dict := none, data := .seq items n, slots := #[] } ∧ s.heap.get? b = some ob ∧ R (.ok (.ret Value.none)) { s with heap := s.heap.update l (Obj.mapSeq fun x => x ++ items2), toks := s.toks }) :=
  .of_wp fun prog w A R s h => by
    obtain ⟨c0, dd, dt, sl⟩ := ob
    simp only at hc hd
    subst hc hd
    obtain ⟨hp, g, d, tk, os⟩ := s; obtain ⟨hl, hb, h⟩ := h; have f1 := AutoSeq1.idx_int; have f2 := AutoSeq1.sub_tuple_tuple; have f3 := AutoSeq1.sub_list_list; have f4 := AutoSeq1.sub_tuple_list; have f5 := AutoSeq1.sub_list_tuple
    have hz' : (items ++ items2).size ≤ sizeLine + 1 := by rw [Array.size_append]; exact hs2
    wp_walk using (wpAny_updateSeq hl rfl (hz := hs1) (_hz' := hz')), wpAny_loadPart' hl, wpAny_loadPart' hb; exact ⟨_, rfl, h⟩
end Sh
namespace Sh
open PySem PySem.Spec PyProof.Rows L2
def rExtT (K : PySem.W.Frag) : V → List V → Hp → VK → Prop := fun x vs H Q => ∃ l b xs zs, x = .ref l ∧ vs = [.ref b] ∧ H l = some (.lst xs) ∧ SqT K H b zs ∧ xs.length + zs.length ≤ 1000000 ∧ Q .non (upd H l (.lst (xs ++ zs)))
theorem mt_extT {X : Cx} : MtR X "list.extend" (rExtT X.K) := by
  intro pins s σ H x vs v us Q I rx rv h
  obtain ⟨l, b, xs, zs, rfl, rfl, hH, hB, hz, q⟩ := h
  cases rx
  obtain ⟨u, rfl, ru⟩ := rv.one
  cases ru
  obtain ⟨z, its, n, r, hl, e⟩ := I.lstM hH
  obtain ⟨its2, r2, ⟨ob, eb, hc, n2, hd⟩, hl2⟩ := I.tuple hB
  have l2 := r2.length
  have hsl : (1000000 : Nat) ≤ sizeLine := by decide
  have hsz : its.toArray.size + its2.toArray.size ≤ sizeLine := by rw [List.size_toArray, List.size_toArray]; omega
  have hlong : ¬ (!its.toArray.isEmpty && Builtin.List.listTooLong (its.toArray.size + its2.toArray.size)) = true := by
    rw [notLongL hsz, Bool.and_false]
    exact Bool.false_ne_true
  refine call_meets F.slot_list_extend ⟨_, e, rfl⟩ F.entry_list_extend (F.args_list_extend_2 _ _) (extend_tup l its.toArray n b ob its2.toArray n2 hc hd hlong (by rw [List.size_toArray]; omega) (by omega)) ⟨e, eb, ?_⟩
  refine ⟨.non, _, I.lset (its' := its ++ its2) hH e (by simp) (r.append r2) ?_, rfl, q⟩
  rw [List.length_append]
  omega
end Sh
end
section
namespace Sh
open PySem PySem.Spec L2
abbrev sBCounter : Stmt := inClass (top 30) 12
theorem scBCounter : FnScope ["self", "theory", "constraint", "against", "name", "sign"] ["self", "theory", "constraint"] (defScope sBCounter) := ⟨rfl, rfl, rfl, by decide +kernel, rfl, by decide +kernel, by decide +kernel⟩
abbrev sBPin : Stmt := inClass (top 30) 13
theorem scBPin : FnScope ["self", "names", "assignment", "name"] ["self", "names", "assignment"] (defScope sBPin) := ⟨rfl, rfl, rfl, by decide +kernel, rfl, by decide +kernel, by decide +kernel⟩
abbrev sMerge : Stmt := top 5
theorem scMerge : FnScope ["lists", "found", "names", "name"] (([] : List Str) ++ (["lists"] : List Str)) (defScope sMerge) := ⟨rfl, rfl, rfl, by decide +kernel, rfl, by decide +kernel, by decide +kernel⟩
abbrev sJoin : Stmt := top 32
theorem scJoin : FnScope ["theories", "names", "constraints", "theory"] ["theories"] (defScope sJoin) := ⟨rfl, rfl, rfl, by decide +kernel, rfl, by decide +kernel, by decide +kernel⟩
abbrev sShadow : Stmt := top 9
theorem scShadow : FnScope ["kind", "theory", "shown", "name"] ["kind", "theory", "shown"] (defScope sShadow) := ⟨rfl, rfl, rfl, by decide +kernel, rfl, by decide +kernel, by decide +kernel⟩
theorem pgTK {X : Cx} (K : PySem.W.Frag) {es : List Expr} {k : Nat} {t : TGs} {n : Nat} {pos : Pos} (hc : X.calm = true) (h : PGs X es t) (hK : X.K = K := by rfl)
    (hn : (assignEach es X.env).length = n := by rfl) (hst : (assignEach es X.env).findIdx? (·.1) = none := by rfl) : PG X (.Tuple es k pos) (gTup K n t) := by
  subst hK; exact pg_tup hc h hn hst
def neg (l : Lit) : Lit := (l.1, !l.2)
theorem hT_neg {cs : List Cl} {con : Cl} {a : Str → Bool} : Mth.hT a (cs ++ con.map fun l => [neg l]) = (Mth.hT a cs && !Mth.hC a con) := by
  unfold Mth.hT
  rw [List.all_append]
  congr 1
  rw [Bool.eq_iff_iff, List.all_eq_true, Bool.not_eq_true']
  constructor
  · intro h
    cases e : Mth.hC a con with
    | false => rfl
    | true =>
      obtain ⟨l, hl, e2⟩ := Mth.hC_iff.mp e
      obtain ⟨m, hm, e3⟩ := Mth.hC_iff.mp (h [neg l] (List.mem_map.mpr ⟨l, hl, rfl⟩))
      rw [List.mem_singleton.mp hm] at e3
      simp only [neg] at e3
      rw [e2] at e3
      cases l.2 <;> simp at e3
  · intro h c hc
    obtain ⟨l, hl, rfl⟩ := List.mem_map.mp hc
    refine Mth.hC_iff.mpr ⟨neg l, List.mem_singleton.mpr rfl, ?_⟩
    have : a l.1 ≠ l.2 := fun e => by rw [Mth.hC_iff.mpr ⟨l, hl, e⟩] at h; cases h
    show a l.1 = !l.2
    revert this
    cases a l.1 <;> cases l.2 <;> simp
theorem one_sub (b : Bool) : (1 : Int) - b2 b = b2 (!b) := by cases b <;> rfl
theorem vc_unit {ns : List Str} {l : Lit} (h : l.1 ∈ ns) : Mth.VC ns [l] := ⟨List.pairwise_singleton _ _, fun m hm => by rw [List.mem_singleton.mp hm]; exact h⟩
section
variable {P : Program} {w : World} {K : PySem.W.Frag} {mg : Str → Option Value} {base : Heap} {C : Addr}
/-! ### counterexample -/
def spBCounter (K : PySem.W.Frag) (C : Addr) : Sp := fun vs H Q _ => ∃ (v0 v1 v2 : V) (ns : List Str) (cs : List Cl) (con : Cl), vs = [v0, v1, v2] ∧ Kd C H v0 ∧ Dp K H v1 (dTh ns cs) ∧ Th ns cs ∧ cs.length ≤ 200 ∧ Dp K H v2 (dCl con) ∧ Mth.VC ns con ∧
  (Mth.Fol cs con → ∀ H', Same H H' → Q .non H') ∧ ∀ a p H', Mth.hT a cs = true → Mth.hC a con = false → Same H H' → H' p = some (.dK (asg ns a)) → Q (.ref p) H'
theorem ok_bCounter (T : AtM K C "counterexample" "Bits.counterexample" sBCounter) (G : Def P w K mg base 6 "solve" ["kind", "theory"] (spSolve K C)) : MDef P w K mg base C 7 "counterexample" ["self", "theory", "constraint"] (spBCounter K C) := by
  refine T.def scBCounter (fun vs H Q E h => ?_) (fun _ _ _ _ _ _ us hl => match us, hl with | [_, _, _], _ => rfl) (fun f cdv A outer s H vs Q E hr h => ?_)
  · obtain ⟨v0, v1, v2, ns, cs, con, rfl, _⟩ := h; rfl
  obtain ⟨v0, v1, v2, ns, cs, con, rfl, hK, h1, hT, hz, h2, hv, qn, qs⟩ := h
  refine ⟨_, pss_cons (ps_setLc (i := 3) (own := [("name", 4), ("sign", 5)]) (g := gTup K 2 (gCons (gName 4) (gCons (gName 5) gNil))) (tt := tYes) (by rfl) scBCounter.nd rfl rfl (sw_true rfl rfl rfl (by decide +kernel)) (pi_tup (pv 2)) (blkOk_by (N := ["self", "theory", "constraint", "against", "name", "sign"]) (sc := defScope sBCounter) (by decide +kernel))
      (fun _ _ _ _ _ => pgTK K (by rfl) (pgs_cons (gn 4 scBCounter.nd) (pgs_cons (gn 5 scBCounter.nd) pgs_nil))) (fun _ _ _ _ _ => pts_nil) (fun _ _ _ _ _ => pe_tup (pa_cons (pe_tup (pa_cons (pv 4) (pa_cons (pe_op op_sub pe_int (pv 5)) pa_nil))) pa_nil)))
    (pss_one (ps_ret (call_ G hr (pa_cons (pv 0) (pa_cons (pe_tup (pa_cons (ixT (pv 1) pe_int) (pa_cons (pe_tup (StX.pa_star (ixT (pv 1) pe_int) (StX.pa_star (pv 3) pa_nil))) pa_nil))) pa_nil))))), ?_⟩
  obtain ⟨a, xs, rfl, hs, ha⟩ := dp_tup h2
  obtain ⟨b, w1, w2, rfl, hb, hw1, hw2⟩ := dp_th h1
  obtain ⟨b2', ys, rfl, hb2, hy⟩ := dp_tup hw2
  have lcon := Mth.vc_len hv
  have nl := hT.len
  refine ⟨_, rfl, a, rfl, ⟨xs, hs⟩, fun D hD => lc_tupE encLit encCl (fun _ => true) (fun l => [neg l]) hD (by omega) hs ha (fun l _ v H' yes no hS hv' hy' hno => ?_) (fun H' hS hL => ?_)⟩
  · obtain ⟨c, rfl, hc⟩ := dp_lit hv'
    refine ⟨c, _, rfl, hc, rfl, _, _, rfl, _, _, rfl, rfl, rfl, iteT (B := no H') ⟨_, rfl, _, rfl, _, _, rfl, rfl, (by show 2 ≤ sizeLine; decide), fun t ht => ⟨(by show 1 ≤ sizeLine; decide), fun t2 ht2 => ?_⟩⟩⟩
    refine hy' rfl _ _ ((same_new ht).trans (same_new ht2)) (.tup (.inl (.inl upd_same)) (.cons (encLit.tg (tg_new ht2) (mk_lit (.inl (.inl ?_)))) .nil))
    show upd H' t (HO.tup [V.str l.1, .int (1 - b2 l.2)]) t = some (.tup [.str l.1, .int (b2 (!l.2))])
    rw [one_sub]
    exact upd_same
  · rw [List.filter_eq_self.mpr (fun _ _ => rfl)] at hL
    obtain ⟨zs, hDe, hda⟩ := hL
    refine ⟨_, rfl, _, rfl, b, _, _, _, rfl, rfl, sqt_tg (.of hS) hb, at0, _, rfl, b, _, _, _, rfl, rfl, sqt_tg (.of hS) hb, at1, b2', ys, rfl, .inl (sqt_tg (.of hS) hb2), _, rfl, D, zs, rfl, .inr (.inl (.inl hDe)), ?_⟩
    have l1 := allf_len hy
    have l2 := allf_len hda
    rw [List.length_map] at l2
    show (ys ++ (zs ++ [])).length ≤ sizeLine ∧ _
    rw [List.append_nil]
    refine ⟨by rw [List.length_append]; exact Nat.le_trans (by omega : ys.length + zs.length ≤ 1000) (by decide), fun t ht => ⟨(by show 2 ≤ sizeLine; decide), fun t2 ht2 => ?_⟩⟩
    have S2 := (same_new (o := .tup (ys ++ zs)) ht).trans (same_new (o := .tup [w1, .ref t]) ht2)
    have SH := hS.trans S2
    refine ⟨v0, _, ns, cs ++ con.map fun l => [neg l], rfl, hK.same SH, mk_th (.inl (.inl upd_same)) (encNm.tg (.of SH) hw1) (Dp.tup (xs := ys ++ zs) (.inl (.inl ?_)) ?_), ⟨hT.asc, nl, fun c hc => ?_, by rw [List.length_append, List.length_map]; omega⟩, fun hun H3 hS3 => qn (fun a' h' => ?_) _ (SH.trans hS3), fun a' p H3 h3 hS3 hp3 => ?_⟩
    · rw [upd_ne (fun e => by rw [e, upd_same] at ht2; cases ht2), upd_same]
    · rw [List.map_append]
      exact all_app (encCl.tgs (.of SH) hy) (encCl.tgs (.of S2) hda)
    · rcases List.mem_append.mp hc with z | z
      · exact hT.vc c z
      · obtain ⟨l, hl, rfl⟩ := List.mem_map.mp z
        exact vc_unit (hv.sub l hl)
    · have := hun a'
      rw [hT_neg, h'] at this
      simpa using this
    · rw [hT_neg, Bool.and_eq_true, Bool.not_eq_true'] at h3
      exact qs a' p H3 h3.1 h3.2 (SH.trans hS3) hp3
/-! ### pin -/
def spBPin (K : PySem.W.Frag) : Sp := fun vs H Q _ => ∃ (v0 v1 : V) (d : Addr) (ns : List Str) (a : Str → Bool), vs = [v0, v1, .ref d] ∧ Dp K H v1 (dNm ns) ∧ H d = some (.dK (asg ns a)) ∧ ns.length ≤ 1000 ∧ Give K H (dTh ns (ns.map fun n => [(n, a n)])) Q
theorem ok_bPin (T : AtM K C "pin" "Bits.pin" sBPin) (mt : mg "tuple" = none) : MDef P w K mg base C 1 "pin" ["self", "names", "assignment"] (spBPin K) := by
  refine T.def scBPin (fun vs H Q E h => ?_) (fun _ _ _ _ _ _ us hl => match us, hl with | [_, _, _], _ => rfl) (fun f cdv A outer s H vs Q E hr h => ?_)
  · obtain ⟨v0, v1, d, ns, a, rfl, _⟩ := h; rfl
  obtain ⟨v0, v1, d, ns, a, rfl, h1, hd, hz, q⟩ := h
  refine ⟨_, pss_one (ps_ret (pe_tup (pa_cons (pv 1) (pa_cons (tup_ (by rfl) mt (pe_lc (own := [("name", 3)]) (g := gName 3) (tt := tYes) (by rfl) scBPin.nd (pi_tup (pv 1)) (blkOk_by (N := ["self", "names", "assignment", "name"]) (sc := defScope sBPin) (by decide +kernel)) (fun _ _ _ _ _ => gn 3 scBPin.nd)
    (fun _ _ _ _ _ => pts_nil) (fun _ _ _ _ _ => pe_tup (pa_cons (pe_tup (pa_cons (pv 3) (pa_cons (pe_dget (hu_of hr) (pv 2) (pv 3) (fun _ _ => rfl)) pa_nil))) pa_nil)))) pa_nil)))), ?_⟩
  obtain ⟨b, xs, rfl, hs, ha⟩ := dp_tup h1
  refine ⟨_, rfl, _, rfl, b, rfl, ⟨xs, hs⟩, fun D hD => lc_tupE encStr encCl (fun _ => true) (fun n => [(n, a n)]) hD (by omega) hs ha (fun n hn v H' yes no hS hv' hy' hno => ?_) (fun H' hS hL => ?_)⟩
  · have hv := dp_str hv'
    subst hv
    refine ⟨rfl, iteT (B := no H') ⟨_, rfl, _, rfl, _, rfl, d, _, rfl, DGet.asg (hS _ _ hd) hn, (by show 2 ≤ sizeLine; decide), fun t ht => ⟨(by show 1 ≤ sizeLine; decide), fun t2 ht2 => ?_⟩⟩⟩
    exact hy' rfl _ _ ((same_new ht).trans (same_new ht2)) (.tup (.inl (.inl upd_same)) (.cons (encLit.tg (tg_new ht2) (mk_lit (.inl (.inl upd_same)))) .nil))
  · rw [List.filter_eq_self.mpr (fun _ _ => rfl)] at hL
    refine ⟨_, _, rfl, hL.dp, encCl.pures _, fun v H2 hS2 hd2 => ⟨(by show 2 ≤ sizeLine; decide), fun t ht => ?_⟩⟩
    exact q _ _ ((hS.trans hS2).trans (same_new ht)) (mk_th (.inl (.inl upd_same)) (encNm.tg (tg_new ht) (encNm.tg (.of (hS.trans hS2)) h1)) (encCls.tg (tg_new ht) hd2))
/-! ### merge_names -/
theorem call_R {X : Cx} {CX : CXT} {k : Nat} {f : Addr} {sp : Sp} {x : Str} {e : Expr} {es : List Expr} {t : TA} {p pos : Pos} {E : XK} (F : FnR X.prog X.w X.K X.mg X.base CX k f sp) (hr : Room k X.A) (hm : X.mg x = some (.ref f)) (hk : PySem.W.keepIn X.K (.ref f) = true) (hx : Passes CX X E)
    (ha : PA X (e :: es) t) (hg : Gl X x := by rfl) (hdb : (x == ("__debug__" : Str)) = false := by decide) (he : starEach (e :: es) X.env = (false, eval e X.env) :: starEach es X.env := by rfl) (hpl : (backTo pos (starEach es X.env)).any (·.1) = false := by rfl) :
    PE X (.Call (.Name x p) (e :: es) [] pos) (fun σ H Q => t σ H fun vs H1 => sp vs H1 Q E) := by
  refine ⟨fun pins s σ H Q I h => ?_⟩
  refine wpAny_Call_Name_kw (ld_glob I hg hm ?_ hdb)
  refine PySem.W.callWith_K (h₀ := X.base) I.ok.mod.kin hk (thn (ha.run pos pins s σ H _ I h) fun us s1 ⟨vs, H1, I1, r, q⟩ => ⟨I1.kIn, ?_⟩) he hpl
  exact wpAny_call (run_fnR F hr hx I1 r q)
def DefR (P : Program) (w : World) (K : PySem.W.Frag) (mg : Str → Option Value) (base : Heap) (k : Nat) (x : Str) (sp : Sp) : Prop := ∃ f, FnR P w K mg base CX0 k f sp ∧ mg x = some (.ref f) ∧ PySem.W.keepIn K (.ref f) = true
def nmD (fs : List Str) : List (Key × V) := fs.map fun n => (Sum.inr n, .bl true)
theorem nmD_put {fs : List Str} (n : Str) : putK (nmD fs) (Sum.inr n) (.bl true) = nmD (if n ∈ fs then fs else fs ++ [n]) := by
  by_cases h : n ∈ fs
  · rw [if_pos h]
    unfold putK
    have hany : (nmD fs).any (fun kv => decide (kv.1 = Sum.inr n)) = true := List.any_eq_true.mpr ⟨(Sum.inr n, V.bl true), List.mem_map.mpr ⟨n, h, rfl⟩, by simp⟩
    rw [if_pos hany]
    unfold nmD
    rw [List.map_map]
    refine List.map_congr_left fun m _ => ?_
    show (if (Sum.inr m : Key) = Sum.inr n then _ else _) = _
    split <;> rfl
  · rw [if_neg h]
    have : valV (nmD fs) (Sum.inr n) = none := by
      induction fs with
      | nil => rfl
      | cons m fs ih =>
        rw [List.mem_cons, not_or] at h
        unfold valV nmD
        rw [List.map_cons, List.find?_cons]
        have hd : decide ((Sum.inr m : Key) = Sum.inr n) = false := decide_eq_false fun e => h.1 (Sum.inr.inj e).symm
        simp only [hd]
        exact ih h.2
    rw [putK_new _ this]
    unfold nmD
    rw [List.map_append]; rfl
theorem alikes_str (ns : List Str) : PySem.W.AllAlike (ns.map PyData.str) := .of fun b b' => by simp [PySem.W.alike]
theorem sortables_str (ns : List Str) : PySem.W.Sortable (ns.map PyData.str) := .inr fun d hd => by
  obtain ⟨c, hc, rfl⟩ := List.mem_map.mp hd
  exact ⟨(fun z => nomatch z), (fun _ z => nomatch z)⟩
theorem srt_strs {ys : List Str} (h : ys.Pairwise fun x y => PySem.W.dataLt (.str y) (.str x) = false) (n : ys.Nodup) : Mth.Srt ys := Mth.Srt.of_weak (h.imp fun {a b} q => by rw [PySem.W.dataLt_str] at q; exact q) n
def spMerge (K : PySem.W.Frag) : Sp := fun vs H Q _ => ∃ (v1 v2 : V) (n1 n2 : List Str), vs = [v1, v2] ∧ Dp K H v1 (dNm n1) ∧ Dp K H v2 (dNm n2) ∧ n1.length ≤ 1000 ∧ n2.length ≤ 1000 ∧ ∀ r, Mth.Srt r → (∀ x, x ∈ r ↔ x ∈ n1 ∨ x ∈ n2) → Give K H (dNm r) Q
theorem ok_merge (T : At K mg "merge_names" sMerge) (ms : mg "sorted" = none) (ml : mg "list" = none) (mt : mg "tuple" = none) : DefR P w K mg base 1 "merge_names" (spMerge K) := by
  obtain ⟨f, fd, ⟨⟨oc, od, kVv, doc, pm, an, cdv, ct, osl, rfl, lk, hcd⟩, kp⟩, hm⟩ := T
  refine ⟨f, FnR.imp (StX.fn_star (k := 0) (ps := []) (pv := "lists") (sp := fun vs H Q _ => ∃ (p : Addr) (v1 v2 : V) (n1 n2 : List Str), vs = [.ref p] ∧ H p = some (.tup [v1, v2]) ∧ Dp K H v1 (dNm n1) ∧ Dp K H v2 (dNm n2) ∧ n1.length ≤ 1000 ∧ n2.length ≤ 1000 ∧ ∀ r, Mth.Srt r → (∀ x, x ∈ r ↔ x ∈ n1 ∨ x ∈ n2) → Give K H (dNm r) Q)
    lk hcd scMerge StX.cxUp_none (fun us rest h => ?_) (fun A outer s H vs Q E hr h => ?_)) (fun vs H Q E ⟨v1, v2, n1, n2, ev, h1, h2, z1, z2, q⟩ => ⟨[], [v1, v2], ev, rfl, (by show 2 ≤ sizeLine; decide), fun p hp => ⟨p, v1, v2, n1, n2, rfl, upd_same, encNm.tg (tg_new hp) h1, encNm.tg (tg_new hp) h2, z1, z2, fun r hr hx v H' hS hd => q r hr hx v H' ((same_new hp).trans hS) hd⟩⟩), hm, kp⟩
  · match us, h with
    | [], _ =>
      match rest with
      | [] => rfl
      | _ :: _ => rfl
  · obtain ⟨p, v1, v2, n1, n2, rfl, hp, h1, h2, z1, z2, q⟩ := h
    suffices hh : ∃ t, PSs (cxOf CX0 P w K mg base ["lists", "found", "names", "name"] "merge_names" (defScope sMerge) f cdv A outer s H E).nox (defBody sMerge) t ∧ t { nx := fun _ H' => Q .non H', rt := Q } (start ["lists", "found", "names", "name"] [.ref p]) H from let ⟨t, h, q⟩ := hh; ⟨t, h.nox, q⟩
    refine ⟨_, pss_cons (st_ 1 scMerge.nd pe_dnewK) (pss_cons (for_ (pi_tup (pv 0)) (gn 2 scMerge.nd) (pss_one (for_ (pi_tup (pv 2)) (gn 3 scMerge.nd) (pss_one (ps_dput (hu_of hr) (pv 1) (pv 3) pe_bl rfl)))))
      (pss_one (ps_ret (tup_ (by rfl) mt (sorted_ encStr (hu65 hr) ms (pe_callTy (call_listD (by rfl)) (by rfl) ml (by decide +kernel) (pa_cons (pv 1) pa_nil))))))), ?_⟩
    intro d hd
    have S0 : Same H (upd H d (.dK [])) := same_new hd
    refine ⟨_, rfl, p, rfl, ⟨[v1, v2], .inl (.inl (S0 _ _ hp))⟩, for_tupE (f := dNm) (xs := [n1, n2]) (H0 := H) encNm (fun done σ H' => ∃ fs y z, σ = [some (.ref p), some (.ref d), y, z] ∧ Same H H' ∧ H' d = some (.dK (nmD fs)) ∧ fs.Nodup ∧ (∀ x, x ∈ fs ↔ ∃ ns ∈ done, x ∈ ns) ∧ fs.length ≤ done.length * 1000)
      (.inl (.inl hp)) (.cons h1 (.cons h2 .nil)) ⟨[], none, none, rfl, S0, upd_same, List.nodup_nil, fun x => by simp, Nat.zero_le _⟩ (fun _ _ _ ⟨_, _, _, _, s, _⟩ => .of s) (fun done ns rest v σ H1 he hP hv => ?_) (fun σ H1 hP => ?_)⟩
    · obtain ⟨fs, y, z, rfl, hS, hde, hnd, hmem, hlen⟩ := hP
      have hnl : ns.length ≤ 1000 := by
        have : ns ∈ [n1, n2] := by rw [he]; exact List.mem_append_right _ List.mem_cons_self
        rcases List.mem_cons.mp this with e | e
        · rw [e]; exact z1
        · rw [List.mem_singleton.mp e]; exact z2
      have hdl : done.length ≤ 1 := by have := congrArg List.length he; simp at this; omega
      obtain ⟨a, xs, rfl, hs, ha⟩ := dp_tup hv
      refine ⟨_, rfl, a, rfl, ⟨xs, hs⟩, for_tupE (f := PyData.str) (xs := ns) encStr (fun done2 σ H' => ∃ fs z, σ = [some (.ref p), some (.ref d), some (.ref a), z] ∧ Same H H' ∧ TG H1 H' ∧ H' d = some (.dK (nmD fs)) ∧ fs.Nodup ∧ (∀ x, x ∈ fs ↔ (∃ ns ∈ done, x ∈ ns) ∨ x ∈ done2) ∧ fs.length ≤ done.length * 1000 + done2.length)
        hs ha ⟨fs, z, rfl, hS, .refl _, hde, hnd, fun x => by rw [hmem]; simp, hlen⟩ (fun _ _ _ ⟨_, _, _, _, s, _⟩ => s) (fun done2 n rest2 v2 σ H2 he2 hP hv2 => ?_) (fun σ H2 hP => ?_)⟩
      · obtain ⟨fs, z, rfl, hS, hT, hde, hnd, hmem, hlen⟩ := hP
        have := dp_str hv2
        subst this
        have hd2 : done2.length ≤ 1000 := by have := congrArg List.length he2; rw [List.length_append] at this; omega
        have hfl : fs.length ≤ 3000 := by have := Nat.mul_le_mul_right 1000 hdl; omega
        refine ⟨_, rfl, _, rfl, d, _, rfl, DPut.k (k := Sum.inr n) hde (by unfold nmD; rw [List.length_map]; exact Nat.lt_of_le_of_lt hfl (by decide)), ?_⟩
        rw [nmD_put]
        refine ⟨_, _, rfl, same_mut hS hd, hT.trans (tg_dK hde), upd_same, ?_, fun x => ?_, ?_⟩
        · split
          · exact hnd
          · rename_i hn
            exact nd_snoc hnd hn
        · split
          · rename_i hn
            rw [hmem, List.mem_append, List.mem_singleton, ← or_assoc]
            constructor
            · exact .inl
            · rintro (h | rfl)
              · exact h
              · exact (hmem _).mp hn
          · rw [List.mem_append, List.mem_singleton, hmem, List.mem_append, List.mem_singleton, or_assoc]
        · rw [List.length_append, List.length_singleton]
          split
          · omega
          · rw [List.length_append, List.length_singleton]; omega
      · obtain ⟨fs, z, rfl, hS, hT, hde, hnd, hmem, hlen⟩ := hP
        exact ⟨fs, _, _, rfl, hS, hde, hnd, fun x => by
          rw [hmem]
          constructor
          · rintro (⟨m, hm, h⟩ | h)
            · exact ⟨m, List.mem_append_left _ hm, h⟩
            · exact ⟨ns, List.mem_append_right _ (List.mem_singleton.mpr rfl), h⟩
          · rintro ⟨m, hm, h⟩
            rcases List.mem_append.mp hm with q | q
            · exact .inl ⟨m, q, h⟩
            · rw [List.mem_singleton.mp q] at h; exact .inr h, by rw [List.length_append, List.length_singleton]; omega⟩
    · obtain ⟨fs, y, z, rfl, hS, hde, hnd, hmem, hlen⟩ := hP
      refine ⟨_, rfl, d, nmD fs, rfl, .inl hde, fun l hl => ⟨l, _, fs, rfl, .inl (.inl upd_same), ?_, fun _ => ⟨alikes_str fs, sortables_str fs⟩, fun ys us r hperm hpw hr' hda => ?_⟩⟩
      · have : (nmD fs).map (fun kv => kV kv.1) = fs.map V.str := by unfold nmD; rw [List.map_map]; rfl
        rw [this]
        exact mk_strs fs
      · have hS2 := (hS.trans (same_new (o := .lst ((nmD fs).map fun kv => kV kv.1)) hl)).trans (same_new (o := .lst us) hr')
        refine ⟨_, _, rfl, .lst (.inl (.inl upd_same)) (encStr.tgs (tg_new hr') hda), encStr.pures _, fun v H2 hS3 hd3 => q ys (srt_strs hpw (hperm.nodup_iff.mpr hnd)) (fun x => ?_) v H2 (hS2.trans hS3) hd3⟩
        rw [hperm.mem_iff, hmem]
        simp
end
end Sh
end
section
namespace Sh
open PySem PySem.Spec L2
/-- what is left of a theory when names are eliminated -/
structure Red (ns : List Str) (cs : List Cl) (ms : List Str) (ds : List Cl) : Prop where
  th : Th ms ds
  fol : ∀ c, (∀ l ∈ c, l.1 ∈ ms) → (Mth.Fol ds c ↔ Mth.Fol cs c)
theorem Red.refl {ns : List Str} {cs : List Cl} (h : Th ns cs) : Red ns cs ns cs := ⟨h, fun _ _ => Iff.rfl⟩
theorem Red.step {ns ms : List Str} {cs ds L : List Cl} {n : Str} (R : Red ns cs ms ds) (hT : Th (ms.filter fun m => decide (m ≠ n)) L) (hE : Mth.ElimOk ds n L) : Red ns cs (ms.filter fun m => decide (m ≠ n)) L :=
  ⟨hT, fun c hc => (hE.fol fun l hl => of_decide_eq_true (List.mem_filter.mp (hc l hl)).2).trans (R.fol c fun l hl => (List.mem_filter.mp (hc l hl)).1)⟩
theorem Red.prime {ns ms : List Str} {cs ds : List Cl} (R : Red ns cs ms ds) {c : Cl} : Mth.IsPr (Mth.Fol ds) ms c ↔ Mth.IsPr (Mth.Fol cs) ms c := Mth.IsPr.congr fun c hc => R.fol c hc.sub
section
variable {P : Program} {w : World} {K : PySem.W.Frag} {mg : Str → Option Value} {base : Heap} {C : Addr}
/-! ### join -/
def spJoin (K : PySem.W.Frag) : Sp := fun vs H Q _ => ∃ (v : V) (ns : List Str) (c1 c2 : List Cl), vs = [v] ∧ Dp K H v (.list [dTh ns c1, dTh ns c2]) ∧ Mth.Asc ns ∧ ns.length ≤ 5 ∧ c1.length ≤ 1000 ∧ c2.length ≤ 1000 ∧ Give K H (dTh ns (c1 ++ c2)) Q
theorem ok_join (T : At K mg "join" sJoin) (mt : mg "tuple" = none) (G : DefR P w K mg base 1 "merge_names" (spMerge K)) : Def P w K mg base 2 "join" ["theories"] (spJoin K) := by
  refine T.def scJoin (fun vs H Q E h => ?_) (fun _ _ _ _ _ _ us hl => match us, hl with | [_], _ => rfl) (fun f cdv A outer s H vs Q E hr h => ?_)
  · obtain ⟨v, ns, c1, c2, rfl, _⟩ := h; rfl
  obtain ⟨v, ns, c1, c2, rfl, h1, hA, nl, z1, z2, q⟩ := h
  obtain ⟨fm, Fm, mm, km⟩ := G
  refine ⟨_, pss_cons (st_ 1 scJoin.nd (pe_tup pa_nil)) (pss_cons (st_ 2 scJoin.nd (pe_lst pa_nil)) (pss_cons (for_ (pi_list (pv 0)) (gn 3 scJoin.nd)
      (pss_cons (st_ 1 scJoin.nd (call_R Fm hr mm km pass0 (pa_cons (pv 1) (pa_cons (ixT (pv 3) pe_int) pa_nil))))
      (pss_one (ps_expr (pe_bm PySem.F.plainAttrs_list PySem.F.slot_list_extend PySem.F.type_list_extend mt_extT (pv 2) (pa_cons (ixT (pv 3) pe_int) pa_nil))))))
    (pss_one (ps_ret (pe_tup (pa_cons (pv 1) (pa_cons (tup_ (by rfl) mt (pv 2)) pa_nil))))))), ?_⟩
  cases h1 with
  | @lst a xs _ hs ha =>
  refine ⟨Nat.zero_le _, fun u hu => ⟨Nat.zero_le _, fun c hc => ?_⟩⟩
  have S1 : Same H (upd (upd H u (.tup [])) c (.lst [])) := (same_new hu).trans (same_new hc)
  have hcn : H c = none := (same_new hu).free hc
  have hu0 : Dp K (upd (upd H u (.tup [])) c (.lst [])) (.ref u) (dNm []) := encNm.tg (tg_new hc) (.tup (.inl (.inl upd_same)) .nil)
  refine ⟨_, rfl, a, rfl, ⟨xs, S1.seq hs⟩, for_listE (f := dThP) (xs := [(ns, c1), (ns, c2)]) (H0 := H) encTh (fun done σ H' => ∃ u ms z, σ = [some (.ref a), some u, some (.ref c), z] ∧ Same H H' ∧ Dp K H' u (dNm ms) ∧ (∀ x, x ∈ ms → x ∈ ns) ∧ (done ≠ [] → ms = ns) ∧ ms.length ≤ 1000 ∧ Ls K H' c dCl (done.map (·.2)).flatten) ha
    ⟨.ref u, [], none, rfl, S1, hu0, (fun _ h => by cases h), (fun h => absurd rfl h), Nat.zero_le _, Ls.nil⟩ (fun _ _ _ ⟨_, _, _, _, s, _⟩ => ⟨.of s, s.seq hs⟩) (fun done T rest v σ H1 he hP hv => ?_) (fun σ H1 hP => ?_)⟩
  · obtain ⟨u', ms, z, rfl, hS, hu', hsub, _, hml, ⟨ws, hce, had⟩⟩ := hP
    have hTm : T.1 = ns ∧ T.2.length ≤ 1000 := by
      have : T ∈ [(ns, c1), (ns, c2)] := by rw [he]; exact List.mem_append_right _ List.mem_cons_self
      rcases List.mem_cons.mp this with e | e
      · rw [e]; exact ⟨rfl, z1⟩
      · rw [List.mem_singleton.mp e]; exact ⟨rfl, z2⟩
    have hfl : (done.map (·.2)).flatten.length ≤ 2000 := by
      have hl := congrArg List.length he
      have hd1 : done.length ≤ 1 := by simp at hl; omega
      match done, he, hd1 with
      | [], _, _ => simp
      | [D], he, _ =>
        injection he with e1 _
        rw [← e1]
        simp
        omega
    obtain ⟨b, w1, w2, rfl, hb, hw1, hw2⟩ := dp_th hv
    rw [hTm.1] at hw1
    refine ⟨_, rfl, _, rfl, b, _, _, _, rfl, rfl, hb, at0, u', w1, ms, ns, rfl, hu', hw1, hml, by omega, fun r hr' hx v2 H2 hS2 hd2 => ?_⟩
    have er : r = ns := Mth.Srt.uniq hr' hA fun x => by rw [hx]; exact ⟨fun h => h.elim (hsub x) id, .inr⟩
    subst er
    have hce2 := hS2 _ _ hce
    obtain ⟨b2, ys, rfl, hb2, hy⟩ := dp_tup hw2
    have lw := allf_len had
    have ly := allf_len hy
    refine ⟨_, rfl, tyL hce2, _, rfl, b, _, _, _, rfl, rfl, sqt_tg (.of hS2) hb, at1, c, b2, ws, ys, rfl, rfl, hce2, sqt_tg (.of hS2) hb2, by omega, ?_⟩
    refine ⟨v2, r, _, rfl, same_mut (hS.trans hS2) hcn, encNm.tg (tg_lst hce2) hd2, fun _ h => h, fun _ => rfl, by omega, _, upd_same, ?_⟩
    have e : ((done ++ [T]).map (·.2)).flatten = (done.map (·.2)).flatten ++ T.2 := by simp
    rw [e, List.map_append]
    exact all_app (encCl.tgs ((TG.of hS2).trans (tg_lst hce2)) had) (encCl.tgs ((TG.of hS2).trans (tg_lst hce2)) hy)
  · obtain ⟨u', ms, z, rfl, hS, hu', hsub, hms, hml, hL⟩ := hP
    have e := hms (by simp)
    subst e
    refine ⟨_, rfl, _, rfl, _, _, rfl, hL.dp, encCl.pures _, fun v2 H2 hS2 hd2 => ⟨(by show 2 ≤ sizeLine; decide), fun t ht => q _ _ ((hS.trans hS2).trans (same_new ht)) (mk_th (.inl (.inl upd_same)) (encNm.tg (tg_new ht) (encNm.tg (.of hS2) hu')) (encCls.tg (tg_new ht) ?_))⟩⟩
    have e : ([(ms, c1), (ms, c2)].map (·.2)).flatten = c1 ++ c2 := by simp
    rw [e] at hd2
    exact hd2
/-! ### shadow -/
def spShadow (K : PySem.W.Frag) (C : Addr) : Sp := fun vs H Q _ => ∃ (v0 v1 v2 : V) (ns sh : List Str) (cs : List Cl), vs = [v0, v1, v2] ∧ Kd C H v0 ∧ Dp K H v1 (dTh ns cs) ∧ Th ns cs ∧ Dp K H v2 (.list (sh.map .str)) ∧
  ∀ L, Mth.Srt L → (∀ c, c ∈ L ↔ Mth.IsPr (Mth.Fol cs) (ns.filter fun n => decide (n ∈ sh)) c) → Give K H (dTh (ns.filter fun n => decide (n ∈ sh)) L) Q
theorem ok_shadow (T : At K mg "shadow" sShadow) (cl : Cls K C) (G1 : MDef P w K mg base C 4 "eliminate" ["self", "theory", "name"] (spBElim K)) (G2 : MDef P w K mg base C 4 "normal" ["self", "theory"] (spBNormal K)) :
    ∃ f fd, FnOk P w K mg base CX0 5 f fd ["kind", "theory", "shown"] (spShadow K C) ∧ mg "shadow" = some (.ref f) ∧ PySem.W.keepIn K (.ref f) = true ∧ KBn K fd ["kind", "theory", "shown"] 2 ["shown"] (fun us ws => us ++ ws) (fun vs zs => vs ++ zs) := by
  obtain ⟨f, fd, F, hm⟩ := T
  refine ⟨f, fd, F.ok scShadow (fun vs H Q E h => ?_) (fun cdv A outer s H vs Q E hr h => ?_), hm, F.kp, ?_⟩
  · obtain ⟨v0, v1, v2, ns, sh, cs, rfl, _⟩ := h; rfl
  · obtain ⟨v0, v1, v2, ns, sh, cs, rfl, hK, h1, hT, h2, q⟩ := h
    obtain ⟨kp, kx, rfl, hk⟩ := hK
    refine ⟨_, pss_cons (for_ (pi_tup (ixT (pv 1) pe_int)) (gn 3 scShadow.nd) (pss_one (ps_if (notIn_ encStr (hu65 hr) (pv 3) (pv 2)) (pss_one (st_ 1 scShadow.nd (meth_ cl G1 hr (pv 0) (pa_cons (pv 1) (pa_cons (pv 3) pa_nil))))) pss_nil)))
      (pss_one (ps_ret (meth_ cl G2 hr (pv 0) (pa_cons (pv 1) pa_nil)))), ?_⟩
    obtain ⟨a, w1, w2, rfl, hs, hw1, hw2⟩ := dp_th h1
    obtain ⟨b, xs, rfl, hb, ha⟩ := dp_tup hw1
    refine ⟨_, rfl, a, _, _, _, rfl, rfl, hs, at0, b, rfl, ⟨xs, hb⟩, for_tupE (H0 := H) encStr (fun done σ H' => ∃ u z ms ds, σ = [some (.ref kp), some u, some v2, z] ∧ Same H H' ∧ Dp K H' u (dTh ms ds) ∧ Red ns cs ms ds ∧ ms = ns.filter fun n => decide (n ∈ done → n ∈ sh)) hb ha
      ⟨.ref a, none, ns, cs, rfl, .refl _, h1, .refl hT, (List.filter_eq_self.mpr fun n _ => by simp).symm⟩ (fun _ _ _ ⟨_, _, _, _, _, s, _⟩ => .of s) (fun done n rest v σ H1 he hP hv => ?_) (fun σ H1 hP => ?_)⟩
    · obtain ⟨u, z, ms, ds, rfl, hS, hu, hR, hms⟩ := hP
      have hv' := dp_str hv
      subst hv'
      have h2' : Dp K H1 v2 (.list (sh.map .str)) := by
        cases h2 with
        | lst hs2 ha2 => exact .lst (hS.seq hs2) (encStr.tgs (.of hS) ha2)
      refine ⟨_, rfl, _, rfl, n, sh, .str _, .inr h2', fun hin => ⟨_, rfl, iteF ⟨u, _, ms, ds, rfl, hS, hu, hR, ?_⟩⟩, fun hnin => ⟨_, rfl, iteT ?_⟩⟩
      · rw [hms]
        refine List.filter_congr fun m _ => decide_eq_decide.mpr ⟨fun h hm => ?_, fun h hm => h (List.mem_append_left _ hm)⟩
        rcases List.mem_append.mp hm with q | q
        · exact h q
        · rw [List.mem_singleton.mp q]; exact hin
      · refine ⟨_, rfl, kp, kx, _, rfl, hS _ _ hk, rfl, _, rfl, _, rfl, _, u, n, ds, ms, rfl, hu, hR.th, fun ms' L e1 hT' hE v3 H3 hS3 hd3 => ⟨v3, _, ms', L, rfl, hS.trans hS3, hd3, ?_, ?_⟩⟩
        · subst e1; exact hR.step hT' hE
        · rw [e1, hms, List.filter_filter]
          refine List.filter_congr fun m _ => ?_
          rw [← Bool.decide_and]
          refine decide_eq_decide.mpr ⟨fun ⟨h1, h2⟩ hm => ?_, fun h => ⟨fun e => hnin ?_, fun hm => h (List.mem_append_left _ hm)⟩⟩
          · rcases List.mem_append.mp hm with q | q
            · exact h2 q
            · exact (h1 (List.mem_singleton.mp q)).elim
          · rw [← e]; exact h (List.mem_append_right _ (List.mem_singleton.mpr e))
    · obtain ⟨u, z, ms, ds, rfl, hS, hu, hR, hms⟩ := hP
      have hms' : ms = ns.filter fun n => decide (n ∈ sh) := by
        rw [hms]
        exact List.filter_congr fun m hm => decide_eq_decide.mpr ⟨fun h => h hm, fun h _ => h⟩
      refine ⟨_, rfl, kp, kx, _, rfl, hS _ _ hk, rfl, _, rfl, _, u, ds, ms, rfl, hu, hR.th, fun L hL1 hL2 v3 H3 hS3 hd3 => ?_⟩
      subst hms'
      exact q L hL1 (fun c => (hL2 c).trans hR.prime) v3 H3 (hS.trans hS3) hd3
  · obtain ⟨oc, od, kV, doc, pm, an, cdv, ct, osl, rfl, lk, hcd⟩ := F.ex
    refine ⟨fun s us ws hK l1 l2 => ?_, fun r1 r2 => r1.append r2⟩
    match us, ws, l1, l2 with
    | [_, _], [_], _, _ => exact .of_eq rfl
end
end Sh
end
section
namespace Sh
open PySem PySem.Spec PyProof.Rows L2
/-! ### dicts whose keys are clauses -/
def keyL (l : Lit) : NestedKey := .tup [.text l.1, .num (b2 l.2)]
def keyC (c : Cl) : NestedKey := .tup (c.map keyL)
theorem keyL_inj {l m : Lit} (h : keyL l = keyL m) : l = m := by
  injection h with h
  injection h with h1 h
  injection h1 with h1
  injection h with h2 _
  injection h2 with h2
  exact Prod.ext h1 (b2_inj.mp h2)
theorem keyC_inj {c d : Cl} (h : keyC c = keyC d) : c = d := by
  injection h with h
  revert d
  induction c with
  | nil => intro d h; cases d with
    | nil => rfl
    | cons _ _ => cases h
  | cons l c ih => intro d h; cases d with
    | nil => cases h
    | cons m d =>
      rw [List.map_cons, List.map_cons] at h
      injection h with h1 h2
      rw [keyL_inj h1, ih h2]
theorem keyL_dep (l : Lit) : (keyL l).depth = 1 := by simp [keyL, NestedKey.depth, NestedKey.depthAll]
theorem keyC_dep (c : Cl) : (keyC c).depth ≤ 8 := by
  have h : ∀ c : Cl, NestedKey.depthAll (c.map keyL) ≤ 1 := by
    intro c
    induction c with
    | nil => simp [NestedKey.depthAll]
    | cons l c ih => rw [List.map_cons, NestedKey.depthAll, keyL_dep]; exact Nat.max_le.mpr ⟨Nat.le_refl _, ih⟩
  have := h c
  simp only [keyC, NestedKey.depth]
  omega
abbrev Ent := Cl × Addr × V
abbrev PairN : List Ent → List (NestedKey × Addr × Value) → Prop := Paired fun (e : Ent) x => keyC e.1 = x.1 ∧ e.2.1 = x.2.1 ∧ RelV e.2.2 x.2.2
def isN (P : Program) (w : World) (a : Addr) (es : List Ent) (h : Heap) : Prop :=
  (a == sysModules) = false ∧ es.length ≤ sizeLine ∧ ∃ xs, PairN es xs ∧ ∃ o ds ep, h.get? a = some o ∧ o.ExactDict ∧ o.data = .dict ds ep ∧ ds.toList = xs.map (entryOfKey (nestedKind P w))
/-- at a a dict with such entries -/
def oN (P : Program) (w : World) (a : Addr) (es : List Ent) : HO := .ext (isN P w a es)
theorem oN_ok {P : Program} {w : World} {H : Hp} {h : Heap} {a : Addr} {es : List Ent} (x : isN P w a es h) : ObjOk P w H h a (oN P w a es) := by
  refine ⟨x, ?_, fun h1 h2 y k => ?_⟩
  · obtain ⟨_, _, _, _, o, _, _, e, _⟩ := x; exact ⟨o, e⟩
  · obtain ⟨y1, y2, xs, y3, o, ds, ep, e, r⟩ := y
    exact ⟨y1, y2, xs, y3, o, ds, ep, k o e, r⟩
theorem rd_isN {P : Program} {w : World} {H : Hp} {h : Heap} {a : Addr} {es : List Ent} (r : Rd H a (oN P w a es)) (x : HOk P w H h) : isN P w a es h := (r.ok x).1
/-- what is known of such a dict -/
structure IsD1 (P : Program) (w : World) (K : PySem.W.Frag) (H : Hp) (a : Addr) (es : List Ent) : Prop where
  at_ : Rd H a (oN P w a es)
  key : ∀ e ∈ es, Dp K H (.ref e.2.1) (dCl e.1)
  nd : (es.map (·.1)).Nodup
theorem IsD1.keys {P : Program} {w : World} {K : PySem.W.Frag} {H H' : Hp} {a : Addr} {es : List Ent} (x : IsD1 P w K H a es) (t : TG H H') (r : Rd H' a (oN P w a es)) : IsD1 P w K H' a es := ⟨r, fun e he => encCl.tg t (x.key e he), x.nd⟩
theorem IsD1.same {P : Program} {w : World} {K : PySem.W.Frag} {H H' : Hp} {a : Addr} {es : List Ent} (x : IsD1 P w K H a es) (s : Same H H') : IsD1 P w K H' a es := x.keys (.of s) (rd_same s x.at_)
section
variable {X : Cx} {pins : List (Addr × Obj)} {σ : L2.St} {H : Hp} {s : Shared}
theorem lit_is (I : Inv X pins σ H s) {v : V} {u : Value} {l : Lit} (h : Dp X.K H v (dLit l)) (r : RelV v u) : NestedIs s.heap (keyL l) u := by
  obtain ⟨a, rfl, hs⟩ := dp_lit h
  obtain rfl : u = Value.ref a := r
  obtain ⟨its, rv, ⟨o, e, hc, n, hd⟩, _⟩ := I.tuple hs
  cases rv with
  | cons r1 rv =>
    cases rv with
    | cons r2 rv =>
      cases rv
      obtain ⟨t, rfl⟩ := (show ∃ t, _ = Value.str l.1 t from r1)
      obtain ⟨t', rfl⟩ := (show ∃ t, _ = Value.int (b2 l.2) t from r2)
      exact .tup e hc hd (.cons (.text _ _) (.cons (.int _ _) .nil))
theorem lits_are (I : Inv X pins σ H s) : ∀ {c : Cl} {vs : List V} {us : List Value}, DpAll X.K H vs (c.map dLit) → Vals vs us → NestedAll s.heap (c.map keyL) us
  | [], _, _, h, r => by cases h; cases r; exact .nil
  | l :: c, _, _, h, r => by
    cases h with
    | cons h1 h2 =>
      cases r with
      | cons r1 r2 => exact .cons (lit_is I h1 r1) (lits_are I h2 r2)
theorem cl_is (I : Inv X pins σ H s) {b : Addr} {c : Cl} (h : Dp X.K H (.ref b) (dCl c)) : (nestedKind X.prog X.w).is s.heap (keyC c) b := by
  obtain ⟨a, xs, e, hs, ha⟩ := dp_tup h
  cases e
  obtain ⟨its, rv, ⟨o, e, hc, n, hd⟩, _⟩ := I.tuple hs
  exact ⟨.tup e hc hd (by have := lits_are I ha rv; simpa using this), keyC_dep c⟩
theorem pairN_keys : ∀ {es : List Ent} {xs : List (NestedKey × Addr × Value)}, PairN es xs → xs.map (·.1) = es.map fun e => keyC e.1
  | _, _, .nil => rfl
  | _, _, .cons h t => by rw [List.map_cons, List.map_cons, pairN_keys t, h.1]
theorem pairN_mem : ∀ {es : List Ent} {xs : List (NestedKey × Addr × Value)}, PairN es xs → ∀ x ∈ xs, ∃ e ∈ es, keyC e.1 = x.1 ∧ e.2.1 = x.2.1 ∧ RelV e.2.2 x.2.2
  | _, _, .nil, _, h => by cases h
  | _, _, .cons h t, x, hx => by
    rcases List.mem_cons.mp hx with rfl | hx
    · exact ⟨_, List.mem_cons_self, h⟩
    · obtain ⟨e, he, r⟩ := pairN_mem t x hx
      exact ⟨e, List.mem_cons_of_mem _ he, r⟩
theorem heapN (I : Inv X pins σ H s) {a : Addr} {es : List Ent} (x : IsD1 X.prog X.w X.K H a es) : (a == sysModules) = false ∧ es.length ≤ sizeLine ∧ ∃ xs, PairN es xs ∧ s.heap.DictOfH (nestedKind X.prog X.w) a xs := by
  obtain ⟨h1, h2, xs, pr, o, ds, ep, e, hx, hd, he⟩ := rd_isN x.at_ I.hok
  refine ⟨h1, h2, xs, pr, o, ds, ep, e, hx, hd, he, fun y hy => ?_, ?_⟩
  · obtain ⟨en, hen, k1, k2, _⟩ := pairN_mem pr y hy
    rw [← k1, ← k2]
    exact cl_is I (x.key en hen)
  · rw [pairN_keys pr]
    have := x.nd
    rw [show (fun e : Ent => keyC e.1) = keyC ∘ (fun e : Ent => e.1) from rfl, ← List.map_map]
    exact List.pairwise_map.mpr (this.imp fun h e => h (keyC_inj e))
/-- the value at a key -/
def valN (es : List Ent) (c : Cl) : Option V := (es.find? fun e => decide (e.1 = c)).map (·.2.2)
theorem atN {c : Cl} : ∀ {es : List Ent} {xs : List (NestedKey × Addr × Value)}, PairN es xs → (valN es c = none ∧ atKey xs (keyC c) = none) ∨ ∃ v p, valN es c = some v ∧ atKey xs (keyC c) = some p ∧ RelV v p.2
  | _, _, .nil => .inl ⟨rfl, rfl⟩
  | e :: es, x :: xs, .cons h t => by
    unfold valN atKey
    rw [List.find?_cons, List.find?_cons]
    by_cases q : e.1 = c
    · have q2 : x.1 = keyC c := by rw [← h.1, q]
      simp only [decide_eq_true q, decide_eq_true q2]
      exact .inr ⟨_, _, rfl, rfl, h.2.2⟩
    · have q2 : ¬ x.1 = keyC c := fun z => q (keyC_inj (h.1.trans z))
      simp only [decide_eq_false q, decide_eq_false q2]
      exact atN t
theorem valN_mem {es : List Ent} {c : Cl} (h : c ∈ es.map (·.1)) : ∃ v, valN es c = some v := by
  cases e : valN es c with
  | some v => exact ⟨v, rfl⟩
  | none =>
    unfold valN at e
    rw [Option.map_eq_none_iff, List.find?_eq_none] at e
    obtain ⟨x, hx, rfl⟩ := List.mem_map.mp h
    exact absurd (decide_eq_true rfl) (e x hx)
theorem valN_none {es : List Ent} {c : Cl} (h : c ∉ es.map (·.1)) : valN es c = none := by
  unfold valN
  rw [Option.map_eq_none_iff, List.find?_eq_none]
  intro x hx e
  exact h (List.mem_map.mpr ⟨x, hx, of_decide_eq_true e⟩)
theorem valN_in {es : List Ent} {c : Cl} {v : V} (h : valN es c = some v) : ∃ e ∈ es, e.1 = c ∧ e.2.2 = v := by
  unfold valN at h
  obtain ⟨e, he, rfl⟩ := Option.map_eq_some_iff.mp h
  exact ⟨e, List.mem_of_find?_eq_some he, of_decide_eq_true (by have := List.find?_some he; simpa using this), rfl⟩
end
/-! ### its rules -/
def tNewN (P : Program) (w : World) : TE := fun _ H Q => ∀ p, H p = none → Q (.ref p) (upd H p (oN P w p []))
theorem empty_isN {P : Program} {w : World} (h : Heap) (hb : sysModules < h.objs.size) : isN P w h.objs.size [] (h.push { cls := .type "dict", data := .dict #[] }) :=
  ⟨beq_eq_false_iff_ne.mpr (Ne.symm (Nat.ne_of_lt hb)), Nat.zero_le _, [], .nil, _, #[], 0, Heap.get?_push_size _ rfl, ⟨rfl, rfl, rfl⟩, rfl, rfl⟩
def tNGet (P : Program) (w : World) (K : PySem.W.Frag) (td ty : TE) : TE := fun σ H Q => td σ H fun x H1 => ty σ H1 fun y H2 => ∃ a es b c v, x = .ref a ∧ IsD1 P w K H2 a es ∧ y = .ref b ∧ Dp K H2 (.ref b) (dCl c) ∧ valN es c = some v ∧ Q v H2
def rNNotIn (P : Program) (w : World) (K : PySem.W.Frag) : R2 := fun x y H Q => ∃ a es b c, y = .ref a ∧ IsD1 P w K H a es ∧ x = .ref b ∧ Dp K H (.ref b) (dCl c) ∧ (c ∈ es.map (·.1) → Q (.bl false) H) ∧ (c ∉ es.map (·.1) → Q (.bl true) H)
def sNPut (P : Program) (w : World) (K : PySem.W.Frag) (td ty tv : TE) : TS := fun D σ H => tv σ H fun v H1 => td σ H1 fun x H2 => ty σ H2 fun y H3 => ∃ a es b c, x = .ref a ∧ H3 a = some (oN P w a es) ∧ (∀ e ∈ es, Dp K H3 (.ref e.2.1) (dCl e.1)) ∧ (es.map (·.1)).Nodup ∧ y = .ref b ∧ Dp K H3 (.ref b) (dCl c) ∧ c ∉ es.map (·.1) ∧ es.length ≤ 1000000 ∧
  D.nx σ (upd H3 a (oN P w a (es ++ [(c, b, v)])))
theorem pairN_snoc {e : Ent} {x : NestedKey × Addr × Value} (h : keyC e.1 = x.1 ∧ e.2.1 = x.2.1 ∧ RelV e.2.2 x.2.2) : ∀ {es : List Ent} {xs : List (NestedKey × Addr × Value)}, PairN es xs → PairN (es ++ [e]) (xs ++ [x])
  | _, _, .nil => .cons h .nil
  | _, _, .cons a t => .cons a (pairN_snoc h t)
section
variable {X : Cx} {pos pos' tpos : Pos} {o i value : Expr} {td ty tv : TE}
theorem pe_newN : PE X (.Dict [] [] pos) (tNewN X.prog X.w) := ⟨fun pins s σ H Q I h =>
  wpAny_Dict_empty ⟨.ref s.heap.objs.size, _, I.laid (t' := s.toks) (fun _ _ q => Heap.get?_push_of_some _ q) (Nat.le_refl _) (oN_ok (empty_isN s.heap I.big)), rfl, h _ (I.hok.fresh (Nat.le_refl _))⟩⟩
theorem nest_room {A : Around} (hu : A.units + 65 < cLine) : (nestedKind X.prog X.w).room A.in1 := by
  show A.units + 1 + 8 < cLine
  omega
theorem pe_nget (hu : X.A.units + 65 < cLine) (ho : PE X o td) (hi : PE X i ty) (hs : NoSl i := by exact fun _ _ => rfl) : PE X (.Subscript o i pos) (tNGet X.prog X.w X.K td ty) := by
  refine ⟨fun pins s σ H Q I h => subD_of PySem.F.slot_dict_getitem.lookup hs (thn (ho.run pins s σ H _ I h) fun u s1 ⟨x, H1, I1, rx, q1⟩ => thn (hi.run pins s1 σ H1 _ I1 q1) fun iv s2 ⟨y, H2, I2, ry, a, es, b, c, v, ex, hD, ey, hb, hv, q2⟩ => ?_)⟩
  subst ex ey
  obtain rfl : u = Value.ref a := rx
  obtain rfl : iv = Value.ref b := ry
  obtain ⟨_, _, xs, pr, hm⟩ := heapN I2 hD
  rcases atN (c := c) pr with ⟨e1, _⟩ | ⟨v', p, e1, e2, rv⟩
  · rw [hv] at e1; cases e1
  · rw [hv] at e1; cases e1
    exact ⟨hm.typeIs, wpAny_getItem_heap (nest_room hu) (cl_is I2 hb) hm e2 ⟨v, H2, I2.tok _, rv, q2⟩⟩
theorem op_nNotIn (hu : X.A.units + 65 < cLine) : OpR X (compareOp .NotIn) (rNNotIn X.prog X.w X.K) := by
  intro pins s σ H x y v u Q I rx ry h
  obtain ⟨a, es, b, c, rfl, hD, rfl, hb, q1, q2⟩ := h
  obtain rfl : u = Value.ref a := ry
  obtain rfl : v = Value.ref b := rx
  obtain ⟨hs, _, xs, pr, hm⟩ := heapN I hD
  refine wpAny_notIn_heap (nest_room hu) (cl_is I hb) hs hm ?_
  rcases atN (c := c) pr with ⟨e1, e2⟩ | ⟨v', p, e1, e2, rv⟩
  · rw [e2]
    exact ⟨.bl true, H, I.tok _, rfl, q2 fun hc => by obtain ⟨v, hv⟩ := valN_mem hc; rw [hv] at e1; cases e1⟩
  · rw [e2]
    refine ⟨.bl false, H, I.tok _, rfl, q1 ?_⟩
    obtain ⟨e, he, rfl, _⟩ := valN_in e1
    exact List.mem_map.mpr ⟨e, he, rfl⟩
theorem ps_nput (hu : X.A.units + 65 < cLine) (ho : PE X o td) (hi : PE X i ty) (hv : PE X value tv) (hs : swapsWith value (some (.Subscript o i pos')) pos.line X.env = pure false := by rfl) :
    PS X (.Assign [.Subscript o i pos'] value pos) (sNPut X.prog X.w X.K td ty tv) := by
  refine ⟨fun pins s σ H D I h => wpAny_Assign_Subscript (thn (hv.run pins s σ H _ I h) fun r s1 ⟨v, H1, I1, rv, q1⟩ => thn (ho.run pins s1 σ H1 _ I1 q1) fun u s2 ⟨x, H2, I2, rx, q2⟩ => thn (hi.run pins s2 σ H2 _ I2 q2) fun iv s3 ⟨y, H3, I3, ry, a, es, b, c, ex, ha, hk, hn, ey, hb, hc, hz, q3⟩ => ?_) hs⟩
  subst ex ey
  obtain rfl : u = Value.ref a := rx
  obtain rfl : iv = Value.ref b := ry
  obtain ⟨hs, _, xs, pr, hm⟩ := heapN I3 ⟨.inl ha, hk, hn⟩
  have lx := Paired.length pr
  have e2 : atKey xs (keyC c) = none := by
    rcases atN (c := c) pr with ⟨_, e2⟩ | ⟨v', p, e1, _, _⟩
    · exact e2
    · rw [valN_none hc] at e1; cases e1
  have hsl : (1000001 : Nat) ≤ sizeLine := by decide
  refine wpAny_setItem_heap (nest_room hu) (cl_is I3 hb) hm (fun h' hm' sb => ⟨σ, _, ?_, q3⟩) (by omega)
  rw [storedH_new e2] at hm'
  obtain ⟨ob, ds, ep, e, hx, hd, he, _, _⟩ := hm'
  have pr' : PairN (es ++ [(c, b, v)]) (xs ++ [(keyC c, b, r)]) :=
    pairN_snoc (e := (c, b, v)) (x := (keyC c, b, r)) ⟨rfl, rfl, rv⟩ pr
  exact d_write I3 (by rw [ha]; exact True.intro) sb ⟨ob, e⟩ (oN_ok ⟨hs, by rw [List.length_append, List.length_singleton]; omega, _, pr', ob, ds, ep, e, hx, hd, he⟩)
end
/-! ### walked -/
def ItN (P : Program) (w : World) (d : Addr) (o : Obj) (es : List Ent) : It :=
  ⟨fun i H => H d = some (.frz o (oN P w d es)) ∧ i < es.length, fun i H x H' => H' = H ∧ ∃ e, es[i]? = some e ∧ x = .ref e.2.1, fun i H => H d = some (.frz o (oN P w d es)) ∧ es.length ≤ i⟩
theorem frzN {X : Cx} {pins : List (Addr × Obj)} {σ : L2.St} {H : Hp} {s : Shared} {d : Addr} {o : Obj} {es : List Ent} (I : Inv X pins σ H s) (h : H d = some (.frz o (oN X.prog X.w d es))) :
    (d == sysModules) = false ∧ s.heap.get? d = some o ∧ o.ExactDict ∧ ∃ (ds : Array DictEntry) (ep : Nat), o.data = .dict ds ep ∧ ds.size = es.length ∧ ∀ (i : Nat) (e : Ent), es[i]? = some e → ∃ en : DictEntry, ds[i]? = some en ∧ en.key = .ref e.2.1 := by
  obtain ⟨hd, hx, _⟩ := I.hok d _ h
  obtain ⟨h1, h2, xs, pr, o', ds, ep, ho, hxx, hdt, he⟩ := hx
  rw [hd] at ho
  cases ho
  have l1 : ds.size = xs.length := by rw [← Array.length_toList, he, List.length_map]
  have l2 := Paired.length pr
  refine ⟨h1, hd, hxx, ds, ep, hdt, by omega, fun i e hi => ?_⟩
  obtain ⟨x, hx1, hx2⟩ := LiI.paired_get pr hi
  refine ⟨entryOfKey (nestedKind X.prog X.w) x, ?_, ?_⟩
  · rw [← Array.getElem?_toList, he, List.getElem?_map, hx1]; rfl
  · show Value.ref x.2.1 = Value.ref e.2.1
    rw [hx2.2.1]
theorem turnN {P : Program} {w : World} {K : PySem.W.Frag} {tg : Expr} {d : Addr} {o : Obj} {ds : Array DictEntry} {ep : Nat} {es : List Ent} (it : Addr) (hod : o.data = .dict ds ep) : L2.Turn P w K tg (ItN P w d o es) [it] it (fun i h => h.IsKeyIter it d i es.length ep) where
  mem := List.mem_singleton.mpr rfl
  obj := fun i h st b hb => by
    rw [List.mem_singleton.mp hb]
    obtain ⟨oi, e, c, dd⟩ := st
    exact ⟨oi, e, fun v z => by rw [dd] at z; cases z⟩
  keep := fun i h h' st k => st.at fun oi e => k it (List.mem_singleton.mpr rfl) oi e
  item := by
    intro X hP hw hK hc i pins s σ H E I hf st hg
    subst hP hw hK
    obtain ⟨f0, f1, f2, f3, f4, f5⟩ := hf it (List.mem_singleton.mpr rfl)
    obtain ⟨hs, hgd, hx, ds', ep', hdt, hsz, ent⟩ := frzN I hg.1
    obtain ⟨rfl, rfl⟩ := dict_ep hod hdt
    have hlt : i < es.length := hg.2
    obtain ⟨en, hen, hkey⟩ := ent i _ (List.getElem?_eq_getElem hlt)
    refine next_key_item st hgd hdt hsz hen fun h' st' sb => ?_
    have I1 : Inv X pins σ H { s with heap := h' } := I.turned (t' := s.toks) (fun b ob hb e => (sb.2 b hb).trans e) f0 f1 f3 f4 f5
    obtain ⟨oi, e, c, dd⟩ := id st'
    exact ⟨en.key, rfl, go_of (s := { s with heap := h' }) e c dd (by decide) ⟨.ref es[i].2.1, H, I1, hkey, ⟨rfl, _, List.getElem?_eq_getElem hlt, rfl⟩, st', fun b hb => (hf b hb).1⟩⟩
  done := by
    intro X hP hw hK hc i pins s σ H E I hf st hg
    subst hP hw hK
    obtain ⟨f0, f1, f2, f3, f4, f5⟩ := hf it (List.mem_singleton.mpr rfl)
    obtain ⟨hs, hgd, hx, ds', ep', hdt, hsz, ent⟩ := frzN I hg.1
    obtain ⟨rfl, rfl⟩ := dict_ep hod hdt
    exact next_key_end (I.ok.hd hc) st hgd hdt hsz hg.2 fun h' eb => ⟨rfl, I.turned (t' := s.toks) (fun b ob hb e => eb b ob hb e) f0 f1 f3 f4 f5⟩
  self := fun _ _ _ _ _ st h => wpAny_pyIter_keyiter st h
def iKeysN (P : Program) (w : World) (td : TE) : TI := fun σ H R => td σ H fun x H1 => ∃ d o es, x = .ref d ∧ H1 d = some (.frz o (oN P w d es)) ∧ R (ItN P w d o es) H1
theorem pi_keysN {X : Cx} {tg e : Expr} {td : TE} (he : PE X e td) : PI X tg e (iKeysN X.prog X.w td) := by
  refine ⟨fun pins s σ H R I h => thn (he.run pins s σ H _ I h) fun u s1 ⟨x, H1, I1, rx, d, o, es, ex, hd, q⟩ => ?_⟩
  subst ex
  obtain rfl : u = Value.ref d := rx
  obtain ⟨hs, hgd, hx, ds, ep, hdt, hsz, _⟩ := frzN I1 hd
  refine iter_keys hs hgd hx hdt (pi_one (tk := s1.toks) I1 _ (turnN _ hdt) ⟨_, Heap.get?_push_size _ rfl, rfl, ?_⟩ q)
  rw [hsz] <;> rfl
/-- a loop over such a dict; what is done of it so far -/
theorem for_keysN {P : Program} {w : World} {d : Addr} {o : Obj} {es : List Ent} {g : L2.TG} {tb : TS} {D : Ends} {σ : L2.St} {H : Hp} (Pv : List Ent → L2.St → Hp → Prop) (h0 : Pv [] σ H) (hl : ∀ done σ1 H1, Pv done σ1 H1 → H1 d = some (.frz o (oN P w d es)))
    (hs : ∀ done e rest σ1 H1, es = done ++ e :: rest → Pv done σ1 H1 → g (.ref e.2.1) σ1 H1 fun σ2 H2 => tb { D with nx := Pv (done ++ [e]), ct := Pv (done ++ [e]), bk := D.nx } σ2 H2) (hd : ∀ σ1 H1, Pv es σ1 H1 → D.nx σ1 H1) :
    ∃ W : Nat → Nat → L2.St → Hp → Prop, (∃ m, W 0 m σ H) ∧ ∀ i m σ H, W i m σ H →
      ((ItN P w d o es).stop i H ∧ D.nx σ H) ∨ ((ItN P w d o es).go i H ∧ ∃ N : L2.St → Hp → Prop, (∀ σ' H', N σ' H' → ∃ m', m' < m ∧ W (i + 1) m' σ' H') ∧ ∀ x H', (ItN P w d o es).yld i H x H' → g x σ H' fun σ2 H2 => tb { D with nx := N, ct := N, bk := D.nx } σ2 H2) := by
  refine ⟨fun i m σ H => m = es.length - i ∧ i ≤ es.length ∧ Pv (es.take i) σ H, ⟨es.length, rfl, Nat.zero_le _, h0⟩, ?_⟩
  rintro i m σ H ⟨rfl, hi, p⟩
  by_cases hlt : i < es.length
  · have hx := List.getElem?_eq_getElem hlt
    refine .inr ⟨⟨hl _ _ _ p, hlt⟩, Pv (es.take (i + 1)), fun σ' H' p' => ⟨es.length - (i + 1), by omega, rfl, hlt, p'⟩, fun x H' ⟨e1, e, he, e2⟩ => ?_⟩
    subst e1 e2
    rw [hx] at he
    cases he
    have := hs (es.take i) _ (es.drop (i + 1)) σ H' (at_split hx) p
    rw [← take_snoc hx] at this
    exact this
  · have e : i = es.length := by omega
    subst e
    rw [List.take_length] at p
    exact .inl ⟨⟨hl _ _ _ p, Nat.le_refl _⟩, hd _ _ p⟩
/-- list(d) -/
theorem call_listN {X : Cx} (hc : X.calm = true) : CallR X (.type "list") (fun xs H Q => ∃ d es, xs = [V.ref d] ∧ Rd H d (oN X.prog X.w d es) ∧ ∀ p, H p = none → Q (.ref p) (upd H p (.lst (es.map fun e => V.ref e.2.1)))) := by
  intro pins s σ H xs us Q I r h
  obtain ⟨d, es, rfl, hd, q⟩ := h
  obtain ⟨u, rfl, rx⟩ := r.one
  cases rx
  obtain ⟨hs, h2, ks, pr, o, ds, ep, ho, hx, hdt, he⟩ := rd_isN hd I.hok
  have l1 : ds.size = ks.length := by rw [← Array.length_toList, he, List.length_map]
  have l2 := Paired.length pr
  refine PySem.W.kdl_call (kdl_raw hs hx hdt) (I.ok.hd hc) ho (by omega) fun h' tk acc' c' kp e it => ?_
  have rv : Vals (es.map fun e => V.ref e.2.1) acc'.toList := by
    refine vals_of_at ((List.length_map _).trans (l2.trans (l1.symm.trans ((show acc'.size = ds.size from it.1).symm.trans Array.length_toList.symm)))) fun j x v h1 h2 => ?_
    rw [List.getElem?_map] at h1
    obtain ⟨en, hen, rfl⟩ := Option.map_eq_some_iff.mp h1
    obtain ⟨y, hy1, hy2⟩ := LiI.paired_get pr hen
    obtain ⟨en', hen', hv⟩ := it.2 j v (by rw [← Array.getElem?_toList]; exact h2)
    rw [← Array.getElem?_toList, he, List.getElem?_map, hy1] at hen'
    cases hen'
    rw [hv]
    show Value.ref y.2.1 = Value.ref en.2.1
    rw [hy2.2.1]
  exact ⟨.ref s.heap.objs.size, _, I.laid (t' := tk) (o := .lst (es.map fun e => V.ref e.2.1)) kp (Nat.le_refl _) ⟨by rw [List.length_map]; exact h2, acc'.toList, c', rv, by rw [Array.toArray_toList]; exact e⟩, rfl, q _ (I.hok.fresh (Nat.le_refl _))⟩
end Sh
end
section
namespace Sh
open PySem PySem.Spec PyProof.Rows L2
/-! ### {rest: .. for rest in ..}, the keys clauses -/
theorem setN {X : Cx} {pins : List (Addr × Obj)} {σ : L2.St} {H : Hp} {s : Shared} {E : Value → Shared → Prop} {D b : Addr} {es : List Ent} {c : Cl} {v : V} {r : Value} {Q : Unit → Shared → Prop} (hu : X.A.units + 65 < cLine) (I : Inv X pins σ H s) (hD : H D = some (oN X.prog X.w D es))
    (hk : ∀ e ∈ es, Dp X.K H (.ref e.2.1) (dCl e.1)) (hn : (es.map (·.1)).Nodup) (hb : Dp X.K H (.ref b) (dCl c)) (hc : c ∉ es.map (·.1)) (hz : es.length ≤ 1000000) (rv : RelV v r) (h : ∀ s', Inv X pins σ (upd H D (oN X.prog X.w D (es ++ [(c, b, v)]))) s' → Q () s') :
    wpAny (model X.prog X.w) X.A (dictSet D (.ref b) r) Q E s := by
  obtain ⟨hs, _, xs, pr, hm⟩ := heapN I ⟨.inl hD, hk, hn⟩
  have lx := Paired.length pr
  have e2 : atKey xs (keyC c) = none := by
    rcases atN (c := c) pr with ⟨_, e2⟩ | ⟨v', p, e1, _, _⟩
    · exact e2
    · rw [valN_none hc] at e1; cases e1
  have hsl : (1000001 : Nat) ≤ sizeLine := by decide
  refine wpAny_dictSet_heap (knd := nestedKind X.prog X.w) (by show X.A.units + 8 < cLine; omega) (cl_is I hb) hm (fun h' hm' sb => h _ ?_) (by omega)
  rw [storedH_new e2] at hm'
  obtain ⟨ob, ds, ep, e, hx, hd, he, _, _⟩ := hm'
  exact d_write I (by rw [hD]; exact True.intro) sb ⟨ob, e⟩ (oN_ok ⟨hs, by rw [List.length_append, List.length_singleton]; omega, _, pairN_snoc (e := (c, b, v)) (x := (keyC c, b, r)) ⟨rfl, rfl, rv⟩ pr, ob, ds, ep, e, hx, hd, he⟩)
/-- what one turn's pair asks of the dict at D -/
def putsN (P : Program) (w : World) (K : PySem.W.Frag) (D : Addr) (y z : V) (H : Hp) (N : Hp → Prop) : Prop := ∃ es b c, y = .ref b ∧ H D = some (oN P w D es) ∧ (∀ e ∈ es, Dp K H (.ref e.2.1) (dCl e.1)) ∧ (es.map (·.1)).Nodup ∧ Dp K H (.ref b) (dCl c) ∧ c ∉ es.map (·.1) ∧ es.length ≤ 1000000 ∧ N (upd H D (oN P w D (es ++ [(c, b, z)])))
def tDcN (P : Program) (w : World) (K : PySem.W.Frag) (wi : TI) (g : L2.TG) (tt : TT) (tk tv : TE) (vs : List Nat) : TE := fun σ H Q => wi σ H fun J H1 => ∀ D, H1 D = none → ∃ W : Nat → Nat → Hp → Prop, (∃ m, W 0 m (upd H1 D (oN P w D []))) ∧ ∀ i m H, W i m H →
  (J.stop i H ∧ Q (.ref D) H) ∨ (J.go i H ∧ ∃ N : Hp → Prop, (∀ H', N H' → ∃ m', m' < m ∧ W (i + 1) m' H') ∧ ∀ x H', J.yld i H x H' → g x (wipe σ vs) H' fun σ2 H2 => wipe σ2 vs = wipe σ vs ∧ tt σ2 H2 fun b H3 =>
    if b = true then tk σ2 H3 fun y H4 => tv σ2 H4 fun z H5 => putsN P w K D y z H5 N else N H3)
theorem pe_dcN {X : Cx} {kx vx tg iter : Expr} {ifs : List Expr} {scope : Scope} {own : List (Str × Nat)} {pos : Pos} {wi : TI} {g : L2.TG} {tt : TT} {tk tv : TE} (hc : X.calm = true) (hu : X.A.units + 65 < cLine) (hN : X.N.Nodup) (hi : PI X tg iter wi) (ok : BlkOk X.N X.env.scope scope own)
    (hg : ∀ (s : Shared) (H : Hp) (C : Addr) (cl : List (Str × Addr)) (fp : List Addr), PG (X.blk s H scope (compEnvC scope cl C X.env) fp) tg g) (ht : ∀ (s : Shared) (H : Hp) (C : Addr) (cl : List (Str × Addr)) (fp : List Addr), PTs (X.blk s H scope (compEnvC scope cl C X.env) fp) ifs tt)
    (hk : ∀ (s : Shared) (H : Hp) (C : Addr) (cl : List (Str × Addr)) (fp : List Addr), PE (X.blk s H scope (compEnvC scope cl C X.env) fp) kx tk)
    (he : ∀ (s : Shared) (H : Hp) (C : Addr) (cl : List (Str × Addr)) (fp : List Addr), PE (X.blk s H scope (compEnvC scope cl C X.env) fp) vx tv) (hs : ∀ x, foldedSetIterable iter X.env x = pure x := by intro _; rfl) :
    PE X (.DictComp kx vx [⟨tg, iter, ifs, 0⟩] scope pos) (tDcN X.prog X.w X.K wi g tt tk tv (own.map (·.2))) := by
  refine ⟨fun pins s σ H Q I h => ?_⟩
  rw [arm_eval_DictComp]
  have closes : ∀ y ∈ scope.names, y.2 = .free → ∃ c, X.env.cells.lookup y.1 = some c := fun y hy e => I.ok.has _ (ok.free y hy e)
  refine wpAny_comprehension_free rfl hs (closure_ok closes) ok.kind (fun y hy e => by rw [ok.uniq y hy, e]) (thn (hi.run pins s σ H _ I h) fun xv s1 hx => thn hx fun itv s2 ⟨it, fp, tn, J, H2, e, I2, T, st2, f2, q⟩ => ?_)
  subst e
  refine wpAny_newObj_type (newEnv_comp ?_)
  have hDn : H2 s2.heap.objs.size = none := I2.hok.fresh (Nat.le_refl _)
  obtain ⟨W, ⟨m0, w0⟩, turn⟩ := q _ hDn
  have I3 := I2.laid (t' := s2.toks) (h' := s2.heap.push { cls := .type "dict", data := .dict #[] }) (fun b o e => Heap.get?_push_of_some _ e) (Nat.le_refl _) (oN_ok (empty_isN s2.heap I2.big))
  have lives : ∀ b ∈ fp, b < s2.heap.objs.size := fun b hb => let ⟨_, e, _⟩ := T.obj _ _ st2 b hb; Heap.lt_size e
  have f3 : ∀ b ∈ fp, FpOk X pins (upd H2 s2.heap.objs.size (oN X.prog X.w s2.heap.objs.size [])) b ∧ b < (s2.heap.push ({ cls := .type "dict", data := .dict #[] } : Obj)).objs.size := fun b hb =>
    ⟨⟨by rw [upd_ne (Nat.ne_of_lt (lives b hb))]; exact (f2 b hb).1, (f2 b hb).2⟩, by rw [Heap.size_push]; exact Nat.lt_succ_of_lt (lives b hb)⟩
  have st3 : tn 0 (s2.heap.push { cls := .type "dict", data := .dict #[] }) := T.keep _ _ _ st2 fun b _ o e => Heap.get?_push_of_some _ e
  generalize hD : s2.heap.objs.size = D at hDn w0 turn I3 f3 ⊢
  generalize hh3 : s2.heap.push ({ cls := .type "dict", data := .dict #[] } : Obj) = h3 at I3 f3 st3 ⊢
  generalize hs3 : ({ s2 with heap := h3 } : Shared) = s3 at I3 ⊢
  have eh : s3.heap = h3 := by rw [← hs3]
  rw [← eh] at st3
  have f3' : ∀ b ∈ fp, FpOk X pins (upd H2 D (oN X.prog X.w D [])) b ∧ b < s3.heap.objs.size := fun b hb => by rw [eh]; exact f3 b hb
  generalize hH3 : upd H2 D (oN X.prog X.w D []) = H3 at I3 f3' w0
  have I4 := block_start I3 ok hN f3'
  have pg := hg s3 H3 s3.heap.objs.size (cellsFrom (s3.heap.objs.size + 1) scope.names (cloFrom X.env.cells scope.names [])) fp
  have pt := ht s3 H3 s3.heap.objs.size (cellsFrom (s3.heap.objs.size + 1) scope.names (cloFrom X.env.cells scope.names [])) fp
  have pk := hk s3 H3 s3.heap.objs.size (cellsFrom (s3.heap.objs.size + 1) scope.names (cloFrom X.env.cells scope.names [])) fp
  have pe := he s3 H3 s3.heap.objs.size (cellsFrom (s3.heap.objs.size + 1) scope.names (cloFrom X.env.cells scope.names [])) fp
  have none3 : ∀ b ∈ fp, H3 b = none := fun b hb => (f3' b hb).1.1
  generalize hce : compEnvC scope (cellsFrom (s3.heap.objs.size + 1) scope.names (cloFrom X.env.cells scope.names [])) s3.heap.objs.size X.env = ce at I4 pg pt pk pe
  have cL : ce.locals = s3.heap.objs.size := by rw [← hce]; rfl
  have st4 : tn 0 (pushCells (s3.heap.push ({ cls := .type "dict", data := .dict #[] } : Obj)) scope.names) := T.keep _ _ _ st3 fun b _ o e => pushCells_keeps _ _ _ _ (Heap.get?_push_of_some _ e)
  have goal : codeAny (model X.prog X.w) X.A (.compStart (.DictComp kx vx [⟨tg, iter, ifs, 0⟩] scope pos) 0 (.ref it) (.ref D) ce) (compPost (model X.prog X.w) X.A X.xe none (EP X pins σ Q) (.ref D) s3.heap.objs.size)
      { s3 with heap := pushCells (s3.heap.push ({ cls := .type "dict", data := .dict #[] } : Obj)) scope.names } := by
    have again : ∀ {σ' : L2.St} {H' : Hp} {s' : Shared}, Inv (X.blk s3 H3 scope ce fp) [] σ' H' s' → (∀ b ∈ fp, H' b = none) → ∀ b ∈ fp, FpOk (X.blk s3 H3 scope ce fp) [] H' b := fun I' hn b hb =>
      ⟨hn b hb, (I'.ok.exf b hb).1, I'.ok.exfs b hb, .inl hb, (I'.ok.exf b hb).2, fun p hp => nomatch (show p ∈ ([] : List (Addr × Obj)) from hp)⟩
    suffices loop : codeAny (model X.prog X.w) X.A (.compLoop (.DictComp kx vx [⟨tg, iter, ifs, 0⟩] scope pos) 0 (.ref it) (.ref D) ce) (compPost (model X.prog X.w) X.A X.xe none (EP X pins σ Q) (.ref D) s3.heap.objs.size)
        { s3 with heap := pushCells (s3.heap.push ({ cls := .type "dict", data := .dict #[] } : Obj)) scope.names } from codeAny_compStart_dict loop (T.self X.A 0 { s3 with heap := pushCells (s3.heap.push ({ cls := .type "dict", data := .dict #[] } : Obj)) scope.names } _ _ st4 loop)
    refine compLoop_anyD (fun n s' => ∃ i H', Inv (X.blk s3 H3 scope ce fp) [] (wipe σ (own.map (·.2))) H' s' ∧ tn i s'.heap ∧ (∀ b ∈ fp, H' b = none) ∧ W i n H') ?_ m0 ⟨0, H3, I4, st4, none3, w0⟩
    rintro n s5 ⟨i, H5, I5, st5, n5, w5⟩
    rcases turn i n H5 w5 with ⟨stop, fin⟩ | ⟨go, N, hN2, step⟩
    · refine thnF (T.done (X.blk s3 H3 scope ce fp) rfl rfl rfl hc i [] s5 _ H5 (fun _ _ => False) I5 (again I5 n5) st5 stop) fun r s6 ⟨hr, I6⟩ => ?_
      subst hr
      obtain ⟨m, hn, _⟩ := I6.loc
      have hn : s6.heap.Ns ce.locals m := hn
      have nC : H5 ce.locals = none := I6.free
      rw [cL] at hn nC
      have I7 : Inv X pins σ H5 s6 := I3.call' (ch := fp) I6.os I6.base I6.hok I6.bare fun b hb => ⟨(f3' b hb).1.2.2.2.1, (f3' b hb).1.2.1, (f3' b hb).1.2.2.2.2.1, (f3' b hb).1.2.2.2.2.2⟩
      obtain ⟨e0, e1, e2, e3, e4, e5⟩ := I3.fpOk (Nat.le_refl _) nC
      exact ⟨m, hn, fun h'' sb => ⟨.ref D, H5, I7.turned (t' := s6.toks) (fun b o hb e => (sb.2 b hb).trans e) e0 e1 e3 e4 e5, rfl, fin⟩⟩
    · refine thnF (T.item (X.blk s3 H3 scope ce fp) rfl rfl rfl hc i [] s5 _ H5 (fun _ _ => False) I5 (again I5 n5) st5 go) fun r s6 ⟨u, hr, h6⟩ => ?_
      subst hr
      refine thnF h6 fun _ s7 ⟨x, H7, I7, r7, y7, st7, n7⟩ => ?_
      refine thnF (pg.run _ s7 _ H7 x u _ (I7.pinned (again I7 n7) (T.obj _ _ st7)) r7 (step x H7 y7)) fun _ s8 ⟨σ8, H8, I8, hw8, q8⟩ => ?_
      refine thnF (pt.run _ s8 σ8 H8 _ I8 q8) fun b s9 ⟨H9, I9, q9⟩ => ?_
      have next : ∀ {s' : Shared} {H' : Hp}, Inv (X.blk s3 H3 scope ce fp) ([] ++ pinsAt fp s7.heap) σ8 H' s' → N H' → ∃ m, m < n ∧ ∃ i H', Inv (X.blk s3 H3 scope ce fp) [] (wipe σ (own.map (·.2))) H' s' ∧ tn i s'.heap ∧ (∀ b ∈ fp, H' b = none) ∧ W i m H' := fun {s' H'} I' nx => by
        obtain ⟨m', hm, w'⟩ := hN2 H' nx
        have stays : ∀ b ∈ fp, ∀ o, s7.heap.get? b = some o → s'.heap.get? b = some o ∧ H' b = none := fun b hb o e => by
          have z := I'.pin (b, o) (List.mem_append_right _ (List.mem_append_right _ (mem_pinsAt hb e)))
          exact ⟨z.1, z.2.1⟩
        have hl : (wipe σ (own.map (·.2))).length = σ8.length := by rw [← hw8, wipe_length]
        refine ⟨m', hm, i + 1, H', (I'.unpinned (pins := [])).weak hl (fun j v e => ?_), T.keep _ _ _ st7 fun b hb o e => (stays b hb o e).1, fun b hb => ?_, w'⟩
        · rw [← hw8] at e
          exact (wipe_some e).1
        · obtain ⟨o, e, _⟩ := T.obj _ _ st7 b hb
          exact (stays b hb o e).2
      cases b with
      | false => exact next I9 (by simpa using q9)
      | true =>
        simp only [if_true] at q9
        refine thnF (pk.run _ s9 σ8 H9 _ I9 q9) fun z s10 ⟨yk, H10, I10, r10, q10⟩ => ?_
        refine thnF (pe.run _ s10 σ8 H10 _ I10 q10) fun z2 s11 ⟨yv, H11, I11, r11, es, b, c, ek, hD11, hk11, hn11, hb11, hc11, hz11, nx⟩ => ?_
        subst ek
        obtain rfl : z = Value.ref b := r10
        exact setN (X := X.blk s3 H3 scope ce fp) hu I11 hD11 hk11 hn11 hb11 hc11 hz11 r11 fun s12 I12 => next I12 nx
  rw [← hce] at goal
  exact goal
end Sh
end
section
namespace Sh
open PySem PySem.Spec L2
abbrev sAdd : Stmt := top 23
theorem scAdd : FnScope ["lines", "active", "constraint", "clause", "line", "rest", "literal"] ["lines", "active", "constraint", "clause", "line"] (defScope sAdd) := ⟨rfl, rfl, rfl, by decide +kernel, rfl, by decide +kernel, by decide +kernel⟩
inductive Ln where
  | given (k : Nat)
  | cut (i j : Nat) (n : Str)
  deriving DecidableEq
def dLn : Ln → PyData
  | .given k => .tuple [.str "given", .int (k : Nat)]
  | .cut i j n => .tuple [.str "cut", .int (i : Nat), .int (j : Nat), .str n]
abbrev Row := Cl × Ln
def dRow (r : Row) : PyData := .tuple [dCl r.1, dLn r.2]
theorem encLn : Enc dLn where
  pure a := by cases a <;> rfl
  eqv a b := by
    rw [Bool.eq_iff_iff]
    cases a <;> cases b <;> simp [dLn, PyData.eqv, PyData.eqvAll, Int.ofNat_inj]
  lay a := by cases a <;> rfl
  dep a := by cases a <;> simp [dLn, PyData.depth, PyData.depthAll]
theorem encRow : Enc dRow where
  pure a := by
    have h1 := encCl.pure a.1
    have h2 := encLn.pure a.2
    simp [dRow, pureD, pureDs, h1, h2]
  eqv a b := by
    simp only [dRow, PyData.eqv, PyData.eqvAll, Bool.and_true]
    rw [encCl.eqv, encLn.eqv, ← Bool.decide_and]
    exact decide_eq_decide.mpr ⟨fun ⟨h1, h2⟩ => Prod.ext h1 h2, fun e => by rw [e]; exact ⟨rfl, rfl⟩⟩
  lay a := by
    have h1 := encCl.lay a.1
    have h2 := encLn.lay a.2
    simp [dRow, PyData.plain, PyData.plainAll, h1, h2]
  dep a := by
    have h1 := dep_cl a.1
    have h2 : (dLn a.2).depth ≤ 1 := by cases a.2 <;> simp [dLn, PyData.depth, PyData.depthAll]
    simp only [dRow, PyData.depth, PyData.depthAll]
    omega
/-- a dict with clause keys that may be written -/
structure NdAt (P : Program) (w : World) (K : PySem.W.Frag) (H : Hp) (d : Addr) (es : List Ent) : Prop where
  at_ : H d = some (oN P w d es)
  key : ∀ e ∈ es, Dp K H (.ref e.2.1) (dCl e.1)
  nd : (es.map (·.1)).Nodup
theorem NdAt.is {P : Program} {w : World} {K : PySem.W.Frag} {H : Hp} {d : Addr} {es : List Ent} (h : NdAt P w K H d es) : IsD1 P w K H d es := ⟨.inl h.at_, h.key, h.nd⟩
theorem NdAt.same {P : Program} {w : World} {K : PySem.W.Frag} {H H' : Hp} {d : Addr} {es : List Ent} (s : Same H H') (h : NdAt P w K H d es) : NdAt P w K H' d es := ⟨s _ _ h.at_, fun e he => encCl.tg (.of s) (h.key e he), h.nd⟩
/-- all as it stood, but at p and d -/
def But2 (p d : Addr) (H H' : Hp) : Prop := ∀ x o, x ≠ p → x ≠ d → H x = some o → H' x = some o
def AddRel (con c : Cl) (ln : Ln) (rows rows' : List Row) (es es' : List Ent) : Prop :=
  (Mth.filt con c ∈ es.map (·.1) ∧ rows' = rows ∧ es' = es) ∨ (Mth.filt con c ∉ es.map (·.1) ∧ rows' = rows ++ [(c, ln)] ∧ ∃ b, es' = es ++ [(Mth.filt con c, b, .int (rows.length : Nat))])
section
variable {P : Program} {w : World} {K : PySem.W.Frag} {mg : Str → Option Value} {base : Heap} {C : Addr}
/-! ### add_line -/
def spAdd (P : Program) (w : World) (K : PySem.W.Frag) : Sp := fun vs H Q _ => ∃ (p d : Addr) (v2 v3 v4 : V) (rows : List Row) (es : List Ent) (con c : Cl) (ln : Ln), vs = [.ref p, .ref d, v2, v3, v4] ∧ Ls K H p dRow rows ∧ NdAt P w K H d es ∧ Dp K H v2 (dCl con) ∧ Dp K H v3 (dCl c) ∧ Dp K H v4 (dLn ln) ∧
  rows.length ≤ 100000 ∧ es.length ≤ 100000 ∧ c.length ≤ 1000 ∧ ∀ rows' es' H', AddRel con c ln rows rows' es es' → Ls K H' p dRow rows' → NdAt P w K H' d es' → But2 p d H H' → Q .non H'
theorem ok_add (T : At K mg "add_line" sAdd) (mt : mg "tuple" = none) (ml : mg "len" = none) : Def P w K mg base 1 "add_line" ["lines", "active", "constraint", "clause", "line"] (spAdd P w K) := by
  refine T.def scAdd (fun vs H Q E h => ?_) (fun _ _ _ _ _ _ us hl => match us, hl with | [_, _, _, _, _], _ => rfl) (fun f cdv A outer s H vs Q E hr h => ?_)
  · obtain ⟨p, d, v2, v3, v4, rows, es, con, c, ln, rfl, _⟩ := h; rfl
  obtain ⟨p, d, v2, v3, v4, rows, es, con, c, ln, rfl, hL, hD, h2, h3, h4, z1, z2, z3, q⟩ := h
  refine ⟨_, pss_cons (st_ 5 scAdd.nd (tup_ (by rfl) mt (pe_lc (own := [("literal", 6)]) (g := gName 6) (by rfl) scAdd.nd (pi_tup (pv 3)) (blkOk_by (N := ["lines", "active", "constraint", "clause", "line", "rest", "literal"]) (sc := defScope sAdd) (by decide +kernel)) (fun _ _ _ _ _ => gn 6 scAdd.nd)
      (fun _ _ _ _ _ => pts_one (notInK K encLit (hu65 hr) (pv 6) (pv 2))) (fun _ _ _ _ _ => pv 6))))
    (pss_one (ps_if (tC_ (op_nNotIn (hu65 hr)) (pv 5) (pv 1)) (pss_cons (ps_nput (hu65 hr) (pv 1) (pv 5) (len_ ml (pv 0))) (pss_one (app_ (pv 0) (pe_tup (pa_cons (pv 3) (pa_cons (pv 4) pa_nil)))))) pss_nil)), ?_⟩
  obtain ⟨a, xs, rfl, hs, ha⟩ := dp_tup h3
  have npd : p ≠ d := fun e => by
    obtain ⟨_, e1, _⟩ := hL
    rw [e, hD.at_] at e1
    cases e1
  refine ⟨_, rfl, a, rfl, ⟨xs, hs⟩, fun D hDn => lc_tupE encLit encLit (fun l => !decide (l ∈ con)) id hDn (by omega) hs ha (fun l _ v H' yes no hS hv hy hn => ?_) (fun H' hS hLD => ?_)⟩
  · exact ⟨rfl, _, rfl, _, rfl, l, con, hv, .inl (encCl.tg (.of hS) h2), fun hm => ⟨_, rfl, iteF (hn (by show (!decide (l ∈ con)) = false; rw [decide_eq_true hm]; rfl) _ (Same.refl _))⟩, fun hm => ⟨_, rfl, iteT ⟨_, rfl, hy (by show (!decide (l ∈ con)) = true; rw [decide_eq_false hm]; rfl) _ _ (Same.refl _) hv⟩⟩⟩
  · rw [List.map_id] at hLD
    refine ⟨_, _, rfl, hLD.dp, encLit.pures _, fun v H2 hS2 hd2 => ?_⟩
    have S := hS.trans hS2
    have hd3 : Dp K H2 v (dCl (Mth.filt con c)) := hd2
    obtain ⟨b, ys, rfl, hb, hy⟩ := dp_tup hd3
    have hL2 := hL.same encRow S
    have hD2 := hD.same S
    refine ⟨_, rfl, _, rfl, d, es, b, Mth.filt con c, rfl, hD2.is, rfl, hd3, fun hin => ⟨_, rfl, iteF ?_⟩, fun hin => ⟨_, rfl, iteT ?_⟩⟩
    · exact q rows es H2 (.inl ⟨hin, rfl, rfl⟩) hL2 hD2 (fun x o _ _ e => S x o e)
    · obtain ⟨rs, hpe, had⟩ := hL2
      have lr := allf_len had
      refine ⟨_, rfl, p, rs, rfl, .inl (.inl (.inl hpe)), _, rfl, _, rfl, d, es, b, Mth.filt con c, rfl, hD2.at_, hD2.key, hD2.nd, rfl, hd3, hin, by omega, ?_⟩
      have T1 : TG H2 (upd H2 d (oN P w d (es ++ [(Mth.filt con c, b, .int (rs.length : Nat))]))) := tg_ext hD2.at_
      have hpe2 : (upd H2 d (oN P w d (es ++ [(Mth.filt con c, b, .int (rs.length : Nat))]))) p = some (.lst rs) := by rw [upd_ne npd]; exact hpe
      refine ⟨_, rfl, tyL hpe2, _, rfl, _, rfl, (by show 2 ≤ sizeLine; decide), fun t ht => ?_⟩
      have T2 := tg_new (o := .tup [.ref a, v4]) ht
      have hpe3 : (upd (upd H2 d (oN P w d (es ++ [(Mth.filt con c, b, .int (rs.length : Nat))]))) t (.tup [.ref a, v4])) p = some (.lst rs) := same_new ht _ _ hpe2
      have T3 := T1.trans T2
      have hrow : Dp K (upd (upd H2 d (oN P w d (es ++ [(Mth.filt con c, b, .int (rs.length : Nat))]))) t (.tup [.ref a, v4])) (.ref t) (dRow (c, ln)) := .tup (.inl (.inl upd_same)) (.cons (encCl.tg ((TG.of S).trans T3) h3) (.cons (encLn.tg ((TG.of S).trans T3) h4) .nil))
      refine ⟨p, rs, .ref t, rfl, rfl, hpe3, Nat.lt_of_le_of_lt (by omega : rs.length ≤ 100000) (by decide), ?_⟩
      have T4 := T3.trans (tg_lst (o := .lst (rs ++ [.ref t])) hpe3)
      refine q (rows ++ [(c, ln)]) (es ++ [(Mth.filt con c, b, .int (rows.length : Nat))]) _ (.inr ⟨hin, rfl, b, rfl⟩) (Ls.push encRow hpe3 (encRow.tgs T3 had) hrow) ⟨?_, fun e he => ?_, ?_⟩ (fun x o h1 h2 e => ?_)
      · have ndt : d ≠ t := fun e => by rw [← e, upd_same] at ht; cases ht
        rw [upd_ne npd.symm, upd_ne ndt, upd_same, lr]
        rfl
      · rcases List.mem_append.mp he with z | z
        · exact encCl.tg T4 (hD2.key e z)
        · rw [List.mem_singleton.mp z]; exact encCl.tg T4 hd3
      · rw [List.map_append]
        exact nd_snoc hD2.nd hin
      · have e2 := S x o e
        have ndt : t ≠ d := fun z => by rw [z, upd_same] at ht; cases ht
        have ht2 : H2 t = none := by rw [upd_ne ndt] at ht; exact ht
        have hxt : x ≠ t := ne_of_none e2 ht2
        rw [upd_ne h1, upd_ne hxt, upd_ne h2]
        exact e2
end
end Sh
end
section
namespace Sh
open PySem PySem.Spec L2
section
variable {P : Program} {w : World} {K : PySem.W.Frag} {g : L2.TG} {tt : TT} {tk tv : TE} {ws : List Nat} {σ : St} {H1 : Hp} {D d a : Addr} {o : Obj} {Qd : Hp → Prop} {es : List Ent}
theorem NdAt.put {H : Hp} {b : Addr} {c : Cl} {v : V} (h : NdAt P w K H D es) (hb : Dp K H (.ref b) (dCl c)) (hc : c ∉ es.map (·.1)) : NdAt P w K (upd H D (oN P w D (es ++ [(c, b, v)]))) D (es ++ [(c, b, v)]) := by
  refine ⟨upd_same, fun e he => ?_, ?_⟩
  · rcases List.mem_append.mp he with z | z
    · exact encCl.tg (tg_ext h.at_) (h.key e z)
    · rw [List.mem_singleton.mp z]; exact encCl.tg (tg_ext h.at_) hb
  · rw [List.map_append]; exact nd_snoc h.nd hc
theorem NdAt.nil {H : Hp} : NdAt P w K (upd H D (oN P w D [])) D [] := ⟨upd_same, (fun _ h => by cases h), List.nodup_nil⟩
def TurnN (H1 : Hp) (g : L2.TG) (tt : TT) (tk tv : TE) (ws : List Nat) (σ : St) (x : V) (val : V) (p : Bool) : Prop :=
  ∀ (H : Hp) (yes : V → V → Hp → Prop) (no : Hp → Prop), Same H1 H → (p = true → ∀ H', Same H H' → yes x val H') → (p = false → ∀ H', Same H H' → no H') →
    g x (wipe σ ws) H fun σ2 H2 => wipe σ2 ws = wipe σ ws ∧ tt σ2 H2 fun b H3 => if b = true then tk σ2 H3 fun y H4 => tv σ2 H4 fun z H5 => yes y z H5 else no H3
theorem dcN_keys (p : Ent → Bool) (val : Ent → V) (hD : H1 D = none) (hf : H1 d = some (.frz o (oN P w d es))) (hk : ∀ e ∈ es, Dp K H1 (.ref e.2.1) (dCl e.1)) (hn : (es.map (·.1)).Nodup) (hz : es.length ≤ 1000000)
    (turn : ∀ e ∈ es, TurnN H1 g tt tk tv ws σ (.ref e.2.1) (val e) (p e)) (hd : ∀ H, Same H1 H → NdAt P w K H D ((es.filter p).map fun e => (e.1, e.2.1, val e)) → Qd H) :
    ∃ W : Nat → Nat → Hp → Prop, (∃ m, W 0 m (upd H1 D (oN P w D []))) ∧ ∀ i m H, W i m H →
      ((ItN P w d o es).stop i H ∧ Qd H) ∨ ((ItN P w d o es).go i H ∧ ∃ N : Hp → Prop, (∀ H', N H' → ∃ m', m' < m ∧ W (i + 1) m' H') ∧ ∀ x H', (ItN P w d o es).yld i H x H' → g x (wipe σ ws) H' fun σ2 H2 => wipe σ2 ws = wipe σ ws ∧ tt σ2 H2 fun b H3 =>
        if b = true then tk σ2 H3 fun y H4 => tv σ2 H4 fun z H5 => putsN P w K D y z H5 N else N H3) := by
  refine ⟨fun i m H => m = es.length - i ∧ i ≤ es.length ∧ Same H1 H ∧ NdAt P w K H D (((es.take i).filter p).map fun e => (e.1, e.2.1, val e)), ⟨es.length, rfl, Nat.zero_le _, same_new hD, NdAt.nil⟩, ?_⟩
  rintro i m H ⟨rfl, hi, hS, hN⟩
  by_cases hlt : i < es.length
  · have hx := List.getElem?_eq_getElem hlt
    refine .inr ⟨⟨hS _ _ hf, hlt⟩, fun H => Same H1 H ∧ NdAt P w K H D (((es.take (i + 1)).filter p).map fun e => (e.1, e.2.1, val e)), fun H' p' => ⟨es.length - (i + 1), by omega, rfl, hlt, p'⟩, fun x H' ⟨e1, e, he, e2⟩ => ?_⟩
    subst e1 e2
    rw [hx] at he
    cases he
    have hm : es[i] ∈ es := List.getElem_mem hlt
    refine turn es[i] hm H' (fun y z H5 => putsN P w K D y z H5 _) _ hS (fun hp H2 hS2 => ?_) (fun hp H2 hS2 => ⟨hS.trans hS2, ?_⟩)
    · have hN2 := hN.same hS2
      have hb := encCl.tg (.of (hS.trans hS2)) (hk _ hm)
      have hc : es[i].1 ∉ (((es.take i).filter p).map fun e => (e.1, e.2.1, val e)).map (·.1) := by
        rw [List.map_map]
        intro hin
        obtain ⟨e', he', e2⟩ := List.mem_map.mp hin
        have h1 : e' ∈ es.take i := (List.mem_filter.mp he').1
        have h2 : ((es.take (i + 1)).map (·.1)).Nodup := by rw [List.map_take]; exact List.Nodup.sublist (List.take_sublist _ _) hn
        rw [take_snoc hx, List.map_append] at h2
        exact (List.nodup_append.mp h2).2.2 e'.1 (List.mem_map.mpr ⟨e', h1, rfl⟩) es[i].1 (List.mem_singleton.mpr rfl) e2
      refine ⟨_, _, es[i].1, rfl, hN2.at_, hN2.key, hN2.nd, hb, hc, ?_, same_mut (hS.trans hS2) hD, ?_⟩
      · rw [List.length_map]
        exact Nat.le_trans (List.length_filter_le _ _) (by rw [List.length_take]; omega)
      · rw [filter_take hx, if_pos hp]
        exact hN2.put hb hc
    · rw [filter_take hx, if_neg (by rw [hp]; decide), List.append_nil]
      exact hN.same hS2
  · have e : i = es.length := by omega
    subst e
    rw [List.take_length] at hN
    exact .inl ⟨⟨hS _ _ hf, Nat.le_refl _⟩, hd _ hS hN⟩
theorem dcN_tup {vs : List V} {L : List Cl} (val : Cl → V) (hD : H1 D = none) (hq : SqT K H1 a vs) (hda : DpAll K H1 vs (L.map dCl)) (hn : L.Nodup) (hz : L.length ≤ 1000000)
    (turn : ∀ c ∈ L, ∀ b, Dp K H1 (.ref b) (dCl c) → TurnN H1 g tt tk tv ws σ (.ref b) (val c) true) (hd : ∀ H es2, Same H1 H → es2.map (·.1) = L → (∀ e ∈ es2, e.2.2 = val e.1) → NdAt P w K H D es2 → Qd H) :
    ∃ W : Nat → Nat → Hp → Prop, (∃ m, W 0 m (upd H1 D (oN P w D []))) ∧ ∀ i m H, W i m H →
      ((Itt K a).stop i H ∧ Qd H) ∨ ((Itt K a).go i H ∧ ∃ N : Hp → Prop, (∀ H', N H' → ∃ m', m' < m ∧ W (i + 1) m' H') ∧ ∀ x H', (Itt K a).yld i H x H' → g x (wipe σ ws) H' fun σ2 H2 => wipe σ2 ws = wipe σ ws ∧ tt σ2 H2 fun b H3 =>
        if b = true then tk σ2 H3 fun y H4 => tv σ2 H4 fun z H5 => putsN P w K D y z H5 N else N H3) := by
  have hl := allf_len hda
  have st : ∀ H, Same H1 H → SqT K H a vs := fun H s => sqt_tg (.of s) hq
  refine ⟨fun i m H => m = vs.length - i ∧ i ≤ vs.length ∧ Same H1 H ∧ ∃ es2, es2.map (·.1) = L.take i ∧ (∀ e ∈ es2, e.2.2 = val e.1) ∧ NdAt P w K H D es2, ⟨vs.length, rfl, Nat.zero_le _, same_new hD, [], rfl, (fun _ h => by cases h), NdAt.nil⟩, ?_⟩
  rintro i m H ⟨rfl, hi, hS, es2, h1, h2, hN⟩
  by_cases hlt : i < vs.length
  · have hx := List.getElem?_eq_getElem hlt
    obtain ⟨c, hc1, hc2⟩ := all_get hda hx
    obtain ⟨b, bs, eb, _⟩ := dp_tup hc2
    refine .inr ⟨⟨vs, vs[i], st _ hS, hx⟩, fun H => Same H1 H ∧ ∃ es2, es2.map (·.1) = L.take (i + 1) ∧ (∀ e ∈ es2, e.2.2 = val e.1) ∧ NdAt P w K H D es2, fun H' p' => ⟨vs.length - (i + 1), by omega, rfl, hlt, p'⟩, fun x H' ⟨e1, y⟩ => ?_⟩
    subst e1
    have ex : x = vs[i] := Option.some.inj ((y vs (st _ hS)).symm.trans hx)
    rw [ex, eb]
    rw [eb] at hc2
    have hm : c ∈ L := List.mem_of_getElem? hc1
    refine turn c hm b hc2 H' (fun y z H5 => putsN P w K D y z H5 _) _ hS (fun _ H2 hS2 => ?_) (fun hp => nomatch hp)
    have hN2 := hN.same hS2
    have hb := encCl.tg (.of (hS.trans hS2)) hc2
    have hc : c ∉ es2.map (·.1) := by
      rw [h1]
      intro hin
      have h2 : (L.take (i + 1)).Nodup := List.Nodup.sublist (List.take_sublist _ _) hn
      rw [take_snoc hc1] at h2
      exact (List.nodup_append.mp h2).2.2 c hin c (List.mem_singleton.mpr rfl) rfl
    have lz : es2.length ≤ 1000000 := by
      have := congrArg List.length h1
      rw [List.length_map, List.length_take] at this
      omega
    refine ⟨es2, b, c, rfl, hN2.at_, hN2.key, hN2.nd, hb, hc, lz, same_mut (hS.trans hS2) hD, es2 ++ [(c, b, val c)], ?_, fun e he => ?_, hN2.put hb hc⟩
    · rw [List.map_append, h1, take_snoc hc1]; rfl
    · rcases List.mem_append.mp he with z | z
      · exact h2 e z
      · rw [List.mem_singleton.mp z]
  · have e : i = vs.length := by omega
    subst e
    rw [hl, List.take_length] at h1
    exact .inl ⟨⟨vs, st _ hS, Nat.le_refl _⟩, hd _ es2 hS h1 h2 hN⟩
end
/-! ### what cut_name keeps -/
structure KP (ns : List Str) (Ks : List Cl) (x : Str) (D : Cl → Cl → Prop) (kk : List Cl) : Prop where
  mem : ∀ r ∈ kk, (r ∈ Ks ∧ ∀ l ∈ r, l.1 ≠ x) ∨ ∃ c ∈ Ks, ∃ d ∈ Ks, (x, true) ∈ c ∧ (x, false) ∈ d ∧ Mth.IsRes c d x r
  base : ∀ r ∈ Ks, (∀ l ∈ r, l.1 ≠ x) → r ∈ kk
  all : ∀ c d, D c d → (x, true) ∈ c → (x, false) ∈ d → ∀ r, Mth.IsRes c d x r → ∃ s ∈ kk, Mth.IsRes c d x s
theorem KP.weak {ns : List Str} {Ks kk : List Cl} {x : Str} {D D' : Cl → Cl → Prop} (R : KP ns Ks x D kk) (h : ∀ c d, D' c d → (x, true) ∈ c → (x, false) ∈ d → D c d) : KP ns Ks x D' kk := ⟨R.mem, R.base, fun c d hd h1 h2 => R.all c d (h c d hd h1 h2) h1 h2⟩
theorem KP.none {ns : List Str} {Ks kk : List Cl} {x : Str} {D D' : Cl → Cl → Prop} {c0 d0 : Cl} (R : KP ns Ks x D kk) (n : ∀ r, ¬ Mth.IsRes c0 d0 x r) (h : ∀ c d, D' c d → D c d ∨ (c = c0 ∧ d = d0)) : KP ns Ks x D' kk :=
  ⟨R.mem, R.base, fun c d hd h1 h2 r hr => by
    rcases h c d hd with q | ⟨rfl, rfl⟩
    · exact R.all c d q h1 h2 r hr
    · exact (n r hr).elim⟩
theorem KP.add {ns : List Str} {Ks kk kk' : List Cl} {x : Str} {D D' : Cl → Cl → Prop} {c0 d0 r0 : Cl} (R : KP ns Ks x D kk) (hk : ∀ r, r ∈ kk' ↔ r ∈ kk ∨ r = r0) (hc : c0 ∈ Ks) (hd : d0 ∈ Ks) (h1 : (x, true) ∈ c0) (h2 : (x, false) ∈ d0) (hr : Mth.IsRes c0 d0 x r0)
    (h : ∀ c d, D' c d → D c d ∨ (c = c0 ∧ d = d0)) : KP ns Ks x D' kk' :=
  ⟨fun r hr' => by
    rcases (hk r).mp hr' with q | q
    · exact R.mem r q
    · rw [q]; exact .inr ⟨c0, hc, d0, hd, h1, h2, hr⟩, fun r a b => (hk r).mpr (.inl (R.base r a b)), fun c d hd k1 k2 r hr' => by
    rcases h c d hd with q | ⟨rfl, rfl⟩
    · obtain ⟨s, hs, q'⟩ := R.all c d q k1 k2 r hr'
      exact ⟨s, (hk s).mpr (.inl hs), q'⟩
    · exact ⟨r0, (hk r0).mpr (.inr rfl), hr⟩⟩
theorem KP.elim {ns : List Str} {Ks kk L : List Cl} {x : Str} (R : KP ns Ks x (fun c d => c ∈ Ks ∧ d ∈ Ks) kk) (hL : Mth.IsLeast kk L) : Mth.ElimRel Ks x L :=
  ⟨fun r hr => R.mem r (hL.mem r hr), fun r hr hx => hL.low r (R.base r hr hx), fun c hc d hd h1 h2 r hr => by
    obtain ⟨s, hs, q⟩ := R.all c d ⟨hc, hd⟩ h1 h2 r hr
    obtain ⟨t, ht, q'⟩ := hL.low s hs
    exact ⟨t, ht, fun l hl => q.sub hr l (q' l hl)⟩⟩
/-- an entry tells a row -/
def EntOk (ns : List Str) (con : Cl) (rows : List Row) (e : Ent) : Prop := ∃ (k : Nat) (c : Cl) (ln : Ln), e.2.2 = .int (k : Nat) ∧ rows[k]? = some (c, ln) ∧ Mth.VC ns c ∧ Mth.NA con c ∧ e.1 = Mth.filt con c
def RowsOk (rows : List Row) : Prop := ∀ (k : Nat) (c : Cl) (i j : Nat) (n : Str), rows[k]? = some (c, .cut i j n) → i < k ∧ j < k
theorem EntOk.more {ns : List Str} {con : Cl} {rows rows' : List Row} {e : Ent} (h : EntOk ns con rows e) (hr : rows <+: rows') : EntOk ns con rows' e := by
  obtain ⟨k, c, ln, e1, e2, r⟩ := h
  obtain ⟨t, rfl⟩ := hr
  exact ⟨k, c, ln, e1, by rw [List.getElem?_append_left (List.getElem?_eq_some_iff.mp e2).1]; exact e2, r⟩
theorem RowsOk.snoc {rows : List Row} {c : Cl} {ln : Ln} (h : RowsOk rows) (hl : ∀ i j n, ln = .cut i j n → i < rows.length ∧ j < rows.length) : RowsOk (rows ++ [(c, ln)]) := fun k c' i j n e => by
  by_cases hk : k < rows.length
  · rw [List.getElem?_append_left hk] at e; exact h k c' i j n e
  · have h2 := (List.getElem?_eq_some_iff.mp e).1
    rw [List.length_append, List.length_singleton] at h2
    have : k = rows.length := by omega
    subst this
    rw [List.getElem?_append_right (Nat.le_refl _), Nat.sub_self] at e
    cases e
    exact hl i j n rfl
theorem EntOk.vc {ns : List Str} {con : Cl} {rows : List Row} {e : Ent} (h : EntOk ns con rows e) : Mth.VC ns e.1 := by
  obtain ⟨k, c, ln, _, _, hv, _, e1⟩ := h
  rw [e1]
  exact hv.filter _
/-- what add_line does to entries that are in order -/
theorem AddRel.ok {ns : List Str} {con c : Cl} {ln : Ln} {rows rows' : List Row} {es es' : List Ent} (h : AddRel con c ln rows rows' es es') (hv : Mth.VC ns c) (hna : Mth.NA con c) (hes : ∀ e ∈ es, EntOk ns con rows e) (hr : RowsOk rows) (hl : ∀ i j n, ln = .cut i j n → i < rows.length ∧ j < rows.length) :
    rows <+: rows' ∧ RowsOk rows' ∧ (∀ e ∈ es', EntOk ns con rows' e) ∧ (∀ r, r ∈ es'.map (·.1) ↔ r ∈ es.map (·.1) ∨ r = Mth.filt con c) ∧ rows'.length + es.length = rows.length + es'.length := by
  rcases h with ⟨hin, rfl, rfl⟩ | ⟨hin, rfl, b, rfl⟩
  · exact ⟨List.prefix_refl _, hr, hes, fun r => ⟨.inl, fun h => h.elim id fun e => by rw [e]; exact hin⟩, rfl⟩
  · refine ⟨List.prefix_append _ _, hr.snoc hl, fun e he => ?_, fun r => by rw [List.map_append, List.mem_append]; simp, by simp; omega⟩
    rcases List.mem_append.mp he with z | z
    · exact (hes e z).more (List.prefix_append _ _)
    · rw [List.mem_singleton.mp z]
      exact ⟨rows.length, c, ln, rfl, by rw [List.getElem?_append_right (Nat.le_refl _), Nat.sub_self]; rfl, hv, hna, rfl⟩
end Sh
end
section
namespace Sh
open PySem PySem.Spec L2
abbrev sCut : Stmt := top 24
theorem scCut : FnScope ["lines", "active", "constraint", "name", "kept", "first", "second", "i", "j", "clause", "rest"] ["lines", "active", "constraint", "name"] (defScope sCut) := ⟨rfl, rfl, rfl, by decide +kernel, rfl, by decide +kernel, by decide +kernel⟩
theorem ngetK {X : Cx} {pos : Pos} {o i : Expr} {td ty : TE} (P : Program) (w : World) (K : PySem.W.Frag) (hu : X.A.units + 65 < cLine) (ho : PE X o td) (hi : PE X i ty) (hP : X.prog = P := by rfl) (hw : X.w = w := by rfl) (hK : X.K = K := by rfl) (hs : NoSl i := by exact fun _ _ => rfl) : PE X (.Subscript o i pos) (tNGet P w K td ty) := by
  subst hP hw hK; exact pe_nget hu ho hi hs
theorem valN_of {es : List Ent} {e : Ent} (hn : (es.map (·.1)).Nodup) (he : e ∈ es) : valN es e.1 = some e.2.2 := by
  obtain ⟨v, hv⟩ := valN_mem (List.mem_map.mpr ⟨e, he, rfl⟩)
  obtain ⟨e', he', h1, h2⟩ := valN_in hv
  have : e' = e := by
    obtain ⟨i, hi⟩ := List.mem_iff_getElem?.mp he
    obtain ⟨j, hj⟩ := List.mem_iff_getElem?.mp he'
    have e1 : (es.map (·.1))[i]? = some e.1 := by rw [List.getElem?_map, hi]; rfl
    have e2 : (es.map (·.1))[j]? = some e.1 := by rw [List.getElem?_map, hj, ← h1]; rfl
    have := nd_ix hn e1 e2
    subst this
    exact Option.some.inj (hj.symm.trans hi)
  rw [hv, ← h2, this]
theorem tg_but2 {H H' : Hp} {p d : Addr} {ys : List V} {φ : Heap → Prop} (h : But2 p d H H') (hp : H p = some (.lst ys)) (hd : H d = some (.ext φ)) : TG H H' := fun b xs r => by
  have h1 : b ≠ p := fun e => by
    rcases r with r | ⟨o, r⟩ <;> (rw [e, hp] at r; cases r)
  have h2 : b ≠ d := fun e => by
    rcases r with r | ⟨o, r⟩ <;> (rw [e, hd] at r; cases r)
  rcases r with r | ⟨o, r⟩
  · exact .inl (h b _ h1 h2 r)
  · exact .inr ⟨o, h b _ h1 h2 r⟩
/-- how things stand while cut_name's loops run -/
structure CutSt (P : Program) (w : World) (K : PySem.W.Frag) (H : Hp) (p d D : Addr) (od : Obj) (es : List Ent) (ns : List Str) (con : Cl) (rows : List Row) (k0 : Nat) (rows1 : List Row) (ks1 : List Ent) (H' : Hp) : Prop where
  but : But2 p d H H'
  frz : H' d = some (.frz od (oN P w d es))
  ls : Ls K H' p dRow rows1
  nd : NdAt P w K H' D ks1
  pre : rows <+: rows1
  rok : RowsOk rows1
  ent : ∀ e ∈ ks1, EntOk ns con rows1 e
  len : rows1.length + k0 = rows.length + ks1.length
theorem CutSt.same {P : Program} {w : World} {K : PySem.W.Frag} {H H' H2 : Hp} {p d D : Addr} {od : Obj} {es ks1 : List Ent} {ns : List Str} {con : Cl} {rows rows1 : List Row} {k0 : Nat} (x : CutSt P w K H p d D od es ns con rows k0 rows1 ks1 H') (s : Same H' H2) : CutSt P w K H p d D od es ns con rows k0 rows1 ks1 H2 :=
  ⟨fun y o h1 h2 e => s _ _ (x.but y o h1 h2 e), s _ _ x.frz, x.ls.same encRow s, x.nd.same s, x.pre, x.rok, x.ent, x.len⟩
theorem CutSt.few {P : Program} {w : World} {K : PySem.W.Frag} {H H' : Hp} {p d D : Addr} {od : Obj} {es ks1 : List Ent} {ns : List Str} {con : Cl} {rows rows1 : List Row} {k0 : Nat} (x : CutSt P w K H p d D od es ns con rows k0 rows1 ks1 H') (hA : Mth.Asc ns) (nl : ns.length ≤ 5) : ks1.length ≤ 243 := by
  have := Mth.vc_count hA x.nd.nd (fun c hc => by obtain ⟨e, he, rfl⟩ := List.mem_map.mp hc; exact (x.ent e he).vc)
  rw [List.length_map] at this
  exact Nat.le_trans this (pow3 nl)
section
variable {P : Program} {w : World} {K : PySem.W.Frag} {mg : Str → Option Value} {base : Heap} {C : Addr}
def spCut (P : Program) (w : World) (K : PySem.W.Frag) : Sp := fun vs H Q _ => ∃ (p d : Addr) (v2 : V) (x : Str) (rows : List Row) (es : List Ent) (con : Cl) (ns : List Str), vs = [.ref p, .ref d, v2, .str x] ∧ Ls K H p dRow rows ∧ NdAt P w K H d es ∧ Dp K H v2 (dCl con) ∧
  Mth.Asc ns ∧ ns.length ≤ 5 ∧ RowsOk rows ∧ (∀ e ∈ es, EntOk ns con rows e) ∧ rows.length ≤ 5000 ∧
  ∀ rows' es' d' H', But2 p p H H' → Ls K H' p dRow rows' → NdAt P w K H' d' es' → rows <+: rows' → RowsOk rows' → (∀ e ∈ es', EntOk ns con rows' e) → Mth.ElimRel (es.map (·.1)) x (es'.map (·.1)) → rows'.length ≤ rows.length + 243 → Q (.ref d') H'
theorem ok_cut (T : At K mg "cut_name" sCut) (ml : mg "list" = none) (G1 : Def P w K mg base 1 "resolvent" ["first", "second", "name"] (spResolvent K)) (G2 : Def P w K mg base 1 "add_line" ["lines", "active", "constraint", "clause", "line"] (spAdd P w K))
    (G3 : Def P w K mg base 2 "least_clauses" ["clauses"] (spLeast K)) : Def P w K mg base 3 "cut_name" ["lines", "active", "constraint", "name"] (spCut P w K) := by
  refine T.def scCut (fun vs H Q E h => ?_) (fun _ _ _ _ _ _ us hl => match us, hl with | [_, _, _, _], _ => rfl) (fun f cdv A outer s H vs Q E hr h => ?_)
  · obtain ⟨p, d, v2, x, rows, es, con, ns, rfl, _⟩ := h; rfl
  obtain ⟨p, d, v2, x, rows, es, con, ns, rfl, hL, hN, h2, hA, nl, hR, hE, z1, q⟩ := h
  refine ⟨_, pss_cons (st_ 4 scCut.nd (pe_lock (pe_dcN (own := [("rest", 10)]) (g := gName 10) (by rfl) (hu65 hr) scCut.nd (pi_keysN (pv 1)) (blkOk_by (N := ["lines", "active", "constraint", "name", "kept", "first", "second", "i", "j", "clause", "rest"]) (sc := defScope sCut) (by decide +kernel)) (fun _ _ _ _ _ => gn 10 scCut.nd)
      (fun _ _ _ _ _ => pts_one (PW.pt (pw_and (notInK K encLit (hu65 hr) (pe_tup (pa_cons (pv 3) (pa_cons pe_int pa_nil))) (pv 10)) (pw_and1 (notInK K encLit (hu65 hr) (pe_tup (pa_cons (pv 3) (pa_cons pe_int pa_nil))) (pv 10))))))
      (fun _ _ _ _ _ => pv 10) (fun _ _ _ _ _ => ngetK P w K (hu65 hr) (pv 1) (pv 10)))))
    (pss_cons (ps_lock (for_ (pi_keysN (pv 1)) (gn 5 scCut.nd) (pss_one (ps_if (in_ encLit (hu65 hr) (pe_tup (pa_cons (pv 3) (pa_cons pe_int pa_nil))) (pv 5))
        (pss_one (for_ (pi_keysN (pv 1)) (gn 6 scCut.nd)
          (pss_cons (ps_par (i := 7) (j := 8) (by rfl) scCut.nd rfl rfl (by decide) rfl rfl (pa_cons (pe_nget (hu65 hr) (pv 1) (pv 5)) (pa_cons (pe_nget (hu65 hr) (pv 1) (pv 6)) pa_nil)) (by rfl))
          (pss_cons (st_ 9 scCut.nd (pe_ifExp (in_ encLit (hu65 hr) (pe_tup (pa_cons (pv 3) (pa_cons pe_int pa_nil))) (pv 6)) (call_ G1 hr (pa_cons (ixT (pe_ix ix_list (pv 0) (pv 7) (fun _ _ => rfl)) pe_int) (pa_cons (ixT (pe_ix ix_list (pv 0) (pv 8) (fun _ _ => rfl)) pe_int) (pa_cons (pv 3) pa_nil)))) pe_non))
          (pss_one (ps_if (tC_ o_notN (pv 9) pe_non) (pss_one (ps_expr (call_ G2 hr (pa_cons (pv 0) (pa_cons (pv 4) (pa_cons (pv 2) (pa_cons (pv 9) (pa_cons (pe_tup (pa_cons pe_str (pa_cons (pv 7) (pa_cons (pv 8) (pa_cons (pv 3) pa_nil))))) pa_nil)))))))) pss_nil)))))) pss_nil))))
    (pss_one (ps_ret (pe_dcN (own := [("rest", 10)]) (g := gName 10) (tt := tYes) (by rfl) (hu65 hr) scCut.nd (pi_tup (call_ G3 hr (pa_cons (pe_callTy (call_listN (by rfl)) (by rfl) ml (by decide +kernel) (pa_cons (pv 4) pa_nil)) pa_nil))) (blkOk_by (N := ["lines", "active", "constraint", "name", "kept", "first", "second", "i", "j", "clause", "rest"]) (sc := defScope sCut) (by decide +kernel)) (fun _ _ _ _ _ => gn 10 scCut.nd)
      (fun _ _ _ _ _ => pts_nil) (fun _ _ _ _ _ => pv 10) (fun _ _ _ _ _ => ngetK P w K (hu65 hr) (pv 4) (pv 10)))))), ?_⟩
  obtain ⟨rs, hpe, had⟩ := hL
  have npd : p ≠ d := fun e => by rw [e, hN.at_] at hpe; cases hpe
  have hz : es.length ≤ 243 := by
    have := Mth.vc_count hA hN.nd (fun c hc => by obtain ⟨e, he, rfl⟩ := List.mem_map.mp hc; exact (hE e he).vc)
    rw [List.length_map] at this
    exact Nat.le_trans this (pow3 nl)
  refine ⟨d, _, hN.at_, True.intro, fun od => ?_⟩
  have T0 : TG H (upd H d (.frz od (oN P w d es))) := tg_ext hN.at_
  have B0 : But2 p d H (upd H d (.frz od (oN P w d es))) := fun y o _ h2 e => by rw [upd_ne h2]; exact e
  have hf0 : (upd H d (.frz od (oN P w d es))) d = some (.frz od (oN P w d es)) := upd_same
  have hp0 : (upd H d (.frz od (oN P w d es))) p = some (.lst rs) := by rw [upd_ne npd]; exact hpe
  have hk0 : ∀ e ∈ es, Dp K (upd H d (.frz od (oN P w d es))) (.ref e.2.1) (dCl e.1) := fun e he => encCl.tg T0 (hN.key e he)
  generalize upd H d (.frz od (oN P w d es)) = Hf at T0 B0 hf0 hp0 hk0
  refine ⟨_, rfl, d, od, es, rfl, hf0, fun D hD => dcN_keys (fun e => Mth.noName x e.1) (fun e => e.2.2) hD hf0 hk0 hN.nd (by omega) (fun e he => ?_) (fun H1 hS1 hN1 => ?_)⟩
  · intro H2 yes no hS hy hn
    have hv := encCl.tg (.of hS) (hk0 e he)
    refine ⟨rfl, _, rfl, (by show 2 ≤ sizeLine; decide), fun t ht => ⟨_, rfl, (x, false), e.1, mk_lit (.inl (.inl upd_same)), .inl (encCl.tg (tg_new ht) hv), fun hm => ⟨_, rfl, iteF (iteF ?_)⟩, fun hm => ⟨_, rfl, iteT ?_⟩⟩⟩
    · exact hn (by unfold Mth.noName; rw [decide_eq_true hm]; rfl) _ (same_new ht)
    · refine ⟨_, rfl, (by show 2 ≤ sizeLine; decide), fun t2 ht2 => ⟨_, rfl, (x, true), e.1, mk_lit (.inl (.inl upd_same)), .inl (encCl.tg (tg_new ht2) (encCl.tg (tg_new ht) hv)), fun hm2 => ⟨_, rfl, iteF ?_⟩, fun hm2 => ⟨_, rfl, iteT ?_⟩⟩⟩
      · exact hn (by unfold Mth.noName; rw [decide_eq_true hm2, decide_eq_false hm]; rfl) _ ((same_new ht).trans (same_new ht2))
      · have S2 := (same_new (o := .tup [.str x, .int 0]) ht).trans (same_new (o := .tup [.str x, .int 1]) ht2)
        have S3 := hS.trans S2
        exact ⟨_, rfl, _, rfl, _, rfl, d, es, e.2.1, e.1, e.2.2, rfl, ⟨.inr ⟨od, S3 _ _ hf0⟩, fun e' he' => encCl.tg (.of S3) (hk0 e' he'), hN.nd⟩, rfl, encCl.tg (.of S3) (hk0 e he), valN_of hN.nd he,
          hy (by unfold Mth.noName; rw [decide_eq_false hm2, decide_eq_false hm]; rfl) _ S2⟩
  -- behind the first comprehension
  refine ⟨hS1 _ _ hf0, ?_⟩
  have hDd : D ≠ d := fun e => by rw [e, hf0] at hD; cases hD
  have hDp : D ≠ p := fun e => by rw [e, hp0] at hD; cases hD
  have hDH : H D = none := by
    cases e : H D with
    | none => rfl
    | some o => rw [B0 D o hDp hDd e] at hD; cases hD
  have hf1 := hS1 _ _ hf0
  have T1 : TG H1 (upd H1 d (oN P w d es)) := tg_fext hf1
  refine ⟨d, oN P w d es, upd_same, True.intro, fun od2 => ?_⟩
  have T2 : TG (upd H1 d (oN P w d es)) (upd (upd H1 d (oN P w d es)) d (.frz od2 (oN P w d es))) := tg_ext upd_same
  have hg : (upd (upd H1 d (oN P w d es)) d (.frz od2 (oN P w d es))) d = some (.frz od2 (oN P w d es)) := upd_same
  have hg2 : ∀ y, y ≠ d → (upd (upd H1 d (oN P w d es)) d (.frz od2 (oN P w d es))) y = H1 y := fun y hy => by rw [upd_ne hy, upd_ne hy]
  generalize upd (upd H1 d (oN P w d es)) d (.frz od2 (oN P w d es)) = Hg at T2 hg hg2
  have T3 := T1.trans T2
  have BG : But2 p d H Hg := fun y o h1 h2 e => by rw [hg2 y h2]; exact hS1 _ _ (B0 y o h1 h2 e)
  have TG1 : TG H Hg := tg_but2 BG hpe hN.at_
  have hK0 : ∀ (H' : Hp), But2 p d H H' → TG H H' := fun H' b => tg_but2 b hpe hN.at_
  have start : CutSt P w K H p d D od2 es ns con rows ((es.filter fun e => Mth.noName x e.1).map fun e => (e.1, e.2.1, e.2.2)).length rows ((es.filter fun e => Mth.noName x e.1).map fun e => (e.1, e.2.1, e.2.2)) Hg := by
    refine ⟨BG, hg, ⟨rs, by rw [hg2 p npd]; exact hS1 _ _ hp0, encRow.tgs TG1 had⟩, ⟨by rw [hg2 D hDd]; exact hN1.at_, fun e he => encCl.tg T3 (hN1.key e he), hN1.nd⟩, List.prefix_refl _, hR, fun e he => ?_, rfl⟩
    obtain ⟨e', he', rfl⟩ := List.mem_map.mp he
    exact hE e' (List.mem_filter.mp he').1
  have kstart : KP ns (es.map (·.1)) x (fun c d' => c ∈ ([] : List Ent).map (·.1) ∧ d' ∈ es.map (·.1)) (((es.filter fun e => Mth.noName x e.1).map fun e => (e.1, e.2.1, e.2.2)).map (·.1)) := by
    have e0 : ((es.filter fun e => Mth.noName x e.1).map fun e => ((e.1, e.2.1, e.2.2) : Ent)).map (·.1) = (es.filter fun e => Mth.noName x e.1).map (·.1) := by rw [List.map_map]; rfl
    rw [e0]
    refine ⟨fun r hr => ?_, fun r hr hx => ?_, fun _ _ h => by cases h.1⟩
    · obtain ⟨e, he, rfl⟩ := List.mem_map.mp hr
      obtain ⟨h1, h2⟩ := List.mem_filter.mp he
      exact .inl ⟨List.mem_map.mpr ⟨e, h1, rfl⟩, Mth.noName_iff.mp h2⟩
    · obtain ⟨e, he, rfl⟩ := List.mem_map.mp hr
      exact List.mem_map.mpr ⟨e, List.mem_filter.mpr ⟨he, Mth.noName_iff.mpr hx⟩, rfl⟩
  generalize ((es.filter fun e => Mth.noName x e.1).map fun e => ((e.1, e.2.1, e.2.2) : Ent)) = ks0 at start kstart
  -- what is read of the dict while it is locked
  have rdk : ∀ (H' : Hp), But2 p d H H' → H' d = some (.frz od2 (oN P w d es)) → IsD1 P w K H' d es := fun H' b e => ⟨.inr ⟨od2, e⟩, fun e' he' => encCl.tg (hK0 H' b) (hN.key e' he'), hN.nd⟩
  refine ⟨_, rfl, d, od2, es, rfl, hg, for_keysN (fun done σ H' => ∃ rows1 ks1 y5 y6 y7 y8 y9 y10, σ = [some (.ref p), some (.ref d), some v2, some (.str x), some (.ref D), y5, y6, y7, y8, y9, y10] ∧ CutSt P w K H p d D od2 es ns con rows ks0.length rows1 ks1 H' ∧
      KP ns (es.map (·.1)) x (fun c d' => c ∈ done.map (·.1) ∧ d' ∈ es.map (·.1)) (ks1.map (·.1))) ⟨rows, ks0, none, none, none, none, none, none, rfl, start, kstart⟩ (fun done σ1 H1 ⟨_, _, _, _, _, _, _, _, _, c, _⟩ => c.frz) (fun done e rest σ1 H2 he hP => ?_) (fun σ1 H2 hP => ?_)⟩
  · obtain ⟨rows1, ks1, y5, y6, y7, y8, y9, y10, rfl, hC, hKP⟩ := hP
    have hem : e ∈ es := by rw [he]; exact List.mem_append_right _ List.mem_cons_self
    have hve : Dp K H2 (.ref e.2.1) (dCl e.1) := encCl.tg (hK0 H2 hC.but) (hN.key e hem)
    refine ⟨_, rfl, (by show 2 ≤ sizeLine; decide), fun t ht => ⟨_, rfl, (x, true), e.1, mk_lit (.inl (.inl upd_same)), .inl (encCl.tg (tg_new ht) hve), fun hm => ⟨_, rfl, iteT ?_⟩, fun hm => ⟨_, rfl, iteF ?_⟩⟩⟩
    · have hCt := hC.same (same_new (o := .tup [.str x, .int 1]) ht)
      have hvt : Dp K (upd H2 t (.tup [.str x, .int 1])) (.ref e.2.1) (dCl e.1) := encCl.tg (tg_new ht) hve
      generalize upd H2 t (.tup [.str x, .int 1]) = H3 at hCt hvt
      refine ⟨_, rfl, d, od2, es, rfl, hCt.frz, for_keysN (fun done2 σ H' => ∃ rows1 ks1 y6 y7 y8 y9 y10, σ = [some (.ref p), some (.ref d), some v2, some (.str x), some (.ref D), some (.ref e.2.1), y6, y7, y8, y9, y10] ∧ CutSt P w K H p d D od2 es ns con rows ks0.length rows1 ks1 H' ∧
          KP ns (es.map (·.1)) x (fun c d' => (c ∈ done.map (·.1) ∧ d' ∈ es.map (·.1)) ∨ (c = e.1 ∧ d' ∈ done2.map (·.1))) (ks1.map (·.1))) ⟨rows1, ks1, y6, y7, y8, y9, y10, rfl, hCt, hKP.weak fun c d' h _ _ => h.resolve_right fun q => by cases q.2⟩
        (fun done2 σ1 H1 ⟨_, _, _, _, _, _, _, _, c, _⟩ => c.frz) (fun done2 e2 rest2 σ3 H4 he2 hP => ?_) (fun σ3 H4 hP => ?_)⟩
      · obtain ⟨rows1, ks1, y6, y7, y8, y9, y10, rfl, hC, hKP⟩ := hP
        have hem2 : e2 ∈ es := by rw [he2]; exact List.mem_append_right _ List.mem_cons_self
        have hv1 : Dp K H4 (.ref e.2.1) (dCl e.1) := encCl.tg (hK0 H4 hC.but) (hN.key e hem)
        have hv2 : Dp K H4 (.ref e2.2.1) (dCl e2.1) := encCl.tg (hK0 H4 hC.but) (hN.key e2 hem2)
        obtain ⟨k1, c1, ln1, i1, r1, vc1, na1, f1⟩ := (hE e hem).more hC.pre
        obtain ⟨k2, c2, ln2, i2, r2, vc2, na2, f2⟩ := (hE e2 hem2).more hC.pre
        have hwk : ∀ {D' : Cl → Cl → Prop} c d', ((c ∈ done.map (·.1) ∧ d' ∈ es.map (·.1)) ∨ (c = e.1 ∧ d' ∈ (done2 ++ [e2]).map (·.1))) → ((c ∈ done.map (·.1) ∧ d' ∈ es.map (·.1)) ∨ (c = e.1 ∧ d' ∈ done2.map (·.1))) ∨ (c = e.1 ∧ d' = e2.1) := by
          intro _ c d' h
          rcases h with h | ⟨h1, h2⟩
          · exact .inl (.inl h)
          · rw [List.map_append, List.mem_append] at h2
            rcases h2 with q | q
            · exact .inl (.inr ⟨h1, q⟩)
            · exact .inr ⟨h1, List.mem_singleton.mp q⟩
        refine ⟨_, rfl, _, rfl, d, es, e.2.1, e.1, e.2.2, rfl, rdk H4 hC.but hC.frz, rfl, hv1, valN_of hN.nd hem, _, rfl, _, rfl, d, es, e2.2.1, e2.1, e2.2.2, rfl, rdk H4 hC.but hC.frz, rfl, hv2, valN_of hN.nd hem2, _, _, rfl, ?_⟩
        rw [i1, i2]
        refine ⟨_, rfl, (by show 2 ≤ sizeLine; decide), fun t2 ht2 => ⟨_, rfl, (x, false), e2.1, mk_lit (.inl (.inl upd_same)), .inl (encCl.tg (tg_new ht2) hv2), fun hm2 => ⟨_, rfl, iteT ?_⟩, fun hm2 => ⟨_, rfl, iteF ?_⟩⟩⟩
        · have S5 := same_new (o := .tup [.str x, .int 0]) ht2
          have hC5 := hC.same S5
          generalize upd H4 t2 (.tup [.str x, .int 0]) = H5 at S5 hC5
          obtain ⟨rw1, hp5, hd5⟩ := hC5.ls
          obtain ⟨u1, hu1, hw1⟩ := all_get' hd5 r1
          obtain ⟨u2, hu2, hw2⟩ := all_get' hd5 r2
          obtain ⟨a1, xs1, rfl, hs1, hx1⟩ := dp_tup hw1
          obtain ⟨a2, xs2, rfl, hs2, hx2⟩ := dp_tup hw2
          cases hx1 with
          | cons hc1 hx1 =>
          cases hx1 with
          | cons hl1 hx1 =>
          cases hx1
          cases hx2 with
          | cons hc2 hx2 =>
          cases hx2 with
          | cons hl2 hx2 =>
          cases hx2
          refine ⟨_, rfl, _, rfl, p, rw1, _, _, rfl, rfl, .inl (.inl hp5), atI_nat hu1, a1, _, _, _, rfl, rfl, hs1, at0, _, rfl, _, rfl, p, rw1, _, _, rfl, rfl, .inl (.inl hp5), atI_nat hu2, a2, _, _, _, rfl, rfl, hs2, at0, _, rfl, ?_⟩
          refine ⟨_, _, x, c1, c2, ns, rfl, hc1, hc2, vc1, vc2, by omega, fun hno H6 hS6 => ⟨_, rfl, rfl, fun _ => ⟨_, rfl, iteF ?_⟩, fun z => absurd rfl z⟩, fun r hvr hres v6 H6 hS6 hd6 => ⟨_, rfl, rfl, fun z => ?_, fun _ => ⟨_, rfl, iteT ?_⟩⟩⟩
          · exact ⟨rows1, ks1, _, _, _, _, _, rfl, hC5.same hS6, hKP.none (fun r hr => hno _ (Mth.res_of_filt na1 na2 (by rw [← f1, ← f2]; exact hr))) (hwk (D' := fun _ _ => True))⟩
          · subst z; cases hd6
          · have hC6 := hC5.same hS6
            have hz1 := hC6.few hA nl
            have hlen := hC6.len
            have k1l := (List.getElem?_eq_some_iff.mp r1).1
            have k2l := (List.getElem?_eq_some_iff.mp r2).1
            refine ⟨_, rfl, _, rfl, _, rfl, _, rfl, _, rfl, _, rfl, _, rfl, (by show 4 ≤ sizeLine; decide), fun t7 ht7 => ?_⟩
            have S7 := same_new (o := .tup [.str "cut", .int (k1 : Nat), .int (k2 : Nat), .str x]) ht7
            have hC7 := hC6.same S7
            have hln : Dp K (upd H6 t7 (.tup [.str "cut", .int (k1 : Nat), .int (k2 : Nat), .str x])) (.ref t7) (dLn (.cut k1 k2 x)) := .tup (.inl (.inl upd_same)) (.cons (.str _) (.cons (.int _) (.cons (.int _) (.cons (.str _) .nil))))
            refine ⟨p, D, v2, v6, .ref t7, rows1, ks1, con, r, .cut k1 k2 x, rfl, hC7.ls, hC7.nd, encCl.tg (hK0 _ hC7.but) h2, encCl.tg (.of S7) hd6, hln, by omega, by omega, by have := Mth.vc_len hvr; omega, fun rows' ks' H8 hRel hL8 hN8 hB8 => ?_⟩
            obtain ⟨p1, p2, p3, p4, p5⟩ := hRel.ok hvr (na1.res na2 hres) hC7.ent hC7.rok (fun i j n e => by cases e; exact ⟨k1l, k2l⟩)
            refine ⟨rows', ks', _, _, _, _, _, rfl, ⟨fun y o h1 h2 ey => hB8 y o h1 (fun z => by rw [z, hDH] at ey; cases ey) (hC7.but y o h1 h2 ey), hB8 d _ npd.symm hDd.symm hC7.frz, hL8, hN8, hC7.pre.trans p1, p2, p3, by omega⟩, ?_⟩
            exact hKP.add p4 (List.mem_map.mpr ⟨e, hem, rfl⟩) (List.mem_map.mpr ⟨e2, hem2, rfl⟩) hm hm2 (by rw [f1, f2]; exact Mth.filt_res hres) (hwk (D' := fun _ _ => True))
        · refine ⟨_, rfl, rfl, fun _ => ⟨_, rfl, iteF ?_⟩, fun z => absurd rfl z⟩
          exact ⟨rows1, ks1, _, _, _, _, _, rfl, hC.same (same_new ht2), hKP.weak fun c d' h q1 q2 => by
            rcases hwk (D' := fun _ _ => True) c d' h with z | ⟨_, z⟩
            · exact z
            · rw [z] at q2; exact (hm2 q2).elim⟩
      · obtain ⟨rows1, ks1, y6, y7, y8, y9, y10, rfl, hC, hKP⟩ := hP
        refine ⟨rows1, ks1, _, _, _, _, _, _, rfl, hC, hKP.weak fun c d' ⟨h1, h2⟩ _ _ => ?_⟩
        rw [List.map_append, List.mem_append] at h1
        rcases h1 with q | q
        · exact .inl ⟨q, h2⟩
        · exact .inr ⟨List.mem_singleton.mp q, h2⟩
    · refine ⟨rows1, ks1, _, _, _, _, _, _, rfl, hC.same (same_new ht), hKP.weak fun c d' ⟨h1, h2⟩ q1 _ => ?_⟩
      rw [List.map_append, List.mem_append] at h1
      rcases h1 with q | q
      · exact ⟨q, h2⟩
      · have z : c = e.1 := List.mem_singleton.mp q
        rw [z] at q1
        exact (hm q1).elim
  · obtain ⟨rows1, ks1, y5, y6, y7, y8, y9, y10, rfl, hC, hKP⟩ := hP
    refine ⟨hC.frz, ?_⟩
    have T4 : TG H2 (upd H2 d (oN P w d es)) := tg_fext hC.frz
    have hz1 := hC.few hA nl
    have hNz : NdAt P w K (upd H2 d (oN P w d es)) D ks1 := ⟨by rw [upd_ne hDd]; exact hC.nd.at_, fun e he => encCl.tg T4 (hC.nd.key e he), hC.nd.nd⟩
    have hBz : But2 p p H (upd H2 d (oN P w d es)) := fun y o h1 _ e => by
      by_cases hy : y = d
      · subst hy; rw [upd_same]; rw [hN.at_] at e; exact e
      · rw [upd_ne hy]; exact hC.but y o h1 hy e
    have hLz : Ls K (upd H2 d (oN P w d es)) p dRow rows1 := by
      obtain ⟨r1, e1, d1⟩ := hC.ls
      exact ⟨r1, by rw [upd_ne npd]; exact e1, encRow.tgs T4 d1⟩
    generalize upd H2 d (oN P w d es) = Hz at hNz hBz hLz
    refine ⟨_, rfl, D, ks1, rfl, .inl hNz.at_, fun l hl => ?_⟩
    have S0 := same_new (o := .lst (ks1.map fun e => V.ref e.2.1)) hl
    have hda : DpAll K (upd Hz l (.lst (ks1.map fun e => V.ref e.2.1))) (ks1.map fun e => V.ref e.2.1) ((ks1.map (·.1)).map dCl) := by
      have : ∀ (ks : List Ent), (∀ e ∈ ks, Dp K Hz (.ref e.2.1) (dCl e.1)) → DpAll K (upd Hz l (.lst (ks1.map fun e => V.ref e.2.1))) (ks.map fun e => V.ref e.2.1) ((ks.map (·.1)).map dCl) := by
        intro ks
        induction ks with
        | nil => intro _; exact .nil
        | cons e ks ih => intro h; exact .cons (encCl.tg (.of S0) (h e List.mem_cons_self)) (ih fun e' he' => h e' (List.mem_cons_of_mem _ he'))
      exact this ks1 hNz.key
    refine ⟨_, ks1.map (·.1), rfl, .inl (.lst (.inl (.inl upd_same)) hda), by rw [List.length_map]; omega, fun c hc => ?_, fun L hLst v3 H3 hS3 hd3 => ?_⟩
    · obtain ⟨e, he, rfl⟩ := List.mem_map.mp hc
      exact (hC.ent e he).vc.nodup
    · obtain ⟨a, xs, rfl, hs, ha⟩ := dp_tup hd3
      have S3 := S0.trans hS3
      have hLn : L.Nodup := hLst.srt.nodup
      have hLl : L.length ≤ 1000000 := by
        have := Mth.nodup_le hLn hLst.mem
        rw [List.length_map] at this
        omega
      refine ⟨a, rfl, ⟨xs, hs⟩, fun D2 hD2 => dcN_tup (fun c => (valN ks1 c).getD .non) hD2 hs ha hLn hLl (fun c hc b hb => ?_) (fun H4 es2 hS4 e1 e2 hN4 => ?_)⟩
      · intro H4 yes no hS hy hn
        obtain ⟨v, hv⟩ := valN_mem (hLst.mem c hc)
        have S4 := S3.trans hS
        have := hy rfl H4 (.refl _)
        rw [hv] at this
        exact ⟨rfl, iteT (B := no H4) ⟨_, rfl, _, rfl, _, rfl, D, ks1, b, c, v, rfl, (hNz.same S4).is, rfl, encCl.tg (.of hS) hb, hv, this⟩⟩
      · have S5 := S3.trans hS4
        refine q rows1 es2 D2 H4 (fun y o h1 _ e => S5 _ _ (hBz y o h1 h1 e)) (hLz.same encRow S5) hN4 hC.pre hC.rok (fun e he => ?_) (by rw [e1]; exact hKP.elim hLst) (by have := hC.len; omega)
        have hin : e.1 ∈ L := by rw [← e1]; exact List.mem_map.mpr ⟨e, he, rfl⟩
        obtain ⟨v, hv⟩ := valN_mem (hLst.mem _ hin)
        obtain ⟨e', he', h1, h2⟩ := valN_in hv
        have h3 := e2 e he
        rw [hv] at h3
        obtain ⟨k, c, ln, k1, k2, k3, k4, k5⟩ := hC.ent e' he'
        exact ⟨k, c, ln, by rw [h3]; exact h2.symm.trans k1, k2, k3, k4, by rw [← h1]; exact k5⟩
end
end Sh
end
section
namespace Sh
open PySem PySem.Spec PyProof.Rows L2
/-! ### match t: case [text, a, b, c]: ..; case d: .. -/
def tMatch4 (K : PySem.W.Frag) (c : Str) (i1 i2 i3 i4 : Nat) (te : TE) (t1 t2 : TS) : TS := fun D σ H => te σ H fun v H1 => ∃ a, v = .ref a ∧
  ((∃ x y z, SqT K H1 a [.str c, x, y, z] ∧ t1 D (((σ.set i1 (some x)).set i2 (some y)).set i3 (some z)) H1) ∨ ∃ xs, SqT K H1 a xs ∧ xs.length ≠ 4 ∧ t2 D (σ.set i4 (some (.ref a))) H1)
theorem ps_match4 {X : Cx} {e : Expr} {te : TE} {c n1 n2 n3 n4 : Str} {i1 i2 i3 i4 j : Nat} {p1 p2 p3 p4 p5 p6 p7 pos : Pos} {b1 b2 : List Stmt} {t1 t2 : TS} (hc : X.calm = true) (hN : X.N.Nodup) (he : PE X e te) (h1 : PSs X b1 t1) (h2 : PSs X b2 t2)
    (e1 : X.N[i1]? = some n1) (e2 : X.N[i2]? = some n2) (e3 : X.N[i3]? = some n3) (e4 : X.N[i4]? = some n4)
    (l1 : X.env.scope.names.lookup n1 = some .local) (l2 : X.env.scope.names.lookup n2 = some .local) (l3 : X.env.scope.names.lookup n3 = some .local) (l4 : X.env.scope.names.lookup n4 = some .local) :
    PS X (.Match e [⟨.MatchSequence [.MatchValue (.Constant (.str c) j p1) p2, .MatchAs none (some n1) p3, .MatchAs none (some n2) p4, .MatchAs none (some n3) p5] p6, none, b1⟩, ⟨.MatchAs none (some n4) p7, none, b2⟩] pos) (tMatch4 X.K c i1 i2 i3 i4 te t1 t2) := by
  refine ⟨fun pins s σ H D I h => wpAny_Match (thn (he.run pins s σ H _ I h) fun v s1 ⟨x, H1, I1, rx, a, ex, q⟩ => ?_)⟩
  subst ex
  obtain rfl : v = Value.ref a := rx
  have hh := I1.ok.hd hc
  rcases q with ⟨x, y, z, hs, q⟩ | ⟨xs, hs, hl, q⟩
  · obtain ⟨its, rv, ht, hz⟩ := I1.tuple hs
    have h4 : its.toArray.size = 4 := by rw [List.size_toArray, ← rv.length]; rfl
    refine wpAny_matchCases_cons (matchSeq_tuple_hit ht (by rw [h4]; decide) h4 ?_)
    show wpAny _ _ (unpackItems (.ref a) 4 none) _ _ _
    rw [← h4]
    refine unpackItems_tuple hh ht fun h' hx => ?_
    rw [List.toList_toArray]
    cases rv with
    | cons r0 rv =>
    cases rv with
    | cons rx rv =>
    cases rv with
    | cons ry rv =>
    cases rv with
    | cons rz rv =>
    cases rv
    have I2 : Inv X pins σ H1 { s1 with heap := h', toks := s1.toks + 1 + 1 } := I1.kept (t' := s1.toks + 1 + 1) fun b o e => hx b o (Nat.ne_of_lt (Heap.lt_size e)) e
    refine wpAny_matchEach_cons (wpAny_matchPattern_Value (Calls.Constant_str ?_))
    refine thn (op_eq (X := X) pins _ σ H1 (.str c) (.str c) _ _ (fun w H' => w = .bl true ∧ H' = H1) (I2.tok _) r0 ⟨_, rfl⟩ ⟨rfl, by simp⟩) fun u s3 ⟨w, H', I3, rw3, ew, eH⟩ => ?_
    subst ew eH
    obtain rfl : u = Value.bool true := rw3
    refine wpAny_truthy_bool ?_
    rw [if_pos rfl]
    refine wpAny_matchEach_cons (wpAny_matchPattern_Capture (wpAny_matchEach_cons (wpAny_matchPattern_Capture (wpAny_matchEach_cons (wpAny_matchPattern_Capture (wpAny_matchEach_nil ?_))))))
    refine wpAny_assignInOrder_more (wpAny_bindName (store_ok I3 hN e1 (.inl l1) rx (fun s4 I4 => ?_) (.inr l1)))
    refine wpAny_assignInOrder_more (wpAny_bindName (store_ok I4 hN e2 (.inl l2) ry (fun s5 I5 => ?_) (.inr l2)))
    refine wpAny_assignInOrder_more (wpAny_bindName (store_ok I5 hN e3 (.inl l3) rz (fun s6 I6 => ?_) (.inr l3)))
    exact wpAny_assignInOrder_none (h1.run _ s6 _ _ _ I6 q)
  · obtain ⟨its, rv, ht, hz⟩ := I1.tuple hs
    have hl2 := rv.length
    refine wpAny_matchCases_cons (matchSeq_tuple_miss ht (by have := line63; rw [List.size_toArray]; omega) (by rw [List.size_toArray, ← hl2]; exact hl) ?_)
    refine wpAny_matchCases_cons (wpAny_matchPattern_Capture ?_)
    refine wpAny_assignInOrder_more (wpAny_bindName (store_ok (v := V.ref a) (I1.tok (s1.toks + 1 + 1)) hN e4 (.inl l4) rfl (fun s4 I4 => ?_) (.inr l4)))
    exact wpAny_assignInOrder_none (h2.run _ s4 _ _ _ I4 q)
end Sh
end
section
namespace Sh
open PySem PySem.Spec L2
abbrev sTrim : Stmt := top 25
theorem scTrim : FnScope ["lines", "last", "needed", "k", "numbers", "found", "i", "j", "name", "line"] ["lines", "last"] (defScope sTrim) := ⟨rfl, rfl, rfl, by decide +kernel, rfl, by decide +kernel, by decide +kernel⟩
def iD (ks : List Nat) : List (Key × V) := ks.map fun k : Nat => (Sum.inl (k : Int), .bl true)
theorem iD_val : ∀ {ks : List Nat} {k : Nat}, (valV (iD ks) (Sum.inl (k : Int))).isSome = decide (k ∈ ks)
  | [], k => by simp [iD, valV]
  | m :: ks, k => by
    have ih := iD_val (ks := ks) (k := k)
    by_cases e : m = k
    · subst e
      rw [show iD (m :: ks) = (Sum.inl (m : Int), V.bl true) :: iD ks from rfl, valV_pos rfl]
      simp
    · rw [show iD (m :: ks) = (Sum.inl (m : Int), V.bl true) :: iD ks from rfl, valV_neg (fun z => e (Int.ofNat_inj.mp (Sum.inl.inj z))), ih]
      simp only [List.mem_cons]
      exact decide_eq_decide.mpr ⟨.inr, fun h => h.resolve_left fun z => e z.symm⟩
theorem iD_put {ks : List Nat} (k : Nat) : putK (iD ks) (Sum.inl (k : Int)) (.bl true) = iD (if k ∈ ks then ks else ks ++ [k]) := by
  by_cases h : k ∈ ks
  · rw [if_pos h]
    unfold putK
    have hany : (iD ks).any (fun kv => decide (kv.1 = Sum.inl (k : Int))) = true := List.any_eq_true.mpr ⟨(Sum.inl (k : Int), V.bl true), List.mem_map.mpr ⟨k, h, rfl⟩, by simp⟩
    rw [if_pos hany]
    unfold iD
    rw [List.map_map]
    refine List.map_congr_left fun m _ => ?_
    show (if (Sum.inl (m : Int) : Key) = Sum.inl (k : Int) then _ else _) = _
    split <;> rfl
  · rw [if_neg h]
    have : valV (iD ks) (Sum.inl (k : Int)) = none := by
      have := iD_val (ks := ks) (k := k)
      rw [decide_eq_false h] at this
      simpa using this
    rw [putK_new _ this]
    unfold iD
    rw [List.map_append]; rfl
theorem iD_len (ks : List Nat) : (iD ks).length = ks.length := by unfold iD; rw [List.length_map]
theorem mk_ints {K : PySem.W.Frag} {H : Hp} : ∀ ns : List Int, DpAll K H (ns.map V.int) (ns.map PyData.int)
  | [] => .nil
  | n :: ns => .cons (.int _) (mk_ints ns)
structure Nk (rows : List Row) (last : Nat) (lim : Nat) (nk : List Nat) : Prop where
  nd : nk.Nodup
  le : ∀ m ∈ nk, m ≤ last
  here : last ∈ nk
  cl : ∀ m ∈ nk, lim ≤ m → ∀ c i j n, rows[m]? = some (c, .cut i j n) → i ∈ nk ∧ j ∈ nk
theorem Nk.len {rows : List Row} {last lim : Nat} {nk : List Nat} (h : Nk rows last lim nk) : nk.length ≤ last + 1 := by
  have := Mth.nodup_le h.nd (m := List.range (last + 1)) (fun x hx => List.mem_range.mpr (Nat.lt_succ_of_le (h.le x hx)))
  rwa [List.length_range] at this
theorem Nk.next {rows : List Row} {last k : Nat} {nk : List Nat} (h : Nk rows last (k + 1) nk) (hk : k ∈ nk → ∀ c i j n, rows[k]? = some (c, .cut i j n) → False) : Nk rows last k nk :=
  ⟨h.nd, h.le, h.here, fun m hm hl c i j n e => by
    rcases Nat.lt_or_ge k m with q | q
    · exact h.cl m hm q c i j n e
    · have : m = k := by omega
      subst this
      exact (hk hm c i j n e).elim⟩
def ins (k : Nat) (nk : List Nat) : List Nat := if k ∈ nk then nk else nk ++ [k]
theorem mem_ins {k m : Nat} {nk : List Nat} : m ∈ ins k nk ↔ m ∈ nk ∨ m = k := by
  unfold ins
  split
  · rename_i h
    exact ⟨.inl, fun q => q.elim id fun e => by rw [e]; exact h⟩
  · rw [List.mem_append, List.mem_singleton]
theorem ins_nd {k : Nat} {nk : List Nat} (h : nk.Nodup) : (ins k nk).Nodup := by
  unfold ins
  split
  · exact h
  · rename_i q; exact nd_snoc h q
theorem Nk.cut {rows : List Row} {last k : Nat} {nk : List Nat} {c : Cl} {i j : Nat} {n : Str} (h : Nk rows last (k + 1) nk) (hk : k ≤ last) (e : rows[k]? = some (c, .cut i j n)) (hi : i < k) (hj : j < k) : Nk rows last k (ins j (ins i nk)) :=
  ⟨ins_nd (ins_nd h.nd), fun m hm => by
    rw [mem_ins, mem_ins] at hm
    rcases hm with (q | q) | q
    · exact h.le m q
    · omega
    · omega, mem_ins.mpr (.inl (mem_ins.mpr (.inl h.here))), fun m hm hl c' i' j' n' e' => by
    rw [mem_ins, mem_ins] at hm
    have hm' : m ∈ nk := by
      rcases hm with (q | q) | q
      · exact q
      · omega
      · omega
    rcases Nat.lt_or_ge k m with q | q
    · obtain ⟨a, b⟩ := h.cl m hm' q c' i' j' n' e'
      exact ⟨mem_ins.mpr (.inl (mem_ins.mpr (.inl a))), mem_ins.mpr (.inl (mem_ins.mpr (.inl b)))⟩
    · have : m = k := by omega
      subst this
      rw [e] at e'
      cases e'
      exact ⟨mem_ins.mpr (.inl (mem_ins.mpr (.inr rfl))), mem_ins.mpr (.inr rfl)⟩⟩
section
variable {P : Program} {w : World} {K : PySem.W.Frag} {mg : Str → Option Value} {base : Heap} {C : Addr}
theorem row_at {H : Hp} {v : V} {r : Row} (h : Dp K H v (dRow r)) : ∃ a w1 w2, v = .ref a ∧ SqT K H a [w1, w2] ∧ Dp K H w1 (dCl r.1) ∧ Dp K H w2 (dLn r.2) := by
  obtain ⟨a, xs, rfl, hs, hx⟩ := dp_tup h
  cases hx with
  | cons h1 hx =>
  cases hx with
  | cons h2 hx => cases hx; exact ⟨a, _, _, rfl, hs, h1, h2⟩
theorem cut_at {H : Hp} {v : V} {i j : Nat} {n : Str} (h : Dp K H v (dLn (.cut i j n))) : ∃ a, v = .ref a ∧ SqT K H a [.str "cut", .int (i : Nat), .int (j : Nat), .str n] := by
  obtain ⟨a, xs, rfl, hs, hx⟩ := dp_tup h
  cases hx with
  | cons h1 hx =>
  cases hx with
  | cons h2 hx =>
  cases hx with
  | cons h3 hx =>
  cases hx with
  | cons h4 hx =>
  cases hx
  rw [dp_str h1, dp_int h2, dp_int h3, dp_str h4] at hs
  exact ⟨a, rfl, hs⟩
theorem given_at {H : Hp} {v : V} {k : Nat} (h : Dp K H v (dLn (.given k))) : ∃ a, v = .ref a ∧ SqT K H a [.str "given", .int (k : Nat)] := by
  obtain ⟨a, xs, rfl, hs, hx⟩ := dp_tup h
  cases hx with
  | cons h1 hx =>
  cases hx with
  | cons h2 hx =>
  cases hx
  rw [dp_str h1, dp_int h2] at hs
  exact ⟨a, rfl, hs⟩
theorem at2 {u v x : V} {r : List V} : atI (u :: v :: x :: r) 2 = some x := atI_nat (j := 2) rfl
def spTrim (K : PySem.W.Frag) : Sp := fun vs H Q _ => ∃ (p : Addr) (last : Nat) (rows : List Row), vs = [.ref p, .int (last : Nat)] ∧ Ls K H p dRow rows ∧ RowsOk rows ∧ last < rows.length ∧ rows.length ≤ 100000 ∧ ∀ q H', Same H H' → Q (.ref q) H'
theorem ok_trim (T : At K mg "trim_lines" sTrim) (mr : mg "range" = none) (ms : mg "sorted" = none) (mL : mg "list" = none) (ml : mg "len" = none) (mt : mg "tuple" = none) : Def P w K mg base 1 "trim_lines" ["lines", "last"] (spTrim K) := by
  refine T.def scTrim (fun vs H Q E h => ?_) (fun _ _ _ _ _ _ us hl => match us, hl with | [_, _], _ => rfl) (fun f cdv A outer s H vs Q E hr h => ?_)
  · obtain ⟨p, last, rows, rfl, _⟩ := h; rfl
  obtain ⟨p, last, rows, rfl, hL, hR, hlt, hz, q⟩ := h
  refine ⟨_, pss_cons (st_ 2 scTrim.nd (pe_disp (pps_cons (pv 1) pe_bl pps_nil) (by rfl) (by rfl) (fun z => by cases z) (by decide)))
    (pss_cons (for_ (pi_range3 (by rfl) mr (pa_cons (pv 1) (pa_cons (pe_un un_neg pe_int) (pa_cons (pe_un un_neg pe_int) pa_nil)))) (gn 3 scTrim.nd)
      (pss_one (ps_if (PW.pt (pw_and (pt_cmp (pc_din (hu_of hr) (pv 3) (pv 2))) (pw_and1 (tC_ o_eqS (ixT (ixT (pe_ix ix_list (pv 0) (pv 3) (fun _ _ => rfl)) pe_int) pe_int) pe_str))))
        (pss_cons (ps_dput (hu_of hr) (pv 2) (ixT (ixT (pe_ix ix_list (pv 0) (pv 3) (fun _ _ => rfl)) pe_int) pe_int) pe_bl rfl)
        (pss_one (ps_dput (hu_of hr) (pv 2) (ixT (ixT (pe_ix ix_list (pv 0) (pv 3) (fun _ _ => rfl)) pe_int) pe_int) pe_bl rfl))) pss_nil)))
    (pss_cons (st_ 4 scTrim.nd pe_dnewK) (pss_cons (st_ 5 scTrim.nd (pe_lst pa_nil))
    (pss_cons (for_ (pi_list (pe_callB cr_sortedI (by rfl) ms (by decide +kernel) (pa_cons (pe_callTy (call_listD (by rfl)) (by rfl) mL (by decide +kernel) (pa_cons (pv 2) pa_nil)) pa_nil))) (gn 3 scTrim.nd)
      (pss_cons (ps_dput (hu_of hr) (pv 4) (pv 3) (len_ ml (pv 5)) rfl)
      (pss_one (ps_match4 (i1 := 6) (i2 := 7) (i3 := 8) (i4 := 9) (by rfl) scTrim.nd (ixT (pe_ix ix_list (pv 0) (pv 3) (fun _ _ => rfl)) pe_int)
        (pss_one (app_ (pv 5) (pe_tup (pa_cons pe_str (pa_cons (pe_dget (hu_of hr) (pv 4) (pv 6) (fun _ _ => rfl)) (pa_cons (pe_dget (hu_of hr) (pv 4) (pv 7) (fun _ _ => rfl)) (pa_cons (pv 8) pa_nil)))))))
        (pss_one (app_ (pv 5) (pv 9))) rfl rfl rfl rfl rfl rfl rfl rfl))))
    (pss_one (ps_ret (pe_callTy call_tuple_of (by rfl) mt (by decide +kernel) (pa_cons (pv 5) pa_nil)))))))), ?_⟩
  obtain ⟨rs, hpe, had⟩ := hL
  have lr := allf_len had
  intro d hd
  refine ⟨_, rfl, upd_same, [(Sum.inl (last : Int), .bl true)], rfl, (by show 1 ≤ 15; decide), ?_⟩
  have e0 : upd (upd H d (.dK [])) d (.dK (mergeK [] [(Sum.inl (last : Int), V.bl true)])) = upd H d (.dK (iD [last])) := by
    funext x
    by_cases hx : x = d
    · subst hx; rw [upd_same, upd_same]; rfl
    · rw [upd_ne hx, upd_ne hx, upd_ne hx]
  rw [e0]
  have S1 : Same H (upd H d (.dK (iD [last]))) := same_new hd
  have hd1 : (upd H d (.dK (iD [last]))) d = some (.dK (iD [last])) := upd_same
  generalize upd H d (.dK (iD [last])) = H1 at S1 hd1
  have rng : RgC (last : Int) (-1) (-1) (last + 1) := by
    have := RgC.neg (i := (last : Int)) (j := -1) (by omega) (by omega) (by decide) (by decide)
    have e : ((last : Int) - -1).toNat = last + 1 := by omega
    rwa [e] at this
  refine ⟨_, rfl, _, rfl, _, rfl, _, _, _, last + 1, rfl, rng, for_rangeC (lo := last) (c := -1) (n := last + 1) (fun t σ H' => ∃ nk y3 y4 y5 y6 y7 y8 y9, σ = [some (.ref p), some (.int (last : Nat)), some (.ref d), y3, y4, y5, y6, y7, y8, y9] ∧ Same H H' ∧ H' d = some (.dK (iD nk)) ∧ Nk rows last (last + 1 - t) nk)
    ⟨[last], none, none, none, none, none, none, none, rfl, S1, hd1, ⟨List.pairwise_singleton _ _, (fun m hm => by rw [List.mem_singleton.mp hm]; exact Nat.le_refl _), List.mem_singleton.mpr rfl, (fun m hm hl => by rw [List.mem_singleton.mp hm] at hl; omega)⟩⟩ (fun t σ H2 ht hP => ?_) (fun σ H2 hP => ?_)⟩
  · obtain ⟨nk, y3, y4, y5, y6, y7, y8, y9, rfl, hS, hde, hN⟩ := hP
    have ek : (last : Int) + (t : Nat) * (-1) = ((last - t : Nat) : Int) := by omega
    have el : last + 1 - t = (last - t) + 1 := by omega
    have el2 : last + 1 - (t + 1) = last - t := by omega
    rw [el] at hN
    rw [ek]
    have hkl : last - t < rows.length := by omega
    have hg := DGet.k (k := Sum.inl ((last - t : Nat) : Int)) hde
    refine ⟨_, rfl, _, rfl, d, _, rfl, hg, _, rfl, ?_⟩
    rw [iD_val]
    by_cases hin : last - t ∈ nk
    · rw [decide_eq_true hin]
      refine iteT ?_
      obtain ⟨r, hr1⟩ : ∃ r, rows[last - t]? = some r := ⟨_, List.getElem?_eq_getElem hkl⟩
      obtain ⟨u, hu, hdu⟩ := all_get' had hr1
      obtain ⟨a, w1, w2, rfl, ha, hw1, hw2⟩ := row_at (encRow.tg (.of hS) hdu)
      have hpe2 := hS _ _ hpe
      obtain ⟨c, ln⟩ := r
      cases ln with
      | given g =>
        obtain ⟨b, rfl, hb⟩ := given_at hw2
        refine ⟨_, rfl, _, rfl, p, rs, _, _, rfl, rfl, .inl (.inl hpe2), atI_nat hu, a, _, _, _, rfl, rfl, ha, at1, b, _, _, _, rfl, rfl, hb, at0, _, _, rfl, rfl, (fun e => absurd e (by decide)), fun _ => ⟨_, rfl, iteF ⟨nk, _, _, _, _, _, _, _, rfl, hS, hde, by rw [el2]; exact hN.next fun _ c' i j n e => by rw [hr1] at e; cases e⟩⟩⟩
      | cut i j n =>
        obtain ⟨b, rfl, hb⟩ := cut_at hw2
        obtain ⟨hi, hj⟩ := hR _ _ _ _ _ hr1
        have n1 := hN.cut (by omega) hr1 hi hj
        have l1 := hN.len
        have l2 := n1.len
        have l3 : (ins i nk).length ≤ nk.length + 1 := by unfold ins; split <;> simp
        refine ⟨_, rfl, _, rfl, p, rs, _, _, rfl, rfl, .inl (.inl hpe2), atI_nat hu, a, _, _, _, rfl, rfl, ha, at1, b, _, _, _, rfl, rfl, hb, at0, _, _, rfl, rfl, fun _ => ⟨_, rfl, iteT ?_⟩, fun e => absurd rfl e⟩
        refine ⟨_, rfl, _, rfl, _, rfl, p, rs, _, _, rfl, rfl, .inl (.inl hpe2), atI_nat hu, a, _, _, _, rfl, rfl, ha, at1, b, _, _, _, rfl, rfl, hb, at1, d, _, rfl, DPut.k (k := Sum.inl (i : Int)) hde (by rw [iD_len]; exact Nat.lt_of_le_of_lt (by omega : nk.length ≤ 100000) (by decide)), ?_⟩
        rw [iD_put]
        have T1 : TG H2 (upd H2 d (.dK (iD (ins i nk)))) := tg_dK hde
        have S2 : Same H (upd H2 d (.dK (iD (ins i nk)))) := same_mut hS hd
        have hpe3 := S2 _ _ hpe
        refine ⟨_, rfl, _, rfl, _, rfl, p, rs, _, _, rfl, rfl, .inl (.inl hpe3), atI_nat hu, a, _, _, _, rfl, rfl, sqt_tg T1 ha, at1, b, _, _, _, rfl, rfl, sqt_tg T1 hb, at2, d, _, rfl, DPut.k (k := Sum.inl (j : Int)) (show (upd H2 d (.dK (iD (ins i nk)))) d = some (.dK (iD (ins i nk))) from upd_same) (by rw [iD_len]; exact Nat.lt_of_le_of_lt (by omega : (ins i nk).length ≤ 200000) (by decide)), ?_⟩
        rw [iD_put]
        exact ⟨ins j (ins i nk), _, _, _, _, _, _, _, rfl, same_mut S2 hd, upd_same, by rw [el2]; exact n1⟩
    · rw [decide_eq_false hin]
      exact iteF (iteF ⟨nk, _, _, _, _, _, _, _, rfl, hS, hde, by rw [el2]; exact hN.next fun h => absurd h hin⟩)
  · obtain ⟨nk, y3, y4, y5, y6, y7, y8, y9, rfl, hS, hde, hN⟩ := hP
    rw [Nat.sub_self] at hN
    intro d2 hd2
    refine ⟨Nat.zero_le _, fun pf hpf => ?_⟩
    have S2 := hS.trans ((same_new (o := .dK []) hd2).trans (same_new (o := .lst []) hpf))
    have hd2H : H d2 = none := hS.free hd2
    have hpfH : H pf = none := hS.free ((same_new (o := .dK []) hd2).free hpf)
    have npd : pf ≠ d2 := fun e => by rw [e, upd_same] at hpf; cases hpf
    have hde2 : (upd (upd H2 d2 (.dK [])) pf (.lst [])) d = some (.dK (iD nk)) := ((same_new (o := .dK []) hd2).trans (same_new (o := .lst []) hpf)) _ _ hde
    have hd22 : (upd (upd H2 d2 (.dK [])) pf (.lst [])) d2 = some (.dK []) := by rw [upd_ne npd.symm, upd_same]
    have hpf2 : (upd (upd H2 d2 (.dK [])) pf (.lst [])) pf = some (.lst []) := upd_same
    generalize upd (upd H2 d2 (.dK [])) pf (.lst []) = H3 at S2 hde2 hd22 hpf2
    refine ⟨_, rfl, d, iD nk, rfl, .inl hde2, fun l hl => ?_⟩
    have S3 := S2.trans (same_new (o := .lst ((iD nk).map fun kv => kV kv.1)) hl)
    have el : (iD nk).map (fun kv => kV kv.1) = (nk.map fun m : Nat => (m : Int)).map V.int := by unfold iD; rw [List.map_map, List.map_map]; rfl
    refine ⟨l, nk.map fun m : Nat => (m : Int), rfl, .inl (.inl (by rw [upd_same, el])), fun ns' r hperm hsort hr' => ?_⟩
    have S4 := S3.trans (same_new (o := .lst (ns'.map V.int)) hr')
    have hrl : ns'.length = nk.length := by rw [hperm.length_eq, List.length_map]
    have hrr : (upd (upd H3 l (.lst ((iD nk).map fun kv => kV kv.1))) r (.lst (ns'.map V.int))) r = some (.lst (ns'.map V.int)) := upd_same
    have n1 : l ≠ d2 := fun e => by rw [e, hd22] at hl; cases hl
    have n2 : l ≠ pf := fun e => by rw [e, hpf2] at hl; cases hl
    have n3 : r ≠ d2 := fun e => by rw [e, upd_ne n1.symm, hd22] at hr'; cases hr'
    have n4 : r ≠ pf := fun e => by rw [e, upd_ne n2.symm, hpf2] at hr'; cases hr'
    have hd23 : (upd (upd H3 l (.lst ((iD nk).map fun kv => kV kv.1))) r (.lst (ns'.map V.int))) d2 = some (.dK []) := by rw [upd_ne n3.symm, upd_ne n1.symm]; exact hd22
    have hpf3 : (upd (upd H3 l (.lst ((iD nk).map fun kv => kV kv.1))) r (.lst (ns'.map V.int))) pf = some (.lst []) := by rw [upd_ne n4.symm, upd_ne n2.symm]; exact hpf2
    generalize upd (upd H3 l (.lst ((iD nk).map fun kv => kV kv.1))) r (.lst (ns'.map V.int)) = H4 at S4 hrr hd23 hpf3
    have hnd : ns'.Nodup := hperm.nodup_iff.mpr (List.pairwise_map.mpr (hN.nd.imp fun h e => h (Int.ofNat_inj.mp e)))
    have hlen := hN.len
    refine ⟨r, rfl, ⟨ns'.map V.int, .inl (.inl hrr)⟩, for_listE (f := PyData.int) (xs := ns') (vs := ns'.map V.int) (H0 := H) encInt (fun done σ H' => ∃ kvs ys y3 y6 y7 y8 y9, σ = [some (.ref p), some (.int (last : Nat)), some (.ref d), y3, some (.ref d2), some (.ref pf), y6, y7, y8, y9] ∧ Same H H' ∧ H' r = some (.lst (ns'.map V.int)) ∧ H' d2 = some (.dK kvs) ∧
        H' pf = some (.lst ys) ∧ kvs.length ≤ done.length ∧ ys.length ≤ done.length ∧ ∀ m ∈ done, ∃ v, valV kvs (Sum.inl m) = some v) (mk_ints _)
      ⟨[], [], y3, y6, y7, y8, y9, rfl, S4, hrr, hd23, hpf3, Nat.le_refl _, Nat.le_refl _, (fun _ h => by cases h)⟩ (fun done σ1 H1 ⟨_, _, _, _, _, _, _, _, s, e, _⟩ => ⟨.of s, .inl (.inl e)⟩) (fun done k rest v σ H5 he hP hv => ?_) (fun σ H5 hP => ?_)⟩
    · obtain ⟨kvs, ys, y3, y6, y7, y8, y9, rfl, hS5, hre, hde5, hpe5, hkl, hyl, hval⟩ := hP
      have hdl : done.length < ns'.length := by have := congrArg List.length he; rw [List.length_append, List.length_cons] at this; omega
      have := dp_int hv
      subst this
      obtain ⟨m, hm, rfl⟩ : ∃ m : Nat, m ∈ nk ∧ (m : Int) = k := by
        have : k ∈ nk.map fun m : Nat => (m : Int) := hperm.mem_iff.mp (by rw [he]; exact List.mem_append_right _ List.mem_cons_self)
        obtain ⟨m, hm, e⟩ := List.mem_map.mp this
        exact ⟨m, hm, e⟩
      have hsl : (200000 : Nat) < sizeLine := by decide
      refine ⟨_, rfl, pf, ys, rfl, .inl (.inl (.inl hpe5)), _, rfl, _, rfl, d2, _, rfl, DPut.k (k := Sum.inl (m : Int)) hde5 (by omega), ?_⟩
      have T6 : TG H5 (upd H5 d2 (.dK (putK kvs (Sum.inl (m : Int)) (.int (ys.length : Nat))))) := tg_dK hde5
      have S6 : Same H (upd H5 d2 (.dK (putK kvs (Sum.inl (m : Int)) (.int (ys.length : Nat))))) := same_mut hS5 hd2H
      have hkl6 : (putK kvs (Sum.inl (m : Int)) (.int (ys.length : Nat))).length ≤ done.length + 1 := by have := length_putK kvs (Sum.inl (m : Int)) (.int (ys.length : Nat)); omega
      have hval6 : ∀ x ∈ done ++ [(m : Int)], ∃ v, valV (putK kvs (Sum.inl (m : Int)) (.int (ys.length : Nat))) (Sum.inl x) = some v := fun x hx => by
        rw [valV_put]
        split
        · exact ⟨_, rfl⟩
        · rename_i hne
          rcases List.mem_append.mp hx with z | z
          · exact hval x z
          · exact absurd (by rw [List.mem_singleton.mp z]) hne
      have hde6 : (upd H5 d2 (.dK (putK kvs (Sum.inl (m : Int)) (.int (ys.length : Nat))))) d2 = some (.dK (putK kvs (Sum.inl (m : Int)) (.int (ys.length : Nat)))) := upd_same
      have hpe6 : (upd H5 d2 (.dK (putK kvs (Sum.inl (m : Int)) (.int (ys.length : Nat))))) pf = some (.lst ys) := by rw [upd_ne npd]; exact hpe5
      have hre6 : (upd H5 d2 (.dK (putK kvs (Sum.inl (m : Int)) (.int (ys.length : Nat))))) r = some (.lst (ns'.map V.int)) := by rw [upd_ne n3]; exact hre
      generalize putK kvs (Sum.inl (m : Int)) (.int (ys.length : Nat)) = kvs6 at T6 S6 hkl6 hval6 hde6 hpe6 hre6
      generalize upd H5 d2 (.dK kvs6) = H6 at T6 S6 hde6 hpe6 hre6
      have fin : ∀ (v : V) (H7 : Hp), Same H H7 → H7 r = some (.lst (ns'.map V.int)) → H7 d2 = some (.dK kvs6) → H7 pf = some (.lst ys) → ∀ y3 y6 y7 y8 y9, ∃ kvs zs y3' y6' y7' y8' y9', [some (V.ref p), some (.int (last : Nat)), some (.ref d), y3, some (.ref d2), some (.ref pf), y6, y7, y8, y9] = [some (.ref p), some (.int (last : Nat)), some (.ref d), y3', some (.ref d2), some (.ref pf), y6', y7', y8', y9'] ∧
          Same H (upd H7 pf (.lst (ys ++ [v]))) ∧ (upd H7 pf (.lst (ys ++ [v]))) r = some (.lst (ns'.map V.int)) ∧ (upd H7 pf (.lst (ys ++ [v]))) d2 = some (.dK kvs) ∧ (upd H7 pf (.lst (ys ++ [v]))) pf = some (.lst zs) ∧ kvs.length ≤ (done ++ [(m : Int)]).length ∧ zs.length ≤ (done ++ [(m : Int)]).length ∧ ∀ x ∈ done ++ [(m : Int)], ∃ v, valV kvs (Sum.inl x) = some v := by
        intro v' H7 hS7 hr7 hd7 hp7 y3 y6 y7 y8 y9
        exact ⟨kvs6, ys ++ [v'], _, _, _, _, _, rfl, same_mut hS7 hpfH, by rw [upd_ne n4]; exact hr7, by rw [upd_ne npd.symm]; exact hd7, upd_same, by rw [List.length_append, List.length_singleton]; exact hkl6, by rw [List.length_append, List.length_append, List.length_singleton, List.length_singleton]; omega, hval6⟩
      obtain ⟨rr, hr1⟩ : ∃ rr, rows[m]? = some rr := ⟨_, List.getElem?_eq_getElem (by have := hN.le m hm; omega)⟩
      obtain ⟨u, hu, hdu⟩ := all_get' had hr1
      obtain ⟨a, w1, w2, rfl, ha, hw1, hw2⟩ := row_at (encRow.tg (.of S6) hdu)
      have hpp := S6 _ _ hpe
      obtain ⟨c, ln⟩ := rr
      cases ln with
      | given g =>
        obtain ⟨b, rfl, hb⟩ := given_at hw2
        refine ⟨_, rfl, _, rfl, p, rs, _, _, rfl, rfl, .inl (.inl hpp), atI_nat hu, a, _, _, _, rfl, rfl, ha, at1, b, rfl, .inr ⟨_, hb, (by show 2 ≠ 4; decide), ?_⟩⟩
        exact ⟨_, rfl, tyL hpe6, _, rfl, pf, ys, _, rfl, rfl, hpe6, by omega, fin _ H6 S6 hre6 hde6 hpe6 _ _ _ _ _⟩
      | cut i j n =>
        obtain ⟨b, rfl, hb⟩ := cut_at hw2
        obtain ⟨hi, hj⟩ := hR _ _ _ _ _ hr1
        obtain ⟨ci, cj⟩ := hN.cl m hm (Nat.zero_le _) _ _ _ _ hr1
        have before : ∀ x : Nat, x ∈ nk → x < m → ∃ v, valV kvs6 (Sum.inl (x : Int)) = some v := fun x hx hlt => by
          refine hval6 _ (List.mem_append_left _ ?_)
          have h1 : (x : Int) ∈ ns' := hperm.mem_iff.mpr (List.mem_map.mpr ⟨x, hx, rfl⟩)
          rw [he] at h1 hsort
          rcases List.mem_append.mp h1 with z | z
          · exact z
          · rcases List.mem_cons.mp z with z | z
            · omega
            · have := (List.pairwise_cons.mp (List.pairwise_append.mp hsort).2.1).1 _ z
              omega
        obtain ⟨vi, hvi⟩ := before i ci hi
        obtain ⟨vj, hvj⟩ := before j cj hj
        refine ⟨_, rfl, _, rfl, p, rs, _, _, rfl, rfl, .inl (.inl hpp), atI_nat hu, a, _, _, _, rfl, rfl, ha, at1, b, rfl, .inl ⟨_, _, _, hb, ?_⟩⟩
        have g1 := DGet.k (k := Sum.inl (i : Int)) hde6
        have g2 := DGet.k (k := Sum.inl (j : Int)) hde6
        rw [hvi] at g1
        rw [hvj] at g2
        refine ⟨_, rfl, tyL hpe6, _, rfl, _, rfl, d2, _, rfl, g1, _, rfl, _, rfl, d2, _, rfl, g2, _, rfl, (by show 4 ≤ sizeLine; decide), fun t ht => ?_⟩
        have S7 := same_new (o := .tup [.str "cut", vi, vj, .str n]) ht
        exact ⟨pf, ys, _, rfl, rfl, S7 _ _ hpe6, by omega, fin _ _ (S6.trans S7) (S7 _ _ hre6) (S7 _ _ hde6) (S7 _ _ hpe6) _ _ _ _ _⟩
    · obtain ⟨kvs, ys, y3, y6, y7, y8, y9, rfl, hS5, hre, hde5, hpe5, hkl, hyl, hval⟩ := hP
      exact ⟨_, rfl, pf, ys, rfl, .inl ⟨.inl (.inl hpe5), fun q' hq' => q q' _ (hS5.trans (same_new hq'))⟩⟩
end
end Sh
end
section
namespace Sh
open PySem PySem.Spec L2
abbrev sFind : Stmt := top 26
theorem scFind : FnScope ["clauses", "names", "constraint", "lines", "active", "against", "k", "name", "sign", "literal"] ["clauses", "names", "constraint"] (defScope sFind) := ⟨rfl, rfl, rfl, by decide +kernel, rfl, by decide +kernel, by decide +kernel⟩
abbrev sBCert : Stmt := inClass (top 30) 10
theorem scBCert : FnScope ["self", "theory", "constraint"] ["self", "theory", "constraint"] (defScope sBCert) := ⟨rfl, rfl, rfl, by decide +kernel, rfl, by decide +kernel, by decide +kernel⟩
abbrev sFollows : Stmt := top 13
theorem scFollows : FnScope ["kind", "theory", "constraint"] ["kind", "theory", "constraint"] (defScope sFollows) := ⟨rfl, rfl, rfl, by decide +kernel, rfl, by decide +kernel, by decide +kernel⟩
abbrev sImplies : Stmt := top 14
theorem scImplies : FnScope ["kind", "first", "second", "constraint"] ["kind", "first", "second"] (defScope sImplies) := ⟨rfl, rfl, rfl, by decide +kernel, rfl, by decide +kernel, by decide +kernel⟩
theorem inKe {X : Cx} (K : PySem.W.Frag) {α : Type} [DecidableEq α] {f : α → PyData} (E : Enc f) {a b : Expr} {ta tb : TE} {pos : Pos} (hu : X.A.units + 65 < cLine) (ha : PE X a ta) (hb : PE X b tb) (hK : X.K = K := by rfl) (hm : behindInMarks .In b = false := by rfl) : PE X (.Compare a [.In] [b] pos) (tOp (rInE K f true false) ta tb) := by
  subst hK; exact pe_cmpR (op_inE E hu) ha hb hm
theorem na_any {con c : Cl} : (c.map fun l => decide (l ∈ con.map neg)).any id = false ↔ Mth.NA con c := by
  rw [List.any_map, List.any_eq_false]
  refine ⟨fun h l hl hin => h l hl ?_, fun h l hl q => ?_⟩
  · exact decide_eq_true (List.mem_map.mpr ⟨(l.1, !l.2), hin, by simp [neg]⟩)
  · have q' : l ∈ con.map neg := by simpa using q
    obtain ⟨m, hm, rfl⟩ := List.mem_map.mp q'
    exact h _ hl (by simpa [neg] using hm)
structure StartSt (P : Program) (w : World) (K : PySem.W.Frag) (p d : Addr) (ns : List Str) (con : Cl) (cs : List Cl) (rows : List Row) (es : List Ent) (H' : Hp) : Prop where
  ls : Ls K H' p dRow rows
  nd : NdAt P w K H' d es
  rok : RowsOk rows
  ent : ∀ e ∈ es, EntOk ns con rows e
  mem : ∀ r ∈ es.map (·.1), ∃ c ∈ cs, Mth.NA con c ∧ r = Mth.filt con c
  all : ∀ c ∈ cs, Mth.NA con c → Mth.filt con c ∈ es.map (·.1)
  len : rows.length = es.length
theorem StartSt.same {P : Program} {w : World} {K : PySem.W.Frag} {H H' : Hp} {p d : Addr} {ns : List Str} {con : Cl} {cs : List Cl} {rows : List Row} {es : List Ent} (x : StartSt P w K p d ns con cs rows es H) (s : Same H H') : StartSt P w K p d ns con cs rows es H' :=
  ⟨x.ls.same encRow s, x.nd.same s, x.rok, x.ent, x.mem, x.all, x.len⟩
theorem but2_same {H H1 H2 : Hp} {p d : Addr} (s : Same H H1) (b : But2 p d H1 H2) (hp : H p = none) (hd : H d = none) : Same H H2 := fun y o e => b y o (fun z => by rw [z, hp] at e; cases e) (fun z => by rw [z, hd] at e; cases e) (s y o e)
section
variable {P : Program} {w : World} {K : PySem.W.Frag} {mg : Str → Option Value} {base : Heap} {C : Addr}
def spFind (K : PySem.W.Frag) : Sp := fun vs H Q _ => ∃ (v0 v1 v2 : V) (ns : List Str) (cs : List Cl) (con : Cl), vs = [v0, v1, v2] ∧ Dp K H v0 (dCls cs) ∧ Dp K H v1 (dNm ns) ∧ Dp K H v2 (dCl con) ∧ Th ns cs ∧ Mth.VC ns con ∧
  (¬ Mth.Fol cs con → ∀ H', Same H H' → Q .non H') ∧ (Mth.Fol cs con → ∀ q H', Same H H' → Q (.ref q) H')
theorem ok_find (T : At K mg "find_certificate" sFind) (mr : mg "range" = none) (ml : mg "len" = none) (ma : mg "any" = none) (G2 : Def P w K mg base 1 "add_line" ["lines", "active", "constraint", "clause", "line"] (spAdd P w K))
    (G3 : Def P w K mg base 3 "cut_name" ["lines", "active", "constraint", "name"] (spCut P w K)) (G4 : Def P w K mg base 1 "trim_lines" ["lines", "last"] (spTrim K)) : Def P w K mg base 4 "find_certificate" ["clauses", "names", "constraint"] (spFind K) := by
  refine T.def scFind (fun vs H Q E h => ?_) (fun _ _ _ _ _ _ us hl => match us, hl with | [_, _, _], _ => rfl) (fun f cdv A outer s H vs Q E hr h => ?_)
  · obtain ⟨v0, v1, v2, ns, cs, con, rfl, _⟩ := h; rfl
  obtain ⟨v0, v1, v2, ns, cs, con, rfl, h0, h1, h2, hT, hv, qn, qs⟩ := h
  refine ⟨_, pss_cons (st_ 3 scFind.nd (pe_lst pa_nil)) (pss_cons (st_ 4 scFind.nd pe_newN)
    (pss_cons (st_ 5 scFind.nd (pe_lc (own := [("name", 7), ("sign", 8)]) (g := gTup K 2 (gCons (gName 7) (gCons (gName 8) gNil))) (tt := tYes) (by rfl) scFind.nd (pi_tup (pv 2)) (blkOk_by (N := ["clauses", "names", "constraint", "lines", "active", "against", "k", "name", "sign", "literal"]) (sc := defScope sFind) (by decide +kernel))
      (fun _ _ _ _ _ => pgTK K (by rfl) (pgs_cons (gn 7 scFind.nd) (pgs_cons (gn 8 scFind.nd) pgs_nil))) (fun _ _ _ _ _ => pts_nil) (fun _ _ _ _ _ => pe_tup (pa_cons (pv 7) (pa_cons (pe_op op_sub pe_int (pv 8)) pa_nil)))))
    (pss_cons (for_ (pi_range1 (by rfl) mr (pa_cons (len_ ml (pv 0)) pa_nil)) (gn 6 scFind.nd)
      (pss_one (ps_if (pt_not (pt_val (any_ (by rfl) ma (pe_lc (own := [("literal", 9)]) (g := gName 9) (tt := tYes) (by rfl) scFind.nd (pi_tup (ixT (pv 0) (pv 6))) (blkOk_by (N := ["clauses", "names", "constraint", "lines", "active", "against", "k", "name", "sign", "literal"]) (sc := defScope sFind) (by decide +kernel))
          (fun _ _ _ _ _ => gn 9 scFind.nd) (fun _ _ _ _ _ => pts_nil) (fun _ _ _ _ _ => inKe K encLit (hu65 hr) (pv 9) (pv 5))))))
        (pss_one (ps_expr (call_ G2 hr (pa_cons (pv 3) (pa_cons (pv 4) (pa_cons (pv 2) (pa_cons (ixT (pv 0) (pv 6)) (pa_cons (pe_tup (pa_cons pe_str (pa_cons (pv 6) pa_nil))) pa_nil)))))))) pss_nil)))
    (pss_cons (for_ (pi_tup (pv 1)) (gn 7 scFind.nd) (pss_one (st_ 4 scFind.nd (call_ G3 hr (pa_cons (pv 3) (pa_cons (pv 4) (pa_cons (pv 2) (pa_cons (pv 7) pa_nil))))))))
    (pss_cons (ps_if (tC_ (op_nNotIn (hu65 hr)) (pe_tup pa_nil) (pv 4)) (pss_one (ps_ret pe_non)) pss_nil)
    (pss_one (ps_ret (call_ G4 hr (pa_cons (pv 3) (pa_cons (pe_nget (hu65 hr) (pv 4) (pe_tup pa_nil)) pa_nil)))))))))), ?_⟩
  have few := hT.few
  have nl := hT.len
  obtain ⟨a0, xs0, rfl, hs0, ha0⟩ := dp_tup h0
  obtain ⟨a1, xs1, rfl, hs1, ha1⟩ := dp_tup h1
  obtain ⟨a2, xs2, rfl, hs2, ha2⟩ := dp_tup h2
  have lx0 := allf_len ha0
  have lcon := Mth.vc_len hv
  refine ⟨Nat.zero_le _, fun p hp d hd => ?_⟩
  have S1 : Same H (upd (upd H p (.lst [])) d (oN P w d [])) := (same_new hp).trans (same_new hd)
  have hdH : H d = none := (same_new hp).free hd
  have npd : p ≠ d := fun e => by rw [← e, upd_same] at hd; cases hd
  have st1 : StartSt P w K p d ns con [] [] [] (upd (upd H p (.lst [])) d (oN P w d [])) :=
    ⟨Ls.nil.same encRow (same_new hd), NdAt.nil, (fun _ _ _ _ _ h => by simp at h), (fun _ h => by cases h), (fun _ h => by cases h), (fun _ h => by cases h), rfl⟩
  refine ⟨_, rfl, a2, rfl, ⟨xs2, sqt_tg (.of S1) hs2⟩, fun D hD => lc_tupE encLit encLit (fun _ => true) neg hD (by omega) (sqt_tg (.of S1) hs2) (encLit.tgs (.of S1) ha2) (fun l _ v H' yes no hS hv' hy' hno => ?_) (fun H2 hS2 hL2 => ?_)⟩
  · obtain ⟨c, rfl, hc⟩ := dp_lit hv'
    refine ⟨c, _, rfl, hc, rfl, _, _, rfl, _, _, rfl, rfl, rfl, iteT (B := no H') ⟨_, rfl, _, rfl, _, _, rfl, rfl, (by show 2 ≤ sizeLine; decide), fun t ht => ?_⟩⟩
    refine hy' rfl _ _ (same_new ht) (mk_lit (.inl (.inl ?_)))
    show upd H' t (HO.tup [V.str l.1, .int (1 - b2 l.2)]) t = some (.tup [.str l.1, .int (b2 (!l.2))])
    rw [one_sub]
    exact upd_same
  · rw [List.filter_eq_self.mpr (fun _ _ => rfl)] at hL2
    have S2 := S1.trans hS2
    have st2 := st1.same hS2
    have hDH : H D = none := S1.free hD
    have hDp : D ≠ p := fun e => by rw [e, upd_ne npd, upd_same] at hD; cases hD
    have hDd : D ≠ d := fun e => by rw [e, upd_same] at hD; cases hD
    refine ⟨_, rfl, a0, xs0, rfl, .inr (sqt_tg (.of S2) hs0), _, rfl, by omega, by omega, for_range (lo := 0) (n := xs0.length) (fun k σ H' => ∃ rows es y6 y7 y8 y9, σ = [some (.ref a0), some (.ref a1), some (.ref a2), some (.ref p), some (.ref d), some (.ref D), y6, y7, y8, y9] ∧ Same H H' ∧ Ls K H' D dLit (con.map neg) ∧ StartSt P w K p d ns con (cs.take k) rows es H' ∧ rows.length ≤ k)
      ⟨[], [], none, none, none, none, rfl, S2, hL2, st2, Nat.le_refl _⟩ (fun k σ H3 hk hP => ?_) (fun σ H3 hP => ?_)⟩
    · obtain ⟨rows, es, y6, y7, y8, y9, rfl, hS3, hL3, hSt, hrl⟩ := hP
      obtain ⟨c, hc⟩ : ∃ c, cs[k]? = some c := ⟨_, List.getElem?_eq_getElem (by omega)⟩
      have hcm : c ∈ cs := List.mem_of_getElem? hc
      have hcv := hT.vc c hcm
      have lc := Mth.vc_len hcv
      obtain ⟨u, hu, hdu⟩ := all_get' ha0 hc
      have hdu3 := encCl.tg (.of hS3) hdu
      obtain ⟨b, ys, rfl, hb, hy⟩ := dp_tup hdu3
      have s0 := sqt_tg (.of hS3) hs0
      refine ⟨_, rfl, _, rfl, a0, xs0, _, _, rfl, rfl, s0, by rw [Int.zero_add]; exact atI_nat hu, b, rfl, ⟨ys, hb⟩, fun D2 hD2 => lc_tupE encLit encBl (fun _ => true) (fun l => decide (l ∈ con.map neg)) hD2 (by omega) hb hy (fun l _ v H' yes no hS hv' hy' hno => ?_) (fun H4 hS4 hL4 => ?_)⟩
      · refine ⟨rfl, iteT (B := no H') ⟨_, rfl, _, rfl, l, con.map neg, hv', .inr (hL3.same encLit hS).dp, fun hm => ?_, fun hm => ?_⟩⟩
        · exact hy' rfl (.bl true) H' (.refl _) (by show Dp K H' (.bl true) (.bool (decide (l ∈ con.map neg))); rw [decide_eq_true hm]; exact .bl _)
        · exact hy' rfl (.bl false) H' (.refl _) (by show Dp K H' (.bl false) (.bool (decide (l ∈ con.map neg))); rw [decide_eq_false hm]; exact .bl _)
      · rw [List.filter_eq_self.mpr (fun _ _ => rfl)] at hL4
        obtain ⟨bvs, hb1, hb2⟩ := hL4
        have hb3 := bls_all hb2
        subst hb3
        have S4 := hS3.trans hS4
        have hSt4 := hSt.same hS4
        refine ⟨D2, _, rfl, .inl (.inl hb1), _, rfl, ?_⟩
        have etk : cs.take (k + 1) = cs.take k ++ [c] := take_snoc hc
        cases e : (c.map fun l => decide (l ∈ con.map neg)).any id with
        | true =>
          refine iteF ⟨rows, es, _, _, _, _, rfl, S4, hL3.same encLit hS4, ⟨hSt4.ls, hSt4.nd, hSt4.rok, hSt4.ent, fun r hr' => ?_, fun c' hc' hna => ?_, hSt4.len⟩, by omega⟩
          · obtain ⟨c', h1, h2⟩ := hSt4.mem r hr'
            exact ⟨c', by rw [etk]; exact List.mem_append_left _ h1, h2⟩
          · rw [etk] at hc'
            rcases List.mem_append.mp hc' with z | z
            · exact hSt4.all c' z hna
            · rw [List.mem_singleton.mp z] at hna
              rw [na_any.mpr hna] at e
              cases e
        | false =>
          have hna := na_any.mp e
          refine iteT ⟨_, rfl, _, rfl, _, rfl, _, rfl, _, rfl, a0, xs0, _, _, rfl, rfl, sqt_tg (.of hS4) s0, by rw [Int.zero_add]; exact atI_nat hu, _, rfl, (by show 2 ≤ sizeLine; decide), fun t ht => ?_⟩
          have S5 := same_new (o := .tup [.str "given", .int (0 + (k : Int))]) ht
          have hSt5 := hSt4.same S5
          have hln : Dp K (upd H4 t (.tup [.str "given", .int (0 + (k : Int))])) (.ref t) (dLn (.given k)) := by
            refine .tup (.inl (.inl upd_same)) (.cons (.str _) (.cons ?_ .nil))
            rw [Int.zero_add]
            exact .int _
          refine ⟨p, d, .ref a2, .ref b, .ref t, rows, es, con, c, .given k, rfl, hSt5.ls, hSt5.nd, encCl.tg (.of (S4.trans S5)) h2, encCl.tg (.of (hS4.trans S5)) hdu3, hln, by omega, by have := hSt5.len; omega, by omega, fun rows' es' H6 hRel hL6 hN6 hB6 => ?_⟩
          obtain ⟨p1, p2, p3, p4, p5⟩ := hRel.ok hcv hna hSt5.ent hSt5.rok (fun i j n e => by cases e)
          have S6 := but2_same (S4.trans S5) hB6 hp hdH
          have hL6' : Ls K H6 D dLit (con.map neg) := by
            obtain ⟨ws, w1, w2⟩ := (hL3.same encLit hS4).same encLit S5
            refine ⟨ws, hB6 D _ hDp hDd w1, encLit.tgs ?_ w2⟩
            obtain ⟨_, r1, _⟩ := hSt5.ls
            exact tg_but2 hB6 r1 hSt5.nd.at_
          have p6 : rows'.length = es'.length ∧ rows'.length ≤ rows.length + 1 := by
            have := hSt5.len
            refine ⟨by omega, ?_⟩
            rcases hRel with ⟨_, e1, _⟩ | ⟨_, e1, _⟩
            · rw [e1]; omega
            · rw [e1, List.length_append, List.length_singleton]; omega
          refine ⟨rows', es', _, _, _, _, rfl, S6, hL6', ⟨hL6, hN6, p2, p3, fun r hr' => ?_, fun c' hc' hna' => ?_, p6.1⟩, by omega⟩
          · rcases (p4 r).mp hr' with z | z
            · obtain ⟨c', h1, h2⟩ := hSt5.mem r z
              exact ⟨c', by rw [etk]; exact List.mem_append_left _ h1, h2⟩
            · exact ⟨c, by rw [etk]; exact List.mem_append_right _ (List.mem_singleton.mpr rfl), hna, z⟩
          · rw [etk] at hc'
            rcases List.mem_append.mp hc' with z | z
            · exact (p4 _).mpr (.inl (hSt5.all c' z hna'))
            · rw [List.mem_singleton.mp z]; exact (p4 _).mpr (.inr rfl)
    · obtain ⟨rows, es, y6, y7, y8, y9, rfl, hS3, hL3, hSt, hrl⟩ := hP
      rw [lx0, List.take_length] at hSt
      refine ⟨_, rfl, a1, rfl, ⟨xs1, sqt_tg (.of hS3) hs1⟩, for_tupE (H0 := H) encStr (fun done σ H' => ∃ rows es d y6 y7 y8 y9, σ = [some (.ref a0), some (.ref a1), some (.ref a2), some (.ref p), some (.ref d), some (.ref D), y6, y7, y8, y9] ∧ Same H H' ∧ Ls K H' p dRow rows ∧ NdAt P w K H' d es ∧ RowsOk rows ∧ (∀ e ∈ es, EntOk ns con rows e) ∧
          Mth.CertInv con cs done (es.map (·.1)) ∧ (∀ e ∈ es, ∀ l ∈ e.1, l.1 ∉ done) ∧ rows.length ≤ 250 + 243 * done.length) hs1 ha1 ⟨rows, es, d, y6, y7, y8, y9, rfl, hS3, hSt.ls, hSt.nd, hSt.rok, hSt.ent, Mth.CertInv.start hSt.mem hSt.all, (fun _ _ _ _ h => by cases h), by omega⟩
        (fun _ _ _ ⟨_, _, _, _, _, _, _, _, s, _⟩ => .of s) (fun done x rest v σ H4 he hP hvx => ?_) (fun σ H4 hP => ?_)⟩
      · obtain ⟨rows, es, d, y6, y7, y8, y9, rfl, hS4, hL4, hN4, hR4, hE4, hC4, hX4, hz4⟩ := hP
        have := dp_str hvx
        subst this
        have hdl : done.length ≤ 5 := by have := congrArg List.length he; rw [List.length_append] at this; omega
        refine ⟨_, rfl, _, rfl, _, rfl, _, rfl, p, d, .ref a2, x, rows, es, con, ns, rfl, hL4, hN4, encCl.tg (.of hS4) h2, hT.asc, nl, hR4, hE4, by omega, fun rows' es' d' H5 hB5 hL5 hN5 hp5 hR5 hE5 hEl hz5 => ?_⟩
        have S5 := but2_same hS4 hB5 hp hp
        have hok := hEl.ok (fun r hr' => by obtain ⟨e, he', rfl⟩ := List.mem_map.mp hr'; exact (hE4 e he').vc.nt)
        refine ⟨rows', es', d', _, _, _, _, rfl, S5, hL5, hN5, hR5, hE5, hC4.step (fun r hr' l hl hlx b => ?_) hok, fun e he' l hl hin => ?_, by rw [List.length_append, List.length_singleton]; omega⟩
        · obtain ⟨e, he', rfl⟩ := List.mem_map.mp hr'
          obtain ⟨k, c, ln, _, _, _, hna, e1⟩ := hE4 e he'
          rw [e1] at hl
          obtain ⟨l1, l2⟩ := Mth.mem_filt.mp hl
          have l3 := hna l l1
          rw [hlx] at l3
          have l4 : (x, l.2) ∉ con := by rw [← hlx]; exact l2
          cases hb : l.2 with
          | true => rw [hb] at l3 l4; cases b with
            | true => exact l4
            | false => exact l3
          | false => rw [hb] at l3 l4; cases b with
            | true => exact l3
            | false => exact l4
        · have hr' : e.1 ∈ es'.map (·.1) := List.mem_map.mpr ⟨e, he', rfl⟩
          have old : ∀ c ∈ es.map (·.1), ∀ l ∈ c, l.1 ∉ done := fun c hc l hl => by obtain ⟨e0, h0, rfl⟩ := List.mem_map.mp hc; exact hX4 e0 h0 l hl
          rcases hEl.from_ e.1 hr' with ⟨k1, k2⟩ | ⟨c, hc, d0, hd0, _, _, hres⟩
          · rcases List.mem_append.mp hin with z | z
            · exact old _ k1 l hl z
            · exact k2 l hl (List.mem_singleton.mp z)
          · obtain ⟨k3, k4⟩ := (hres.2 l).mp hl
            rcases List.mem_append.mp hin with z | z
            · rcases k3 with k3 | k3
              · exact old c hc l k3 z
              · exact old d0 hd0 l k3 z
            · exact k4 (List.mem_singleton.mp z)
      · obtain ⟨rows, es, d, y6, y7, y8, y9, rfl, hS4, hL4, hN4, hR4, hE4, hC4, hX4, hz4⟩ := hP
        have hnil : ∀ r ∈ es.map (·.1), r = [] := fun r hr' => by
          obtain ⟨e, he', rfl⟩ := List.mem_map.mp hr'
          have hvc := (hE4 e he').vc
          cases hq : e.1 with
          | nil => rfl
          | cons l r => rw [hq] at hvc; exact absurd (hvc.sub l List.mem_cons_self) (hX4 e he' l (by rw [hq]; exact List.mem_cons_self))
        have hiff := hC4.done hv.nt hnil
        refine ⟨Nat.zero_le _, fun t ht => ?_⟩
        have S5 := same_new (o := .tup []) ht
        have hN5 := hN4.same S5
        have hnl : Dp K (upd H4 t (.tup [])) (.ref t) (dCl []) := .tup (.inl (.inl upd_same)) .nil
        refine ⟨_, rfl, d, es, t, [], rfl, hN5.is, rfl, hnl, fun hin => ⟨_, rfl, iteF ?_⟩, fun hin => ⟨_, rfl, iteT (qn (fun hF => hin (hiff.mpr hF)) _ (hS4.trans S5))⟩⟩
        obtain ⟨v, hv5⟩ := valN_mem hin
        obtain ⟨e, he', e1, e2⟩ := valN_in hv5
        obtain ⟨k, c, ln, k1, k2, _⟩ := hE4 e he'
        have hkl := (List.getElem?_eq_some_iff.mp k2).1
        refine ⟨_, rfl, _, rfl, Nat.zero_le _, fun t2 ht2 => ?_⟩
        have S6 := same_new (o := .tup []) ht2
        have hN6 := hN5.same S6
        refine ⟨d, es, t2, [], v, rfl, hN6.is, rfl, .tup (.inl (.inl upd_same)) .nil, hv5, ?_⟩
        rw [← e2, k1]
        have hz5 : ns.length ≤ 5 := nl
        exact ⟨p, k, rows, rfl, hL4.same encRow (S5.trans S6), hR4, hkl, by omega, fun q' H7 hS7 => qs (hiff.mp hin) q' H7 (((hS4.trans S5).trans S6).trans hS7)⟩
/-! ### certificate, follows, implies -/
def spBCert (K : PySem.W.Frag) : Sp := fun vs H Q _ => ∃ (v0 v1 v2 : V) (ns : List Str) (cs : List Cl) (con : Cl), vs = [v0, v1, v2] ∧ Dp K H v1 (dTh ns cs) ∧ Dp K H v2 (dCl con) ∧ Th ns cs ∧ Mth.VC ns con ∧
  (¬ Mth.Fol cs con → ∀ H', Same H H' → Q .non H') ∧ (Mth.Fol cs con → ∀ q H', Same H H' → Q (.ref q) H')
theorem ok_bCert (T : AtM K C "certificate" "Bits.certificate" sBCert) (G : Def P w K mg base 4 "find_certificate" ["clauses", "names", "constraint"] (spFind K)) : MDef P w K mg base C 5 "certificate" ["self", "theory", "constraint"] (spBCert K) := by
  refine T.def scBCert (fun vs H Q E h => ?_) (fun _ _ _ _ _ _ us hl => match us, hl with | [_, _, _], _ => rfl) (fun f cdv A outer s H vs Q E hr h => ?_)
  · obtain ⟨v0, v1, v2, ns, cs, con, rfl, _⟩ := h; rfl
  obtain ⟨v0, v1, v2, ns, cs, con, rfl, h1, h2, hT, hv, qn, qs⟩ := h
  refine ⟨_, pss_one (ps_ret (call_ G hr (pa_cons (ixT (pv 1) pe_int) (pa_cons (ixT (pv 1) pe_int) (pa_cons (pv 2) pa_nil))))), ?_⟩
  obtain ⟨a, w1, w2, rfl, hs, hw1, hw2⟩ := dp_th h1
  exact ⟨_, rfl, a, _, _, _, rfl, rfl, hs, at1, _, rfl, a, _, _, _, rfl, rfl, hs, at0, _, rfl, w2, w1, v2, ns, cs, con, rfl, hw2, hw1, h2, hT, hv, qn, qs⟩
def spFollows (K : PySem.W.Frag) (C : Addr) : Sp := fun vs H Q _ => ∃ (v0 v1 v2 : V) (ns : List Str) (cs : List Cl) (con : Cl), vs = [v0, v1, v2] ∧ Kd C H v0 ∧ Dp K H v1 (dTh ns cs) ∧ Dp K H v2 (dCl con) ∧ Th ns cs ∧ Mth.VC ns con ∧
  (¬ Mth.Fol cs con → ∀ H', Same H H' → Q (.bl false) H') ∧ (Mth.Fol cs con → ∀ H', Same H H' → Q (.bl true) H')
theorem ok_follows (T : At K mg "follows" sFollows) (cl : Cls K C) (G : MDef P w K mg base C 5 "certificate" ["self", "theory", "constraint"] (spBCert K)) : Def P w K mg base 6 "follows" ["kind", "theory", "constraint"] (spFollows K C) := by
  refine T.def scFollows (fun vs H Q E h => ?_) (fun _ _ _ _ _ _ us hl => match us, hl with | [_, _, _], _ => rfl) (fun f cdv A outer s H vs Q E hr h => ?_)
  · obtain ⟨v0, v1, v2, ns, cs, con, rfl, _⟩ := h; rfl
  obtain ⟨v0, v1, v2, ns, cs, con, rfl, ⟨kp, kx, rfl, hk⟩, h1, h2, hT, hv, qn, qs⟩ := h
  refine ⟨_, pss_one (ps_ret (eC_ o_notN (meth_ cl G hr (pv 0) (pa_cons (pv 1) (pa_cons (pv 2) pa_nil))) pe_non)), ?_⟩
  exact ⟨_, rfl, kp, kx, _, rfl, hk, rfl, _, rfl, _, rfl, _, v1, v2, ns, cs, con, rfl, h1, h2, hT, hv, fun hF H' hS => ⟨rfl, fun _ => qn hF H' hS, fun e => absurd rfl e⟩, fun hF q H' hS => ⟨rfl, (fun e => nomatch e), fun _ => qs hF H' hS⟩⟩
def spImplies (K : PySem.W.Frag) (C : Addr) : Sp := fun vs H Q _ => ∃ (v0 v1 v2 : V) (ns : List Str) (cs ds : List Cl), vs = [v0, v1, v2] ∧ Kd C H v0 ∧ Dp K H v1 (dTh ns cs) ∧ Dp K H v2 (dTh ns ds) ∧ Th ns cs ∧ Th ns ds ∧
  (¬ (∀ c ∈ ds, Mth.Fol cs c) → ∀ H', Same H H' → Q (.bl false) H') ∧ ((∀ c ∈ ds, Mth.Fol cs c) → ∀ H', Same H H' → Q (.bl true) H')
theorem ok_implies (T : At K mg "implies" sImplies) (G : Def P w K mg base 6 "follows" ["kind", "theory", "constraint"] (spFollows K C)) : Def P w K mg base 7 "implies" ["kind", "first", "second"] (spImplies K C) := by
  refine T.def scImplies (fun vs H Q E h => ?_) (fun _ _ _ _ _ _ us hl => match us, hl with | [_, _, _], _ => rfl) (fun f cdv A outer s H vs Q E hr h => ?_)
  · obtain ⟨v0, v1, v2, ns, cs, ds, rfl, _⟩ := h; rfl
  obtain ⟨v0, v1, v2, ns, cs, ds, rfl, hK, h1, h2, hT, hT2, qn, qs⟩ := h
  refine ⟨_, pss_cons (for_ (pi_tup (ixT (pv 2) pe_int)) (gn 3 scImplies.nd) (pss_one (ps_if (pt_not (pt_val (call_ G hr (pa_cons (pv 0) (pa_cons (pv 1) (pa_cons (pv 3) pa_nil)))))) (pss_one (ps_ret pe_bl)) pss_nil))) (pss_one (ps_ret pe_bl)), ?_⟩
  obtain ⟨a, w1, w2, rfl, hs, hw1, hw2⟩ := dp_th h2
  obtain ⟨b, xs, rfl, hb, hx⟩ := dp_tup hw2
  refine ⟨_, rfl, a, _, _, _, rfl, rfl, hs, at1, b, rfl, ⟨xs, hb⟩, for_tupE (H0 := H) encCl (fun done σ H' => (∃ y, σ = [some v0, some v1, some (.ref a), y]) ∧ Same H H' ∧ ∀ c ∈ done, Mth.Fol cs c) hb hx ⟨⟨none, rfl⟩, .refl _, (fun _ h => by cases h)⟩ (fun _ _ _ h => .of h.2.1) (fun done c rest v σ H' he hP hv => ?_) (fun σ H' hP => ?_)⟩
  · obtain ⟨⟨y, rfl⟩, hS, hF⟩ := hP
    have hm : c ∈ ds := by rw [he]; exact List.mem_append_right _ List.mem_cons_self
    refine ⟨_, rfl, _, rfl, _, rfl, v0, v1, v, ns, cs, c, rfl, hK.same hS, dp_tg (.of hS) _ _ (pure_th _ _) h1, hv, hT, hT2.vc c hm, fun hn H2 hS2 => ⟨_, rfl, iteT (qn (fun h => hn (h c hm)) _ (hS.trans hS2))⟩, fun hy H2 hS2 => ⟨_, rfl, iteF ⟨⟨_, rfl⟩, hS.trans hS2, fun c' hc' => ?_⟩⟩⟩
    rcases List.mem_append.mp hc' with z | z
    · exact hF c' z
    · rw [List.mem_singleton.mp z]; exact hy
  · obtain ⟨⟨y, rfl⟩, hS, hF⟩ := hP
    exact qs hF _ hS
end
end Sh
end
section
namespace Sh
open PySem PySem.Spec L2
abbrev sSource : Stmt := top 34
theorem scSource : FnScope ["_law_script", "_law_k", "_law_number"] ["_law_script", "_law_k"] (defScope sSource) := ⟨rfl, rfl, rfl, by decide +kernel, rfl, by decide +kernel, by decide +kernel⟩
abbrev sDraw : Stmt := top 35
theorem scDraw : FnScope ["_law_source_here", "_law_limit", "_law_number", "_law_mixed"] ["_law_source_here", "_law_limit"] (defScope sDraw) := ⟨rfl, rfl, rfl, by decide +kernel, rfl, by decide +kernel, by decide +kernel⟩
abbrev sSome : Stmt := top 36
theorem scSome : FnScope ["_law_source_here", "_law_names", "_law_most", "_law_found", "_law_name"] ["_law_source_here", "_law_names", "_law_most"] (defScope sSome) := ⟨rfl, rfl, rfl, by decide +kernel, rfl, by decide +kernel, by decide +kernel⟩
/-- all as it stood, but at p -/
def But1 (p : Addr) (H H' : Hp) : Prop := ∀ x o, x ≠ p → H x = some o → H' x = some o
theorem But1.refl (p : Addr) (H : Hp) : But1 p H H := fun _ _ _ h => h
theorem But1.trans {p : Addr} {H H1 H2 : Hp} (a : But1 p H H1) (b : But1 p H1 H2) : But1 p H H2 := fun x o h e => b x o h (a x o h e)
theorem But1.of {p : Addr} {H H' : Hp} (s : Same H H') : But1 p H H' := fun x o _ e => s x o e
theorem But1.put {p : Addr} {H H' : Hp} {o : HO} (b : But1 p H H') : But1 p H (upd H' p o) := fun x u h e => by rw [upd_ne h]; exact b x u h e
/-- a new object may change, too -/
theorem But1.mut {p q : Addr} {H H' : Hp} {o : HO} (b : But1 p H H') (hq : H q = none) : But1 p H (upd H' q o) := fun x u h e => by
  rw [upd_ne (ne_of_none e hq)]; exact b x u h e
def SrcAt (H : Hp) (p : Addr) : Prop := ∃ n m : Int, H p = some (.lst [.int n, .int m])
theorem SrcAt.same {H H' : Hp} {p : Addr} (s : Same H H') (h : SrcAt H p) : SrcAt H' p := let ⟨n, m, e⟩ := h; ⟨n, m, s _ _ e⟩
theorem tg_but1 {H H' : Hp} {p : Addr} (b : But1 p H H') (h : SrcAt H p) : TG H H' := fun x xs r => by
  obtain ⟨n, m, e⟩ := h
  have hx : x ≠ p := fun z => by rcases r with r | ⟨o, r⟩ <;> (rw [z, e] at r; cases r)
  rcases r with r | ⟨o, r⟩
  · exact .inl (b x _ hx r)
  · exact .inr ⟨o, b x _ hx r⟩
section
variable {P : Program} {w : World} {K : PySem.W.Frag} {mg : Str → Option Value} {base : Heap} {C : Addr}
def rInt : List V → Hp → VK → Prop := fun xs H Q => ∃ i, xs = [.int i] ∧ Q (.int i) H
theorem call_intI {X : Cx} : CallR X (.type "int") rInt := fun pins s σ H vs us Q I r ⟨i, e, q⟩ => call_int1 pins s σ H vs us Q I r (.inl ⟨i, e, q⟩)
theorem int_ {X : Cx} {e : Expr} {te : TE} {p pos : Pos} (hm : X.mg "int" = none) (he : PE X e te) (hg : Gl X "int" := by rfl) (hs : starEach [e] X.env = (false, eval e X.env) :: starEach [] X.env := by rfl) :
    PE X (.Call (.Name "int" p) [e] [] pos) (tCB rInt (tCons te tNil)) := pe_callTy call_intI hg hm (by decide +kernel) (pa_cons he pa_nil hs) (by decide) (by decide) hs
/-! ### _law_source -/
def spSource (K : PySem.W.Frag) : Sp := fun vs H Q _ => ∃ (a : Addr) (k : Nat) (ns : List Int), vs = [.ref a, .int (k : Nat)] ∧ SqL K H a (ns.map V.int) ∧ ∀ p H', H p = none → Same H H' → SrcAt H' p → Q (.ref p) H'
theorem ok_source (T : At K mg "_law_source" sSource) (ml : mg "len" = none) (mi : mg "int" = none) : Def P w K mg base 1 "_law_source" ["_law_script", "_law_k"] (spSource K) := by
  refine T.def scSource (fun vs H Q E h => ?_) (fun _ _ _ _ _ _ us hl => match us, hl with | [_, _], _ => rfl) (fun f cdv A outer s H vs Q E hr h => ?_)
  · obtain ⟨a, k, ns, rfl, _⟩ := h; rfl
  obtain ⟨a, k, ns, rfl, hs, q⟩ := h
  refine ⟨_, pss_cons (st_ 2 scSource.nd pe_int) (pss_cons (ps_if (tC_ o_lt (pv 1) (len_ ml (pv 0))) (pss_one (st_ 2 scSource.nd (int_ mi (pe_ix ix_list (pv 0) (pv 1) (fun _ _ => rfl))))) pss_nil)
    (pss_one (ps_ret (pe_lst (pa_cons (pv 2) (pa_cons (pe_op op_add (pe_op op_mul pe_int (pv 1)) (len_ ml (pv 0))) pa_nil)))))), ?_⟩
  have fin : ∀ n : Int, ∀ p, H p = none → Q (.ref p) (upd H p (.lst [.int n, .int (100 * (k : Int) + ((ns.map V.int).length : Nat))])) := fun n p hp => q p _ hp (same_new hp) ⟨_, _, upd_same⟩
  refine ⟨_, rfl, _, rfl, a, _, rfl, .inl hs, _, _, rfl, rfl, fun hlt => ⟨_, rfl, iteT ?_⟩, fun hlt => ⟨_, rfl, iteF ?_⟩⟩
  · have hk : k < ns.length := by rw [List.length_map] at hlt; omega
    refine ⟨_, rfl, _, rfl, a, _, _, .int ns[k], rfl, rfl, hs, atI_nat (by rw [List.getElem?_map, List.getElem?_eq_getElem hk]; rfl), _, rfl, ?_⟩
    exact ⟨_, rfl, _, rfl, _, _, rfl, rfl, .inl ⟨by decide, by decide⟩, _, rfl, a, _, rfl, .inl hs, _, _, rfl, rfl, (by show 2 ≤ sizeLine; decide), fin _⟩
  · exact ⟨_, rfl, _, rfl, _, _, rfl, rfl, .inl ⟨by decide, by decide⟩, _, rfl, a, _, rfl, .inl hs, _, _, rfl, rfl, (by show 2 ≤ sizeLine; decide), fin _⟩
/-! ### _law_draw -/
def spDraw (K : PySem.W.Frag) : Sp := fun vs H Q _ => ∃ (p : Addr) (lim : Int), vs = [.ref p, .int lim] ∧ SrcAt H p ∧ 0 < lim ∧ lim < 1000000 ∧ ∀ (r : Int) H', 0 ≤ r → r < lim → But1 p H H' → SrcAt H' p → Q (.int r) H'
theorem ok_draw (T : At K mg "_law_draw" sDraw) (mi : mg "int" = none) : Def P w K mg base 1 "_law_draw" ["_law_source_here", "_law_limit"] (spDraw K) := by
  refine T.def scDraw (fun vs H Q E h => ?_) (fun _ _ _ _ _ _ us hl => match us, hl with | [_, _], _ => rfl) (fun f cdv A outer s H vs Q E hr h => ?_)
  · obtain ⟨p, lim, rfl, _⟩ := h; rfl
  obtain ⟨p, lim, rfl, ⟨n, m, hp⟩, l0, l1, q⟩ := h
  refine ⟨_, pss_cons (st_ 2 scDraw.nd (pe_ix ix_list (pv 0) pe_int (fun _ _ => rfl)))
    (pss_cons (ps_if (tC_ o_ge (pv 2) (pe_op op_pow pe_int pe_int)) (pss_cons (ps_asg (pe_op op_fdivN (pv 2) (pv 1)) (pg_sub (pv 0) pe_int set_list)) (pss_one (ps_ret (pe_op op_mod (int_ mi (pv 2)) (pv 1))))) pss_nil)
    (pss_cons (ps_asg (pe_op op_add (pe_ix ix_list (pv 0) pe_int (fun _ _ => rfl)) pe_int) (pg_sub (pv 0) pe_int set_list))
    (pss_cons (st_ 3 scDraw.nd (pe_op op_mod (int_ mi (pe_op op_add (pe_op op_add (pe_op op_mul (pv 2) pe_int) (pe_op op_mul (pe_ix ix_list (pv 0) pe_int (fun _ _ => rfl)) pe_int)) pe_int)) pe_int))
    (pss_cons (st_ 3 scDraw.nd (pe_op op_mod (int_ mi (pe_op op_add (pe_op op_add (pe_op op_mul (pv 3) (pv 3)) (pv 2)) (pe_op op_mul (pe_ix ix_list (pv 0) pe_int (fun _ _ => rfl)) pe_int))) pe_int))
    (pss_cons (st_ 3 scDraw.nd (pe_op op_mod (int_ mi (pe_op op_add (pe_op op_add (pe_op op_mul (pv 3) (pv 3)) (pe_op op_fdivN (pv 3) pe_int)) pe_int)) pe_int))
    (pss_one (ps_ret (pe_op op_mod (pe_op op_fdivN (int_ mi (pv 3)) pe_int) (pv 1))))))))), ?_⟩
  have S : ∀ (H' : Hp) (n' m' : Int), But1 p H H' → H' p = some (.lst [.int n', .int m']) → SqL K H' p [.int n', .int m'] := fun H' n' m' _ e => .inl (.inl e)
  refine ⟨_, rfl, p, _, _, .int n, rfl, rfl, .inl (.inl hp), at0, _, rfl, _, _, rfl, rfl, ⟨by decide, by decide, by decide⟩, _, _, rfl, rfl, fun hge => ⟨_, rfl, iteT ?_⟩, fun hge => ⟨_, rfl, iteF ?_⟩⟩
  · refine ⟨_, rfl, _, rfl, _, _, rfl, rfl, ⟨by omega, by omega⟩, _, rfl, p, [.int n, .int m], _, 0, rfl, rfl, hp, rfl, ?_⟩
    refine ⟨_, rfl, _, rfl, _, rfl, _, _, rfl, rfl, l0, ?_⟩
    exact q _ _ (Int.emod_nonneg _ (by omega)) (Int.emod_lt_of_pos _ l0) (But1.refl p H).put ⟨_, _, upd_same⟩
  · refine ⟨_, rfl, p, _, _, .int m, rfl, rfl, .inl (.inl hp), at1, _, _, rfl, rfl, _, rfl, p, [.int n, .int m], _, 1, rfl, rfl, hp, rfl, ?_⟩
    have hp2 : (upd H p (.lst ([V.int n, V.int m].set 1 (.int (m + 1))))) p = some (.lst [.int n, .int (m + 1)]) := upd_same
    have B2 : But1 p H (upd H p (.lst ([V.int n, V.int m].set 1 (.int (m + 1))))) := (But1.refl p H).put
    generalize upd H p (.lst ([V.int n, V.int m].set 1 (.int (m + 1)))) = H2 at hp2 B2
    refine ⟨_, rfl, _, _, rfl, rfl, .inr ⟨by decide, by decide⟩, _, rfl, p, _, _, .int (m + 1), rfl, rfl, .inl (.inl hp2), at1, _, _, rfl, rfl, .inr ⟨by decide, by decide⟩, _, _, rfl, rfl, _, _, rfl, rfl, _, rfl, _, _, rfl, rfl, (by show (0 : Int) < 2147483647; decide), ?_⟩
    have b1 : ∀ x : Int, 0 ≤ x % 2147483647 ∧ x % 2147483647 < 2147483647 := fun x => ⟨Int.emod_nonneg _ (by decide), Int.emod_lt_of_pos _ (by decide)⟩
    have b2' : ∀ x : Int, 0 ≤ x % 2147483629 ∧ x % 2147483629 < 2147483629 := fun x => ⟨Int.emod_nonneg _ (by decide), Int.emod_lt_of_pos _ (by decide)⟩
    obtain ⟨x1, x2⟩ := b1 (n * 48271 + (m + 1) * 69621 + 7)
    generalize (n * 48271 + (m + 1) * 69621 + 7) % 2147483647 = y at x1 x2
    refine ⟨_, rfl, _, rfl, _, _, rfl, rfl, .inl ⟨by omega, by omega⟩, _, rfl, _, _, rfl, rfl, _, rfl, p, _, _, .int (m + 1), rfl, rfl, .inl (.inl hp2), at1, _, _, rfl, rfl, .inr ⟨by decide, by decide⟩, _, _, rfl, rfl, _, rfl, _, _, rfl, rfl, (by show (0 : Int) < 2147483629; decide), ?_⟩
    obtain ⟨x3, x4⟩ := b2' (y * y + n + (m + 1) * 40692)
    generalize (y * y + n + (m + 1) * 40692) % 2147483629 = z at x3 x4
    refine ⟨_, rfl, _, rfl, _, _, rfl, rfl, .inl ⟨by omega, by omega⟩, _, rfl, _, _, rfl, rfl, ⟨by decide, by decide⟩, _, _, rfl, rfl, _, _, rfl, rfl, _, rfl, _, _, rfl, rfl, (by show (0 : Int) < 2147483587; decide), ?_⟩
    refine ⟨_, rfl, _, rfl, _, _, rfl, rfl, ⟨by decide, by decide⟩, _, rfl, _, _, rfl, rfl, l0, ?_⟩
    exact q _ _ (Int.emod_nonneg _ (by omega)) (Int.emod_lt_of_pos _ l0) B2 ⟨_, _, hp2⟩
end
end Sh
end
section
namespace Sh
open PySem PySem.Spec L2
abbrev sClause : Stmt := top 40
theorem scClause : FnScope ["_law_source_here", "_law_names", "_law_clause_here", "_law_sparse", "_law_name", "_law_choice"] ["_law_source_here", "_law_names"] (defScope sClause) := ⟨rfl, rfl, rfl, by decide +kernel, rfl, by decide +kernel, by decide +kernel⟩
theorem pi_or {X : Cx} {tg e : Expr} {w1 w2 : TI} (h1 : PI X tg e w1) (h2 : PI X tg e w2) : PI X tg e (fun σ H R => w1 σ H R ∨ w2 σ H R) := ⟨fun pins s σ H R I h => h.elim (h1.run pins s σ H R I) (h2.run pins s σ H R I)⟩
theorem seq_but1 {K : PySem.W.Frag} {H H' : Hp} {p a : Addr} {xs : List V} (b : But1 p H H') (hn : a ≠ p) (h : SqL K H a xs) : SqL K H' a xs := by
  rcases h with (h | ⟨o, h⟩) | h
  · exact .inl (.inl (b _ _ hn h))
  · exact .inl (.inr ⟨o, b _ _ hn h⟩)
  · exact .inr h
theorem SrcAt.some {H : Hp} {p : Addr} (h : SrcAt H p) : ∃ o, H p = Option.some o := let ⟨_, _, e⟩ := h; ⟨_, e⟩
theorem SrcAt.ne {H : Hp} {p q : Addr} (h : SrcAt H p) (hq : H q = none) : q ≠ p := fun e => by obtain ⟨_, _, e2⟩ := h; rw [e, e2] at hq; cases hq
theorem SrcAt.mut {H : Hp} {p q : Addr} {o : HO} (h : SrcAt H p) (hq : q ≠ p) : SrcAt (upd H q o) p := let ⟨n, m, e⟩ := h; ⟨n, m, by rw [upd_ne hq.symm]; exact e⟩
section
variable {P : Program} {w : World} {K : PySem.W.Frag} {mg : Str → Option Value} {base : Heap} {C : Addr}
/-! ### _law_some -/
def spSome (K : PySem.W.Frag) : Sp := fun vs H Q _ => ∃ (p a : Addr) (ns : List Str) (most : Nat), vs = [.ref p, .ref a, .int (most : Nat)] ∧ SrcAt H p ∧ ((SqL K H a (ns.map V.str) ∧ a ≠ p) ∨ SqT K H a (ns.map V.str)) ∧ ns.length ≤ 1000 ∧
  ∀ (fs : List Str) q H', fs.Sublist ns → fs.length ≤ most → But1 p H H' → SrcAt H' p → H' q = some (.lst (fs.map V.str)) → Q (.ref q) H'
theorem ok_some (T : At K mg "_law_some" sSome) (ml : mg "len" = none) (G : Def P w K mg base 1 "_law_draw" ["_law_source_here", "_law_limit"] (spDraw K)) : Def P w K mg base 2 "_law_some" ["_law_source_here", "_law_names", "_law_most"] (spSome K) := by
  refine T.def scSome (fun vs H Q E h => ?_) (fun _ _ _ _ _ _ us hl => match us, hl with | [_, _, _], _ => rfl) (fun f cdv A outer s H vs Q E hr h => ?_)
  · obtain ⟨p, a, ns, most, rfl, _⟩ := h; rfl
  obtain ⟨p, a, ns, most, rfl, hp, ha, hz, q⟩ := h
  refine ⟨_, pss_cons (st_ 3 scSome.nd (pe_lst pa_nil)) (pss_cons (for_ (pi_or (pi_list (pv 1)) (pi_tup (pv 1))) (gn 4 scSome.nd)
      (pss_one (ps_if (PW.pt (pw_and (tC_ o_lt (len_ ml (pv 3)) (pv 2)) (pw_and1 (tC_ o_gt (call_ G hr (pa_cons (pv 0) (pa_cons pe_int pa_nil))) pe_int)))) (pss_one (app_ (pv 3) (pv 4))) pss_nil)))
    (pss_one (ps_ret (pv 3)))), ?_⟩
  refine ⟨Nat.zero_le _, fun q' hq' => ?_⟩
  have S0 : Same H (upd H q' (.lst [])) := same_new hq'
  have nqp := hp.ne hq'
  have inv0 : ∃ (fs : List Str) (y : Option V), [some (V.ref p), some (.ref a), some (.int (most : Nat)), some (.ref q'), none] = [some (V.ref p), some (.ref a), some (.int (most : Nat)), some (.ref q'), y] ∧ But1 p H (upd H q' (.lst [])) ∧ SrcAt (upd H q' (.lst [])) p ∧ (upd H q' (.lst [])) q' = some (.lst (fs.map V.str)) ∧ fs.Sublist ([] : List Str) ∧ fs.length ≤ most :=
    ⟨[], none, rfl, .of S0, hp.same S0, upd_same, .slnil, Nat.zero_le _⟩
  rcases ha with ⟨ha, nap⟩ | ha
  · refine .inl ⟨_, rfl, a, rfl, ⟨_, S0.seq ha⟩, for_listE (xs := ns) (vs := ns.map V.str) (H0 := H) encStr (fun done σ H' => ∃ (fs : List Str) (y : Option V), σ = [some (.ref p), some (.ref a), some (.int (most : Nat)), some (.ref q'), y] ∧ But1 p H H' ∧ SrcAt H' p ∧ H' q' = some (.lst (fs.map V.str)) ∧ fs.Sublist done ∧ fs.length ≤ most) (mk_strs ns) inv0
      (fun _ _ _ ⟨_, _, _, b, _⟩ => ⟨tg_but1 b hp, seq_but1 b nap ha⟩) (fun done x rest v σ1 H1 he hP hv => ?_) (fun σ1 H1 hP => ?_)⟩
    · obtain ⟨fs, y, rfl, hB, hs, hqe, hsub, hm⟩ := hP
      have := dp_str hv
      subst this
      have hdl : done.length ≤ 1000 := by have := congrArg List.length he; rw [List.length_append] at this; omega
      refine ⟨_, rfl, q', _, rfl, .inl (.inl (.inl hqe)), _, rfl, _, _, rfl, rfl, fun hlt => ⟨_, rfl, iteT ?_⟩, fun _ => ⟨_, rfl, iteF (iteF ⟨fs, _, rfl, hB, hs, hqe, hsub.trans (List.sublist_append_left _ _), hm⟩)⟩⟩
      rw [List.length_map] at hlt
      refine ⟨_, rfl, p, 3, rfl, hs, by decide, by decide, fun r H2 r0 r1 hB2 hs2 => ⟨_, _, rfl, rfl, fun _ => ⟨_, rfl, iteT ?_⟩, fun _ => ⟨_, rfl, iteF ⟨fs, _, rfl, hB.trans hB2, hs2, hB2 _ _ nqp hqe, hsub.trans (List.sublist_append_left _ _), hm⟩⟩⟩⟩
      have hqe2 := hB2 _ _ nqp hqe
      have hfl := hsub.length_le
      refine ⟨_, rfl, tyL hqe2, _, rfl, q', _, _, rfl, rfl, hqe2, Nat.lt_of_le_of_lt (by rw [List.length_map]; omega : (fs.map V.str).length ≤ 1000) (by decide), fs ++ [x], _, rfl, (hB.trans hB2).mut hq', hs2.mut nqp, by rw [upd_same, List.map_append]; rfl, hsub.append (List.Sublist.refl _), by rw [List.length_append, List.length_singleton]; omega⟩
    · obtain ⟨fs, y, rfl, hB, hs, hqe, hsub, hm⟩ := hP
      exact ⟨_, rfl, q fs q' _ hsub hm hB hs hqe⟩
  · refine .inr ⟨_, rfl, a, rfl, ⟨_, sqt_tg (.of S0) ha⟩, for_tupE (xs := ns) (vs := ns.map V.str) (H0 := H) encStr (fun done σ H' => ∃ (fs : List Str) (y : Option V), σ = [some (.ref p), some (.ref a), some (.int (most : Nat)), some (.ref q'), y] ∧ But1 p H H' ∧ SrcAt H' p ∧ H' q' = some (.lst (fs.map V.str)) ∧ fs.Sublist done ∧ fs.length ≤ most) ha (mk_strs ns) inv0
      (fun _ _ _ ⟨_, _, _, b, _⟩ => tg_but1 b hp) (fun done x rest v σ1 H1 he hP hv => ?_) (fun σ1 H1 hP => ?_)⟩
    · obtain ⟨fs, y, rfl, hB, hs, hqe, hsub, hm⟩ := hP
      have := dp_str hv
      subst this
      have hdl : done.length ≤ 1000 := by have := congrArg List.length he; rw [List.length_append] at this; omega
      refine ⟨_, rfl, q', _, rfl, .inl (.inl (.inl hqe)), _, rfl, _, _, rfl, rfl, fun hlt => ⟨_, rfl, iteT ?_⟩, fun _ => ⟨_, rfl, iteF (iteF ⟨fs, _, rfl, hB, hs, hqe, hsub.trans (List.sublist_append_left _ _), hm⟩)⟩⟩
      rw [List.length_map] at hlt
      refine ⟨_, rfl, p, 3, rfl, hs, by decide, by decide, fun r H2 r0 r1 hB2 hs2 => ⟨_, _, rfl, rfl, fun _ => ⟨_, rfl, iteT ?_⟩, fun _ => ⟨_, rfl, iteF ⟨fs, _, rfl, hB.trans hB2, hs2, hB2 _ _ nqp hqe, hsub.trans (List.sublist_append_left _ _), hm⟩⟩⟩⟩
      have hqe2 := hB2 _ _ nqp hqe
      have hfl := hsub.length_le
      refine ⟨_, rfl, tyL hqe2, _, rfl, q', _, _, rfl, rfl, hqe2, Nat.lt_of_le_of_lt (by rw [List.length_map]; omega : (fs.map V.str).length ≤ 1000) (by decide), fs ++ [x], _, rfl, (hB.trans hB2).mut hq', hs2.mut nqp, by rw [upd_same, List.map_append]; rfl, hsub.append (List.Sublist.refl _), by rw [List.length_append, List.length_singleton]; omega⟩
    · obtain ⟨fs, y, rfl, hB, hs, hqe, hsub, hm⟩ := hP
      exact ⟨_, rfl, q fs q' _ hsub hm hB hs hqe⟩
/-! ### _law_clause -/
theorem bit_of {r : Int} (h0 : 0 ≤ r) (h1 : r < 2) : ∃ b, r = b2 b := by
  by_cases h : r = 0
  · exact ⟨false, h⟩
  · exact ⟨true, by show r = 1; omega⟩
theorem vc_sub {ns done : List Str} {c : Cl} (hA : Mth.Asc ns) (hs : (c.map (·.1)).Sublist ns) : Mth.VC ns c :=
  ⟨List.pairwise_map.mp (List.Pairwise.sublist hs hA), fun l hl => hs.subset (List.mem_map.mpr ⟨l, hl, rfl⟩)⟩
def spClause (K : PySem.W.Frag) : Sp := fun vs H Q _ => ∃ (p : Addr) (v : V) (ns : List Str), vs = [.ref p, v] ∧ SrcAt H p ∧ Dp K H v (dNm ns) ∧ Mth.Asc ns ∧ ns.length ≤ 5 ∧ ∀ c, Mth.VC ns c → ∀ v' H', But1 p H H' → SrcAt H' p → Dp K H' v' (dCl c) → Q v' H'
theorem ok_clause (T : At K mg "_law_clause" sClause) (ml : mg "len" = none) (mt : mg "tuple" = none) (G : Def P w K mg base 1 "_law_draw" ["_law_source_here", "_law_limit"] (spDraw K)) : Def P w K mg base 2 "_law_clause" ["_law_source_here", "_law_names"] (spClause K) := by
  refine T.def scClause (fun vs H Q E h => ?_) (fun _ _ _ _ _ _ us hl => match us, hl with | [_, _], _ => rfl) (fun f cdv A outer s H vs Q E hr h => ?_)
  · obtain ⟨p, v, ns, rfl, _⟩ := h; rfl
  obtain ⟨p, v, ns, rfl, hp, hv, hA, nl, q⟩ := h
  refine ⟨_, pss_cons (st_ 2 scClause.nd (pe_lst pa_nil)) (pss_cons (st_ 3 scClause.nd (pe_op op_add pe_int (call_ G hr (pa_cons (pv 0) (pa_cons pe_int pa_nil)))))
    (pss_cons (for_ (pi_tup (pv 1)) (gn 4 scClause.nd) (pss_cons (st_ 5 scClause.nd (call_ G hr (pa_cons (pv 0) (pa_cons (pv 3) pa_nil))))
      (pss_one (ps_if (tC_ o_lt (pv 5) pe_int) (pss_one (app_ (pv 2) (pe_tup (pa_cons (pv 4) (pa_cons (pv 5) pa_nil))))) pss_nil))))
    (pss_cons (ps_if (PW.pt (pw_and (tC_ o_eqI (len_ ml (pv 2)) pe_int) (pw_and (tC_ o_gt (len_ ml (pv 1)) pe_int) (pw_and1 (tC_ o_gt (call_ G hr (pa_cons (pv 0) (pa_cons pe_int pa_nil))) pe_int)))))
      (pss_one (app_ (pv 2) (pe_tup (pa_cons (ixT (pv 1) (call_ G hr (pa_cons (pv 0) (pa_cons (len_ ml (pv 1)) pa_nil)))) (pa_cons (call_ G hr (pa_cons (pv 0) (pa_cons pe_int pa_nil))) pa_nil))))) pss_nil)
    (pss_one (ps_ret (tup_ (by rfl) mt (pv 2))))))), ?_⟩
  obtain ⟨a, rfl, ha⟩ := dp_nm hv
  refine ⟨Nat.zero_le _, fun t ht => ?_⟩
  have S0 : Same H (upd H t (.lst [])) := same_new ht
  have ntp := hp.ne ht
  refine ⟨_, rfl, p, 4, rfl, hp.same S0, by decide, by decide, fun r0 H1 a0 a1 hB1 hs1 => ⟨_, _, rfl, rfl, ?_⟩⟩
  have B1 := (But1.of (p := p) S0).trans hB1
  refine ⟨_, rfl, a, rfl, ⟨_, sqt_tg (tg_but1 B1 hp) ha⟩, for_tupE (xs := ns) (vs := ns.map V.str) (H0 := H) encStr (fun done σ H' => ∃ c y z, σ = [some (.ref p), some (.ref a), some (.ref t), some (.int (2 + r0)), y, z] ∧ But1 p H H' ∧ SrcAt H' p ∧ Ls K H' t dLit c ∧ (c.map (·.1)).Sublist done) ha (mk_strs ns)
    ⟨[], none, none, rfl, B1, hs1, ⟨[], hB1 _ _ ntp upd_same, .nil⟩, .slnil⟩ (fun _ _ _ ⟨_, _, _, _, b, _⟩ => tg_but1 b hp) (fun done x rest v σ1 H2 he hP hv => ?_) (fun σ1 H2 hP => ?_)⟩
  · obtain ⟨c, y, z, rfl, hB, hs, ⟨ws, hte, hwd⟩, hsub⟩ := hP
    have := dp_str hv
    subst this
    have hdl : done.length ≤ 5 := by have := congrArg List.length he; rw [List.length_append] at this; omega
    refine ⟨_, rfl, _, rfl, p, 2 + r0, rfl, hs, by omega, by omega, fun r H3 b0 b1 hB3 hs3 => ?_⟩
    have hte3 := hB3 _ _ ntp hte
    have T3 := tg_but1 hB3 hs
    refine ⟨_, rfl, _, _, rfl, rfl, fun hlt => ⟨_, rfl, iteT ?_⟩, fun _ => ⟨_, rfl, iteF ⟨c, _, _, rfl, hB.trans hB3, hs3, ⟨ws, hte3, encLit.tgs T3 hwd⟩, hsub.trans (List.sublist_append_left _ _)⟩⟩⟩
    obtain ⟨b, rfl⟩ := bit_of b0 hlt
    refine ⟨_, rfl, tyL hte3, _, rfl, _, rfl, (by show 2 ≤ sizeLine; decide), fun u hu => ?_⟩
    have S4 := same_new (o := .tup [.str x, .int (b2 b)]) hu
    have hte4 := S4 _ _ hte3
    have lw := allf_len hwd
    have hcl := hsub.length_le
    rw [List.length_map] at hcl
    refine ⟨t, ws, _, rfl, rfl, hte4, Nat.lt_of_le_of_lt (by omega : ws.length ≤ 5) (by decide), c ++ [(x, b)], _, _, rfl, ((hB.trans hB3).trans (.of S4)).mut ht, (hs3.same S4).mut ntp, Ls.push encLit hte4 (encLit.tgs (T3.trans (.of S4)) hwd) (mk_lit (.inl (.inl upd_same))), by rw [List.map_append]; exact hsub.append (List.Sublist.refl _)⟩
  · obtain ⟨c, y, z, rfl, hB, hs, ⟨ws, hte, hwd⟩, hsub⟩ := hP
    have lw := allf_len hwd
    have fin : ∀ (c' : Cl) (H' : Hp), Mth.VC ns c' → But1 p H H' → SrcAt H' p → Ls K H' t dLit c' → ∀ y z, (tRet (tCB (rTupE K) (tCons (tVar 2) tNil))) { nx := fun _ H' => Q .non H', rt := Q } [some (.ref p), some (.ref a), some (.ref t), some (.int (2 + r0)), y, z] H' := fun c' H' hc' hB' hs' hL' y z =>
      ⟨_, rfl, _, _, rfl, hL'.dp, encLit.pures _, fun v2 H3 hS3 hd3 => q c' hc' v2 H3 (hB'.trans (.of hS3)) (hs'.same hS3) hd3⟩
    have hvc : Mth.VC ns c := vc_sub (done := ns) hA hsub
    refine ⟨_, rfl, t, ws, rfl, .inl (.inl (.inl hte)), _, _, rfl, rfl, fun h0 => ⟨_, rfl, iteT ?_⟩, fun _ => ⟨_, rfl, iteF (iteF (fin c H2 hvc hB hs ⟨ws, hte, hwd⟩ _ _))⟩⟩
    have hc0 : c = [] := List.length_eq_zero_iff.mp (by have : (ws.length : Int) = 0 := h0; omega)
    have ha2 := sqt_tg (tg_but1 hB hp) ha
    refine ⟨_, rfl, a, _, rfl, .inr ha2, _, _, rfl, rfl, fun h1 => ⟨_, rfl, iteT ?_⟩, fun _ => ⟨_, rfl, iteF (iteF (fin c H2 hvc hB hs ⟨ws, hte, hwd⟩ _ _))⟩⟩
    refine ⟨_, rfl, p, 8, rfl, hs, by decide, by decide, fun r3 H3 _ _ hB3 hs3 => ⟨_, _, rfl, rfl, fun _ => ⟨_, rfl, iteT ?_⟩, fun _ => ⟨_, rfl, iteF (fin c H3 hvc (hB.trans hB3) hs3 ⟨ws, hB3 _ _ ntp hte, encLit.tgs (tg_but1 hB3 hs) hwd⟩ _ _)⟩⟩⟩
    have hte3 := hB3 _ _ ntp hte
    have T3 := tg_but1 hB3 hs
    rw [List.length_map] at h1
    have ha3 := sqt_tg T3 ha2
    refine ⟨_, rfl, tyL hte3, _, rfl, _, rfl, _, rfl, a, _, rfl, .inr ha3, p, ((ns.map V.str).length : Nat), rfl, hs3, by rw [List.length_map]; exact h1, by rw [List.length_map]; omega, fun r4 H4 d0 d1 hB4 hs4 => ?_⟩
    rw [List.length_map] at d1
    obtain ⟨k, rfl⟩ := Int.eq_ofNat_of_zero_le d0
    have hk : k < ns.length := by omega
    have ha4 := sqt_tg (tg_but1 hB4 hs3) ha3
    refine ⟨a, _, _, .str ns[k], rfl, rfl, ha4, atI_nat (by rw [List.getElem?_map, List.getElem?_eq_getElem hk]; rfl), _, rfl, p, 2, rfl, hs4, by decide, by decide, fun r5 H5 e0 e1 hB5 hs5 => ⟨(by show 2 ≤ sizeLine; decide), fun u hu => ?_⟩⟩
    obtain ⟨b, rfl⟩ := bit_of e0 e1
    have S6 := same_new (o := .tup [.str ns[k], .int (b2 b)]) hu
    have hte5 := hB5 _ _ ntp (hB4 _ _ ntp hte3)
    have hte6 := S6 _ _ hte5
    have hw0 : ws = [] := List.length_eq_zero_iff.mp (by rw [hc0] at lw; exact lw)
    subst hw0
    refine ⟨t, [], _, rfl, rfl, hte6, by decide, ?_⟩
    exact fin [(ns[k], b)] _ (vc_unit (List.getElem_mem hk)) (((((hB.trans hB3).trans hB4).trans hB5).trans (.of S6)).mut ht) ((hs5.same S6).mut ntp) ⟨_, upd_same, .cons (encLit.tg (tg_lst hte6) (mk_lit (.inl (.inl upd_same)))) .nil⟩ _ _
end
end Sh
end
section
namespace Sh
open PySem PySem.Spec L2
abbrev sLCut : Stmt := top 39
theorem scLCut : FnScope ["_law_first", "_law_second_here", "_law_name", "_law_found", "_law_literal"] ["_law_first", "_law_second_here", "_law_name"] (defScope sLCut) := ⟨rfl, rfl, rfl, by decide +kernel, rfl, by decide +kernel, by decide +kernel⟩
abbrev sWide : Stmt := top 41
theorem scWide : FnScope ["_law_source_here", "_law_names", "_law_clause_here", "_law_found", "_law_used", "_law_name", "_law_literal"] ["_law_source_here", "_law_names", "_law_clause_here"] (defScope sWide) := ⟨rfl, rfl, rfl, by decide +kernel, rfl, by decide +kernel, by decide +kernel⟩
abbrev sTurn : Stmt := top 42
theorem scTurn : FnScope ["_law_source_here", "_law_clause_here", "_law_at"] ["_law_source_here", "_law_clause_here"] (defScope sTurn) := ⟨rfl, rfl, rfl, by decide +kernel, rfl, by decide +kernel, by decide +kernel⟩
abbrev sLRes : Stmt := top 43
theorem scLRes : FnScope ["_law_names", "_law_first", "_law_second_here", "_law_name", "_law_clause_here"] ["_law_names", "_law_first", "_law_second_here"] (defScope sLRes) := ⟨rfl, rfl, rfl, by decide +kernel, rfl, by decide +kernel, by decide +kernel⟩
theorem vc_sorted {ns : List Str} {r fs : Cl} (hp : r.Perm fs) (hs : r.Pairwise fun l m => Mth.SOrd.lt m l = false) (nd : (fs.map (·.1)).Nodup) (sub : ∀ l ∈ fs, l.1 ∈ ns) : Mth.VC ns r := by
  have ndn : (r.map (·.1)).Nodup := (hp.map (·.1)).nodup_iff.mpr nd
  have nd2 : r.Nodup := List.Pairwise.of_map (·.1) (fun a b h e => h (by rw [e])) ndn
  have st : Mth.Srt r := Mth.Srt.of_weak hs nd2
  refine ⟨List.Pairwise.imp (fun {l m} ⟨h1, h2⟩ => ?_) (List.pairwise_and_iff.mpr ⟨st, List.pairwise_map.mp ndn⟩), fun l hl => sub l (hp.mem_iff.mp hl)⟩
  have h3 : Mth.litLt l m = true := h1
  unfold Mth.litLt at h3
  rwa [if_neg h2] at h3
theorem names_nd {fs : Cl} (hn : fs.Nodup) (hf : ∀ l ∈ fs, neg l ∉ fs) : (fs.map (·.1)).Nodup := by
  refine List.pairwise_map.mpr (List.Pairwise.imp_of_mem (fun {l m} hl hm h e => ?_) hn)
  have : m = neg l := Prod.ext e.symm (by
    have : l.2 ≠ m.2 := fun z => h (Prod.ext e z)
    show m.2 = !l.2
    revert this
    cases l.2 <;> cases m.2 <;> simp)
  exact hf l hl (by rw [← this]; exact hm)
section
variable {P : Program} {w : World} {K : PySem.W.Frag} {mg : Str → Option Value} {base : Heap} {C : Addr}
/-! ### _law_cut -/
def spLCut (K : PySem.W.Frag) : Sp := fun vs H Q _ => ∃ (v1 v2 : V) (n : Str) (c d : Cl) (ns : List Str), vs = [v1, v2, .str n] ∧ Dp K H v1 (dCl c) ∧ Dp K H v2 (dCl d) ∧ Mth.VC ns c ∧ Mth.VC ns d ∧ ns.length ≤ 1000 ∧
  (∀ H', Same H H' → Q .non H') ∧ ∀ r, Mth.VC ns r → Give K H (dCl r) Q
theorem ok_lcut (T : At K mg "_law_cut" sLCut) (ms : mg "sorted" = none) (mt : mg "tuple" = none) : Def P w K mg base 1 "_law_cut" ["_law_first", "_law_second_here", "_law_name"] (spLCut K) := by
  refine T.def scLCut (fun vs H Q E h => ?_) (fun _ _ _ _ _ _ us hl => match us, hl with | [_, _, _], _ => rfl) (fun f cdv A outer s H vs Q E hr h => ?_)
  · obtain ⟨v1, v2, n, c, d, ns, rfl, _⟩ := h; rfl
  obtain ⟨v1, v2, n, c, d, ns, rfl, h1, h2, hc, hd, hz, qn, qs⟩ := h
  refine ⟨_, pss_cons (ps_if (PW.pt (pw_or (notIn_ encLit (hu65 hr) (pe_tup (pa_cons (pv 2) (pa_cons pe_int pa_nil))) (pv 0)) (pw_or1 (notIn_ encLit (hu65 hr) (pe_tup (pa_cons (pv 2) (pa_cons pe_int pa_nil))) (pv 1))))) (pss_one (ps_ret pe_non)) pss_nil)
    (pss_cons (ps_setLc (i := 3) (own := [("_law_literal", 4)]) (g := gName 4) (by rfl) scLCut.nd rfl rfl (sw_true rfl rfl rfl (by decide +kernel)) (pi_tup (pv 0)) (blkOk_by (N := ["_law_first", "_law_second_here", "_law_name", "_law_found", "_law_literal"]) (sc := defScope sLCut) (by decide +kernel)) (fun _ _ _ _ _ => gn 4 scLCut.nd)
      (fun _ _ _ _ _ => pts_one (tC_ o_neS (ixTK K (pv 4) pe_int) (pv 2))) (fun _ _ _ _ _ => pv 4))
    (pss_cons (for_ (pi_tup (pv 1)) (gn 4 scLCut.nd) (pss_one (ps_if (PW.pt (pw_and (tC_ o_neS (ixT (pv 4) pe_int) (pv 2)) (pw_and1 (notIn_ encLit (hu65 hr) (pv 4) (pv 3))))) (pss_one (app_ (pv 3) (pv 4))) pss_nil)))
    (pss_cons (for_ (pi_list (pv 3)) (gn 4 scLCut.nd) (pss_one (ps_if (in_ encLit (hu65 hr) (pe_tup (pa_cons (ixT (pv 4) pe_int) (pa_cons (pe_op op_sub pe_int (ixT (pv 4) pe_int)) pa_nil))) (pv 3)) (pss_one (ps_ret pe_non)) pss_nil)))
    (pss_one (ps_ret (tup_ (by rfl) mt (sorted_ encLit (hu65 hr) ms (pv 3)))))))), ?_⟩
  have lc := Mth.vc_len hc
  have ld := Mth.vc_len hd
  obtain ⟨a1, xs1, rfl, hs1, ha1⟩ := dp_tup h1
  obtain ⟨a2, xs2, rfl, hs2, ha2⟩ := dp_tup h2
  refine ⟨_, rfl, (by show 2 ≤ sizeLine; decide), fun t ht => ⟨_, rfl, (n, true), c, mk_lit (.inl (.inl upd_same)), .inl (encCl.tg (tg_new ht) h1), fun hm => ⟨_, rfl, iteF ?_⟩, fun hm => ⟨_, rfl, iteT (iteT (qn _ (same_new ht)))⟩⟩⟩
  refine ⟨_, rfl, (by show 2 ≤ sizeLine; decide), fun t2 ht2 => ⟨_, rfl, (n, false), d, mk_lit (.inl (.inl upd_same)), .inl (encCl.tg (tg_new ht2) (encCl.tg (tg_new ht) h2)), fun hm2 => ⟨_, rfl, iteF ?_⟩, fun hm2 => ⟨_, rfl, iteT (qn _ ((same_new ht).trans (same_new ht2)))⟩⟩⟩
  have S0 := (same_new (o := .tup [.str n, .int 1]) ht).trans (same_new (o := .tup [.str n, .int 0]) ht2)
  generalize upd (upd H t (.tup [.str n, .int 1])) t2 (.tup [.str n, .int 0]) = H0 at S0
  refine ⟨_, rfl, a1, rfl, ⟨xs1, sqt_tg (.of S0) hs1⟩, fun D hD => lc_tupE encLit encLit (fun l => decide (l.1 ≠ n)) id hD (by omega) (sqt_tg (.of S0) hs1) (encLit.tgs (.of S0) ha1) (fun l _ v H' yes no hS hv hy hn => ?_) (fun H1 hS1 hL1 => ?_)⟩
  · obtain ⟨b, rfl, hb⟩ := dp_lit hv
    exact ⟨rfl, _, rfl, b, _, _, _, rfl, rfl, hb, at0, _, rfl, l.1, n, rfl, rfl, fun e => ⟨_, rfl, iteT ⟨_, rfl, hy (decide_eq_true e) _ _ (.refl _) hv⟩⟩, fun e => ⟨_, rfl, iteF (hn (decide_eq_false e) _ (.refl _))⟩⟩
  · rw [List.map_id] at hL1
    have S1 := S0.trans hS1
    have hDH : H D = none := S0.free hD
    refine ⟨_, rfl, a2, rfl, ⟨xs2, sqt_tg (.of S1) hs2⟩, for_tupE (H0 := H) encLit (fun done σ H' => ∃ (fs : Cl) (y : Option V), σ = [some (.ref a1), some (.ref a2), some (.str n), some (.ref D), y] ∧ Same H H' ∧ Ls K H' D dLit fs ∧ fs.Nodup ∧ (∀ l ∈ fs, l.1 ∈ ns) ∧ fs.length ≤ 1000 + done.length) hs2 ha2
      ⟨_, none, rfl, S1, hL1, hc.nodup.sublist (List.filter_sublist), fun l hl => hc.sub l (List.mem_filter.mp hl).1, by have := List.length_filter_le (fun l : Lit => decide (l.1 ≠ n)) c; omega⟩ (fun _ _ _ ⟨_, _, _, s, _⟩ => .of s) (fun done l rest v σ H2 he hP hv => ?_) (fun σ H2 hP => ?_)⟩
    · obtain ⟨fs, y, rfl, hS, hL, hnd, hsub, hl⟩ := hP
      obtain ⟨b, rfl, hb⟩ := dp_lit hv
      have hdl : done.length ≤ 1000 := by have := congrArg List.length he; rw [List.length_append] at this; omega
      have hlen : ∀ m, m ≤ 1000 + done.length + 1 → m ≤ 1000 + (done ++ [l]).length := fun m h => by rw [List.length_append, List.length_singleton]; omega
      refine ⟨_, rfl, b, _, _, _, rfl, rfl, hb, at0, _, rfl, l.1, n, rfl, rfl, fun e => ⟨_, rfl, iteT ?_⟩, fun e => ⟨_, rfl, iteF (iteF ⟨fs, _, rfl, hS, hL, hnd, hsub, hlen _ (by omega)⟩)⟩⟩
      refine ⟨_, rfl, _, rfl, l, fs, hv, .inr hL.dp, fun hin => ⟨_, rfl, iteF ⟨fs, _, rfl, hS, hL, hnd, hsub, hlen _ (by omega)⟩⟩, fun hin => ⟨_, rfl, iteT ?_⟩⟩
      obtain ⟨ws, hpe, had⟩ := hL
      have lw := allf_len had
      exact ⟨_, rfl, tyL hpe, _, rfl, D, ws, _, rfl, rfl, hpe, Nat.lt_of_le_of_lt (by omega : ws.length ≤ 2000) (by decide), fs ++ [l], _, rfl, same_mut hS hDH, Ls.push encLit hpe had hv, nd_snoc hnd hin, fun m hm => by
        rcases List.mem_append.mp hm with z | z
        · exact hsub m z
        · rw [List.mem_singleton.mp z]; exact hd.sub l (by rw [he]; exact List.mem_append_right _ List.mem_cons_self), hlen _ (by rw [List.length_append, List.length_singleton]; omega)⟩
    · obtain ⟨fs, y, rfl, hS, hL, hnd, hsub, hl⟩ := hP
      obtain ⟨ws, hpe, had⟩ := hL
      refine ⟨_, rfl, D, rfl, ⟨ws, .inl (.inl hpe)⟩, for_listE (H0 := H2) encLit (fun done σ H' => (∃ (y : Option V), σ = [some (.ref a1), some (.ref a2), some (.str n), some (.ref D), y]) ∧ Same H2 H' ∧ ∀ l ∈ done, neg l ∉ fs) had ⟨⟨_, rfl⟩, .refl _, (fun _ h => by cases h)⟩
        (fun _ _ _ h => ⟨.of h.2.1, .inl (.inl (h.2.1 _ _ hpe))⟩) (fun done l rest v σ H3 he hP hv => ?_) (fun σ H3 hP => ?_)⟩
      · obtain ⟨⟨y, rfl⟩, hS3, hf⟩ := hP
        obtain ⟨b, rfl, hb⟩ := dp_lit hv
        refine ⟨_, rfl, b, _, _, _, rfl, rfl, hb, at0, _, rfl, b, _, _, _, rfl, rfl, hb, at1, _, _, rfl, rfl, (by show 2 ≤ sizeLine; decide), fun t3 ht3 => ?_⟩
        have S4 := same_new (o := .tup [.str l.1, .int (1 - b2 l.2)]) ht3
        have hL4 : Ls K (upd H3 t3 (.tup [.str l.1, .int (1 - b2 l.2)])) D dLit fs := ⟨ws, S4 _ _ (hS3 _ _ hpe), encLit.tgs (.of (hS3.trans S4)) had⟩
        refine ⟨_, rfl, neg l, fs, mk_lit (.inl (.inl ?_)), .inr hL4.dp, fun hin => ⟨_, rfl, iteT (qn _ ((hS.trans hS3).trans S4))⟩, fun hin => ⟨_, rfl, iteF ⟨⟨_, rfl⟩, hS3.trans S4, fun m hm => ?_⟩⟩⟩
        · show upd H3 t3 (.tup [.str l.1, .int (1 - b2 l.2)]) t3 = some (.tup [.str l.1, .int (b2 (!l.2))])
          rw [one_sub]; exact upd_same
        · rcases List.mem_append.mp hm with z | z
          · exact hf m z
          · rw [List.mem_singleton.mp z]; exact hin
      · obtain ⟨⟨y, rfl⟩, hS3, hf⟩ := hP
        have had3 := encLit.tgs (.of hS3) had
        refine ⟨_, rfl, D, ws, fs, rfl, .inl (.inl (hS3 _ _ hpe)), had3, fun _ => ⟨alikes_lit fs, sortables_lit fs⟩, fun r us p hperm hpw hp hda => ⟨_, _, rfl, .lst (.inl (.inl upd_same)) (encLit.tgs (tg_new hp) hda), encLit.pures _, fun v H4 hS4 hd4 => ?_⟩⟩
        exact qs r (vc_sorted hperm (pw_lit hpw) (names_nd hnd hf) hsub) v H4 (((hS.trans hS3).trans (same_new hp)).trans hS4) hd4
/-! ### _law_resolvent -/
def spLRes (K : PySem.W.Frag) : Sp := fun vs H Q _ => ∃ (v0 v1 v2 : V) (c d : Cl) (ns : List Str), vs = [v0, v1, v2] ∧ Dp K H v0 (dNm ns) ∧ Dp K H v1 (dCl c) ∧ Dp K H v2 (dCl d) ∧ Mth.VC ns c ∧ Mth.VC ns d ∧ ns.length ≤ 1000 ∧ ∀ r, Mth.VC ns r → Give K H (dCl r) Q
theorem ok_lres (T : At K mg "_law_resolvent" sLRes) (G : Def P w K mg base 1 "_law_cut" ["_law_first", "_law_second_here", "_law_name"] (spLCut K)) : Def P w K mg base 2 "_law_resolvent" ["_law_names", "_law_first", "_law_second_here"] (spLRes K) := by
  refine T.def scLRes (fun vs H Q E h => ?_) (fun _ _ _ _ _ _ us hl => match us, hl with | [_, _, _], _ => rfl) (fun f cdv A outer s H vs Q E hr h => ?_)
  · obtain ⟨v0, v1, v2, c, d, ns, rfl, _⟩ := h; rfl
  obtain ⟨v0, v1, v2, c, d, ns, rfl, h0, h1, h2, hc, hd, hz, q⟩ := h
  refine ⟨_, pss_cons (for_ (pi_tup (pv 0)) (gn 3 scLRes.nd) (pss_cons (st_ 4 scLRes.nd (call_ G hr (pa_cons (pv 1) (pa_cons (pv 2) (pa_cons (pv 3) pa_nil))))) (pss_one (ps_if (tC_ o_notN (pv 4) pe_non) (pss_one (ps_ret (pv 4))) pss_nil)))) (pss_one (ps_ret (pv 1))), ?_⟩
  obtain ⟨a, xs, rfl, hs, ha⟩ := dp_tup h0
  refine ⟨_, rfl, a, rfl, ⟨xs, hs⟩, for_tupE (H0 := H) encStr (fun done σ H' => (∃ y z, σ = [some (.ref a), some v1, some v2, y, z]) ∧ Same H H') hs ha ⟨⟨none, none, rfl⟩, .refl _⟩ (fun _ _ _ h => .of h.2) (fun done x rest v σ H' he hP hv => ?_) (fun σ H' hP => ?_)⟩
  · obtain ⟨⟨y, z, rfl⟩, hS⟩ := hP
    have := dp_str hv
    subst this
    exact ⟨_, rfl, _, rfl, _, rfl, v1, v2, x, c, d, ns, rfl, encCl.tg (.of hS) h1, encCl.tg (.of hS) h2, hc, hd, hz, fun H2 hS2 => ⟨_, rfl, rfl, fun _ => ⟨_, rfl, iteF ⟨⟨_, _, rfl⟩, hS.trans hS2⟩⟩, fun e => absurd rfl e⟩, fun r hr' v3 H2 hS2 hd2 => ⟨_, rfl, rfl, (fun e => by subst e; cases hd2), fun _ => ⟨_, rfl, iteT ⟨_, rfl, q r hr' v3 H2 (hS.trans hS2) hd2⟩⟩⟩⟩
  · obtain ⟨⟨y, z, rfl⟩, hS⟩ := hP
    exact ⟨_, rfl, q c hc _ _ hS (encCl.tg (.of hS) h1)⟩
end
end Sh
end
section
namespace Sh
open PySem PySem.Spec L2
section
variable {P : Program} {w : World} {K : PySem.W.Frag} {mg : Str → Option Value} {base : Heap} {C : Addr}
/-! ### _law_widened -/
def spWide (K : PySem.W.Frag) : Sp := fun vs H Q _ => ∃ (p : Addr) (v1 v2 : V) (ns : List Str) (c : Cl), vs = [.ref p, v1, v2] ∧ SrcAt H p ∧ Dp K H v1 (dNm ns) ∧ Dp K H v2 (dCl c) ∧ Mth.Asc ns ∧ ns.length ≤ 5 ∧ Mth.VC ns c ∧ ∀ r, Mth.VC ns r → ∀ v' H', But1 p H H' → SrcAt H' p → Dp K H' v' (dCl r) → Q v' H'
theorem ok_wide (T : At K mg "_law_widened" sWide) (ms : mg "sorted" = none) (mt : mg "tuple" = none) (mL : mg "list" = none) (G : Def P w K mg base 1 "_law_draw" ["_law_source_here", "_law_limit"] (spDraw K)) : Def P w K mg base 2 "_law_widened" ["_law_source_here", "_law_names", "_law_clause_here"] (spWide K) := by
  refine T.def scWide (fun vs H Q E h => ?_) (fun _ _ _ _ _ _ us hl => match us, hl with | [_, _, _], _ => rfl) (fun f cdv A outer s H vs Q E hr h => ?_)
  · obtain ⟨p, v1, v2, ns, c, rfl, _⟩ := h; rfl
  obtain ⟨p, v1, v2, ns, c, rfl, hp, h1, h2, hA, nl, hc, q⟩ := h
  refine ⟨_, pss_cons (st_ 3 scWide.nd (list_ mL (pv 2)))
    (pss_cons (ps_setLc (i := 4) (own := [("_law_literal", 6)]) (g := gName 6) (tt := tYes) (by rfl) scWide.nd rfl rfl (sw_true rfl rfl rfl (by decide +kernel)) (pi_tup (pv 2)) (blkOk_by (N := ["_law_source_here", "_law_names", "_law_clause_here", "_law_found", "_law_used", "_law_name", "_law_literal"]) (sc := defScope sWide) (by decide +kernel)) (fun _ _ _ _ _ => gn 6 scWide.nd)
      (fun _ _ _ _ _ => pts_nil) (fun _ _ _ _ _ => ixTK K (pv 6) pe_int))
    (pss_cons (for_ (pi_tup (pv 1)) (gn 5 scWide.nd) (pss_one (ps_if (PW.pt (pw_and (notIn_ encStr (hu65 hr) (pv 5) (pv 4)) (pw_and1 (tC_ o_eqI (call_ G hr (pa_cons (pv 0) (pa_cons pe_int pa_nil))) pe_int))))
        (pss_one (app_ (pv 3) (pe_tup (pa_cons (pv 5) (pa_cons (call_ G hr (pa_cons (pv 0) (pa_cons pe_int pa_nil))) pa_nil))))) pss_nil)))
    (pss_one (ps_ret (tup_ (by rfl) mt (sorted_ encLit (hu65 hr) ms (pv 3))))))), ?_⟩
  have lc := Mth.vc_len hc
  obtain ⟨a1, xs1, rfl, hs1, ha1⟩ := dp_tup h1
  obtain ⟨a2, xs2, rfl, hs2, ha2⟩ := dp_tup h2
  refine ⟨_, rfl, a2, xs2, rfl, .inr hs2, fun t ht => ?_⟩
  have S0 := same_new (o := .lst xs2) ht
  have ntp := hp.ne ht
  have hL0 : Ls K (upd H t (.lst xs2)) t dLit c := ⟨xs2, upd_same, encLit.tgs (.of S0) ha2⟩
  generalize upd H t (.lst xs2) = H0 at S0 hL0
  refine ⟨_, rfl, a2, rfl, ⟨xs2, sqt_tg (.of S0) hs2⟩, fun D hD => lc_tupE encLit encStr (fun _ => true) (fun l : Lit => l.1) hD (by omega) (sqt_tg (.of S0) hs2) (encLit.tgs (.of S0) ha2) (fun l _ v H' yes no hS hv hy hn => ?_) (fun H1 hS1 hL1 => ?_)⟩
  · obtain ⟨b, rfl, hb⟩ := dp_lit hv
    exact ⟨rfl, iteT (B := no H') ⟨_, rfl, b, _, _, _, rfl, rfl, hb, at0, hy rfl _ _ (.refl _) (.str _)⟩⟩
  · rw [List.filter_eq_self.mpr (fun _ _ => rfl)] at hL1
    have S1 := S0.trans hS1
    have hDp : D ≠ p := hp.same S0 |>.ne hD
    have hDt : D ≠ t := fun e => by obtain ⟨_, e1, _⟩ := hL0; rw [e, e1] at hD; cases hD
    refine ⟨_, rfl, a1, rfl, ⟨xs1, sqt_tg (.of S1) hs1⟩, for_tupE (H0 := H) encStr (fun done σ H' => ∃ (fs : Cl) (y z : Option V), σ = [some (.ref p), some (.ref a1), some (.ref a2), some (.ref t), some (.ref D), y, z] ∧ But1 p H H' ∧ SrcAt H' p ∧ Ls K H' t dLit fs ∧ Ls K H' D (fun x : Str => PyData.str x) (c.map fun l : Lit => l.1) ∧ (fs.map (·.1)).Nodup ∧ (∀ l ∈ fs, l.1 ∈ ns) ∧ (∀ l ∈ fs, l.1 ∈ c.map (fun l : Lit => l.1) ∨ l.1 ∈ done) ∧ fs.length ≤ 5 + done.length) hs1 ha1
      ⟨c, none, _, rfl, .of S1, hp.same S1, hL0.same encLit hS1, hL1, (hc.asc.imp fun h => Mth.SOrd.ne h) |> List.pairwise_map.mpr, hc.sub, fun l hl => .inl (List.mem_map.mpr ⟨l, hl, rfl⟩), by omega⟩ (fun _ _ _ ⟨_, _, _, _, b, _⟩ => tg_but1 b hp) (fun done x rest v σ H2 he hP hv => ?_) (fun σ H2 hP => ?_)⟩
    · obtain ⟨fs, y, z, rfl, hB, hs, hL, hLD, hnd, hsub, hor, hl⟩ := hP
      have := dp_str hv
      subst this
      have hdl : done.length ≤ 5 := by have := congrArg List.length he; rw [List.length_append] at this; omega
      have hxn : x ∈ ns := by rw [he]; exact List.mem_append_right _ List.mem_cons_self
      have hxd : x ∉ done := fun h => by
        have h2 : ns.Nodup := Mth.Srt.nodup hA
        rw [he] at h2
        exact (List.nodup_append.mp h2).2.2 x h x List.mem_cons_self rfl
      have hlen : ∀ m, m ≤ 5 + done.length + 1 → m ≤ 5 + (done ++ [x]).length := fun m h => by rw [List.length_append, List.length_singleton]; omega
      have keep : ∀ (H' : Hp) (y z : Option V), But1 p H H' → SrcAt H' p → Ls K H' t dLit fs → Ls K H' D (fun x : Str => PyData.str x) (c.map fun l : Lit => l.1) → ∃ (fs' : Cl) (y' z' : Option V), [some (V.ref p), some (.ref a1), some (.ref a2), some (.ref t), some (.ref D), y, z] = [some (V.ref p), some (.ref a1), some (.ref a2), some (.ref t), some (.ref D), y', z'] ∧ But1 p H H' ∧ SrcAt H' p ∧ Ls K H' t dLit fs' ∧ Ls K H' D (fun x : Str => PyData.str x) (c.map fun l : Lit => l.1) ∧ (fs'.map (·.1)).Nodup ∧ (∀ l ∈ fs', l.1 ∈ ns) ∧ (∀ l ∈ fs', l.1 ∈ c.map (fun l : Lit => l.1) ∨ l.1 ∈ done ++ [x]) ∧ fs'.length ≤ 5 + (done ++ [x]).length :=
        fun H' y z b1 b2 b3 b4 => ⟨fs, y, z, rfl, b1, b2, b3, b4, hnd, hsub, fun l hl => (hor l hl).imp id (List.mem_append_left _), hlen _ (by omega)⟩
      refine ⟨_, rfl, _, rfl, x, c.map fun l : Lit => l.1, .str _, .inr hLD.dp, fun hin => ⟨_, rfl, iteF (iteF (keep H2 _ _ hB hs hL hLD))⟩, fun hin => ⟨_, rfl, iteT ?_⟩⟩
      have mv : ∀ H', But1 p H2 H' → Ls K H' t dLit fs ∧ Ls K H' D (fun x : Str => PyData.str x) (c.map fun l : Lit => l.1) := fun H' b => by
        obtain ⟨w1, e1, d1⟩ := hL
        obtain ⟨w2, e2, d2⟩ := hLD
        exact ⟨⟨w1, b _ _ ntp e1, encLit.tgs (tg_but1 b hs) d1⟩, ⟨w2, b _ _ hDp e2, encStr.tgs (tg_but1 b hs) d2⟩⟩
      refine ⟨_, rfl, p, 2, rfl, hs, by decide, by decide, fun r H3 _ _ hB3 hs3 => ⟨_, _, rfl, rfl, fun _ => ⟨_, rfl, iteT ?_⟩, fun _ => ⟨_, rfl, iteF (keep H3 _ _ (hB.trans hB3) hs3 (mv H3 hB3).1 (mv H3 hB3).2)⟩⟩⟩
      obtain ⟨ws, hte, hwd⟩ := (mv H3 hB3).1
      refine ⟨_, rfl, tyL hte, _, rfl, _, rfl, p, 2, rfl, hs3, by decide, by decide, fun r2 H4 b0 b1 hB4 hs4 => ⟨(by show 2 ≤ sizeLine; decide), fun u hu => ?_⟩⟩
      obtain ⟨b, rfl⟩ := bit_of b0 b1
      have S5 := same_new (o := .tup [.str x, .int (b2 b)]) hu
      have B5 := ((hB3.trans hB4).trans (.of S5))
      obtain ⟨⟨ws5, hte5, hwd5⟩, ⟨w2, e2, d2⟩⟩ := mv _ B5
      have lw := allf_len hwd5
      have hfx : x ∉ fs.map (·.1) := fun h => by
        obtain ⟨l, hl, e⟩ := List.mem_map.mp h
        rcases hor l hl with z | z
        · rw [e] at z; exact hin z
        · rw [e] at z; exact hxd z
      have hsl : (1000 : Nat) < sizeLine := by decide
      refine ⟨t, ws5, _, rfl, rfl, hte5, by omega, fs ++ [(x, b)], _, _, rfl, (hB.trans B5).mut ht, (hs4.same S5).mut ntp, Ls.push encLit hte5 hwd5 (mk_lit (.inl (.inl upd_same))), ⟨w2, by rw [upd_ne hDt]; exact e2, encStr.tgs (tg_lst hte5) d2⟩, by rw [List.map_append]; exact nd_snoc hnd hfx, fun m hm => ?_, fun m hm => ?_, hlen _ (by rw [List.length_append, List.length_singleton]; omega)⟩
      · rcases List.mem_append.mp hm with z | z
        · exact hsub m z
        · rw [List.mem_singleton.mp z]; exact hxn
      · rcases List.mem_append.mp hm with z | z
        · exact (hor m z).imp id (List.mem_append_left _)
        · rw [List.mem_singleton.mp z]; exact .inr (List.mem_append_right _ (List.mem_singleton.mpr rfl))
    · obtain ⟨fs, y, z, rfl, hB, hs, ⟨ws, hte, hwd⟩, hLD, hnd, hsub, hor, hl⟩ := hP
      refine ⟨_, rfl, t, ws, fs, rfl, .inl (.inl hte), hwd, fun _ => ⟨alikes_lit fs, sortables_lit fs⟩, fun r us p' hperm hpw hp' hda => ⟨_, _, rfl, .lst (.inl (.inl upd_same)) (encLit.tgs (tg_new hp') hda), encLit.pures _, fun v H4 hS4 hd4 => ?_⟩⟩
      have S5 := (same_new (o := .lst us) hp').trans hS4
      exact q r (vc_sorted hperm (pw_lit hpw) hnd hsub) v H4 (hB.trans (.of S5)) (hs.same S5) hd4
/-! ### _law_turned -/
theorem vc_turn {ns : List Str} {c : Cl} {k : Nat} (hc : Mth.VC ns c) (hk : k < c.length) : Mth.VC ns (c.take k ++ [neg c[k]] ++ c.drop (k + 1)) := by
  have e : (c.take k ++ [neg c[k]] ++ c.drop (k + 1)).map (fun l : Lit => l.1) = c.map fun l : Lit => l.1 := by
    have h := at_split (xs := c.map fun l : Lit => l.1) (i := k) (x := c[k].1) (by rw [List.getElem?_map, List.getElem?_eq_getElem hk]; rfl)
    rw [h]
    simp [neg]
  have h := (List.pairwise_map (f := fun l : Lit => l.1) (R := fun x y => Mth.SOrd.lt x y = true)).mpr hc.asc
  rw [← e] at h
  refine ⟨List.pairwise_map.mp h, fun l hl => ?_⟩
  have : l.1 ∈ c.map fun l : Lit => l.1 := by rw [← e]; exact List.mem_map.mpr ⟨l, hl, rfl⟩
  obtain ⟨m, hm, e2⟩ := List.mem_map.mp this
  rw [← e2]; exact hc.sub m hm
def spTurn (K : PySem.W.Frag) : Sp := fun vs H Q _ => ∃ (p : Addr) (v : V) (ns : List Str) (c : Cl), vs = [.ref p, v] ∧ SrcAt H p ∧ Dp K H v (dCl c) ∧ ns.length ≤ 5 ∧ Mth.VC ns c ∧ ∀ r, Mth.VC ns r → ∀ v' H', But1 p H H' → SrcAt H' p → Dp K H' v' (dCl r) → Q v' H'
theorem ok_turn (T : At K mg "_law_turned" sTurn) (ml : mg "len" = none) (G : Def P w K mg base 1 "_law_draw" ["_law_source_here", "_law_limit"] (spDraw K)) : Def P w K mg base 2 "_law_turned" ["_law_source_here", "_law_clause_here"] (spTurn K) := by
  refine T.def scTurn (fun vs H Q E h => ?_) (fun _ _ _ _ _ _ us hl => match us, hl with | [_, _], _ => rfl) (fun f cdv A outer s H vs Q E hr h => ?_)
  · obtain ⟨p, v, ns, c, rfl, _⟩ := h; rfl
  obtain ⟨p, v, ns, c, rfl, hp, hv, nl, hc, q⟩ := h
  refine ⟨_, pss_cons (ps_if (tC_ o_eqI (len_ ml (pv 1)) pe_int) (pss_one (ps_ret (pv 1))) pss_nil) (pss_cons (st_ 2 scTurn.nd (call_ G hr (pa_cons (pv 0) (pa_cons (len_ ml (pv 1)) pa_nil))))
    (pss_one (ps_ret (pe_op op_catD (pe_op op_catD (pe_slice sl_cutD (pv 1) po_none (po_some (pv 2))) (pe_tup (pa_cons (pe_tup (pa_cons (ixT (ixT (pv 1) (pv 2)) pe_int) (pa_cons (pe_op op_sub pe_int (ixT (ixT (pv 1) (pv 2)) pe_int)) pa_nil))) pa_nil))) (pe_slice sl_cutD (pv 1) (po_some (pe_op op_add (pv 2) pe_int)) po_none))))), ?_⟩
  have lc := Mth.vc_len hc
  obtain ⟨a, xs, rfl, hs, ha⟩ := dp_tup hv
  have lx := allf_len ha
  refine ⟨_, rfl, a, xs, rfl, .inr hs, _, _, rfl, rfl, fun h0 => ⟨_, rfl, iteT ⟨_, rfl, q c hc _ _ (But1.refl p H) hp hv⟩⟩, fun h0 => ⟨_, rfl, iteF ?_⟩⟩
  refine ⟨_, rfl, _, rfl, a, xs, rfl, .inr hs, p, (xs.length : Nat), rfl, hp, by omega, by omega, fun r H1 r0 r1 hB1 hs1 => ?_⟩
  obtain ⟨k, rfl⟩ := Int.eq_ofNat_of_zero_le r0
  have hk : k < c.length := by omega
  have T1 := tg_but1 hB1 hp
  have hv1 := encCl.tg T1 hv
  have hlen : (c.map dLit).length = c.length := List.length_map _
  obtain ⟨u, hu, hdu⟩ := all_get' ha (List.getElem?_eq_getElem hk)
  obtain ⟨b, rfl, hb⟩ := dp_lit hdu
  have pt := encLit.pures c
  refine ⟨_, rfl, _, rfl, _, rfl, c.map dLit, k, hv1, pt, by omega, .inl ⟨rfl, rfl, fun v1 H2 hS2 hd1 => ?_⟩⟩
  have hs2 := sqt_tg (T1.trans (.of hS2)) hs
  have hb2 := sqt_tg (T1.trans (.of hS2)) hb
  refine ⟨_, rfl, _, rfl, a, xs, _, _, rfl, rfl, hs2, atI_nat hu, b, _, _, _, rfl, rfl, hb2, at0, _, rfl, _, rfl, a, xs, _, _, rfl, rfl, hs2, atI_nat hu, b, _, _, _, rfl, rfl, hb2, at1, _, _, rfl, rfl, (by show 2 ≤ sizeLine; decide), fun t ht => ⟨(by show 1 ≤ sizeLine; decide), fun t2 ht2 => ?_⟩⟩
  have S4 := (same_new (o := .tup [.str c[k].1, .int (1 - b2 c[k].2)]) ht).trans (same_new (o := .tup [.ref t]) ht2)
  have hmid : Dp K (upd (upd H2 t (.tup [.str c[k].1, .int (1 - b2 c[k].2)])) t2 (.tup [.ref t])) (.ref t2) (.tuple [dLit (neg c[k])]) := by
    refine .tup (.inl (.inl upd_same)) (.cons (encLit.tg (tg_new ht2) (mk_lit (.inl (.inl ?_)))) .nil)
    show upd H2 t (.tup [.str c[k].1, .int (1 - b2 c[k].2)]) t = some (.tup [.str c[k].1, .int (b2 (!c[k].2))])
    rw [one_sub]; exact upd_same
  generalize upd (upd H2 t (.tup [.str c[k].1, .int (1 - b2 c[k].2)])) t2 (.tup [.ref t]) = H4 at S4 hmid
  have e1 : (c.map dLit).take k = (c.take k).map dLit := List.map_take.symm
  have e2 : (c.map dLit).drop (k + 1) = (c.drop (k + 1)).map dLit := List.map_drop.symm
  rw [e1] at hd1
  refine ⟨(c.take k).map dLit, [dLit (neg c[k])], encCl.tg (f := dCl) (x := c.take k) (.of S4) hd1, hmid, encLit.pures _, encLit.pures [neg c[k]], by rw [List.length_map, List.length_take]; show _ + 1 ≤ _; omega, fun v2 H5 hS5 hd2 => ?_⟩
  have hS25 := (hS2.trans S4).trans hS5
  refine ⟨_, rfl, _, rfl, _, _, rfl, rfl, _, rfl, c.map dLit, k + 1, encCl.tg (.of hS25) hv1, pt, by omega, .inr ⟨by push_cast; rfl, rfl, fun v3 H6 hS6 hd3 => ?_⟩⟩
  rw [e2] at hd3
  have e3 : (c.take k).map dLit ++ [dLit (neg c[k])] = (c.take k ++ [neg c[k]]).map dLit := by rw [List.map_append]; rfl
  rw [e3] at hd2
  refine ⟨(c.take k ++ [neg c[k]]).map dLit, (c.drop (k + 1)).map dLit, encCl.tg (f := dCl) (x := c.take k ++ [neg c[k]]) (.of hS6) hd2, hd3, encLit.pures _, encLit.pures _, by rw [List.length_map, List.length_map, List.length_append, List.length_take, List.length_drop, List.length_singleton]; omega, fun v4 H7 hS7 hd4 => ?_⟩
  rw [← List.map_append] at hd4
  have S17 := (hS25.trans hS6).trans hS7
  exact q _ (vc_turn hc hk) v4 H7 (hB1.trans (.of S17)) (hs1.same S17) hd4
end
end Sh
end
section
namespace Sh
open PySem PySem.Spec L2
abbrev sSecond : Stmt := top 44
theorem scSecond : FnScope ["_law_source_here", "_law_names", "_law_clauses", "_law_at", "_law_found", "_law_ways", "_law_k", "_law_way", "_law_gap", "_law_other"] ["_law_source_here", "_law_names", "_law_clauses"] (defScope sSecond) := ⟨rfl, rfl, rfl, by decide +kernel, rfl, by decide +kernel, by decide +kernel⟩
section
variable {P : Program} {w : World} {K : PySem.W.Frag} {mg : Str → Option Value} {base : Heap} {C : Addr}
theorem map_erase {α β : Type} (f : α → β) : ∀ (l : List α) (n : Nat), (l.map f).eraseIdx n = (l.eraseIdx n).map f
  | [], _ => rfl
  | _ :: _, 0 => rfl
  | x :: l, n + 1 => by rw [List.map_cons, List.eraseIdx_cons_succ, List.eraseIdx_cons_succ, List.map_cons, map_erase f l n]
theorem ixN_at {n j : Nat} (h : j < n) : ixN n (j : Int) = some j := by
  unfold ixN
  rw [if_pos (by omega), if_pos (by omega)]; simp
def rInsert : V → List V → Hp → VK → Prop := fun x vs H Q => ∃ (l : Addr) (xs : List V) (i : Nat) (y : V), x = .ref l ∧ vs = [.int (i : Nat), y] ∧ H l = some (.lst xs) ∧ xs.length ≤ 1000 ∧ i ≤ 1000 ∧ Q .non (upd H l (.lst (xs.take i ++ [y] ++ xs.drop i)))
theorem mt_ins {X : Cx} : MtR X "list.insert" rInsert := fun pins s σ H x vs v us Q I rx rv ⟨l, xs, i, y, e1, e2, hl, hz, hi, q⟩ =>
  mt_insert pins s σ H x vs v us Q I rx rv ⟨l, xs, (i : Nat), y, e1, e2, hl, Nat.lt_of_le_of_lt hz (by decide), by omega, by omega, by rw [Int.toNat_natCast]; exact q⟩
theorem mt_pop1 {X : Cx} : MtR X "list.pop" (fun x vs H Q => ∃ (l : Addr) (xs : List V) (i : Nat) (y : V), x = .ref l ∧ vs = [.int (i : Nat)] ∧ H l = some (.lst xs) ∧ xs.length ≤ 1000 ∧ xs[i]? = some y ∧ Q y (upd H l (.lst (xs.eraseIdx i)))) := fun pins s σ H x vs v us Q I rx rv ⟨l, xs, i, y, e1, e2, hl, hz, hi, q⟩ => by
  have hk := (List.getElem?_eq_some_iff.mp hi).1
  exact mt_popAt pins s σ H x vs v us Q I rx rv ⟨l, xs, (i : Nat), i, y, e1, e2, hl, by omega, by omega, seqIndex_of (by omega) (by omega), hi, q⟩
def spSecond (K : PySem.W.Frag) : Sp := fun vs H Q _ => ∃ (p : Addr) (v1 v2 : V) (ns : List Str) (cs : List Cl), vs = [.ref p, v1, v2] ∧ SrcAt H p ∧ Dp K H v1 (dNm ns) ∧ Dp K H v2 (dCls cs) ∧ Mth.Asc ns ∧ ns.length ≤ 5 ∧ (∀ c ∈ cs, Mth.VC ns c) ∧ cs.length ≤ 5 ∧
  ∀ L, (∀ c ∈ L, Mth.VC ns c) → L.length ≤ 8 → ∀ v' H', But1 p H H' → SrcAt H' p → Dp K H' v' (dCls L) → Q v' H'
theorem ok_second (T : At K mg "_law_second" sSecond) (ml : mg "len" = none) (mr : mg "range" = none) (mt : mg "tuple" = none) (mL : mg "list" = none) (G : Def P w K mg base 1 "_law_draw" ["_law_source_here", "_law_limit"] (spDraw K)) (G1 : Def P w K mg base 2 "_law_clause" ["_law_source_here", "_law_names"] (spClause K))
    (G2 : Def P w K mg base 2 "_law_resolvent" ["_law_names", "_law_first", "_law_second_here"] (spLRes K)) (G3 : Def P w K mg base 2 "_law_widened" ["_law_source_here", "_law_names", "_law_clause_here"] (spWide K)) (G4 : Def P w K mg base 2 "_law_turned" ["_law_source_here", "_law_clause_here"] (spTurn K)) :
    Def P w K mg base 3 "_law_second" ["_law_source_here", "_law_names", "_law_clauses"] (spSecond K) := by
  refine T.def scSecond (fun vs H Q E h => ?_) (fun _ _ _ _ _ _ us hl => match us, hl with | [_, _, _], _ => rfl) (fun f cdv A outer s H vs Q E hr h => ?_)
  · obtain ⟨p, v1, v2, ns, cs, rfl, _⟩ := h; rfl
  obtain ⟨p, v1, v2, ns, cs, rfl, hp, h1, h2, hA, nl, hv, hcl, q⟩ := h
  refine ⟨_, (pss_cons (st_ 3 scSecond.nd (call_ G hr (pa_cons (pv 0) (pa_cons (pe_op op_add (len_ ml (pv 2)) pe_int) pa_nil)))) (pss_cons (st_ 4 scSecond.nd (list_ mL (pe_op op_catD (pe_slice sl_cutD (pv 2) (po_some (pv 3)) po_none) (pe_slice sl_cutD (pv 2) po_none (po_some (pv 3)))))) (pss_cons (st_ 5 scSecond.nd (pe_ix ix_list (pe_lst (pa_cons pe_int (pa_cons pe_int pa_nil))) (call_ G hr (pa_cons (pv 0) (pa_cons pe_int pa_nil))) (fun _ _ => rfl))) (pss_cons (for_ (pi_range1 (by rfl) mr (pa_cons pe_int pa_nil)) (gn 6 scSecond.nd) (pss_cons (st_ 7 scSecond.nd (call_ G hr (pa_cons (pv 0) (pa_cons (pv 5) pa_nil)))) (pss_cons (st_ 8 scSecond.nd (call_ G hr (pa_cons (pv 0) (pa_cons (pe_op op_add (len_ ml (pv 4)) pe_int) pa_nil)))) (pss_one (ps_if (tC_ o_eqI (pv 7) pe_int) (pss_one (ps_expr (pe_bm PySem.F.plainAttrs_list PySem.F.slot_list_insert PySem.F.type_list_insert mt_ins (pv 4) (pa_cons (pv 8) (pa_cons (call_ G1 hr (pa_cons (pv 0) (pa_cons (pv 1) pa_nil))) pa_nil))))) (pss_one (ps_if (PW.pt (pw_and (tC_ o_gt (len_ ml (pv 4)) pe_int) (pw_and1 (tC_ o_gt (pv 7) pe_int)))) (pss_cons (st_ 3 scSecond.nd (call_ G hr (pa_cons (pv 0) (pa_cons (len_ ml (pv 4)) pa_nil)))) (pss_cons (st_ 9 scSecond.nd (call_ G hr (pa_cons (pv 0) (pa_cons (len_ ml (pv 4)) pa_nil)))) (pss_one (ps_if (tC_ o_eqI (pv 7) pe_int) (pss_one (ps_expr (pe_bm PySem.F.plainAttrs_list PySem.F.slot_list_insert PySem.F.type_list_insert mt_ins (pv 4) (pa_cons (pv 8) (pa_cons (call_ G2 hr (pa_cons (pv 1) (pa_cons (pe_ix ix_list (pv 4) (pv 3) (fun _ _ => rfl)) (pa_cons (pe_ix ix_list (pv 4) (pv 9) (fun _ _ => rfl)) pa_nil)))) pa_nil))))) (pss_one (ps_if (tC_ o_eqI (pv 7) pe_int) (pss_one (ps_expr (pe_bm PySem.F.plainAttrs_list PySem.F.slot_list_insert PySem.F.type_list_insert mt_ins (pv 4) (pa_cons (pv 8) (pa_cons (call_ G3 hr (pa_cons (pv 0) (pa_cons (pv 1) (pa_cons (pe_ix ix_list (pv 4) (pv 3) (fun _ _ => rfl)) pa_nil)))) pa_nil))))) (pss_one (ps_if (tC_ o_eqI (pv 7) pe_int) (pss_one (ps_expr (pe_bm PySem.F.plainAttrs_list PySem.F.slot_list_insert PySem.F.type_list_insert mt_ins (pv 4) (pa_cons (pv 8) (pa_cons (pe_ix ix_list (pv 4) (pv 3) (fun _ _ => rfl)) pa_nil))))) (pss_one (ps_if (tC_ o_eqI (pv 7) pe_int) (pss_one (ps_expr (pe_bm PySem.F.plainAttrs_list PySem.F.slot_list_pop PySem.F.type_list_pop mt_pop1 (pv 4) (pa_cons (pv 3) pa_nil)))) (pss_one (ps_asg (call_ G4 hr (pa_cons (pv 0) (pa_cons (pe_ix ix_list (pv 4) (pv 3) (fun _ _ => rfl)) pa_nil))) (pg_sub (pv 4) (pv 3) set_list))))))))))))) pss_nil))))))) (pss_one (ps_ret (tup_ (by rfl) mt (pv 4)))))))), ?_⟩
  obtain ⟨a, xs, rfl, hs, ha⟩ := dp_tup h2
  have lx := allf_len ha
  have hlen : (cs.map dCl).length = cs.length := List.length_map _
  refine ⟨_, rfl, _, rfl, a, xs, rfl, .inr hs, _, _, rfl, rfl, p, _, rfl, hp, by omega, by omega, fun r H1 r0 r1 hB1 hs1 => ?_⟩
  obtain ⟨k, rfl⟩ := Int.eq_ofNat_of_zero_le r0
  have hk : k ≤ cs.length := by omega
  have T1 := tg_but1 hB1 hp
  have hv1 := encCls.tg T1 h2
  have pt := encCl.pures cs
  have e1 : (cs.map dCl).take k = (cs.take k).map dCl := List.map_take.symm
  have e2 : (cs.map dCl).drop k = (cs.drop k).map dCl := List.map_drop.symm
  refine ⟨_, rfl, _, rfl, _, rfl, cs.map dCl, k, hv1, pt, by omega, .inr ⟨rfl, rfl, fun w1 H2 hS2 hd1 => ?_⟩⟩
  rw [e2] at hd1
  refine ⟨_, rfl, _, rfl, _, rfl, cs.map dCl, k, encCls.tg (.of hS2) hv1, pt, by omega, .inl ⟨rfl, rfl, fun w2 H3 hS3 hd2 => ?_⟩⟩
  rw [e1] at hd2
  refine ⟨(cs.drop k).map dCl, (cs.take k).map dCl, encCls.tg (f := dCls) (x := cs.drop k) (.of hS3) hd1, hd2, encCl.pures _, encCl.pures _, by rw [List.length_map, List.length_map, List.length_take, List.length_drop]; omega, fun w3 H4 hS4 hd3 => ?_⟩
  rw [← List.map_append] at hd3
  obtain ⟨a4, xs4, rfl, hs4, ha4⟩ := dp_tup hd3
  refine ⟨a4, xs4, rfl, .inr hs4, fun f hf => ?_⟩
  have S5 := ((hS2.trans hS3).trans hS4).trans (same_new (o := .lst xs4) hf)
  have hL0 : Ls K (upd H4 f (.lst xs4)) f dCl (cs.drop k ++ cs.take k) := ⟨xs4, upd_same, encCl.tgs (tg_new hf) ha4⟩
  have hs5 := hs1.same S5
  have B5 := hB1.trans (But1.of (p := p) S5)
  have nfp : f ≠ p := (hs1.same ((hS2.trans hS3).trans hS4)).ne hf
  have hfH : H f = none := by
    cases e : H f with
    | none => rfl
    | some o => have := (hB1.trans (But1.of (p := p) ((hS2.trans hS3).trans hS4))) f o nfp e; rw [this] at hf; cases hf
  have hV0 : ∀ c ∈ cs.drop k ++ cs.take k, Mth.VC ns c := fun c hc => by
    rcases List.mem_append.mp hc with z | z
    · exact hv c (List.mem_of_mem_drop z)
    · exact hv c (List.mem_of_mem_take z)
  have hl0 : (cs.drop k ++ cs.take k).length ≤ 5 := by rw [List.length_append, List.length_drop, List.length_take]; omega
  generalize upd H4 f (.lst xs4) = H5 at hL0 hs5 B5 S5
  generalize cs.drop k ++ cs.take k = L0 at hL0 hV0 hl0
  -- [4, 7][..]
  refine ⟨(by show 2 ≤ sizeLine; decide), fun t ht => ?_⟩
  have S6 := same_new (o := .lst [.int 4, .int 7]) ht
  have ht6 : (upd H5 t (.lst [V.int 4, .int 7])) t = some (.lst [.int 4, .int 7]) := upd_same
  have ntp : t ≠ p := hs5.ne ht
  have hs6 := hs5.same S6
  have hL6 := hL0.same encCl S6
  have B6 := B5.trans (But1.of (p := p) S6)
  generalize upd H5 t (.lst [V.int 4, .int 7]) = H6 at ht6 hs6 hL6 B6
  refine ⟨_, rfl, p, 2, rfl, hs6, by decide, by decide, fun r H7 c0 c1 hB7 hs7 => ?_⟩
  have mv : ∀ {H' H'' : Hp} {L : List Cl}, Ls K H' f dCl L → But1 p H' H'' → SrcAt H' p → Ls K H'' f dCl L := fun {H' H'' L} ⟨ws, e, d⟩ b s => ⟨ws, b _ _ nfp e, encCl.tgs (tg_but1 b s) d⟩
  have hL7 := mv hL6 hB7 hs6
  have B7 := B6.trans hB7
  obtain ⟨ways, hway, hw0, hw1⟩ : ∃ m : Int, atI [V.int 4, V.int 7] r = some (.int m) ∧ 0 < m ∧ m ≤ 7 := by
    obtain ⟨b, rfl⟩ := bit_of c0 c1
    cases b with
    | false => exact ⟨4, at0, by decide, by decide⟩
    | true => exact ⟨7, at1, by decide, by decide⟩
  refine ⟨t, _, _, _, rfl, rfl, .inl (.inl (hB7 _ _ ntp ht6)), hway, ?_⟩
  refine ⟨3, rfl, by decide, by decide, for_range (lo := 0) (n := 3) (fun i σ H' => ∃ (L : List Cl) (y3 y6 y7 y8 y9 : Option V), σ = [some (.ref p), some v1, some (.ref a), y3, some (.ref f), some (.int ways), y6, y7, y8, y9] ∧ But1 p H H' ∧ SrcAt H' p ∧ Ls K H' f dCl L ∧ (∀ c ∈ L, Mth.VC ns c) ∧ L.length ≤ 5 + i)
    ⟨L0, _, none, none, none, none, rfl, B7, hs7, hL7, hV0, by omega⟩ (fun i σ H8 hi hP => ?_) (fun σ H8 hP => ?_)⟩
  · obtain ⟨L, y3, y6, y7, y8, y9, rfl, B, hs8, hL, hV, hl⟩ := hP
    have nx : ∀ (L' : List Cl) (H' : Hp) (y3 y6 y7 y8 y9 : Option V), But1 p H H' → SrcAt H' p → Ls K H' f dCl L' → (∀ c ∈ L', Mth.VC ns c) → L'.length ≤ L.length + 1 → ∃ (L : List Cl) (z3 z6 z7 z8 z9 : Option V), [some (V.ref p), some v1, some (.ref a), y3, some (.ref f), some (.int ways), y6, y7, y8, y9] = [some (V.ref p), some v1, some (.ref a), z3, some (.ref f), some (.int ways), z6, z7, z8, z9] ∧ But1 p H H' ∧ SrcAt H' p ∧ Ls K H' f dCl L ∧ (∀ c ∈ L, Mth.VC ns c) ∧ L.length ≤ 5 + (i + 1) :=
      fun L' H' y3 y6 y7 y8 y9 b s l v z => ⟨L', y3, y6, y7, y8, y9, rfl, b, s, l, v, by omega⟩
    have nmv : ∀ {H'}, But1 p H H' → Dp K H' v1 (dNm ns) := fun b => encNm.tg (tg_but1 b hp) h1
    refine ⟨_, rfl, _, rfl, p, ways, rfl, hs8, hw0, by omega, fun way H9 _ _ hB9 hs9 => ?_⟩
    have hL9 := mv hL hB9 hs8
    have B9 := B.trans hB9
    obtain ⟨ws, he9, hd9⟩ := hL9
    have lw := allf_len hd9
    refine ⟨_, rfl, _, rfl, f, ws, rfl, .inl (.inl (.inl he9)), _, _, rfl, rfl, p, _, rfl, hs9, by omega, by omega, fun g H10 g0 g1 hB10 hs10 => ?_⟩
    obtain ⟨gap, rfl⟩ := Int.eq_ofNat_of_zero_le g0
    have hL10 := mv ⟨ws, he9, hd9⟩ hB10 hs9
    have B10 := B9.trans hB10
    have hgap : gap ≤ L.length := by omega
    -- what an insert leaves
    have insd : ∀ (c : Cl) (v : V) (H' : Hp), Mth.VC ns c → But1 p H H' → SrcAt H' p → Ls K H' f dCl L → Dp K H' v (dCl c) → ∃ xs, H' f = some (.lst xs) ∧ xs.length ≤ 1000 ∧ But1 p H (upd H' f (.lst (xs.take gap ++ [v] ++ xs.drop gap))) ∧ SrcAt (upd H' f (.lst (xs.take gap ++ [v] ++ xs.drop gap))) p ∧ Ls K (upd H' f (.lst (xs.take gap ++ [v] ++ xs.drop gap))) f dCl (L.take gap ++ [c] ++ L.drop gap) := by
      intro c v H' hc b s ⟨us, e, d⟩ hd
      have lu := allf_len d
      refine ⟨us, e, by omega, b.mut hfH, s.mut nfp, _, upd_same, ?_⟩
      rw [List.map_append, List.map_append, List.map_take, List.map_drop]
      have T := tg_lst (o := .lst (us.take gap ++ [v] ++ us.drop gap)) e
      have d' := encCl.tgs T d
      exact all_app (all_app (all_take gap d') (.cons (encCl.tg T hd) .nil)) (all_drop gap d')
    have insV : ∀ c, Mth.VC ns c → (∀ x ∈ L.take gap ++ [c] ++ L.drop gap, Mth.VC ns x) ∧ (L.take gap ++ [c] ++ L.drop gap).length ≤ L.length + 1 := fun c hc => ⟨fun x hx => by
      rcases List.mem_append.mp hx with z | z
      · rcases List.mem_append.mp z with z | z
        · exact hV x (List.mem_of_mem_take z)
        · rw [List.mem_singleton.mp z]; exact hc
      · exact hV x (List.mem_of_mem_drop z), by simp; omega⟩
    refine ⟨_, rfl, _, _, rfl, rfl, fun h6 => ⟨_, rfl, iteT ?_⟩, fun h6 => ⟨_, rfl, iteF ?_⟩⟩
    · obtain ⟨us, eu, du⟩ := id hL10
      refine ⟨_, rfl, tyL eu, _, rfl, _, rfl, _, rfl, p, v1, ns, rfl, hs10, nmv B10, hA, nl, fun c hc v H11 hB11 hs11 hd11 => ?_⟩
      obtain ⟨us', e', z', b', s', l'⟩ := insd c v H11 hc (B10.trans hB11) hs11 (mv hL10 hB11 hs10) hd11
      exact ⟨f, us', gap, v, rfl, rfl, e', z', by omega, nx _ _ _ _ _ _ _ b' s' l' (insV c hc).1 (insV c hc).2⟩
    · obtain ⟨us, eu, du⟩ := id hL10
      have lu := allf_len du
      refine ⟨_, rfl, f, us, rfl, .inl (.inl (.inl eu)), _, _, rfl, rfl, fun hpos => ⟨_, rfl, iteT ?_⟩, fun _ => ⟨_, rfl, iteF (iteF (nx L H10 _ _ _ _ _ B10 hs10 hL10 hV (by omega)))⟩⟩
      refine ⟨_, rfl, _, _, rfl, rfl, fun hw => ⟨_, rfl, iteT ?_⟩, fun _ => ⟨_, rfl, iteF (nx L H10 _ _ _ _ _ B10 hs10 hL10 hV (by omega))⟩⟩
      refine ⟨_, rfl, _, rfl, f, us, rfl, .inl (.inl (.inl eu)), p, _, rfl, hs10, hpos, by omega, fun at' H11 t0 t1 hB11 hs11 => ?_⟩
      obtain ⟨ia, rfl⟩ := Int.eq_ofNat_of_zero_le t0
      have hL11 := mv hL10 hB11 hs10
      have B11 := B10.trans hB11
      obtain ⟨us1, eu1, du1⟩ := id hL11
      have lu1 := allf_len du1
      refine ⟨_, rfl, _, rfl, f, us1, rfl, .inl (.inl (.inl eu1)), p, _, rfl, hs11, by omega, by omega, fun ot H12 o0 o1 hB12 hs12 => ?_⟩
      obtain ⟨io, rfl⟩ := Int.eq_ofNat_of_zero_le o0
      have hL12 := mv hL11 hB12 hs11
      have B12 := B11.trans hB12
      obtain ⟨us2, eu2, du2⟩ := id hL12
      have lu2 := allf_len du2
      have hia : ia < L.length := by omega
      have hio : io < L.length := by omega
      obtain ⟨ua, hua, hda⟩ := all_get' du2 (List.getElem?_eq_getElem hia)
      obtain ⟨uo, huo, hdo⟩ := all_get' du2 (List.getElem?_eq_getElem hio)
      have va := hV _ (List.getElem_mem hia)
      have vo := hV _ (List.getElem_mem hio)
      refine ⟨_, rfl, _, _, rfl, rfl, fun _ => ⟨_, rfl, iteT ?_⟩, fun _ => ⟨_, rfl, iteF ⟨_, rfl, _, _, rfl, rfl, fun _ => ⟨_, rfl, iteT ?_⟩, fun _ => ⟨_, rfl, iteF ⟨_, rfl, _, _, rfl, rfl, fun _ => ⟨_, rfl, iteT ?_⟩, fun _ => ⟨_, rfl, iteF ⟨_, rfl, _, _, rfl, rfl, fun _ => ⟨_, rfl, iteT ?_⟩, fun _ => ⟨_, rfl, iteF ?_⟩⟩⟩⟩⟩⟩⟩⟩
      · refine ⟨_, rfl, tyL eu2, _, rfl, _, rfl, _, rfl, _, rfl, f, us2, _, _, rfl, rfl, .inl (.inl eu2), atI_nat hua, _, rfl, _, rfl, f, us2, _, _, rfl, rfl, .inl (.inl eu2), atI_nat huo, v1, ua, uo, _, _, ns, rfl, nmv B12, hda, hdo, va, vo, by omega, fun c hc v H13 hS13 hd13 => ?_⟩
        obtain ⟨us', e', z', b', s', l'⟩ := insd c v H13 hc (B12.trans (.of hS13)) (hs12.same hS13) (hL12.same encCl hS13) hd13
        exact ⟨f, us', gap, v, rfl, rfl, e', z', by omega, nx _ _ _ _ _ _ _ b' s' l' (insV c hc).1 (insV c hc).2⟩
      · refine ⟨_, rfl, tyL eu2, _, rfl, _, rfl, _, rfl, _, rfl, _, rfl, f, us2, _, _, rfl, rfl, .inl (.inl eu2), atI_nat hua, p, v1, ua, ns, _, rfl, hs12, nmv B12, hda, hA, nl, va, fun c hc v H13 hB13 hs13 hd13 => ?_⟩
        obtain ⟨us', e', z', b', s', l'⟩ := insd c v H13 hc (B12.trans hB13) hs13 (mv hL12 hB13 hs12) hd13
        exact ⟨f, us', gap, v, rfl, rfl, e', z', by omega, nx _ _ _ _ _ _ _ b' s' l' (insV c hc).1 (insV c hc).2⟩
      · obtain ⟨us', e', z', b', s', l'⟩ := insd _ ua H12 va B12 hs12 hL12 hda
        exact ⟨_, rfl, tyL eu2, _, rfl, _, rfl, _, rfl, f, us2, _, _, rfl, rfl, .inl (.inl eu2), atI_nat hua, f, us', gap, ua, rfl, rfl, e', z', by omega, nx _ _ _ _ _ _ _ b' s' l' (insV _ va).1 (insV _ va).2⟩
      · refine ⟨_, rfl, tyL eu2, _, rfl, f, us2, ia, ua, rfl, rfl, eu2, by omega, hua, nx (L.eraseIdx ia) _ _ _ _ _ _ (B12.mut hfH) (hs12.mut nfp) ⟨_, upd_same, ?_⟩ (fun c hc => hV c (List.mem_of_mem_eraseIdx hc)) (by rw [List.length_eraseIdx]; split <;> omega)⟩
        have := all_erase ia (encCl.tgs (tg_lst (o := .lst (us2.eraseIdx ia)) eu2) du2)
        rw [map_erase] at this
        exact this
      · refine ⟨_, rfl, _, rfl, _, rfl, f, us2, _, _, rfl, rfl, .inl (.inl eu2), atI_nat hua, p, ua, ns, _, rfl, hs12, hda, nl, va, fun c hc v H13 hB13 hs13 hd13 => ?_⟩
        obtain ⟨us3, eu3, du3⟩ := mv hL12 hB13 hs12
        have lu3 := allf_len du3
        refine ⟨_, rfl, _, rfl, f, us3, _, ia, rfl, rfl, eu3, ixN_at (by omega), nx (L.set ia c) _ _ _ _ _ _ ((B12.trans hB13).mut hfH) (hs13.mut nfp) ⟨_, upd_same, ?_⟩ (fun x hx => ?_) (by rw [List.length_set]; omega)⟩
        · have := all_set ia (encCl.tgs (tg_lst (o := .lst (us3.set ia v)) eu3) du3) (encCl.tg (tg_lst eu3) hd13)
          rw [← List.map_set] at this
          exact this
        · rcases List.mem_or_eq_of_mem_set hx with z | z
          · exact hV x z
          · rw [z]; exact hc
  · obtain ⟨L, y3, y6, y7, y8, y9, rfl, B, hs8, hL, hV, hl⟩ := hP
    exact ⟨_, rfl, _, _, rfl, hL.dp, encCl.pures _, fun v H9 hS9 hd9 => q L hV hl v H9 (B.trans (.of hS9)) (hs8.same hS9) hd9⟩
end
end Sh
end
section
namespace Sh
open PySem PySem.Spec L2
abbrev sRows : Stmt := top 45
theorem scRows : FnScope ["_law_names", "_law_rows_here", "_law_name", "_law_longer", "_law_row"] ["_law_names"] (defScope sRows) := ⟨rfl, rfl, rfl, by decide +kernel, rfl, by decide +kernel, by decide +kernel⟩
abbrev sLHolds : Stmt := top 46
theorem scLHolds : FnScope ["_law_clause_here", "_law_row", "_law_literal"] ["_law_clause_here", "_law_row"] (defScope sLHolds) := ⟨rfl, rfl, rfl, by decide +kernel, rfl, by decide +kernel, by decide +kernel⟩
abbrev sInAll : Stmt := top 47
theorem scInAll : FnScope ["_law_clause_here", "_law_rows_here", "_law_row"] ["_law_clause_here", "_law_rows_here"] (defScope sInAll) := ⟨rfl, rfl, rfl, by decide +kernel, rfl, by decide +kernel, by decide +kernel⟩
abbrev sSols : Stmt := top 48
theorem scSols : FnScope ["_law_theory", "_law_rows_here", "_law_clause_here", "_law_row"] ["_law_theory"] (defScope sSols) := ⟨rfl, rfl, rfl, by decide +kernel, rfl, by decide +kernel, by decide +kernel⟩
abbrev sRestr : Stmt := top 49
theorem scRestr : FnScope ["_law_rows_here", "_law_names", "_law_found", "_law_row", "_law_small", "_law_literal"] ["_law_rows_here", "_law_names"] (defScope sRestr) := ⟨rfl, rfl, rfl, by decide +kernel, rfl, by decide +kernel, by decide +kernel⟩
theorem pow2 {n : Nat} (h : n ≤ 5) : 2 ^ n ≤ 32 := Nat.le_trans (Nat.pow_le_pow_right (by decide) h) (by decide)
theorem row_len {ns : List Str} {r : Cl} (nd : ns.Nodup) (h : r ∈ Mth.rowsL ns) : r.length = ns.length := by
  obtain ⟨a, rfl⟩ := (Mth.mem_rowsL nd).mp h
  simp [Mth.rowOf]
theorem moreR_snoc (x : Str) (acc : List Cl) (r : Cl) : Mth.moreR x (acc ++ [r]) = (Mth.moreR x acc ++ [r ++ [(x, false)]]) ++ [r ++ [(x, true)]] := by
  unfold Mth.moreR
  rw [List.flatMap_append, List.append_assoc]; simp
theorem sols_snoc (R : List Cl) (done : List Cl) (c : Cl) : (R.filter fun r => done.all fun c => Mth.hR c r).filter (fun r => Mth.hR c r) = R.filter fun r => (done ++ [c]).all fun c => Mth.hR c r := by
  rw [List.filter_filter]
  congr 1
  funext r
  rw [List.all_append, List.all_cons, List.all_nil, Bool.and_true, Bool.and_comm]
section
variable {P : Program} {w : World} {K : PySem.W.Frag} {mg : Str → Option Value} {base : Heap} {C : Addr}
/-- L.append(c + ((x, b),)) -/
theorem row_app {H : Hp} {v : V} {c : Cl} {x : Str} {b : Bool} {L : Addr} {acc : List Cl} {R : Hp → Prop} (hv : Dp K H v (dCl c)) (hz : c.length ≤ 1000) (hL : Ls K H L dCl acc) (ha : acc.length ≤ 1000)
    (q : ∀ H3 o, Same H H3 → Ls K (upd H3 L o) L dCl (acc ++ [c ++ [(x, b)]]) → (∃ ys, H3 L = some (.lst ys)) → R (upd H3 L o)) :
    2 ≤ sizeLine ∧ ∀ t, H t = none → 1 ≤ sizeLine ∧ ∀ t2, (upd H t (.tup [.str x, .int (b2 b)])) t2 = none → rCatD K v (.ref t2) (upd (upd H t (.tup [.str x, .int (b2 b)])) t2 (.tup [.ref t]))
      (fun u H3 => ∃ l xs y, V.ref L = .ref l ∧ [u] = [y] ∧ H3 l = some (.lst xs) ∧ xs.length < sizeLine ∧ R (upd H3 l (.lst (xs ++ [y])))) := by
  refine ⟨by decide, fun t ht => ⟨by decide, fun t2 ht2 => ?_⟩⟩
  have S := (same_new (o := .tup [.str x, .int (b2 b)]) ht).trans (same_new (o := .tup [.ref t]) ht2)
  have hd : Dp K (upd (upd H t (.tup [.str x, .int (b2 b)])) t2 (.tup [.ref t])) (.ref t2) (.tuple [dLit (x, b)]) :=
    .tup (.inl (.inl upd_same)) (.cons (encLit.tg (tg_new ht2) (mk_lit (.inl (.inl upd_same)))) .nil)
  generalize upd (upd H t (.tup [.str x, .int (b2 b)])) t2 (.tup [.ref t]) = H2 at S hd
  refine ⟨c.map dLit, [dLit (x, b)], encCl.tg (.of S) hv, hd, encLit.pures c, encLit.pures [(x, b)], by rw [List.length_map]; show c.length + 1 ≤ _; omega, fun u H3 hS3 hu => ?_⟩
  have e : c.map dLit ++ [dLit (x, b)] = (c ++ [(x, b)]).map dLit := by rw [List.map_append]; rfl
  rw [e] at hu
  obtain ⟨ws, hLe, had⟩ := hL.same encCl (S.trans hS3)
  have lw := allf_len had
  exact ⟨L, ws, u, rfl, rfl, hLe, Nat.lt_of_le_of_lt (by omega : ws.length ≤ 1000) (by decide), q H3 _ (S.trans hS3) (Ls.push encCl hLe had hu) ⟨ws, hLe⟩⟩
/-! ### _law_rows -/
def spRows (K : PySem.W.Frag) : Sp := fun vs H Q _ => ∃ (v : V) (ns : List Str), vs = [v] ∧ Dp K H v (dNm ns) ∧ Mth.Asc ns ∧ ns.length ≤ 5 ∧ Give K H (.list ((Mth.rowsL ns).map dCl)) Q
theorem ok_rows (T : At K mg "_law_rows" sRows) (mL : mg "list" = none) : Def P w K mg base 1 "_law_rows" ["_law_names"] (spRows K) := by
  refine T.def scRows (fun vs H Q E h => ?_) (fun _ _ _ _ _ _ us hl => match us, hl with | [_], _ => rfl) (fun f cdv A outer s H vs Q E hr h => ?_)
  · obtain ⟨v, ns, rfl, _⟩ := h; rfl
  obtain ⟨v, ns, rfl, hv, hA, nl, q⟩ := h
  refine ⟨_, pss_cons (st_ 1 scRows.nd (pe_lst (pa_cons (pe_tup pa_nil) pa_nil))) (pss_cons (for_ (pi_tup (pv 0)) (gn 2 scRows.nd) (pss_cons (st_ 3 scRows.nd (pe_lst pa_nil)) (pss_cons (for_ (pi_list (pv 1)) (gn 4 scRows.nd)
      (pss_cons (app_ (pv 3) (pe_op op_catD (pv 4) (pe_tup (pa_cons (pe_tup (pa_cons (pv 2) (pa_cons pe_int pa_nil))) pa_nil)))) (pss_one (app_ (pv 3) (pe_op op_catD (pv 4) (pe_tup (pa_cons (pe_tup (pa_cons (pv 2) (pa_cons pe_int pa_nil))) pa_nil)))))))
      (pss_one (st_ 1 scRows.nd (list_ mL (pv 3))))))) (pss_one (ps_ret (pv 1)))), ?_⟩
  obtain ⟨a, rfl, ha⟩ := dp_nm hv
  have nd : ns.Nodup := Mth.Srt.nodup hA
  refine ⟨Nat.zero_le _, fun t ht => ⟨(by show 1 ≤ sizeLine; decide), fun q0 hq0 => ?_⟩⟩
  have S0 := (same_new (o := .tup []) ht).trans (same_new (o := .lst [.ref t]) hq0)
  have hL0 : Ls K (upd (upd H t (.tup [])) q0 (.lst [.ref t])) q0 dCl (Mth.rowsL []) := ⟨_, upd_same, .cons (encCl.tg (x := []) (tg_new hq0) (.tup (.inl (.inl upd_same)) .nil)) .nil⟩
  generalize upd (upd H t (.tup [])) q0 (.lst [.ref t]) = H0 at S0 hL0
  refine ⟨_, rfl, a, rfl, ⟨_, sqt_tg (.of S0) ha⟩, for_tupE (xs := ns) (vs := ns.map V.str) (H0 := H) encStr (fun done σ H' => ∃ q1 y z w, σ = [some (.ref a), some (.ref q1), y, z, w] ∧ Same H H' ∧ Ls K H' q1 dCl (Mth.rowsL done)) ha (mk_strs ns)
    ⟨q0, none, none, none, rfl, S0, hL0⟩ (fun _ _ _ ⟨_, _, _, _, _, s, _⟩ => .of s) (fun done x rest v σ1 H1 he hP hv => ?_) (fun σ1 H1 hP => ?_)⟩
  · obtain ⟨q1, y, z, w', rfl, hS, ⟨ws, hq1, hwd⟩⟩ := hP
    have := dp_str hv
    subst this
    have ndd : done.Nodup := by rw [he] at nd; exact (List.nodup_append.mp nd).1
    have ldl : done.length ≤ 5 := by have := congrArg List.length he; rw [List.length_append] at this; omega
    have lrl : (Mth.rowsL done).length ≤ 32 := by rw [Mth.rowsL_len]; exact pow2 ldl
    refine ⟨Nat.zero_le _, fun L hL => ?_⟩
    have hq1' : (upd H1 L (.lst [])) q1 = some (.lst ws) := same_new hL _ _ hq1
    refine ⟨_, rfl, q1, rfl, ⟨ws, .inl (.inl hq1')⟩, for_listE (xs := Mth.rowsL done) (vs := ws) (H0 := H1) encCl (fun dn σ H' => (∃ w, σ = [some (.ref a), some (.ref q1), some (.str x), some (.ref L), w]) ∧ Same H1 H' ∧ Ls K H' L dCl (Mth.moreR x dn)) hwd
      ⟨⟨_, rfl⟩, same_new hL, Ls.nil⟩ (fun _ _ _ h => ⟨.of h.2.1, .inl (.inl (h.2.1 _ _ hq1))⟩) (fun dn r rs v2 σ2 H2 he2 hP2 hv2 => ?_) (fun σ2 H2 hP2 => ?_)⟩
    · obtain ⟨⟨w2, rfl⟩, hS2, hL2⟩ := hP2
      have hrm : r ∈ Mth.rowsL done := by rw [he2]; exact List.mem_append_right _ List.mem_cons_self
      have hrl := row_len ndd hrm
      have hml : (Mth.moreR x dn).length ≤ 64 := by rw [Mth.moreR_len]; have := congrArg List.length he2; rw [List.length_append] at this; omega
      obtain ⟨vs0, hLe, _⟩ := id hL2
      refine ⟨_, rfl, tyL hLe, _, rfl, _, rfl, row_app (b := false) hv2 (by omega) hL2 (by omega) fun H3 o hS3 hL3 hys => ?_⟩
      have S3 := same_mut (o := o) (hS2.trans hS3) hL
      obtain ⟨ys, hy⟩ := hys
      have hv3 := encCl.tg ((TG.of hS3).trans (tg_lst (o := o) hy)) hv2
      generalize upd H3 L o = H4 at S3 hL3 hv3
      obtain ⟨vs4, hLe4, _⟩ := id hL3
      refine ⟨_, rfl, tyL hLe4, _, rfl, _, rfl, row_app (b := true) hv3 (by omega) hL3 (by rw [List.length_append, List.length_singleton]; omega) fun H5 o' hS5 hL5 _ => ⟨⟨_, rfl⟩, same_mut (S3.trans hS5) hL, by rw [moreR_snoc]; exact hL5⟩⟩
    · obtain ⟨⟨w2, rfl⟩, hS2, ⟨us, hLe, hud⟩⟩ := hP2
      refine ⟨_, rfl, L, us, rfl, .inl (.inl (.inl hLe)), fun q2 hq2 => ⟨q2, _, _, _, rfl, (hS.trans hS2).trans (same_new hq2), us, upd_same, ?_⟩⟩
      rw [Mth.rowsL_snoc]; exact encCl.tgs (tg_new hq2) hud
  · obtain ⟨q1, y, z, w', rfl, hS, hL⟩ := hP
    exact ⟨_, rfl, q _ _ hS hL.dp⟩
/-! ### _law_holds -/
def spLHolds (K : PySem.W.Frag) : Sp := fun vs H Q _ => ∃ (v1 v2 : V) (c r : Cl), vs = [v1, v2] ∧ Dp K H v1 (dCl c) ∧ Dp K H v2 (dCl r) ∧ Q (.bl (Mth.hR c r)) H
theorem ok_lholds (T : At K mg "_law_holds" sLHolds) : Def P w K mg base 1 "_law_holds" ["_law_clause_here", "_law_row"] (spLHolds K) := by
  refine T.def scLHolds (fun vs H Q E h => ?_) (fun _ _ _ _ _ _ us hl => match us, hl with | [_, _], _ => rfl) (fun f cdv A outer s H vs Q E hr h => ?_)
  · obtain ⟨v1, v2, c, r, rfl, _⟩ := h; rfl
  obtain ⟨v1, v2, c, r, rfl, h1, h2, q⟩ := h
  refine ⟨_, pss_cons (for_ (pi_tup (pv 0)) (gn 2 scLHolds.nd) (pss_one (ps_if (in_ encLit (hu65 hr) (pv 2) (pv 1)) (pss_one (ps_ret pe_bl)) pss_nil))) (pss_one (ps_ret pe_bl)), ?_⟩
  obtain ⟨a, xs, rfl, hs, ha⟩ := dp_tup h1
  refine ⟨_, rfl, a, rfl, ⟨xs, hs⟩, for_tupE encLit (fun done σ H' => (∃ y, σ = [some (.ref a), some v2, y]) ∧ H' = H ∧ Mth.hR done r = false) hs ha ⟨⟨none, rfl⟩, rfl, rfl⟩ (fun _ _ _ h => h.2.1 ▸ TG.refl H) (fun done l rest v σ H' he hP hv => ?_) (fun σ H' hP => ?_)⟩
  · obtain ⟨⟨y, rfl⟩, rfl, hj⟩ := hP
    refine ⟨_, rfl, _, rfl, l, r, hv, .inl h2, fun hm => ⟨_, rfl, iteT ?_⟩, fun hm => ⟨_, rfl, iteF ⟨⟨_, rfl⟩, rfl, ?_⟩⟩⟩
    · rw [Mth.hR_iff.mpr ⟨l, by rw [he]; exact List.mem_append_right _ List.mem_cons_self, hm⟩] at q
      exact q
    · show Mth.hR (done ++ [l]) r = false
      unfold Mth.hR at hj ⊢
      rw [List.any_append, hj]
      simpa using hm
  · obtain ⟨⟨y, rfl⟩, rfl, hj⟩ := hP
    rw [hj] at q
    exact q
/-! ### _law_in_all -/
def spInAll (K : PySem.W.Frag) : Sp := fun vs H Q _ => ∃ (v1 v2 : V) (c : Cl) (rows : List Cl), vs = [v1, v2] ∧ Dp K H v1 (dCl c) ∧ Dp K H v2 (.list (rows.map dCl)) ∧ Q (.bl (Mth.inAll c rows)) H
theorem ok_inall (T : At K mg "_law_in_all" sInAll) (G : Def P w K mg base 1 "_law_holds" ["_law_clause_here", "_law_row"] (spLHolds K)) : Def P w K mg base 2 "_law_in_all" ["_law_clause_here", "_law_rows_here"] (spInAll K) := by
  refine T.def scInAll (fun vs H Q E h => ?_) (fun _ _ _ _ _ _ us hl => match us, hl with | [_, _], _ => rfl) (fun f cdv A outer s H vs Q E hr h => ?_)
  · obtain ⟨v1, v2, c, r, rfl, _⟩ := h; rfl
  obtain ⟨v1, v2, c, rows, rfl, h1, h2, q⟩ := h
  refine ⟨_, pss_cons (for_ (pi_list (pv 1)) (gn 2 scInAll.nd) (pss_one (ps_if (pt_not (pt_val (call_ G hr (pa_cons (pv 0) (pa_cons (pv 2) pa_nil))))) (pss_one (ps_ret pe_bl)) pss_nil))) (pss_one (ps_ret pe_bl)), ?_⟩
  obtain ⟨a, xs, rfl, hs, ha⟩ : ∃ a xs, v2 = .ref a ∧ SqL K H a xs ∧ DpAll K H xs (rows.map dCl) := by
    cases h2 with
    | lst hs ha => exact ⟨_, _, rfl, hs, ha⟩
  refine ⟨_, rfl, a, rfl, ⟨xs, hs⟩, for_listE encCl (fun done σ H' => (∃ y, σ = [some v1, some (.ref a), y]) ∧ H' = H ∧ Mth.inAll c done = true) ha ⟨⟨none, rfl⟩, rfl, rfl⟩ (fun _ _ _ h => ⟨h.2.1 ▸ TG.refl H, h.2.1 ▸ hs⟩) (fun done r rest v σ H' he hP hv => ?_) (fun σ H' hP => ?_)⟩
  · obtain ⟨⟨y, rfl⟩, rfl, hj⟩ := hP
    refine ⟨_, rfl, _, rfl, v1, v, c, r, rfl, h1, hv, _, rfl, ?_⟩
    cases e : Mth.hR c r with
    | true => exact iteF ⟨⟨_, rfl⟩, rfl, by unfold Mth.inAll at hj ⊢; rw [List.all_append, hj]; simpa using e⟩
    | false =>
      have e2 : Mth.inAll c rows = false := by
        cases e2 : Mth.inAll c rows with
        | false => rfl
        | true => rw [List.all_eq_true.mp e2 r (by rw [he]; exact List.mem_append_right _ List.mem_cons_self)] at e; cases e
      rw [e2] at q
      exact iteT q
  · obtain ⟨⟨y, rfl⟩, rfl, hj⟩ := hP
    rw [hj] at q
    exact q
/-! ### _law_solutions -/
def spSols (K : PySem.W.Frag) : Sp := fun vs H Q _ => ∃ (v : V) (ns : List Str) (cs : List Cl), vs = [v] ∧ Dp K H v (dTh ns cs) ∧ Mth.Asc ns ∧ ns.length ≤ 5 ∧ Give K H (.list ((Mth.sols ns cs).map dCl)) Q
theorem ok_sols (T : At K mg "_law_solutions" sSols) (G : Def P w K mg base 1 "_law_holds" ["_law_clause_here", "_law_row"] (spLHolds K)) (G2 : Def P w K mg base 1 "_law_rows" ["_law_names"] (spRows K)) : Def P w K mg base 2 "_law_solutions" ["_law_theory"] (spSols K) := by
  refine T.def scSols (fun vs H Q E h => ?_) (fun _ _ _ _ _ _ us hl => match us, hl with | [_], _ => rfl) (fun f cdv A outer s H vs Q E hr h => ?_)
  · obtain ⟨v, ns, cs, rfl, _⟩ := h; rfl
  obtain ⟨v, ns, cs, rfl, h1, hA, nl, q⟩ := h
  refine ⟨_, pss_cons (st_ 1 scSols.nd (call_ G2 hr (pa_cons (ixT (pv 0) pe_int) pa_nil))) (pss_cons (for_ (pi_tup (ixT (pv 0) pe_int)) (gn 2 scSols.nd)
      (pss_one (ps_setLc (i := 1) (own := [("_law_row", 3)]) (g := gName 3) (by rfl) scSols.nd rfl rfl (sw_true rfl rfl rfl (by decide +kernel)) (pi_list (pv 1)) (blkOk_by (N := ["_law_theory", "_law_rows_here", "_law_clause_here", "_law_row"]) (sc := defScope sSols) (by decide +kernel)) (fun _ _ _ _ _ => gn 3 scSols.nd)
        (fun _ _ _ _ _ => pts_one (pt_val (call_ G hr (pa_cons (pv 2) (pa_cons (pv 3) pa_nil))))) (fun _ _ _ _ _ => pv 3))))
    (pss_one (ps_ret (pv 1)))), ?_⟩
  obtain ⟨p, w1, w2, rfl, hs, hm1, hm2⟩ := dp_th h1
  have nd : ns.Nodup := Mth.Srt.nodup hA
  obtain ⟨b, xs, rfl, hs2, ha⟩ := dp_tup hm2
  refine ⟨_, rfl, p, _, _, _, rfl, rfl, hs, at0, w1, ns, rfl, hm1, hA, nl, fun v0 H0 hS0 hd0 => ?_⟩
  refine ⟨_, rfl, p, _, _, _, rfl, rfl, sqt_tg (.of hS0) hs, at1, b, rfl, ⟨xs, sqt_tg (.of hS0) hs2⟩, for_tupE (H0 := H) encCl (fun done σ H' => ∃ u y z, σ = [some (.ref p), some u, y, z] ∧ Same H H' ∧ Dp K H' u (.list (((Mth.rowsL ns).filter fun r => done.all fun c => Mth.hR c r).map dCl))) hs2 ha
    ⟨v0, none, none, rfl, hS0, ?_⟩ (fun _ _ _ ⟨_, _, _, _, s, _⟩ => .of s) (fun done c rest v σ1 H1 he hP hv => ?_) (fun σ1 H1 hP => ?_)⟩
  · have e : ((Mth.rowsL ns).filter fun r => ([] : List Cl).all fun c => Mth.hR c r) = Mth.rowsL ns := List.filter_eq_self.mpr (fun _ _ => rfl)
    rw [e]; exact hd0
  · obtain ⟨u, y, z, rfl, hS, hd⟩ := hP
    have hlen := List.length_filter_le (fun r => done.all fun c => Mth.hR c r) (Mth.rowsL ns)
    rw [Mth.rowsL_len] at hlen
    have h32 := pow2 nl
    obtain ⟨a, us, rfl, hsu, hud⟩ : ∃ a us, u = .ref a ∧ SqL K H1 a us ∧ DpAll K H1 us (((Mth.rowsL ns).filter fun r => done.all fun c => Mth.hR c r).map dCl) := by
      cases hd with
      | lst hs ha => exact ⟨_, _, rfl, hs, ha⟩
    refine ⟨_, rfl, a, rfl, ⟨us, hsu⟩, fun D hD => lc_listE encCl encCl (fun r => Mth.hR c r) id hD (by omega) hsu hud (fun r _ v2 H' yes no hS2 hv2 hy hn => ?_) (fun H2 hS2 hL2 => ?_)⟩
    · refine ⟨rfl, _, rfl, _, rfl, _, _, c, r, rfl, encCl.tg (.of hS2) hv, hv2, _, rfl, ?_⟩
      cases e : Mth.hR c r with
      | true => exact iteT ⟨_, rfl, hy e _ _ (.refl _) hv2⟩
      | false => exact iteF (hn e _ (.refl _))
    · rw [List.map_id, sols_snoc] at hL2
      exact ⟨_, _, _, rfl, hS.trans hS2, hL2.dp⟩
  · obtain ⟨u, y, z, rfl, hS, hd⟩ := hP
    exact ⟨_, rfl, q _ _ hS hd⟩
/-! ### _law_restricted -/
def small (ns : List Str) (r : Cl) : Cl := r.filter fun l => decide (l.1 ∈ ns)
def spRestr (K : PySem.W.Frag) : Sp := fun vs H Q _ => ∃ (v1 v2 : V) (rows : List Cl) (ns : List Str), vs = [v1, v2] ∧ Dp K H v1 (.list (rows.map dCl)) ∧ Dp K H v2 (dNm ns) ∧ rows.length ≤ 100 ∧ (∀ r ∈ rows, r.length ≤ 1000) ∧
  ∀ F : List Cl, (∀ r, r ∈ F ↔ ∃ row ∈ rows, r = small ns row) → F.length ≤ rows.length → Give K H (.list (F.map dCl)) Q
theorem ok_restr (T : At K mg "_law_restricted" sRestr) (mt : mg "tuple" = none) : Def P w K mg base 1 "_law_restricted" ["_law_rows_here", "_law_names"] (spRestr K) := by
  refine T.def scRestr (fun vs H Q E h => ?_) (fun _ _ _ _ _ _ us hl => match us, hl with | [_, _], _ => rfl) (fun f cdv A outer s H vs Q E hr h => ?_)
  · obtain ⟨v1, v2, rows, ns, rfl, _⟩ := h; rfl
  obtain ⟨v1, v2, rows, ns, rfl, h1, h2, hz, hzr, q⟩ := h
  refine ⟨_, pss_cons (st_ 2 scRestr.nd (pe_lst pa_nil)) (pss_cons (for_ (pi_list (pv 0)) (gn 3 scRestr.nd)
      (pss_cons (st_ 4 scRestr.nd (tup_ (by rfl) mt (pe_lc (own := [("_law_literal", 5)]) (g := gName 5) (by rfl) scRestr.nd (pi_tup (pv 3)) (blkOk_by (N := ["_law_rows_here", "_law_names", "_law_found", "_law_row", "_law_small", "_law_literal"]) (sc := defScope sRestr) (by decide +kernel)) (fun _ _ _ _ _ => gn 5 scRestr.nd)
        (fun _ _ _ _ _ => pts_one (inK K encStr (hu65 hr) (ixTK K (pv 5) pe_int) (pv 1))) (fun _ _ _ _ _ => pv 5))))
        (pss_one (ps_if (notIn_ encCl (hu65 hr) (pv 4) (pv 2)) (pss_one (app_ (pv 2) (pv 4))) pss_nil))))
    (pss_one (ps_ret (pv 2)))), ?_⟩
  obtain ⟨a, xs, rfl, hs, ha⟩ : ∃ a xs, v1 = .ref a ∧ SqL K H a xs ∧ DpAll K H xs (rows.map dCl) := by
    cases h1 with
    | lst hs ha => exact ⟨_, _, rfl, hs, ha⟩
  refine ⟨Nat.zero_le _, fun t ht => ?_⟩
  have S0 : Same H (upd H t (.lst [])) := same_new ht
  refine ⟨_, rfl, a, rfl, ⟨xs, S0.seq hs⟩, for_listE (H0 := H) encCl (fun done σ H' => ∃ (F : List Cl) (y z w : Option V), σ = [some (.ref a), some v2, some (.ref t), y, z, w] ∧ Same H H' ∧ Ls K H' t dCl F ∧ (∀ r, r ∈ F ↔ ∃ row ∈ done, r = small ns row) ∧ F.length ≤ done.length) ha
    ⟨[], none, none, none, rfl, S0, Ls.nil, (fun r => by simp), Nat.le_refl _⟩ (fun _ _ _ ⟨_, _, _, _, _, s, _⟩ => ⟨.of s, s.seq hs⟩) (fun done r rest v σ1 H1 he hP hv => ?_) (fun σ1 H1 hP => ?_)⟩
  · obtain ⟨F, y, z, w', rfl, hS, hL, hF, hFl⟩ := hP
    have hdl : done.length ≤ rows.length := by rw [he, List.length_append]; omega
    obtain ⟨b, ys, rfl, hs2, ha2⟩ := dp_tup hv
    have hrz := hzr r (by rw [he]; exact List.mem_append_right _ List.mem_cons_self)
    refine ⟨_, rfl, b, rfl, ⟨ys, hs2⟩, fun D hD => lc_tupE encLit encLit (fun l => decide (l.1 ∈ ns)) id hD (by omega) hs2 ha2 (fun l _ v2' H' yes no hS2 hv2 hy hn => ?_) (fun H2 hS2 hL2 => ?_)⟩
    · obtain ⟨c, rfl, hc⟩ := dp_lit hv2
      refine ⟨rfl, _, rfl, c, _, _, _, rfl, rfl, hc, at0, _, rfl, l.1, ns, .str _, .inl (encNm.tg (.of (hS.trans hS2)) h2), fun hm => ⟨_, rfl, iteT ⟨_, rfl, hy (decide_eq_true hm) _ _ (.refl _) hv2⟩⟩, fun hm => ⟨_, rfl, iteF (hn (decide_eq_false hm) _ (.refl _))⟩⟩
    · rw [List.map_id] at hL2
      refine ⟨_, _, rfl, hL2.dp, encLit.pures _, fun u H3 hS3 hd3 => ?_⟩
      have S3 := hS2.trans hS3
      have hL3 := hL.same encCl S3
      refine ⟨_, rfl, _, rfl, small ns r, F, hd3, .inr hL3.dp, fun hin => ⟨_, rfl, iteF ⟨F, _, _, _, rfl, hS.trans S3, hL3, fun s => ?_, by rw [List.length_append]; omega⟩⟩, fun hin => ⟨_, rfl, iteT ?_⟩⟩
      · rw [hF]
        constructor
        · rintro ⟨row, h1, h2⟩; exact ⟨row, List.mem_append_left _ h1, h2⟩
        · rintro ⟨row, h1, h2⟩
          rcases List.mem_append.mp h1 with z | z
          · exact ⟨row, z, h2⟩
          · rw [List.mem_singleton.mp z] at h2
            rw [h2]; exact (hF _).mp hin
      · obtain ⟨ws, hte, hwd⟩ := hL3
        have lw := allf_len hwd
        refine ⟨_, rfl, tyL hte, _, rfl, t, ws, _, rfl, rfl, hte, Nat.lt_of_le_of_lt (by omega : ws.length ≤ 100) (by decide), F ++ [small ns r], _, _, _, rfl, same_mut (hS.trans S3) ht, Ls.push encCl hte hwd hd3, fun s => ?_, by rw [List.length_append, List.length_append, List.length_singleton, List.length_singleton]; omega⟩
        rw [List.mem_append, hF, List.mem_singleton]
        constructor
        · rintro (⟨row, h1, h2⟩ | h)
          · exact ⟨row, List.mem_append_left _ h1, h2⟩
          · exact ⟨r, List.mem_append_right _ (List.mem_singleton.mpr rfl), h⟩
        · rintro ⟨row, h1, h2⟩
          rcases List.mem_append.mp h1 with z | z
          · exact .inl ⟨row, z, h2⟩
          · rw [List.mem_singleton.mp z] at h2; exact .inr h2
  · obtain ⟨F, y, z, w', rfl, hS, hL, hF, hFl⟩ := hP
    exact ⟨_, rfl, q F hF hFl _ _ hS hL.dp⟩
end
end Sh
end
section
namespace Sh
open PySem PySem.Spec L2
abbrev sLNormal : Stmt := top 50
theorem scLNormal : FnScope ["_law_names", "_law_rows_here", "_law_clauses", "_law_name", "_law_longer", "_law_clause_here", "_law_follows", "_law_least", "_law_shorter", "_law_k"] ["_law_names", "_law_rows_here"] (defScope sLNormal) := ⟨rfl, rfl, rfl, by decide +kernel, rfl, by decide +kernel, by decide +kernel⟩
theorem moreC_snoc (x : Str) (acc : List Cl) (c : Cl) : Mth.moreC x (acc ++ [c]) = ((Mth.moreC x acc ++ [c]) ++ [c ++ [(x, false)]]) ++ [c ++ [(x, true)]] := by
  unfold Mth.moreC
  rw [List.flatMap_append, List.append_assoc, List.append_assoc]; simp
theorem asc_left {l : List Str} {x : Str} (h : Mth.Asc (l ++ [x])) : Mth.Asc l ∧ x ∉ l := by
  have := List.pairwise_append.mp h
  exact ⟨this.1, fun hx => Mth.SOrd.ne (this.2.2 x hx x (List.mem_singleton.mpr rfl)) rfl⟩
theorem allC_nodup : ∀ ns : List Str, Mth.Asc ns → (Mth.allC ns).Nodup := by
  intro ns
  induction ns using Mth.snoc_ind with
  | h0 => intro _; exact List.pairwise_singleton _ _
  | h1 l x ih =>
    intro h
    obtain ⟨hl, hx⟩ := asc_left h
    rw [Mth.allC_snoc]
    unfold Mth.moreC
    have no : ∀ {c : Cl} {b : Bool}, c ∈ Mth.allC l → (x, b) ∉ c := fun hc hm => hx (((Mth.mem_allC hl).mp hc).sub _ hm)
    refine List.pairwise_flatMap.mpr ⟨fun c hc => ?_, List.Pairwise.imp_of_mem (fun {c d} hc hd hne => ?_) (ih hl)⟩
    · simp
    · intro u hu v hv
      have f : ∀ (e : Cl) (b : Bool), (x, b) ∈ e ++ [(x, b)] := fun e b => List.mem_append_right _ (List.mem_singleton.mpr rfl)
      simp only [List.mem_cons, List.not_mem_nil, or_false] at hu hv
      rcases hu with rfl | rfl | rfl <;> rcases hv with rfl | rfl | rfl
      · exact hne
      · exact fun e => no hc (e ▸ f _ _)
      · exact fun e => no hc (e ▸ f _ _)
      · exact fun e => no hd (e ▸ f c false)
      · exact fun e => hne (List.append_cancel_right e)
      · exact fun e => by have := (List.append_inj' e rfl).2; simp at this
      · exact fun e => no hd (e ▸ f c true)
      · exact fun e => by have := (List.append_inj' e rfl).2; simp at this
      · exact fun e => hne (List.append_cancel_right e)
def goodC (rows : List Cl) (c : Cl) : Bool := Mth.inAll c rows && (List.range c.length).all fun k => !Mth.inAll (c.eraseIdx k) rows
theorem goodC_iff {rows : List Cl} {ns : List Str} {c : Cl} (h : Mth.Asc ns) : c ∈ (Mth.allC ns).filter (goodC rows) ↔ Mth.IsPr (fun c => Mth.inAll c rows = true) ns c := by
  rw [List.mem_filter, Mth.mem_allC h]
  unfold goodC
  rw [Bool.and_eq_true, List.all_eq_true]
  constructor
  · rintro ⟨v, f, l⟩
    exact ⟨v, f, fun k hk e => by have := l k (List.mem_range.mpr hk); rw [e] at this; cases this⟩
  · rintro ⟨v, f, l⟩
    exact ⟨v, f, fun k hk => by
      cases e : Mth.inAll (c.eraseIdx k) rows with
      | false => rfl
      | true => exact absurd e (l k (List.mem_range.mp hk))⟩
/-- where () is among the good ones it is alone -/
theorem good_ne {rows : List Cl} {L : List Cl} (hL : ∀ c ∈ L, goodC rows c = true) (hn : L.Nodup) (h2 : 2 ≤ L.length) : ∀ c ∈ L, c ≠ [] := by
  intro c hc e
  subst e
  have h0 : Mth.inAll ([] : Cl) rows = true := by have := hL _ hc; unfold goodC at this; exact (Bool.and_eq_true_iff.mp this).1
  have hr : rows = [] := by
    cases rows with
    | nil => rfl
    | cons r rs => simp [Mth.inAll, Mth.hR] at h0
  subst hr
  have one : ∀ d ∈ L, d = [] := by
    intro d hd
    cases d with
    | nil => rfl
    | cons l ls =>
      have := hL _ hd
      unfold goodC at this
      have := List.all_eq_true.mp (Bool.and_eq_true_iff.mp this).2 0 (List.mem_range.mpr (by simp))
      simp [Mth.inAll] at this
  match L, h2 with
  | a :: b :: r, _ =>
    have ea := one a List.mem_cons_self
    have eb := one b (List.mem_cons_of_mem _ List.mem_cons_self)
    rw [ea, eb] at hn
    exact absurd hn (by simp)
theorem eraseIdx_cut {α : Type} (l : List α) (k : Nat) : l.take k ++ l.drop (k + 1) = l.eraseIdx k := (List.eraseIdx_eq_take_drop_succ l k).symm
section
variable {P : Program} {w : World} {K : PySem.W.Frag} {mg : Str → Option Value} {base : Heap} {C : Addr}
theorem cutK {X : Cx} (K : PySem.W.Frag) (hK : X.K = K := by rfl) : SlR X (rCutD K) := by subst hK; exact sl_cutD
theorem catK {X : Cx} (K : PySem.W.Frag) (hK : X.K = K := by rfl) : OpR X (binaryOp .Add) (rCatD K) := by subst hK; exact op_catD
theorem valN_keys {es : List Ent} {rows : List Cl} {c : Cl} (hn : (es.map (·.1)).Nodup) (hv : ∀ e ∈ es, e.2.2 = .bl (Mth.inAll e.1 rows)) (hc : c ∈ es.map (·.1)) : valN es c = some (.bl (Mth.inAll c rows)) := by
  obtain ⟨e, he, rfl⟩ := List.mem_map.mp hc
  rw [valN_of hn he, hv e he]
/-! ### _law_normal -/
def spLNormal (K : PySem.W.Frag) : Sp := fun vs H Q _ => ∃ (v1 v2 : V) (ns : List Str) (rows : List Cl), vs = [v1, v2] ∧ Dp K H v1 (dNm ns) ∧ Dp K H v2 (.list (rows.map dCl)) ∧ Mth.Asc ns ∧ ns.length ≤ 5 ∧
  ∀ L, Mth.Srt L → (∀ c, c ∈ L ↔ Mth.IsPr (fun c => Mth.inAll c rows = true) ns c) → Give K H (dTh ns L) Q
theorem ok_lnormal (T : At K mg "_law_normal" sLNormal) (mL : mg "list" = none) (ml : mg "len" = none) (mr : mg "range" = none) (ms : mg "sorted" = none) (mt : mg "tuple" = none) (G : Def P w K mg base 2 "_law_in_all" ["_law_clause_here", "_law_rows_here"] (spInAll K)) :
    Def P w K mg base 3 "_law_normal" ["_law_names", "_law_rows_here"] (spLNormal K) := by
  refine T.def scLNormal (fun vs H Q E h => ?_) (fun _ _ _ _ _ _ us hl => match us, hl with | [_, _], _ => rfl) (fun f cdv A outer s H vs Q E hr h => ?_)
  · obtain ⟨v1, v2, ns, rows, rfl, _⟩ := h; rfl
  obtain ⟨v1, v2, ns, rows, rfl, h1, h2, hA, nl, q⟩ := h
  refine ⟨_, pss_cons (st_ 2 scLNormal.nd (pe_lst (pa_cons (pe_tup pa_nil) pa_nil))) (pss_cons (for_ (pi_tup (pv 0)) (gn 3 scLNormal.nd) (pss_cons (st_ 4 scLNormal.nd (pe_lst pa_nil)) (pss_cons (for_ (pi_list (pv 2)) (gn 5 scLNormal.nd)
      (pss_cons (app_ (pv 4) (pv 5)) (pss_cons (app_ (pv 4) (pe_op op_catD (pv 5) (pe_tup (pa_cons (pe_tup (pa_cons (pv 3) (pa_cons pe_int pa_nil))) pa_nil)))) (pss_one (app_ (pv 4) (pe_op op_catD (pv 5) (pe_tup (pa_cons (pe_tup (pa_cons (pv 3) (pa_cons pe_int pa_nil))) pa_nil))))))))
      (pss_one (st_ 2 scLNormal.nd (list_ mL (pv 4)))))))
    (pss_cons (st_ 6 scLNormal.nd pe_newN) (pss_cons (for_ (pi_list (pv 2)) (gn 5 scLNormal.nd) (pss_one (ps_nput (hu65 hr) (pv 6) (pv 5) (call_ G hr (pa_cons (pv 5) (pa_cons (pv 1) pa_nil))))))
    (pss_cons (st_ 7 scLNormal.nd (pe_lst pa_nil)) (pss_cons (for_ (pi_list (pv 2)) (gn 5 scLNormal.nd)
      (pss_cons (ps_setLc (i := 8) (own := [("_law_k", 9)]) (g := gName 9) (by rfl) scLNormal.nd rfl rfl (sw_true rfl rfl rfl (by decide +kernel)) (pi_range1 (by rfl) mr (pa_cons (len_ ml (pv 5)) pa_nil)) (blkOk_by (N := ["_law_names", "_law_rows_here", "_law_clauses", "_law_name", "_law_longer", "_law_clause_here", "_law_follows", "_law_least", "_law_shorter", "_law_k"]) (sc := defScope sLNormal) (by decide +kernel)) (fun _ _ _ _ _ => gn 9 scLNormal.nd)
          (fun _ _ _ _ _ => pts_one (pt_val (ngetK P w K (hu65 hr) (pv 6) (pe_op (catK K) (pe_slice (cutK K) (pv 5) po_none (po_some (pv 9))) (pe_slice (cutK K) (pv 5) (po_some (pe_op op_add (pv 9) pe_int)) po_none))))) (fun _ _ _ _ _ => pv 9))
        (pss_one (ps_if (PW.pt (pw_and (pt_val (pe_nget (hu65 hr) (pv 6) (pv 5))) (pw_and1 (tC_ o_eqI (len_ ml (pv 8)) pe_int)))) (pss_one (app_ (pv 7) (pv 5))) pss_nil))))
    (pss_one (ps_ret (pe_tup (pa_cons (pv 0) (pa_cons (tup_ (by rfl) mt (sorted_ encCl (hu65 hr) ms (pv 7))) pa_nil)))))))))), ?_⟩
  obtain ⟨a, rfl, ha⟩ := dp_nm h1
  have nd : ns.Nodup := Mth.Srt.nodup hA
  refine ⟨Nat.zero_le _, fun t ht => ⟨(by show 1 ≤ sizeLine; decide), fun q0 hq0 => ?_⟩⟩
  have S0 := (same_new (o := .tup []) ht).trans (same_new (o := .lst [.ref t]) hq0)
  have hL0 : Ls K (upd (upd H t (.tup [])) q0 (.lst [.ref t])) q0 dCl (Mth.allC []) := ⟨_, upd_same, .cons (encCl.tg (x := []) (tg_new hq0) (.tup (.inl (.inl upd_same)) .nil)) .nil⟩
  generalize upd (upd H t (.tup [])) q0 (.lst [.ref t]) = H0 at S0 hL0
  refine ⟨_, rfl, a, rfl, ⟨_, sqt_tg (.of S0) ha⟩, for_tupE (xs := ns) (vs := ns.map V.str) (H0 := H) encStr (fun done σ H' => ∃ q1 y z w, σ = [some (.ref a), some v2, some (.ref q1), y, z, w, none, none, none, none] ∧ Same H H' ∧ Ls K H' q1 dCl (Mth.allC done)) ha (mk_strs ns)
    ⟨q0, none, none, none, rfl, S0, hL0⟩ (fun _ _ _ ⟨_, _, _, _, _, s, _⟩ => .of s) (fun done x rest v σ1 H1 he hP hv => ?_) (fun σ1 H1 hP => ?_)⟩
  · obtain ⟨q1, y, z, w', rfl, hS, ⟨ws, hq1, hwd⟩⟩ := hP
    have := dp_str hv
    subst this
    have hAd : Mth.Asc done := by rw [he] at hA; exact (List.pairwise_append.mp hA).1
    have ldl : done.length ≤ 5 := by have := congrArg List.length he; rw [List.length_append] at this; omega
    have lrl : (Mth.allC done).length ≤ 243 := by rw [Mth.allC_len]; exact pow3 ldl
    refine ⟨Nat.zero_le _, fun L hL => ?_⟩
    have hq1' : (upd H1 L (.lst [])) q1 = some (.lst ws) := same_new hL _ _ hq1
    refine ⟨_, rfl, q1, rfl, ⟨ws, .inl (.inl hq1')⟩, for_listE (xs := Mth.allC done) (vs := ws) (H0 := H1) encCl (fun dn σ H' => (∃ w, σ = [some (.ref a), some v2, some (.ref q1), some (.str x), some (.ref L), w, none, none, none, none]) ∧ Same H1 H' ∧ Ls K H' L dCl (Mth.moreC x dn)) hwd
      ⟨⟨_, rfl⟩, same_new hL, Ls.nil⟩ (fun _ _ _ h => ⟨.of h.2.1, .inl (.inl (h.2.1 _ _ hq1))⟩) (fun dn c cs v2' σ2 H2 he2 hP2 hv2 => ?_) (fun σ2 H2 hP2 => ?_)⟩
    · obtain ⟨⟨w2, rfl⟩, hS2, hL2⟩ := hP2
      have hcm : c ∈ Mth.allC done := by rw [he2]; exact List.mem_append_right _ List.mem_cons_self
      have hcl := Mth.vc_len ((Mth.mem_allC hAd).mp hcm)
      have hml : (Mth.moreC x dn).length ≤ 726 := by rw [Mth.moreC_len]; have := congrArg List.length he2; rw [List.length_append, List.length_cons] at this; omega
      obtain ⟨vs0, hLe, had⟩ := hL2
      have lv0 := allf_len had
      refine ⟨_, rfl, tyL hLe, _, rfl, L, vs0, _, rfl, rfl, hLe, Nat.lt_of_le_of_lt (by omega : vs0.length ≤ 1000) (by decide), ?_⟩
      have S3 := same_mut (o := .lst (vs0 ++ [v2'])) hS2 hL
      have hv3 := encCl.tg (tg_lst (o := .lst (vs0 ++ [v2'])) hLe) hv2
      have hL3 := Ls.push encCl hLe had hv2
      generalize upd H2 L (.lst (vs0 ++ [v2'])) = H3 at S3 hv3 hL3
      obtain ⟨vs3, hLe3, _⟩ := id hL3
      refine ⟨_, rfl, tyL hLe3, _, rfl, _, rfl, row_app (b := false) hv3 (by omega) hL3 (by rw [List.length_append, List.length_singleton]; omega) fun H4 o hS4 hL4 hys => ?_⟩
      have S4 := same_mut (o := o) (S3.trans hS4) hL
      obtain ⟨ys, hy⟩ := hys
      have hv4 := encCl.tg ((TG.of hS4).trans (tg_lst (o := o) hy)) hv3
      generalize upd H4 L o = H5 at S4 hL4 hv4
      obtain ⟨vs4, hLe4, _⟩ := id hL4
      refine ⟨_, rfl, tyL hLe4, _, rfl, _, rfl, row_app (b := true) hv4 (by omega) hL4 (by rw [List.length_append, List.length_append, List.length_singleton, List.length_singleton]; omega) fun H6 o' hS6 hL6 _ => ⟨⟨_, rfl⟩, same_mut (S4.trans hS6) hL, by rw [moreC_snoc]; exact hL6⟩⟩
    · obtain ⟨⟨w2, rfl⟩, hS2, ⟨us, hLe, hud⟩⟩ := hP2
      refine ⟨_, rfl, L, us, rfl, .inl (.inl (.inl hLe)), fun q2 hq2 => ⟨q2, _, _, _, rfl, (hS.trans hS2).trans (same_new hq2), us, upd_same, ?_⟩⟩
      rw [Mth.allC_snoc]; exact encCl.tgs (tg_new hq2) hud
  · obtain ⟨q1, y, z, w', rfl, hS, ⟨ws, hq1, hwd⟩⟩ := hP
    have lrl : (Mth.allC ns).length ≤ 243 := by rw [Mth.allC_len]; exact pow3 nl
    have ndC := allC_nodup ns hA
    intro D hD
    have hDH := hS.free hD
    have hS2 := hS.trans (same_new (o := oN P w D []) hD)
    have hN2 : NdAt P w K (upd H1 D (oN P w D [])) D [] := NdAt.nil
    have hq12 : (upd H1 D (oN P w D [])) q1 = some (.lst ws) := same_new hD _ _ hq1
    refine ⟨_, rfl, q1, rfl, ⟨ws, .inl (.inl hq12)⟩, for_listE (xs := Mth.allC ns) (vs := ws) (H0 := H1) encCl (fun dn σ H' => ∃ wc es, σ = [some (.ref a), some v2, some (.ref q1), y, z, wc, some (.ref D), none, none, none] ∧ Same H1 H' ∧ NdAt P w K H' D es ∧ es.map (·.1) = dn ∧ ∀ e ∈ es, e.2.2 = .bl (Mth.inAll e.1 rows)) hwd
      ⟨_, [], rfl, same_new hD, hN2, rfl, (fun _ h => by cases h)⟩ (fun _ _ _ ⟨_, _, _, s, _⟩ => ⟨.of s, .inl (.inl (s _ _ hq1))⟩) (fun dn c cs v3 σ2 H2 he2 hP2 hv2 => ?_) (fun σ2 H2 hP2 => ?_)⟩
    · obtain ⟨w2, es, rfl, hS3, hN, hes, hev⟩ := hP2
      obtain ⟨b, xs, rfl, _, _⟩ := dp_tup hv2
      have hcn : c ∉ es.map (·.1) := by
        rw [hes]
        rw [he2] at ndC
        exact fun hm => (List.nodup_append.mp ndC).2.2 c hm c List.mem_cons_self rfl
      have hel : es.length ≤ 243 := by
        have := congrArg List.length hes
        have h3 := congrArg List.length he2
        rw [List.length_map] at this
        rw [List.length_append] at h3
        omega
      have h2' : Dp K H2 v2 (.list (rows.map dCl)) := by
        cases h2 with
        | lst hs ha => exact .lst ((hS.trans hS3).seq hs) (encCl.tgs (.of (hS.trans hS3)) ha)
      refine ⟨_, rfl, _, rfl, _, v2, c, rows, rfl, hv2, h2', _, rfl, _, rfl, D, es, b, c, rfl, hN.at_, hN.key, hN.nd, rfl, hv2, hcn, by omega, _, es ++ [(c, b, V.bl (Mth.inAll c rows))], rfl, same_mut hS3 hD, hN.put (v := V.bl (Mth.inAll c rows)) hv2 hcn, by rw [List.map_append, hes]; rfl, fun e he => ?_⟩
      rcases List.mem_append.mp he with u | u
      · exact hev e u
      · rw [List.mem_singleton.mp u]
    · obtain ⟨w2, es, rfl, hS3, hN, hes, hev⟩ := hP2
      have hel : es.length ≤ 243 := by
        have := congrArg List.length hes
        rw [List.length_map] at this
        omega
      refine ⟨Nat.zero_le _, fun t3 ht3 => ?_⟩
      have hq13 := hS3 _ _ hq1
      have S4 := same_new (o := .lst []) ht3
      refine ⟨_, rfl, q1, rfl, ⟨ws, .inl (.inl (S4 _ _ hq13))⟩, for_listE (xs := Mth.allC ns) (vs := ws) (H0 := H2) encCl (fun dn σ H' => ∃ w u r, σ = [some (.ref a), some v2, some (.ref q1), y, z, w, some (.ref D), some (.ref t3), u, r] ∧ Same H2 H' ∧ Ls K H' t3 dCl (dn.filter (goodC rows))) (encCl.tgs (.of hS3) hwd)
        ⟨_, _, _, rfl, S4, Ls.nil⟩ (fun _ _ _ ⟨_, _, _, _, s, _⟩ => ⟨.of s, .inl (.inl (s _ _ hq13))⟩) (fun dn c cs v3 σ3 H3 he3 hP3 hv3 => ?_) (fun σ3 H3 hP3 => ?_)⟩
      · obtain ⟨w3, u3, r3, rfl, hS5, hL5⟩ := hP3
        have hcm : c ∈ Mth.allC ns := by rw [he3]; exact List.mem_append_right _ List.mem_cons_self
        have hvc := (Mth.mem_allC hA).mp hcm
        have hcl := Mth.vc_len hvc
        obtain ⟨b, xs, rfl, hs, hb⟩ := dp_tup hv3
        have lx := allf_len hb
        have hval : ∀ d, Mth.VC ns d → valN es d = some (.bl (Mth.inAll d rows)) := fun d hd => valN_keys hN.nd hev (by rw [hes]; exact (Mth.mem_allC hA).mpr hd)
        refine ⟨_, rfl, b, xs, rfl, .inr hs, _, rfl, by omega, by omega, fun G3 hG3 => lc_range (lo := 0) (n := xs.length) (fun i H' => Same H3 H' ∧ ∃ acc, H' G3 = some (.lst acc) ∧ acc.length = ((List.range i).filter fun k => Mth.inAll (c.eraseIdx k) rows).length) ⟨same_new hG3, [], upd_same, rfl⟩ (fun i H4 hi hP4 => ?_) (fun H4 hP4 => ?_)⟩
        · obtain ⟨hS6, acc, hacc, hal⟩ := hP4
          have hv6 := encCl.tg (.of hS6) hv3
          have pt := encLit.pures c
          have hlen : (c.map dLit).length = c.length := List.length_map _
          refine ⟨rfl, _, rfl, _, rfl, _, rfl, _, rfl, c.map dLit, i, hv6, pt, by omega, .inl ⟨rfl, congrArg some (Int.zero_add _), fun p1 H5 hS7 hd1 => ?_⟩⟩
          refine ⟨_, rfl, _, rfl, _, _, rfl, rfl, _, rfl, c.map dLit, i + 1, encCl.tg (.of hS7) hv6, pt, by omega, .inr ⟨congrArg some (by push_cast; omega), rfl, fun p2 H6 hS8 hd2 => ?_⟩⟩
          have e1 : (c.map dLit).take i = (c.take i).map dLit := List.map_take.symm
          have e2 : (c.map dLit).drop (i + 1) = (c.drop (i + 1)).map dLit := List.map_drop.symm
          rw [e1] at hd1
          rw [e2] at hd2
          refine ⟨(c.take i).map dLit, (c.drop (i + 1)).map dLit, encCl.tg (f := dCl) (x := c.take i) (.of hS8) hd1, hd2, encLit.pures _, encLit.pures _, by rw [List.length_map, List.length_map, List.length_take, List.length_drop]; omega, fun p3 H7 hS9 hd3 => ?_⟩
          rw [← List.map_append, eraseIdx_cut] at hd3
          obtain ⟨b3, xs3, rfl, hs3, hb3⟩ := dp_tup hd3
          have S67 := (hS7.trans hS8).trans hS9
          have S37 := hS6.trans S67
          have S27 := hS5.trans S37
          refine ⟨D, es, b3, c.eraseIdx i, _, rfl, (hN.same S27).is, rfl, hd3, hval _ (hvc.eraseIdx i), _, rfl, ?_⟩
          have hacc7 := S67 _ _ hacc
          have hrl : ((List.range i).filter fun k => Mth.inAll (c.eraseIdx k) rows).length ≤ i := by
            have := List.length_filter_le (fun k => Mth.inAll (c.eraseIdx k) rows) (List.range i)
            rwa [List.length_range] at this
          cases e : Mth.inAll (c.eraseIdx i) rows with
          | true =>
            refine iteT ⟨_, rfl, acc, hacc7, Nat.lt_of_le_of_lt (by omega : acc.length ≤ 5) (by decide), same_mut S37 hG3, _, upd_same, ?_⟩
            rw [List.range_succ, List.filter_append, List.filter_cons_of_pos (by exact e), List.length_append, List.length_append, hal]; rfl
          | false =>
            refine iteF ⟨S37, acc, hacc7, ?_⟩
            rw [List.range_succ, List.filter_append, List.filter_cons_of_neg (by rw [e]; decide), List.length_append, hal]; rfl
        · obtain ⟨hS6, acc, hacc, hal⟩ := hP4
          have S24 := hS5.trans hS6
          have hv6 := encCl.tg (.of hS6) hv3
          have hL6 := hL5.same encCl hS6
          refine ⟨_, rfl, _, rfl, D, es, b, c, _, rfl, (hN.same S24).is, rfl, hv6, hval c hvc, _, rfl, ?_⟩
          have skip : goodC rows c = false → ∃ w u r, [some (V.ref a), some v2, some (.ref q1), y, z, some (.ref b), some (.ref D), some (.ref t3), some (.ref G3), r3] = [some (.ref a), some v2, some (.ref q1), y, z, w, some (.ref D), some (.ref t3), u, r] ∧ Same H2 H4 ∧ Ls K H4 t3 dCl ((dn ++ [c]).filter (goodC rows)) := fun e =>
            ⟨_, _, _, rfl, S24, by rw [List.filter_append, List.filter_cons_of_neg (by rw [e]; decide), List.filter_nil, List.append_nil]; exact hL6⟩
          cases e : Mth.inAll c rows with
          | false => exact iteF (iteF (skip (by unfold goodC; rw [e]; rfl)))
          | true =>
            refine iteT ⟨_, rfl, G3, acc, rfl, .inl (.inl (.inl hacc)), _, _, rfl, rfl, fun h0 => ⟨_, rfl, iteT ?_⟩, fun h0 => ⟨_, rfl, iteF (skip ?_)⟩⟩
            · have hz : acc.length = 0 := by have : (acc.length : Int) = 0 := h0; omega
              have hg : goodC rows c = true := by
                unfold goodC
                rw [e, Bool.true_and, List.all_eq_true]
                intro k hk
                rw [hal] at hz
                have := List.length_eq_zero_iff.mp hz
                cases e2 : Mth.inAll (c.eraseIdx k) rows with
                | false => rfl
                | true =>
                  have hm : k ∈ (List.range xs.length).filter fun k => Mth.inAll (c.eraseIdx k) rows := List.mem_filter.mpr ⟨by rw [lx]; exact hk, e2⟩
                  rw [this] at hm; cases hm
              obtain ⟨us, hte, hud⟩ := hL6
              have lu := allf_len hud
              have hfl := List.length_filter_le (goodC rows) dn
              have hdn := congrArg List.length he3
              rw [List.length_append, List.length_cons] at hdn
              refine ⟨_, rfl, tyL hte, _, rfl, t3, us, _, rfl, rfl, hte, Nat.lt_of_le_of_lt (by omega : us.length ≤ 243) (by decide), _, _, _, rfl, same_mut S24 ht3, ?_⟩
              rw [List.filter_append, List.filter_cons_of_pos hg]
              exact Ls.push encCl hte hud hv6
            · have hz : acc.length ≠ 0 := fun z => h0 (by rw [z]; rfl)
              cases eg : goodC rows c with
              | false => rfl
              | true =>
                unfold goodC at eg
                have h9 := List.all_eq_true.mp (Bool.and_eq_true_iff.mp eg).2
                exfalso
                apply hz
                rw [hal, List.length_eq_zero_iff, List.filter_eq_nil_iff]
                intro k hk e2
                have := h9 k (by rw [← lx]; exact hk)
                rw [e2] at this; cases this
      · obtain ⟨w3, u3, r3, rfl, hS5, hL5⟩ := hP3
        obtain ⟨us, hte, hud⟩ := hL5
        have ndF := ndC.sublist (List.filter_sublist (p := goodC rows))
        refine ⟨_, rfl, _, rfl, t3, us, (Mth.allC ns).filter (goodC rows), rfl, .inl (.inl hte), hud, fun h2 => ⟨alikes _, sortables (good_ne (fun c hc => (List.mem_filter.mp hc).2) ndF h2)⟩, fun L us' r' hpL hsL hr3 hda => ?_⟩
        have hn' : L.Nodup := hpL.nodup_iff.mpr ndF
        refine ⟨_, _, rfl, .lst (.inl (.inl upd_same)) (encCl.tgs (tg_new hr3) hda), encCl.pures _, fun v' H' hS' hd' => ⟨(by show 2 ≤ sizeLine; decide), fun t5 ht5 => ?_⟩⟩
        have S9 := (((hS.trans hS3).trans hS5).trans (same_new (o := .lst us') hr3)).trans hS'
        exact q L (srt_cls hsL hn') (fun c => by rw [hpL.mem_iff, goodC_iff hA]) _ _ (S9.trans (same_new ht5)) (mk_th (.inl (.inl upd_same)) (encNm.tg (.of (S9.trans (same_new ht5))) h1) (encCls.tg (tg_new ht5) hd'))
end
end Sh
end
section
namespace Sh
open PySem PySem.Spec L2
abbrev sIsInt : Stmt := top 37
theorem scIsInt : FnScope ["_law_value"] ["_law_value"] (defScope sIsInt) := ⟨rfl, rfl, rfl, by decide +kernel, rfl, by decide +kernel, by decide +kernel⟩
abbrev sEq : Stmt := top 38
theorem scEq : FnScope ["_law_actual", "_law_expected", "_law_k"] ["_law_actual", "_law_expected"] (defScope sEq) := ⟨rfl, rfl, rfl, by decide +kernel, rfl, by decide +kernel, by decide +kernel⟩
abbrev sRowOf : Stmt := top 51
theorem scRowOf : FnScope ["_law_names", "_law_found", "_law_name"] ["_law_names", "_law_found"] (defScope sRowOf) := ⟨rfl, rfl, rfl, by decide +kernel, rfl, by decide +kernel, by decide +kernel⟩
theorem isi_ {X : Cx} {e : Expr} {te : TE} {T : Str} {n : String} {p p2 pos : Pos} (hm : X.mg "isinstance" = none) (hmT : X.mg T = none) (he : PE X e te) (hv : bootBuiltins T = some (.type n) := by decide +kernel) (hg : Gl X "isinstance" := by rfl) (hgT : Gl X T := by rfl) (hn : T ≠ "__name__" := by decide) (hd : (T == ("__debug__" : Str)) = false := by decide)
    (hs : starEach [e, .Name T p2] X.env = (false, eval e X.env) :: starEach [.Name T p2] X.env := by rfl) (hs2 : starEach [.Name T p2] X.env = (false, eval (.Name T p2) X.env) :: starEach [] X.env := by rfl) (hpl : (backTo pos (starEach [.Name T p2] X.env)).any (·.1) = false := by rfl) :
    PE X (.Call (.Name "isinstance" p) [e, .Name T p2] [] pos) (tCB (rIsi X.K) (tCons te (tCons (tC (.ty n)) tNil))) :=
  pe_callB call_isi hg hm (by decide +kernel) (pa_cons he (pa_cons (pe_bltn (v := .ty n) hgT hmT hv rfl hn hd) pa_nil hs2) hs) (by decide) (by decide) hs hpl
mutual
def eqD : PyData → Bool
  | .tuple ds => decide (ds.length ≤ 1000) && eqDs ds
  | .str _ => true
  | .int _ => true
  | .none => false
  | .bool _ => false
  | .list _ => false
  | .dict _ => false
def eqDs : List PyData → Bool
  | [] => true
  | d :: ds => eqD d && eqDs ds
end
theorem eqDs_get : ∀ {ds : List PyData} {i : Nat} {d : PyData}, eqDs ds = true → ds[i]? = some d → eqD d = true
  | [], _, _, _, h => by simp at h
  | e :: ds, 0, d, h, g => by simp only [eqDs, Bool.and_eq_true] at h; simp at g; rw [← g]; exact h.1
  | e :: ds, i + 1, d, h, g => by simp only [eqDs, Bool.and_eq_true] at h; exact eqDs_get (i := i) h.2 (by simpa using g)
theorem dep_get : ∀ {ds : List PyData} {i : Nat} {d : PyData}, ds[i]? = some d → d.depth ≤ PyData.depthAll ds
  | [], _, _, h => by simp at h
  | e :: ds, 0, d, g => by simp at g; rw [← g, PyData.depthAll]; exact Nat.le_max_left _ _
  | e :: ds, i + 1, d, g => by rw [PyData.depthAll]; exact Nat.le_trans (dep_get (ds := ds) (i := i) (by simpa using g)) (Nat.le_max_right _ _)
theorem all_at {K : PySem.W.Frag} {H : Hp} : ∀ {ds : List PyData} {vs : List V} {i : Nat} {d : PyData}, DpAll K H vs ds → ds[i]? = some d → ∃ v, vs[i]? = some v ∧ Dp K H v d
  | [], _, _, _, _, e => by simp at e
  | x :: xs, _, 0, d, h, e => by
    cases h with
    | cons h1 h2 => simp at e; subst e; exact ⟨_, rfl, h1⟩
  | x :: xs, _, i + 1, d, h, e => by
    cases h with
    | cons h1 h2 => exact all_at (i := i) h2 (by simpa using e)
theorem ty_tup {K : PySem.W.Frag} {H : Hp} {a : Addr} {xs : List V} (h : SqT K H a xs) : TyX K H (.ref a) (.type "tuple") := by
  rcases h with (h | ⟨o, h⟩) | ⟨o, _, _, h, c, _⟩
  · exact .base (.tup h)
  · exact .fTuple h
  · exact .kTuple h c
section
variable {P : Program} {w : World} {K : PySem.W.Frag} {mg : Str → Option Value} {base : Heap} {C : Addr}
/-! ### _law_is_int -/
def spIsInt : Sp := fun vs H Q _ => ∃ i : Int, vs = [.int i] ∧ Q (.bl true) H
theorem ok_isint (T : At K mg "_law_is_int" sIsInt) (mI : mg "isinstance" = none) (mi : mg "int" = none) (mb : mg "bool" = none) : Def P w K mg base 1 "_law_is_int" ["_law_value"] spIsInt := by
  refine T.def scIsInt (fun vs H Q E h => ?_) (fun _ _ _ _ _ _ us hl => match us, hl with | [_], _ => rfl) (fun f cdv A outer s H vs Q E hr h => ?_)
  · obtain ⟨i, rfl, _⟩ := h; rfl
  obtain ⟨i, rfl, q⟩ := h
  refine ⟨_, pss_one (ps_ret (pe_and (isi_ (n := "int") mI mi (pv 0)) (pe_one (pe_not (isi_ (n := "bool") mI mb (pv 0)))))), ?_⟩
  exact ⟨_, rfl, _, _, _, _, true, rfl, .ty _, .base (.int i), kit_ty (by decide +kernel), _, rfl, iteT ⟨_, rfl, _, _, _, _, false, rfl, .ty _, .base (.int i), kit_ty (by decide +kernel), _, rfl, q⟩⟩
/-! ### _law_equal -/
def spEq (K : PySem.W.Frag) : Nat → Sp
  | 0 => fun _ _ _ _ => False
  | n + 1 => fun vs H Q _ => ∃ (v1 v2 : V) (d : PyData), vs = [v1, v2] ∧ Dp K H v1 d ∧ Dp K H v2 d ∧ d.depth ≤ n ∧ eqD d = true ∧ Q (.bl true) H
theorem ok_eq (T : At K mg "_law_equal" sEq) (mI : mg "isinstance" = none) (mt : mg "tuple" = none) (ms : mg "str" = none) (ml : mg "len" = none) (mr : mg "range" = none) (G0 : Def P w K mg base 1 "_law_is_int" ["_law_value"] spIsInt) : ∀ n, Def P w K mg base (n + 1) "_law_equal" ["_law_actual", "_law_expected"] (spEq K n) := by
  intro n
  induction n with
  | zero => exact T.def scEq (fun vs H Q E h => h.elim) (fun _ _ _ _ _ _ us hl => match us, hl with | [_, _], _ => rfl) (fun f cdv A outer s H vs Q E hr h => h.elim)
  | succ n G =>
    refine T.def scEq (fun vs H Q E h => ?_) (fun _ _ _ _ _ _ us hl => match us, hl with | [_, _], _ => rfl) (fun f cdv A outer s H vs Q E hr h => ?_)
    · obtain ⟨v1, v2, d, rfl, _⟩ := h; rfl
    obtain ⟨v1, v2, d, rfl, h1, h2, hz, he, q⟩ := h
    refine ⟨_, pss_cons (ps_if (pt_val (isi_ (n := "tuple") mI mt (pv 1))) (pss_cons (ps_if (PW.pt (pw_or (pt_not (pt_val (isi_ (n := "tuple") mI mt (pv 0)))) (pw_or1 (tC_ o_neI (len_ ml (pv 0)) (len_ ml (pv 1)))))) (pss_one (ps_ret pe_bl)) pss_nil)
        (pss_cons (for_ (pi_range1 (by rfl) mr (pa_cons (len_ ml (pv 1)) pa_nil)) (gn 2 scEq.nd) (pss_one (ps_if (pt_not (pt_val (call_ G hr (pa_cons (ixT (pv 0) (pv 2)) (pa_cons (ixT (pv 1) (pv 2)) pa_nil)) (hk := Nat.le_refl _)))) (pss_one (ps_ret pe_bl)) pss_nil))) (pss_one (ps_ret pe_bl)))) pss_nil)
      (pss_cons (ps_if (pt_val (isi_ (n := "str") mI ms (pv 1))) (pss_one (ps_ret (pe_and (isi_ (n := "str") mI ms (pv 0)) (pe_one (eC_ o_eqS (pv 0) (pv 1)))))) pss_nil)
      (pss_one (ps_ret (pe_and (call_ G0 hr (pa_cons (pv 0) pa_nil) (hk := Nat.succ_le_succ (Nat.zero_le _))) (pe_one (eC_ o_eqI (pv 0) (pv 1))))))), ?_⟩
    cases d with
    | none => cases he
    | bool b => cases he
    | list ds => cases he
    | dict ds => cases he
    | int i =>
      have e1 := dp_int h1
      have e2 := dp_int h2
      subst e1 e2
      exact ⟨_, rfl, _, _, _, _, false, rfl, .ty _, .base (.int i), kit_ty (by decide +kernel), _, rfl, iteF ⟨_, rfl, _, _, _, _, false, rfl, .ty _, .base (.int i), kit_ty (by decide +kernel), _, rfl, iteF ⟨_, rfl, i, rfl, _, rfl, iteT ⟨_, rfl, _, rfl, i, i, rfl, rfl, fun _ => q, fun h => absurd rfl h⟩⟩⟩⟩
    | str x =>
      have e1 := dp_str h1
      have e2 := dp_str h2
      subst e1 e2
      exact ⟨_, rfl, _, _, _, _, false, rfl, .ty _, .base (.str x), kit_ty (by decide +kernel), _, rfl, iteF ⟨_, rfl, _, _, _, _, true, rfl, .ty _, .base (.str x), kit_ty (by decide +kernel), _, rfl, iteT ⟨_, rfl, _, _, _, _, true, rfl, .ty _, .base (.str x), kit_ty (by decide +kernel), _, rfl, iteT ⟨_, rfl, _, rfl, x, x, rfl, rfl, fun _ => q, fun h => absurd rfl h⟩⟩⟩⟩
    | tuple ds =>
      obtain ⟨a1, xs1, rfl, hs1, ha1⟩ := dp_tup h1
      obtain ⟨a2, xs2, rfl, hs2, ha2⟩ := dp_tup h2
      have l1 := all_len ha1
      have l2 := all_len ha2
      simp only [eqD, Bool.and_eq_true, decide_eq_true_eq] at he
      simp only [PyData.depth] at hz
      refine ⟨_, rfl, _, _, _, _, true, rfl, .ty _, ty_tup hs2, kit_ty (by decide +kernel), _, rfl, iteT ⟨_, rfl, _, _, _, _, true, rfl, .ty _, ty_tup hs1, kit_ty (by decide +kernel), _, rfl, iteF ?_⟩⟩
      refine ⟨_, rfl, a1, xs1, rfl, .inr hs1, _, rfl, a2, xs2, rfl, .inr hs2, _, _, rfl, rfl, fun hne => absurd (by rw [l1, l2]) hne, fun _ => ⟨_, rfl, iteF ?_⟩⟩
      refine ⟨_, rfl, a2, xs2, rfl, .inr hs2, _, rfl, by omega, by omega, for_range (lo := 0) (n := xs2.length) (fun i σ H' => (∃ y, σ = [some (.ref a1), some (.ref a2), y]) ∧ H' = H) ⟨⟨_, rfl⟩, rfl⟩ (fun i σ H' hi hP => ?_) (fun σ H' hP => ?_)⟩
      · obtain ⟨⟨y, rfl⟩, rfl⟩ := hP
        have hid : i < ds.length := by omega
        have hg : ds[i]? = some ds[i] := List.getElem?_eq_getElem hid
        obtain ⟨u1, hu1, d1⟩ := all_at ha1 hg
        obtain ⟨u2, hu2, d2⟩ := all_at ha2 hg
        have hdp := dep_get hg
        have e0 : (0 : Int) + (i : Int) = (i : Int) := Int.zero_add _
        show (gName 2) (.int ((0 : Int) + (i : Int))) _ _ _
        rw [e0]
        refine ⟨_, rfl, _, rfl, a1, xs1, _, u1, rfl, rfl, hs1, atI_nat hu1, _, rfl, _, rfl, a2, xs2, _, u2, rfl, rfl, hs2, atI_nat hu2, ?_⟩
        cases n with
        | zero => omega
        | succ n => exact ⟨u1, u2, ds[i], rfl, d1, d2, by omega, eqDs_get he.2 hg, _, rfl, iteF ⟨⟨_, rfl⟩, rfl⟩⟩
      · obtain ⟨⟨y, rfl⟩, rfl⟩ := hP
        exact q
/-! ### _law_row_of -/
def spRowOf (K : PySem.W.Frag) : Sp := fun vs H Q _ => ∃ (v1 : V) (d : Addr) (ns : List Str) (a : Str → Bool), vs = [v1, .ref d] ∧ Dp K H v1 (dNm ns) ∧ H d = some (.dK (asg ns a)) ∧ Mth.Asc ns ∧ ns.length ≤ 5 ∧ Give K H (dCl (Mth.rowOf a ns)) Q
theorem eqv_list (ns ms : List Str) : PyData.eqv (.list (ns.map .str)) (.list (ms.map .str)) = decide (ns = ms) := by
  simp only [PyData.eqv]; exact encStr.eqvs ns ms
theorem ok_rowof (T : At K mg "_law_row_of" sRowOf) (mI : mg "isinstance" = none) (md : mg "dict" = none) (ms : mg "sorted" = none) (mL : mg "list" = none) (ml : mg "len" = none) (mt : mg "tuple" = none) (G : Def P w K mg base 1 "_law_is_int" ["_law_value"] spIsInt) : Def P w K mg base 2 "_law_row_of" ["_law_names", "_law_found"] (spRowOf K) := by
  refine T.def scRowOf (fun vs H Q E h => ?_) (fun _ _ _ _ _ _ us hl => match us, hl with | [_, _], _ => rfl) (fun f cdv A outer s H vs Q E hr h => ?_)
  · obtain ⟨v1, d, ns, a, rfl, _⟩ := h; rfl
  obtain ⟨v1, d, ns, a, rfl, h1, hd, hA, nl, q⟩ := h
  refine ⟨_, pss_cons (ps_if (PW.pt (pw_or (pt_not (pt_val (isi_ (n := "dict") mI md (pv 1)))) (pw_or1 (tC_ (op_neP (hu65 hr)) (sorted_ encStr (hu65 hr) ms (pe_callTy (call_listD (by rfl)) (by rfl) mL (by decide +kernel) (pa_cons (pv 1) pa_nil))) (list_ mL (pv 0)))))) (pss_one (ps_ret pe_non)) pss_nil)
    (pss_cons (ps_if (tC_ o_gt (len_ ml (pe_lc (own := [("_law_name", 2)]) (g := gName 2) (by rfl) scRowOf.nd (pi_tup (pv 0)) (blkOk_by (N := ["_law_names", "_law_found", "_law_name"]) (sc := defScope sRowOf) (by decide +kernel)) (fun _ _ _ _ _ => gn 2 scRowOf.nd)
        (fun _ _ _ _ _ => pts_one (pt_not (pt_val (call_ G hr (pa_cons (pe_dget (hu_of hr) (pv 1) (pv 2) (fun _ _ => rfl)) pa_nil))))) (fun _ _ _ _ _ => pv 2))) pe_int) (pss_one (ps_ret pe_non)) pss_nil)
    (pss_one (ps_ret (tup_ (by rfl) mt (pe_lc (own := [("_law_name", 2)]) (g := gName 2) (tt := tYes) (by rfl) scRowOf.nd (pi_tup (pv 0)) (blkOk_by (N := ["_law_names", "_law_found", "_law_name"]) (sc := defScope sRowOf) (by decide +kernel)) (fun _ _ _ _ _ => gn 2 scRowOf.nd)
        (fun _ _ _ _ _ => pts_nil) (fun _ _ _ _ _ => pe_tup (pa_cons (pv 2) (pa_cons (pe_dget (hu_of hr) (pv 1) (pv 2) (fun _ _ => rfl)) pa_nil)))))))), ?_⟩
  have nd : ns.Nodup := Mth.Srt.nodup hA
  obtain ⟨b, rfl, hb⟩ := dp_nm h1
  have keys : (asg ns a).map (fun kv => kV kv.1) = ns.map V.str := by unfold asg; rw [List.map_map]; rfl
  refine ⟨_, rfl, _, _, _, _, true, rfl, .ty _, .base (.dK hd), kit_ty (by decide +kernel), _, rfl, iteF ?_⟩
  refine ⟨_, rfl, d, asg ns a, rfl, .inl hd, fun p hp => ⟨p, _, ns, rfl, .inl (.inl upd_same), by rw [keys]; exact mk_strs ns, fun _ => ⟨alikes_str ns, sortables_str ns⟩, fun ys us r hperm hpw hr' hda => ?_⟩⟩
  have e : ys = ns := Mth.Srt.uniq (srt_strs hpw (hperm.nodup_iff.mpr nd)) hA (fun x => hperm.mem_iff)
  subst e
  have S1 := (same_new (o := .lst ((asg ys a).map fun kv => kV kv.1)) hp).trans (same_new (o := .lst us) hr')
  have hu : Dp K (upd (upd H p (.lst ((asg ys a).map fun kv => kV kv.1))) r (.lst us)) (.ref r) (.list (ys.map .str)) := .lst (.inl (.inl upd_same)) (encStr.tgs (tg_new hr') hda)
  generalize upd (upd H p (.lst ((asg ys a).map fun kv => kV kv.1))) r (.lst us) = H1 at S1 hu
  have hb1 := sqt_tg (.of S1) hb
  refine ⟨_, rfl, b, _, rfl, .inr hb1, fun l hl => ⟨.list (ys.map .str), .list (ys.map .str), ?_, .lst (.inl (.inl upd_same)) (mk_strs ys), ?_, ?_, ?_, _, rfl, ?_⟩⟩
  · cases hu with
    | lst hs ha => exact .lst ((same_new hl).seq hs) (encStr.tgs (tg_new hl) ha)
  · simp only [PyData.plain]; exact encStr.lays ys
  · simp only [PyData.plain]; exact encStr.lays ys
  · simp only [PyData.depth]; have : PyData.depthAll (ys.map PyData.str) ≤ 8 := encStr.deps ys; omega
  have S2 := S1.trans (same_new (o := .lst (ys.map V.str)) hl)
  have ef : (!PyData.eqv (.list (ys.map .str)) (.list (ys.map .str))) = false := by rw [eqv_list, decide_eq_true rfl]; rfl
  rw [ef]
  refine iteF ?_
  have hb2 := sqt_tg (.of S2) hb
  generalize upd H1 l (.lst (ys.map V.str)) = H2 at S2 hb2
  refine ⟨_, rfl, b, rfl, ⟨_, hb2⟩, fun D hD => lc_tupE encStr encStr (fun _ => false) id hD (by omega) hb2 (mk_strs ys) (fun n hn v H' yes no hS hv hy hno => ?_) (fun H3 hS3 hL3 => ?_)⟩
  · have := dp_str hv
    subst this
    exact ⟨rfl, _, rfl, _, rfl, d, _, rfl, DGet.asg ((S2.trans hS) _ _ hd) hn, _, rfl, _, rfl, iteF (hno rfl _ (.refl _))⟩
  · have ee : (ys.filter fun _ => false) = [] := List.filter_eq_nil_iff.mpr (fun _ _ h => by cases h)
    rw [ee] at hL3
    obtain ⟨ws, hDe, hwd⟩ := hL3
    have lw := allf_len hwd
    refine ⟨D, ws, rfl, .inl (.inl (.inl hDe)), _, _, rfl, rfl, fun hlt => absurd hlt (by rw [lw]; decide), fun _ => ⟨_, rfl, iteF ?_⟩⟩
    have S3 := S2.trans hS3
    have hb3 := sqt_tg (.of S3) hb
    refine ⟨_, rfl, b, rfl, ⟨_, hb3⟩, fun D2 hD2 => lc_tupE encStr encLit (fun _ => true) (fun n => (n, a n)) hD2 (by omega) hb3 (mk_strs ys) (fun n hn v H' yes no hS hv hy hno => ?_) (fun H4 hS4 hL4 => ?_)⟩
    · have := dp_str hv
      subst this
      exact ⟨rfl, iteT (B := no H') ⟨_, rfl, _, rfl, _, rfl, d, _, rfl, DGet.asg ((S3.trans hS) _ _ hd) hn, (by show 2 ≤ sizeLine; decide), fun t ht => hy rfl _ _ (same_new ht) (mk_lit (.inl (.inl upd_same)))⟩⟩
    · rw [List.filter_eq_self.mpr (fun _ _ => rfl)] at hL4
      exact ⟨_, _, rfl, hL4.dp, encLit.pures _, fun v H5 hS5 hd5 => q v H5 ((S3.trans hS4).trans hS5) hd5⟩
end
end Sh
end
section
namespace Sh
open PySem PySem.Spec L2
abbrev sParted : Stmt := top 52
theorem scParted : FnScope ["_law_kind", "_law_first", "_law_second_here", "_law_rows_here", "_law_clause_here", "_law_found", "_law_row", "_law_pinned", "_law_other", "_law_literal"] ["_law_kind", "_law_first", "_law_second_here", "_law_rows_here"] (defScope sParted) := ⟨rfl, rfl, rfl, by decide +kernel, rfl, by decide +kernel, by decide +kernel⟩
abbrev sCompared : Stmt := top 54
theorem scCompared : FnScope ["_law_kind", "_law_first", "_law_second_here", "_law_rows_here", "_law_others", "_law_inside", "_law_answer", "_law_clause_here", "_law_row"] ["_law_kind", "_law_first", "_law_second_here", "_law_rows_here", "_law_others"] (defScope sCompared) := ⟨rfl, rfl, rfl, by decide +kernel, rfl, by decide +kernel, by decide +kernel⟩
/-! ### plain facts -/
def pins (ns : List Str) (a : Str → Bool) : List Cl := ns.map fun n => [(n, a n)]
theorem hT_pins {ns : List Str} {a a' : Str → Bool} : Mth.hT a' (pins ns a) = true ↔ ∀ n ∈ ns, a' n = a n := by
  unfold pins
  rw [Mth.hT_iff]
  constructor
  · intro h n hn
    obtain ⟨l, hl, e⟩ := Mth.hC_iff.mp (h _ (List.mem_map.mpr ⟨n, hn, rfl⟩))
    rw [List.mem_singleton.mp hl] at e
    exact e
  · intro h c hc
    obtain ⟨n, hn, rfl⟩ := List.mem_map.mp hc
    exact Mth.hC_iff.mpr ⟨_, List.mem_singleton.mpr rfl, h n hn⟩
theorem hT_app {a : Str → Bool} {cs ds : List Cl} : Mth.hT a (cs ++ ds) = true ↔ Mth.hT a cs = true ∧ Mth.hT a ds = true := by
  unfold Mth.hT
  rw [List.all_append, Bool.and_eq_true]
theorem rowOf_congr {ns : List Str} {a a' : Str → Bool} (h : ∀ n ∈ ns, a' n = a n) : Mth.rowOf a' ns = Mth.rowOf a ns := by
  unfold Mth.rowOf
  exact List.map_congr_left fun n hn => by rw [h n hn]
theorem hC_congr {c : Cl} {ns : List Str} {a a' : Str → Bool} (hc : ∀ l ∈ c, l.1 ∈ ns) (h : ∀ n ∈ ns, a' n = a n) : Mth.hC a' c = Mth.hC a c := by
  rw [← Mth.hR_row hc, ← Mth.hR_row hc, rowOf_congr h]
theorem pins_row (ns : List Str) (a : Str → Bool) : (Mth.rowOf a ns).map (fun l => [l]) = pins ns a := by
  unfold Mth.rowOf pins; rw [List.map_map]; rfl
theorem vc_pin {ns : List Str} {a : Str → Bool} : ∀ c ∈ pins ns a, Mth.VC ns c := by
  intro c hc
  obtain ⟨n, hn, rfl⟩ := List.mem_map.mp hc
  exact vc_unit hn
theorem th_app {ns : List Str} {cs : List Cl} {a : Str → Bool} (h : Th ns cs) (hz : cs.length ≤ 200) : Th ns (cs ++ pins ns a) :=
  ⟨h.asc, h.len, fun c hc => by
    rcases List.mem_append.mp hc with q | q
    · exact h.vc c q
    · exact vc_pin c q, by
    have := h.len
    rw [List.length_append, pins, List.length_map]; omega⟩
/-- the first clause of the second theory that some row breaks -/
theorem broken {ns : List Str} {cs ds : List Cl} (h : Th ns cs) (k : Th ns ds) (hn : ¬ ∀ c ∈ ds, Mth.Fol cs c) : ∃ c L, ds.filter (fun c => !Mth.inAll c (Mth.sols ns cs)) = c :: L ∧ c ∈ ds ∧ ¬ Mth.Fol cs c := by
  have iff : ∀ c ∈ ds, (Mth.inAll c (Mth.sols ns cs) = true ↔ Mth.Fol cs c) := fun c hc => Mth.inAll_sols h.asc (fun d hd => (h.vc d hd).sub) (k.vc c hc).sub
  cases e : ds.filter (fun c => !Mth.inAll c (Mth.sols ns cs)) with
  | nil =>
    exfalso
    apply hn
    intro c hc
    rw [← iff c hc]
    have := List.filter_eq_nil_iff.mp e c hc
    simpa using this
  | cons c L =>
    have hm : c ∈ ds.filter (fun c => !Mth.inAll c (Mth.sols ns cs)) := by rw [e]; exact List.mem_cons_self
    obtain ⟨h1, h2⟩ := List.mem_filter.mp hm
    refine ⟨c, L, rfl, h1, fun q => ?_⟩
    rw [(iff c h1).mpr q] at h2
    cases h2
theorem eq_lit (l : Lit) : eqD (dLit l) = true := rfl
theorem eqDs_map {α : Type} {f : α → PyData} (h : ∀ x, eqD (f x) = true) : ∀ xs : List α, eqDs (xs.map f) = true
  | [] => rfl
  | x :: xs => by rw [List.map_cons, eqDs, h x, eqDs_map h xs]; rfl
theorem eqDs_mem {α : Type} {f : α → PyData} : ∀ xs : List α, (∀ x ∈ xs, eqD (f x) = true) → eqDs (xs.map f) = true
  | [], _ => rfl
  | x :: xs, h => by rw [List.map_cons, eqDs, h x List.mem_cons_self, eqDs_mem xs fun y hy => h y (List.mem_cons_of_mem _ hy)]; rfl
theorem eq_cl {c : Cl} (h : c.length ≤ 1000) : eqD (dCl c) = true := by
  simp only [dCl, eqD, Bool.and_eq_true, decide_eq_true_eq, List.length_map]
  exact ⟨h, eqDs_map eq_lit c⟩
theorem eq_th {ns : List Str} {cs : List Cl} (h1 : ns.length ≤ 5) (h2 : cs.length ≤ 1000) (h3 : ∀ c ∈ cs, c.length ≤ 1000) : eqD (dTh ns cs) = true := by
  have e1 : eqD (dNm ns) = true := by
    simp only [dNm, eqD, Bool.and_eq_true, decide_eq_true_eq, List.length_map]
    exact ⟨by omega, eqDs_map (f := PyData.str) (fun _ => rfl) ns⟩
  have e2 : eqD (dCls cs) = true := by
    simp only [dCls, eqD, Bool.and_eq_true, decide_eq_true_eq, List.length_map]
    exact ⟨h2, eqDs_mem cs fun c hc => eq_cl (h3 c hc)⟩
  simp only [dTh, eqD, eqDs, e1, e2]
  rfl
theorem dep_th (ns : List Str) (cs : List Cl) : (dTh ns cs).depth ≤ 4 := by
  have h1 : (dNm ns).depth ≤ 1 := by
    simp only [dNm, PyData.depth]
    have := dep_all (f := fun x : Str => PyData.str x) (k := 0) (fun _ => Nat.le_refl _) ns
    omega
  have h2 : (dCls cs).depth ≤ 3 := by
    simp only [dCls, PyData.depth]
    have := dep_all (f := dCl) (k := 2) dep_cl cs
    omega
  simp only [dTh, PyData.depth, PyData.depthAll]
  omega
theorem dp_list_same {K : PySem.W.Frag} {H H' : Hp} {v : V} {α : Type} [DecidableEq α] {f : α → PyData} {xs : List α} (E : Enc f) (s : Same H H') (h : Dp K H v (.list (xs.map f))) : Dp K H' v (.list (xs.map f)) := by
  cases h with
  | lst hs ha => exact .lst (s.seq hs) (E.tgs (.of s) ha)
theorem dp_list {K : PySem.W.Frag} {H : Hp} {v : V} {ds : List PyData} (h : Dp K H v (.list ds)) : ∃ a xs, v = .ref a ∧ SqL K H a xs ∧ DpAll K H xs ds := by
  cases h with
  | lst hs ha => exact ⟨_, _, rfl, hs, ha⟩
section
variable {P : Program} {w : World} {K : PySem.W.Frag} {mg : Str → Option Value} {base : Heap} {C : Addr}
theorem dp_thS {H H' : Hp} {v : V} {ns : List Str} {cs : List Cl} (s : Same H H') (h : Dp K H v (dTh ns cs)) : Dp K H' v (dTh ns cs) := dp_tg (.of s) _ _ (pure_th ns cs) h
/-! ### _law_parted -/
def spParted (K : PySem.W.Frag) (C : Addr) : Sp := fun vs H Q _ => ∃ (v0 v1 v2 v3 : V) (ns : List Str) (cs ds : List Cl), vs = [v0, v1, v2, v3] ∧ Kd C H v0 ∧ Dp K H v1 (dTh ns cs) ∧ Dp K H v2 (dTh ns ds) ∧ Th ns cs ∧ Th ns ds ∧ cs.length ≤ 200 ∧ ds.length ≤ 200 ∧
  Dp K H v3 (.list ((Mth.sols ns cs).map dCl)) ∧ (¬ ∀ c ∈ ds, Mth.Fol cs c) ∧ ∀ H', Same H H' → Q (.bl true) H'
theorem ok_parted (T : At K mg "_law_parted" sParted) (mt : mg "tuple" = none) (cl : Cls K C) (G1 : Def P w K mg base 2 "_law_in_all" ["_law_clause_here", "_law_rows_here"] (spInAll K)) (G2 : MDef P w K mg base C 5 "certificate" ["self", "theory", "constraint"] (spBCert K))
    (G3 : MDef P w K mg base C 7 "counterexample" ["self", "theory", "constraint"] (spBCounter K C)) (G4 : Def P w K mg base 2 "_law_row_of" ["_law_names", "_law_found"] (spRowOf K)) (G5 : Def P w K mg base 1 "_law_holds" ["_law_clause_here", "_law_row"] (spLHolds K))
    (G6 : MDef P w K mg base C 1 "pin" ["self", "names", "assignment"] (spBPin K)) (G7 : Def P w K mg base 6 "_law_equal" ["_law_actual", "_law_expected"] (spEq K 5)) (G8 : Def P w K mg base 6 "solve" ["kind", "theory"] (spSolve K C)) (G9 : Def P w K mg base 2 "join" ["theories"] (spJoin K)) :
    Def P w K mg base 8 "_law_parted" ["_law_kind", "_law_first", "_law_second_here", "_law_rows_here"] (spParted K C) := by
  refine T.def scParted (fun vs H Q E h => ?_) (fun _ _ _ _ _ _ us hl => match us, hl with | [_, _, _, _], _ => rfl) (fun f cdv A outer s H vs Q E hr h => ?_)
  · obtain ⟨v0, v1, v2, v3, ns, cs, ds, rfl, _⟩ := h; rfl
  obtain ⟨v0, v1, v2, v3, ns, cs, ds, rfl, hK, h1, h2, hT1, hT2, z1, z2, h3, hnf, q⟩ := h
  obtain ⟨kp, kx, rfl, hk⟩ := id hK
  refine ⟨_, pss_cons (st_ 4 scParted.nd (pe_ix ix_list (pe_lc (own := [("_law_other", 8)]) (g := gName 8) (by rfl) scParted.nd (pi_tup (ixT (pv 2) pe_int)) (blkOk_by (N := ["_law_kind", "_law_first", "_law_second_here", "_law_rows_here", "_law_clause_here", "_law_found", "_law_row", "_law_pinned", "_law_other", "_law_literal"]) (sc := defScope sParted) (by decide +kernel)) (fun _ _ _ _ _ => gn 8 scParted.nd)
      (fun _ _ _ _ _ => pts_one (pt_not (pt_val (call_ G1 hr (pa_cons (pv 8) (pa_cons (pv 3) pa_nil)))))) (fun _ _ _ _ _ => pv 8)) pe_int (fun _ _ => rfl)))
    (pss_cons (ps_if (tC_ o_notN (meth_ cl G2 hr (pv 0) (pa_cons (pv 1) (pa_cons (pv 4) pa_nil))) pe_non) (pss_one (ps_ret pe_bl)) pss_nil)
    (pss_cons (st_ 5 scParted.nd (meth_ cl G3 hr (pv 0) (pa_cons (pv 1) (pa_cons (pv 4) pa_nil))))
    (pss_cons (st_ 6 scParted.nd (call_ G4 hr (pa_cons (ixT (pv 1) pe_int) (pa_cons (pv 5) pa_nil))))
    (pss_cons (ps_if (PW.pt (pw_or (tC_ o_isN (pv 6) pe_non) (pw_or (notIn_ encCl (hu65 hr) (pv 6) (pv 3)) (pw_or1 (pt_val (call_ G5 hr (pa_cons (pv 4) (pa_cons (pv 6) pa_nil)))))))) (pss_one (ps_ret pe_bl)) pss_nil)
    (pss_cons (st_ 7 scParted.nd (meth_ cl G6 hr (pv 0) (pa_cons (ixT (pv 1) pe_int) (pa_cons (pv 5) pa_nil))))
    (pss_cons (ps_if (pt_not (pt_val (call_ G7 hr (pa_cons (pv 7) (pa_cons (pe_tup (pa_cons (ixT (pv 1) pe_int) (pa_cons (tup_ (by rfl) mt (pe_lc (own := [("_law_literal", 9)]) (g := gName 9) (tt := tYes) (by rfl) scParted.nd (pi_tup (pv 6)) (blkOk_by (N := ["_law_kind", "_law_first", "_law_second_here", "_law_rows_here", "_law_clause_here", "_law_found", "_law_row", "_law_pinned", "_law_other", "_law_literal"]) (sc := defScope sParted) (by decide +kernel)) (fun _ _ _ _ _ => gn 9 scParted.nd)
        (fun _ _ _ _ _ => pts_nil) (fun _ _ _ _ _ => pe_tup (pa_cons (pv 9) pa_nil)))) pa_nil))) pa_nil))))) (pss_one (ps_ret pe_bl)) pss_nil)
    (pss_cons (ps_if (tC_ (op_neP (hu65 hr)) (call_ G4 hr (pa_cons (ixT (pv 1) pe_int) (pa_cons (call_ G8 hr (pa_cons (pv 0) (pa_cons (call_ G9 hr (pa_cons (pe_lst (pa_cons (pv 1) (pa_cons (pv 7) pa_nil))) pa_nil)) pa_nil))) pa_nil))) (pv 6)) (pss_one (ps_ret pe_bl)) pss_nil)
    (pss_one (ps_ret (eC_ o_isN (call_ G8 hr (pa_cons (pv 0) (pa_cons (call_ G9 hr (pa_cons (pe_lst (pa_cons (pv 2) (pa_cons (pv 7) pa_nil))) pa_nil)) pa_nil))) pe_non)))))))))), ?_⟩
  obtain ⟨p1, n1, c1, rfl, hs1, hn1, hc1⟩ := dp_th h1
  obtain ⟨p2, n2, c2, rfl, hs2, hn2, hc2⟩ := dp_th h2
  obtain ⟨b2', xs2, rfl, hx2, ha2⟩ := dp_tup hc2
  obtain ⟨c, L, hfil, hcd, hnc⟩ := broken hT1 hT2 hnf
  have hvc := hT2.vc c hcd
  refine ⟨_, rfl, p2, _, _, _, rfl, rfl, hs2, at1, b2', rfl, ⟨xs2, hx2⟩, fun D hD => lc_tupE encCl encCl (fun c => !Mth.inAll c (Mth.sols ns cs)) id hD (by omega) hx2 ha2 (fun d _ v H' yes no hS hv hy hn => ?_) (fun H1 hS1 hL1 => ?_)⟩
  · refine ⟨rfl, _, rfl, _, rfl, v, _, d, _, rfl, hv, dp_list_same encCl hS h3, _, rfl, ?_⟩
    cases e : Mth.inAll d (Mth.sols ns cs) with
    | true => exact iteF (hn (by show (!Mth.inAll d (Mth.sols ns cs)) = false; rw [e]; rfl) _ (.refl _))
    | false => exact iteT ⟨_, rfl, hy (by show (!Mth.inAll d (Mth.sols ns cs)) = true; rw [e]; rfl) _ _ (.refl _) hv⟩
  rw [List.map_id, hfil] at hL1
  obtain ⟨ws, hDe, hwd⟩ := hL1
  obtain ⟨vc, hvc0, hdc⟩ := all_get' (i := 0) hwd rfl
  refine ⟨D, ws, _, vc, rfl, rfl, .inl (.inl hDe), atI_nat (j := 0) hvc0, ?_⟩
  refine ⟨_, rfl, kp, kx, _, rfl, hS1 _ _ hk, rfl, _, rfl, _, rfl, _, _, _, ns, cs, c, rfl, dp_thS hS1 h1, hdc, hT1, hvc, fun _ H2 hS2 => ?_, fun hf => absurd hf hnc⟩
  refine ⟨rfl, fun _ => ⟨_, rfl, iteF ?_⟩, fun e => absurd rfl e⟩
  have S2 := hS1.trans hS2
  refine ⟨_, rfl, kp, kx, _, rfl, S2 _ _ hk, rfl, _, rfl, _, rfl, _, _, _, ns, cs, c, rfl, Kd.same S2 hK, dp_thS S2 h1, hT1, z1, encCl.tg (.of hS2) hdc, hvc, fun hf => absurd hf hnc, fun a p H3 hta hca hS3 hp3 => ?_⟩
  have S3 := S2.trans hS3
  refine ⟨_, rfl, p1, _, _, _, rfl, rfl, sqt_tg (.of S3) hs1, at0, _, rfl, _, p, ns, a, rfl, encNm.tg (.of S3) hn1, hp3, hT1.asc, hT1.len, fun vr H4 hS4 hdr => ?_⟩
  have S4 := S3.trans hS4
  have hrow : Mth.rowOf a ns ∈ Mth.sols ns cs := (Mth.mem_sols hT1.asc (fun d hd => (hT1.vc d hd).sub)).mpr ⟨a, rfl, hta⟩
  have hRow : Mth.hR c (Mth.rowOf a ns) = false := by rw [Mth.hR_row hvc.sub]; exact hca
  refine ⟨_, rfl, rfl, (fun e => by subst e; cases hdr), fun _ => ⟨_, rfl, iteF ?_⟩⟩
  have hdc4 := encCl.tg (.of (hS2.trans (hS3.trans hS4))) hdc
  refine ⟨_, rfl, _, rfl, Mth.rowOf a ns, Mth.sols ns cs, hdr, .inr (dp_list_same encCl S4 h3), fun _ => ⟨_, rfl, iteF ?_⟩, fun e => absurd hrow e⟩
  refine ⟨_, rfl, _, rfl, _, _, c, Mth.rowOf a ns, rfl, hdc4, hdr, _, rfl, ?_⟩
  rw [hRow]
  refine iteF ?_
  have hp4 := hS4 _ _ hp3
  refine ⟨_, rfl, kp, kx, _, rfl, S4 _ _ hk, rfl, _, rfl, p1, _, _, _, rfl, rfl, sqt_tg (.of S4) hs1, at0, _, rfl, _, _, p, ns, a, rfl, encNm.tg (.of S4) hn1, hp4, by have := hT1.len; omega, fun vp H5 hS5 hdp => ?_⟩
  have S5 := S4.trans hS5
  have hdr5 := encCl.tg (.of hS5) hdr
  obtain ⟨br, xr, rfl, hxr, har⟩ := dp_tup hdr5
  have hpl : ns.length ≤ 5 := hT1.len
  have hrl : (Mth.rowOf a ns).length = ns.length := by simp [Mth.rowOf]
  refine ⟨_, rfl, _, rfl, p1, _, _, _, rfl, rfl, sqt_tg (.of S5) hs1, at0, _, rfl, br, rfl, ⟨xr, hxr⟩, fun D5 hD5 => lc_tupE encLit encCl (fun _ => true) (fun l => [l]) hD5 (by omega) hxr har (fun l _ v H' yes no hS hv hy hn => ?_) (fun H6 hS6 hL6 => ?_)⟩
  · exact ⟨rfl, iteT (B := no H') ⟨_, rfl, (by show 1 ≤ sizeLine; decide), fun t ht => hy rfl _ _ (same_new ht) (.tup (.inl (.inl upd_same)) (.cons (encLit.tg (tg_new ht) hv) .nil))⟩⟩
  rw [List.filter_eq_self.mpr (fun _ _ => rfl), pins_row] at hL6
  refine ⟨_, _, rfl, hL6.dp, encCl.pures _, fun vt H7 hS7 hd7 => ⟨(by show 2 ≤ sizeLine; decide), fun t ht => ?_⟩⟩
  have S57 := (hS6.trans hS7).trans (same_new (o := .tup [n1, vt]) ht)
  have S7 := S5.trans S57
  have hd8 : Dp K (upd H7 t (.tup [n1, vt])) (.ref t) (dTh ns (pins ns a)) := mk_th (.inl (.inl upd_same)) (encNm.tg (.of S7) hn1) (encCls.tg (tg_new ht) hd7)
  have hdp7 : Dp K (upd H7 t (.tup [n1, vt])) vp (dTh ns (pins ns a)) := dp_thS S57 hdp
  have hp7 := S57 _ _ (hS5 _ _ hp4)
  have hdr7 := encCl.tg (.of S57) hdr5
  generalize upd H7 t (.tup [n1, vt]) = H8 at S7 hd8 hdp7 hp7 hdr7
  have hpn : (pins ns a).length = ns.length := by unfold pins; rw [List.length_map]
  refine ⟨vp, .ref t, dTh ns (pins ns a), rfl, hdp7, hd8, dep_th _ _, eq_th hpl (by omega) (fun c hc => by obtain ⟨n, _, rfl⟩ := List.mem_map.mp hc; show (1 : Nat) ≤ 1000; decide), _, rfl, iteF ?_⟩
  refine ⟨_, rfl, p1, _, _, _, rfl, rfl, sqt_tg (.of S7) hs1, at0, _, rfl, _, rfl, _, rfl, (by show 2 ≤ sizeLine; decide), fun l hl => ?_⟩
  have S9 := S7.trans (same_new (o := .lst [.ref p1, vp]) hl)
  have hll : Dp K (upd H8 l (.lst [.ref p1, vp])) (.ref l) (.list [dTh ns cs, dTh ns (pins ns a)]) := .lst (.inl (.inl upd_same)) (.cons (dp_thS S9 h1) (.cons (dp_thS (same_new hl) hdp7) .nil))
  have hdp9 := dp_thS (same_new (o := .lst [.ref p1, vp]) hl) hdp7
  have hdr9 := encCl.tg (tg_new (o := .lst [.ref p1, vp]) hl) hdr7
  generalize upd H8 l (.lst [.ref p1, vp]) = H9 at S9 hll hdp9 hdr9
  refine ⟨_, ns, cs, pins ns a, rfl, hll, hT1.asc, hT1.len, by omega, by omega, fun vj H10 hS10 hdj => ?_⟩
  have S10 := S9.trans hS10
  refine ⟨_, _, ns, cs ++ pins ns a, rfl, Kd.same S10 hK, hdj, th_app hT1 z1, fun hun => ?_, fun a' p' H11 hta' hS11 hp11 => ?_⟩
  · have := hun a
    rw [hT_app.mpr ⟨hta, hT_pins.mpr fun _ _ => rfl⟩] at this
    cases this
  have S11 := S10.trans hS11
  have hag := hT_pins.mp (hT_app.mp hta').2
  refine ⟨_, p', ns, a', rfl, encNm.tg (.of S11) hn1, hp11, hT1.asc, hT1.len, fun v12 H12 hS12 hd12 => ?_⟩
  rw [rowOf_congr hag] at hd12
  have S912 := (hS10.trans hS11).trans hS12
  have S12 := S9.trans S912
  refine ⟨_, rfl, dCl (Mth.rowOf a ns), dCl (Mth.rowOf a ns), hd12, encCl.tg (.of S912) hdr9, encCl.lay _, encCl.lay _, Nat.le_trans (encCl.dep _) (by decide), ?_⟩
  rw [show (!PyData.eqv (dCl (Mth.rowOf a ns)) (dCl (Mth.rowOf a ns))) = false from by rw [encCl.eqv, decide_eq_true rfl]; rfl]
  refine ⟨_, rfl, iteF ?_⟩
  have hdp12 := dp_thS S912 hdp9
  refine ⟨_, rfl, _, rfl, _, rfl, (by show 2 ≤ sizeLine; decide), fun l2 hl2 => ?_⟩
  have S13 := S12.trans (same_new (o := .lst [.ref p2, vp]) hl2)
  have hll2 : Dp K (upd H12 l2 (.lst [.ref p2, vp])) (.ref l2) (.list [dTh ns ds, dTh ns (pins ns a)]) := .lst (.inl (.inl upd_same)) (.cons (dp_thS S13 h2) (.cons (dp_thS (same_new hl2) hdp12) .nil))
  generalize upd H12 l2 (.lst [.ref p2, vp]) = H13 at S13 hll2
  refine ⟨_, ns, ds, pins ns a, rfl, hll2, hT1.asc, hT1.len, by omega, by omega, fun vj2 H14 hS14 hdj2 => ?_⟩
  have S14 := S13.trans hS14
  refine ⟨_, _, ns, ds ++ pins ns a, rfl, Kd.same S14 hK, hdj2, th_app hT2 z2, fun _ H15 hS15 => ⟨rfl, fun _ => q _ (S14.trans hS15), fun e => absurd rfl e⟩, fun a' p' H15 hta' _ _ => ?_⟩
  exfalso
  obtain ⟨k1, k2⟩ := hT_app.mp hta'
  have := Mth.hT_iff.mp k1 c hcd
  rw [hC_congr hvc.sub (hT_pins.mp k2), hca] at this
  cases this
/-! ### _law_compared -/
def spCompared (K : PySem.W.Frag) (C : Addr) : Sp := fun vs H Q _ => ∃ (v0 v1 v2 v3 v4 : V) (ns : List Str) (cs ds : List Cl), vs = [v0, v1, v2, v3, v4] ∧ Kd C H v0 ∧ Dp K H v1 (dTh ns cs) ∧ Dp K H v2 (dTh ns ds) ∧ Th ns cs ∧ Th ns ds ∧ cs.length ≤ 200 ∧ ds.length ≤ 200 ∧
  Dp K H v3 (.list ((Mth.sols ns cs).map dCl)) ∧ Dp K H v4 (.list ((Mth.sols ns ds).map dCl)) ∧ ∀ H', Same H H' → Q (.bl true) H'
theorem sols_len {ns : List Str} {cs : List Cl} (h : ns.length ≤ 5) : (Mth.sols ns cs).length ≤ 32 := by
  have := List.length_filter_le (fun r => cs.all fun c => Mth.hR c r) (Mth.rowsL ns)
  rw [Mth.rowsL_len] at this
  exact Nat.le_trans this (pow2 h)
theorem inside_iff {ns : List Str} {cs ds : List Cl} (h : Th ns cs) (k : Th ns ds) : ((Mth.sols ns cs).filter fun r => !decide (r ∈ Mth.sols ns ds)) = [] ↔ ∀ c ∈ ds, Mth.Fol cs c := by
  have mc := fun r => Mth.mem_sols h.asc (fun d hd => (h.vc d hd).sub) (r := r)
  have md := fun r => Mth.mem_sols h.asc (fun d hd => (k.vc d hd).sub) (r := r)
  rw [List.filter_eq_nil_iff]
  constructor
  · intro f c hc a ha
    have hr := f _ ((mc _).mpr ⟨a, rfl, ha⟩)
    have hr : Mth.rowOf a ns ∈ Mth.sols ns ds := by simpa using hr
    obtain ⟨a', e, ha'⟩ := (md _).mp hr
    have := Mth.hT_iff.mp ha' c hc
    rw [← Mth.hR_row (k.vc c hc).sub (a := a'), ← e, Mth.hR_row (k.vc c hc).sub] at this
    exact this
  · intro f r hr
    obtain ⟨a, rfl, ha⟩ := (mc _).mp hr
    have : Mth.rowOf a ns ∈ Mth.sols ns ds := (md _).mpr ⟨a, rfl, Mth.hT_iff.mpr fun c hc => f c hc a ha⟩
    simpa using this
theorem o_neB {X : Cx} : OpR X (compareOp .NotEq) (fun x y H Q => ∃ i j : Bool, x = .bl i ∧ y = .bl j ∧ Q (.bl (i != j)) H) := opImp (fun x y H Q ⟨i, j, e1, e2, h1⟩ => by
  subst e1 e2; exact ⟨rfl, by
    have e : (!decide (V.bl i = V.bl j)) = (i != j) := by cases i <;> cases j <;> rfl
    rw [e]; exact h1⟩) op_ne
theorem ok_compared (T : At K mg "_law_compared" sCompared) (ml : mg "len" = none) (mI : mg "isinstance" = none) (mb : mg "bool" = none) (cl : Cls K C) (G1 : Def P w K mg base 7 "implies" ["kind", "first", "second"] (spImplies K C))
    (G2 : Def P w K mg base 8 "_law_parted" ["_law_kind", "_law_first", "_law_second_here", "_law_rows_here"] (spParted K C)) (G3 : MDef P w K mg base C 7 "counterexample" ["self", "theory", "constraint"] (spBCounter K C)) :
    Def P w K mg base 9 "_law_compared" ["_law_kind", "_law_first", "_law_second_here", "_law_rows_here", "_law_others"] (spCompared K C) := by
  refine T.def scCompared (fun vs H Q E h => ?_) (fun _ _ _ _ _ _ us hl => match us, hl with | [_, _, _, _, _], _ => rfl) (fun f cdv A outer s H vs Q E hr h => ?_)
  · obtain ⟨v0, v1, v2, v3, v4, ns, cs, ds, rfl, _⟩ := h; rfl
  obtain ⟨v0, v1, v2, v3, v4, ns, cs, ds, rfl, hK, h1, h2, hT1, hT2, z1, z2, h3, h4, q⟩ := h
  obtain ⟨kp, kx, rfl, hk⟩ := id hK
  refine ⟨_, pss_cons (st_ 5 scCompared.nd (eC_ o_eqI (len_ ml (pe_lc (own := [("_law_row", 8)]) (g := gName 8) (by rfl) scCompared.nd (pi_list (pv 3)) (blkOk_by (N := ["_law_kind", "_law_first", "_law_second_here", "_law_rows_here", "_law_others", "_law_inside", "_law_answer", "_law_clause_here", "_law_row"]) (sc := defScope sCompared) (by decide +kernel)) (fun _ _ _ _ _ => gn 8 scCompared.nd)
      (fun _ _ _ _ _ => pts_one (notInK K encCl (hu65 hr) (pv 8) (pv 4))) (fun _ _ _ _ _ => pv 8))) pe_int))
    (pss_cons (st_ 6 scCompared.nd (call_ G1 hr (pa_cons (pv 0) (pa_cons (pv 1) (pa_cons (pv 2) pa_nil)))))
    (pss_cons (ps_if (PW.pt (pw_or (pt_not (pt_val (isi_ (n := "bool") mI mb (pv 6)))) (pw_or1 (tC_ o_neB (pv 6) (pv 5))))) (pss_one (ps_ret pe_bl)) pss_nil)
    (pss_cons (ps_if (pt_not (pt_val (pv 5))) (pss_one (ps_ret (call_ G2 hr (pa_cons (pv 0) (pa_cons (pv 1) (pa_cons (pv 2) (pa_cons (pv 3) pa_nil))))))) pss_nil)
    (pss_cons (for_ (pi_tup (ixT (pv 2) pe_int)) (gn 7 scCompared.nd) (pss_one (ps_if (tC_ o_notN (meth_ cl G3 hr (pv 0) (pa_cons (pv 1) (pa_cons (pv 7) pa_nil))) pe_non) (pss_one (ps_ret pe_bl)) pss_nil)))
    (pss_one (ps_ret pe_bl)))))), ?_⟩
  obtain ⟨p2, n2, c2, rfl, hs2, hn2, hc2⟩ := dp_th h2
  obtain ⟨b2', xs2, rfl, hx2, ha2⟩ := dp_tup hc2
  obtain ⟨a3, xs3, rfl, hs3, ha3⟩ := dp_list h3
  have hsl := sols_len (cs := cs) hT1.len
  refine ⟨_, rfl, a3, rfl, ⟨xs3, hs3⟩, fun D hD => lc_listE encCl encCl (fun r => !decide (r ∈ Mth.sols ns ds)) id hD (by omega) hs3 ha3 (fun r _ v H' yes no hS hv hy hn => ?_) (fun H1 hS1 hL1 => ?_)⟩
  · refine ⟨rfl, _, rfl, _, rfl, r, Mth.sols ns ds, hv, .inr (dp_list_same encCl hS h4), fun hin => ⟨_, rfl, iteF (hn ?_ _ (.refl _))⟩, fun hin => ⟨_, rfl, iteT ⟨_, rfl, hy ?_ _ _ (.refl _) hv⟩⟩⟩
    · show (!decide (r ∈ Mth.sols ns ds)) = false
      rw [decide_eq_true hin]; rfl
    · show (!decide (r ∈ Mth.sols ns ds)) = true
      rw [decide_eq_false hin]; rfl
  rw [List.map_id] at hL1
  obtain ⟨ws, hDe, hwd⟩ := hL1
  have lw := allf_len hwd
  have key := inside_iff hT1 hT2
  have nil_iff : ((ws.length : Nat) : Int) = 0 ↔ ∀ c ∈ ds, Mth.Fol cs c := by
    rw [← key, ← List.length_eq_zero_iff, ← lw]; omega
  refine ⟨D, ws, rfl, .inl (.inl (.inl hDe)), _, _, rfl, rfl, fun h0 => ?_, fun h0 => ?_⟩
  · have hall := nil_iff.mp h0
    refine ⟨_, rfl, _, rfl, _, rfl, _, _, _, ns, cs, ds, rfl, Kd.same hS1 hK, dp_thS hS1 h1, dp_thS hS1 h2, hT1, hT2, fun hf => absurd hall hf, fun _ H2 hS2 => ?_⟩
    have S2 := hS1.trans hS2
    refine ⟨_, rfl, _, _, _, _, true, rfl, .ty _, .base (.bl true), kit_ty (by decide +kernel), _, rfl, iteF ⟨_, rfl, _, rfl, true, true, rfl, rfl, _, rfl, iteF ?_⟩⟩
    refine ⟨_, rfl, _, rfl, iteF ?_⟩
    refine ⟨_, rfl, p2, _, _, _, rfl, rfl, sqt_tg (.of S2) hs2, at1, b2', rfl, ⟨xs2, sqt_tg (.of S2) hx2⟩, for_tupE (H0 := H) encCl (fun done σ H' => (∃ y z, σ = [some (.ref kp), some v1, some (.ref p2), some (.ref a3), some v4, some (.bl true), some (.bl true), y, z]) ∧ Same H H') hx2 ha2 ⟨⟨_, _, rfl⟩, S2⟩ (fun _ _ _ h => .of h.2) (fun done c rest v σ H' he hP hv => ?_) (fun σ H' hP => ?_)⟩
    · obtain ⟨⟨y, z, rfl⟩, hS⟩ := hP
      have hcd : c ∈ ds := by rw [he]; exact List.mem_append_right _ List.mem_cons_self
      refine ⟨_, rfl, kp, kx, _, rfl, hS _ _ hk, rfl, _, rfl, _, rfl, _, _, _, ns, cs, c, rfl, Kd.same hS hK, dp_thS hS h1, hT1, z1, hv, hT2.vc c hcd, fun _ H3 hS3 => ⟨rfl, fun _ => ⟨_, rfl, iteF ⟨⟨_, _, rfl⟩, hS.trans hS3⟩⟩, fun e => absurd rfl e⟩, fun a p H3 hta hca _ _ => ?_⟩
      have := hall c hcd a hta
      rw [this] at hca; cases hca
    · obtain ⟨⟨y, z, rfl⟩, hS⟩ := hP
      exact q _ hS
  · have hnf : ¬ ∀ c ∈ ds, Mth.Fol cs c := fun h => h0 (nil_iff.mpr h)
    refine ⟨_, rfl, _, rfl, _, rfl, _, _, _, ns, cs, ds, rfl, Kd.same hS1 hK, dp_thS hS1 h1, dp_thS hS1 h2, hT1, hT2, fun _ H2 hS2 => ?_, fun hf => absurd hf hnf⟩
    have S2 := hS1.trans hS2
    refine ⟨_, rfl, _, _, _, _, true, rfl, .ty _, .base (.bl false), kit_ty (by decide +kernel), _, rfl, iteF ⟨_, rfl, _, rfl, false, false, rfl, rfl, _, rfl, iteF ?_⟩⟩
    refine ⟨_, rfl, _, rfl, iteT ?_⟩
    exact ⟨_, rfl, _, rfl, _, rfl, _, rfl, _, _, _, _, ns, cs, ds, rfl, Kd.same S2 hK, dp_thS S2 h1, dp_thS S2 h2, hT1, hT2, z1, z2, dp_list_same encCl S2 h3, hnf, fun H3 hS3 => q _ (S2.trans hS3)⟩
end
end Sh
end
section
namespace Sh
open PySem PySem.Spec L2
abbrev sShadows : Stmt := top 53
theorem scShadows : FnScope ["_law_kind", "_law_theory", "_law_rows_here", "_law_seen", "_law_due", "_law_hidden", "_law_order", "_law_left", "_law_name"] ["_law_kind", "_law_theory", "_law_rows_here", "_law_seen"] (defScope sShadows) := ⟨rfl, rfl, rfl, by decide +kernel, rfl, by decide +kernel, by decide +kernel⟩
/-! ### plain facts -/
theorem filter_seen {ns seen : List Str} {p : Str → Bool} (hA : Mth.Asc ns) (hS : Mth.Asc seen) (h : ∀ x ∈ ns, p x = true ↔ x ∈ seen) (sub : ∀ x ∈ seen, x ∈ ns) : ns.filter p = seen := by
  refine Mth.Srt.uniq (List.Pairwise.filter _ hA) hS fun x => ?_
  rw [List.mem_filter]
  exact ⟨fun ⟨a, b⟩ => (h x a).mp b, fun a => ⟨sub x a, (h x (sub x a)).mpr a⟩⟩
theorem hR_small {c r : Cl} {seen : List Str} (h : ∀ l ∈ c, l.1 ∈ seen) : Mth.hR c (small seen r) = Mth.hR c r := by
  rw [Bool.eq_iff_iff, Mth.hR_iff, Mth.hR_iff]
  constructor
  · rintro ⟨l, hl, q⟩; exact ⟨l, hl, (List.mem_filter.mp q).1⟩
  · rintro ⟨l, hl, q⟩; exact ⟨l, hl, List.mem_filter.mpr ⟨q, decide_eq_true (h l hl)⟩⟩
theorem inAll_small {c : Cl} {seen : List Str} {rows F : List Cl} (hF : ∀ r, r ∈ F ↔ ∃ row ∈ rows, r = small seen row) (h : ∀ l ∈ c, l.1 ∈ seen) : Mth.inAll c F = Mth.inAll c rows := by
  unfold Mth.inAll
  rw [Bool.eq_iff_iff, List.all_eq_true, List.all_eq_true]
  constructor
  · intro f r hr
    have := f _ ((hF _).mpr ⟨r, hr, rfl⟩)
    rwa [hR_small h] at this
  · intro f r hr
    obtain ⟨row, h1, rfl⟩ := (hF r).mp hr
    rw [hR_small h]
    exact f row h1
theorem prime_small {ns seen : List Str} {cs F : List Cl} (hT : Th ns cs) (sub : ∀ x ∈ seen, x ∈ ns) (hF : ∀ r, r ∈ F ↔ ∃ row ∈ Mth.sols ns cs, r = small seen row) {c : Cl} :
    Mth.IsPr (fun c => Mth.inAll c F = true) seen c ↔ Mth.IsPr (Mth.Fol cs) seen c :=
  Mth.IsPr.congr fun c hc => by
    rw [inAll_small hF hc.sub]
    exact Mth.inAll_sols hT.asc (fun d hd => (hT.vc d hd).sub) (fun l hl => sub _ (hc.sub l hl))
theorem primes_few {ns : List Str} {F : Cl → Prop} {L : List Cl} (hA : Mth.Asc ns) (nl : ns.length ≤ 5) (hs : Mth.Srt L) (h : ∀ c, c ∈ L ↔ Mth.IsPr F ns c) : L.length ≤ 243 ∧ ∀ c ∈ L, c.length ≤ 5 :=
  ⟨Nat.le_trans (Mth.vc_count hA hs.nodup fun c hc => ((h c).mp hc).vc) (pow3 nl), fun c hc => Nat.le_trans (Mth.vc_len ((h c).mp hc).vc) nl⟩
section
variable {P : Program} {w : World} {K : PySem.W.Frag} {mg : Str → Option Value} {base : Heap} {C : Addr}
/-- two theories in normal form over the same names -/
theorem eq_pr {ns : List Str} {F : Cl → Prop} {L L' : List Cl} (hA : Mth.Asc ns) (nl : ns.length ≤ 5) (s1 : Mth.Srt L) (s2 : Mth.Srt L') (m1 : ∀ c, c ∈ L ↔ Mth.IsPr F ns c) (m2 : ∀ c, c ∈ L' ↔ Mth.IsPr F ns c) : L = L' ∧ eqD (dTh ns L) = true := by
  obtain ⟨k1, k2⟩ := primes_few hA nl s1 m1
  exact ⟨Mth.Srt.uniq s1 s2 fun c => (m1 c).trans (m2 c).symm, eq_th nl (by omega) (fun c hc => by have := k2 c hc; omega)⟩
/-! ### _law_shadows -/
def spShadows (K : PySem.W.Frag) (C : Addr) : Sp := fun vs H Q _ => ∃ (v0 v1 v2 v3 : V) (ns seen : List Str) (cs : List Cl), vs = [v0, v1, v2, v3] ∧ Kd C H v0 ∧ Dp K H v1 (dTh ns cs) ∧ Th ns cs ∧ Dp K H v2 (.list ((Mth.sols ns cs).map dCl)) ∧ Dp K H v3 (dNm seen) ∧ Mth.Asc seen ∧ (∀ x ∈ seen, x ∈ ns) ∧ seen.length ≤ 5 ∧
  ∀ H', Same H H' → Q (.bl true) H'
theorem ok_shadows (T : At K mg "_law_shadows" sShadows) (mL : mg "list" = none) (mR : mg "reversed" = none) (cl : Cls K C) (G1 : Def P w K mg base 3 "_law_normal" ["_law_names", "_law_rows_here"] (spLNormal K)) (G2 : Def P w K mg base 1 "_law_restricted" ["_law_rows_here", "_law_names"] (spRestr K))
    (G3 : Def P w K mg base 6 "_law_equal" ["_law_actual", "_law_expected"] (spEq K 5)) (G4 : MDef P w K mg base C 4 "eliminate" ["self", "theory", "name"] (spBElim K)) (G5 : MDef P w K mg base C 4 "normal" ["self", "theory"] (spBNormal K))
    (G6 : ∃ f fd, FnOk P w K mg base CX0 5 f fd ["kind", "theory", "shown"] (spShadow K C) ∧ mg "shadow" = some (.ref f) ∧ PySem.W.keepIn K (.ref f) = true ∧ KBn K fd ["kind", "theory", "shown"] 2 ["shown"] (fun us ws => us ++ ws) (fun vs zs => vs ++ zs)) :
    Def P w K mg base 8 "_law_shadows" ["_law_kind", "_law_theory", "_law_rows_here", "_law_seen"] (spShadows K C) := by
  refine T.def scShadows (fun vs H Q E h => ?_) (fun _ _ _ _ _ _ us hl => match us, hl with | [_, _, _, _], _ => rfl) (fun f cdv A outer s H vs Q E hr h => ?_)
  · obtain ⟨v0, v1, v2, v3, ns, seen, cs, rfl, _⟩ := h; rfl
  obtain ⟨v0, v1, v2, v3, ns, seen, cs, rfl, hK, h1, hT, h2, h3, hAs, sub, sl, q⟩ := h
  obtain ⟨kp, kx, rfl, hk⟩ := id hK
  obtain ⟨fs, fds, FS, ms, kps, kbs⟩ := G6
  refine ⟨_, pss_cons (st_ 4 scShadows.nd (call_ G1 hr (pa_cons (pv 3) (pa_cons (call_ G2 hr (pa_cons (pv 2) (pa_cons (pv 3) pa_nil))) pa_nil))))
    (pss_cons (ps_if (pt_not (pt_val (call_ G3 hr (pa_cons (pe_callN (E := E0) FS (hr.mono (by decide)) (by rfl) ms kps kbs pass0 (pa_cons (pv 0) (pa_cons (pv 1) pa_nil)) (pk_cons (pe_listRev (by rfl) mL mR (list_ mL (pv 3))) pk_nil)) (pa_cons (pv 4) pa_nil))))) (pss_one (ps_ret pe_bl)) pss_nil)
    (pss_cons (ps_setLc (i := 5) (own := [("_law_name", 8)]) (g := gName 8) (by rfl) scShadows.nd rfl rfl (sw_true rfl rfl rfl (by decide +kernel)) (pi_tup (ixT (pv 1) pe_int)) (blkOk_by (N := ["_law_kind", "_law_theory", "_law_rows_here", "_law_seen", "_law_due", "_law_hidden", "_law_order", "_law_left", "_law_name"]) (sc := defScope sShadows) (by decide +kernel)) (fun _ _ _ _ _ => gn 8 scShadows.nd)
        (fun _ _ _ _ _ => pts_one (notInK K encStr (hu65 hr) (pv 8) (pv 3))) (fun _ _ _ _ _ => pv 8))
    (pss_cons (for_ (pi_list (pe_lst (pa_cons (pv 5) (pa_cons (pe_listRev (by rfl) mL mR (list_ mL (pv 5))) pa_nil)))) (gn 6 scShadows.nd)
      (pss_cons (st_ 7 scShadows.nd (pv 1)) (pss_cons (for_ (pi_list (pv 6)) (gn 8 scShadows.nd) (pss_one (st_ 7 scShadows.nd (meth_ cl G4 hr (pv 0) (pa_cons (pv 7) (pa_cons (pv 8) pa_nil))))))
        (pss_one (ps_if (pt_not (pt_val (call_ G3 hr (pa_cons (meth_ cl G5 hr (pv 0) (pa_cons (pv 7) pa_nil)) (pa_cons (pv 4) pa_nil))))) (pss_one (ps_ret pe_bl)) pss_nil)))))
    (pss_one (ps_ret pe_bl))))), ?_⟩
  have hsl := sols_len (cs := cs) hT.len
  have hrz : ∀ r ∈ Mth.sols ns cs, r.length ≤ 1000 := fun r hr => by
    have := row_len (Mth.Srt.nodup hT.asc) (List.mem_filter.mp hr).1
    have := hT.len
    omega
  refine ⟨_, rfl, _, rfl, _, rfl, _, _, Mth.sols ns cs, seen, rfl, h2, h3, by omega, hrz, fun F hF hFl vF H1 S1 hdF => ?_⟩
  refine ⟨_, _, seen, F, rfl, encNm.tg (.of S1) h3, hdF, hAs, sl, fun L hLs hLm vD H2 hS2 hdD => ?_⟩
  have hLm : ∀ c, c ∈ L ↔ Mth.IsPr (Mth.Fol cs) seen c := fun c => (hLm c).trans (prime_small hT sub hF)
  have S2 := S1.trans hS2
  obtain ⟨a3, rfl, ha3⟩ := dp_nm h3
  have ha3' := sqt_tg (.of S2) ha3
  refine ⟨_, rfl, _, rfl, _, rfl, a3, _, rfl, .inr ha3', fun l hl => ⟨l, _, rfl, .inl (.inl upd_same), fun q2 hq2 => ⟨rfl, rfl, ?_⟩⟩⟩
  have S4 := (same_new (o := .lst (seen.map V.str)) hl).trans (same_new (o := .lst (seen.map V.str).reverse) hq2)
  have hrev : Dp K (upd (upd H2 l (.lst (seen.map V.str))) q2 (.lst (seen.map V.str).reverse)) (.ref q2) (.list (seen.reverse.map .str)) := by
    refine .lst (.inl (.inl upd_same)) ?_
    rw [← List.map_reverse]; exact mk_strs _
  generalize upd (upd H2 l (.lst (seen.map V.str))) q2 (.lst (seen.map V.str).reverse) = H4 at S4 hrev
  have S04 := S2.trans S4
  refine ⟨_, _, _, ns, seen.reverse, cs, rfl, Kd.same S04 hK, dp_thS S04 h1, hT, hrev, fun L' hLs' hLm' vS H5 hS5 hdS => ?_⟩
  have eseen : ns.filter (fun n => decide (n ∈ seen.reverse)) = seen := filter_seen hT.asc hAs (fun x _ => by rw [decide_eq_true_eq, List.mem_reverse]) sub
  rw [eseen] at hdS
  have hLm' : ∀ c, c ∈ L' ↔ Mth.IsPr (Mth.Fol cs) seen c := fun c => by have := hLm' c; rwa [eseen] at this
  have S25 := S4.trans hS5
  have S05 := S2.trans S25
  have hdD5 := dp_thS S25 hdD
  obtain ⟨eL, eqL⟩ := eq_pr hAs sl hLs' hLs hLm' hLm
  subst eL
  refine ⟨_, rfl, _, _, dTh seen L', rfl, hdS, hdD5, dep_th _ _, eqL, _, rfl, iteF ?_⟩
  obtain ⟨p1, n1, c1, rfl, hs1, hn1, hc1⟩ := dp_th h1
  obtain ⟨b1, xs1, rfl, hx1, hxa1⟩ := dp_tup hn1
  have hnl := hT.len
  refine ⟨_, rfl, p1, _, _, _, rfl, rfl, sqt_tg (.of S05) hs1, at0, b1, rfl, ⟨xs1, sqt_tg (.of S05) hx1⟩, fun D hD => lc_tupE encStr encStr (fun n => !decide (n ∈ seen)) id hD (by omega) (sqt_tg (.of S05) hx1) (encStr.tgs (.of S05) hxa1) (fun n _ v H' yes no hS hv hy hn => ?_) (fun H6 hS6 hL6 => ?_)⟩
  · have := dp_str hv
    subst this
    refine ⟨rfl, _, rfl, _, rfl, n, seen, .str _, .inl (encNm.tg (.of (S05.trans hS)) h3), fun hin => ⟨_, rfl, iteF (hn ?_ _ (.refl _))⟩, fun hin => ⟨_, rfl, iteT ⟨_, rfl, hy ?_ _ _ (.refl _) (.str _)⟩⟩⟩
    · show (!decide (n ∈ seen)) = false
      rw [decide_eq_true hin]; rfl
    · show (!decide (n ∈ seen)) = true
      rw [decide_eq_false hin]; rfl
  rw [List.map_id] at hL6
  have hmem : ∀ x ∈ ns, x ∈ ns.filter (fun n => !decide (n ∈ seen)) ↔ x ∉ seen := fun x hx => by
    rw [List.mem_filter]
    simp [hx]
  generalize ns.filter (fun n => !decide (n ∈ seen)) = hid at hL6 hmem
  obtain ⟨ws, hDe, hwd⟩ := hL6
  have hws := strs_all hwd
  subst hws
  have S06 := S05.trans hS6
  refine ⟨_, rfl, _, rfl, D, _, rfl, .inl (.inl (.inl hDe)), fun l2 hl2 => ⟨l2, _, rfl, .inl (.inl upd_same), fun q3 hq3 => ⟨(by show 2 ≤ sizeLine; decide), fun o ho => ?_⟩⟩⟩
  have S67 := (same_new (o := .lst (hid.map V.str)) hl2).trans (same_new (o := .lst (hid.map V.str).reverse) hq3)
  have hq3e : (upd (upd H6 l2 (.lst (hid.map V.str))) q3 (.lst (hid.map V.str).reverse)) q3 = some (.lst (hid.map V.str).reverse) := upd_same
  generalize upd (upd H6 l2 (.lst (hid.map V.str))) q3 (.lst (hid.map V.str).reverse) = H7 at S67 hq3e ho
  have S69 := S67.trans (same_new (o := .lst [.ref D, .ref q3]) ho)
  have hoe : (upd H7 o (.lst [.ref D, .ref q3])) o = some (.lst [.ref D, .ref q3]) := upd_same
  have hD9 := S69 _ _ hDe
  have hq9 := same_new (o := .lst [.ref D, .ref q3]) ho _ _ hq3e
  generalize upd H7 o (.lst [.ref D, .ref q3]) = H9 at S69 hoe hD9 hq9
  have S09 := S06.trans S69
  have S59 := hS6.trans S69
  refine ⟨o, rfl, ⟨_, .inl (.inl hoe)⟩, for_list (xs := [.ref D, .ref q3]) (fun _ σ H' => (∃ x y z, σ = [some (.ref kp), some (.ref p1), some v2, some (.ref a3), some vD, some (.ref D), x, y, z]) ∧ Same H9 H') ⟨⟨_, _, _, rfl⟩, .refl _⟩ (fun _ _ _ _ h => .inl (.inl (h.2 _ _ hoe))) (fun i x σ H' hx hP => ?_) (fun σ H' hP => ?_)⟩
  · obtain ⟨⟨y1, y2, y3, rfl⟩, hS9⟩ := hP
    have hord : ∃ (ao : Addr) (xo : List V) (order : List Str), x = .ref ao ∧ H' ao = some (.lst xo) ∧ DpAll K H' xo (order.map .str) ∧ ∀ m, m ∈ order ↔ m ∈ hid := by
      rcases List.mem_cons.mp (List.mem_of_getElem? hx) with rfl | hm
      · exact ⟨D, _, hid, rfl, hS9 _ _ hD9, mk_strs hid, fun _ => Iff.rfl⟩
      · rw [List.mem_singleton.mp hm]
        exact ⟨q3, _, hid.reverse, rfl, hS9 _ _ hq9, by rw [← List.map_reverse]; exact mk_strs _, fun _ => List.mem_reverse⟩
    obtain ⟨ao, xo, order, rfl, hso, hao, hom⟩ := hord
    have S0 := S09.trans hS9
    refine ⟨_, rfl, _, rfl, ao, rfl, ⟨xo, .inl (.inl hso)⟩, for_listE (H0 := H') encStr (fun done σ H2 => ∃ u z ms ds, σ = [some (.ref kp), some (.ref p1), some v2, some (.ref a3), some vD, some (.ref D), some (.ref ao), some u, z] ∧ Same H' H2 ∧ Dp K H2 u (dTh ms ds) ∧ Red ns cs ms ds ∧ ms = ns.filter fun n => decide (n ∉ done)) hao
      ⟨_, _, ns, cs, rfl, .refl _, dp_thS S0 h1, .refl hT, (List.filter_eq_self.mpr fun n _ => by simp).symm⟩ (fun _ _ _ ⟨_, _, _, _, _, s, _⟩ => ⟨.of s, .inl (.inl (s _ _ hso))⟩) (fun done n rest v σ H1 he hP hv => ?_) (fun σ H1 hP => ?_)⟩
    · obtain ⟨u, z, ms, ds, rfl, hS, hu, hR, hms⟩ := hP
      have := dp_str hv
      subst this
      refine ⟨_, rfl, kp, kx, _, rfl, (S0.trans hS) _ _ hk, rfl, _, rfl, _, rfl, _, u, n, ds, ms, rfl, hu, hR.th, fun ms' L e1 hT' hE v3 H3 hS3 hd3 => ⟨v3, _, ms', L, rfl, hS.trans hS3, hd3, ?_, ?_⟩⟩
      · subst e1; exact hR.step hT' hE
      · rw [e1, hms, List.filter_filter]
        refine List.filter_congr fun m _ => ?_
        rw [← Bool.decide_and]
        refine decide_eq_decide.mpr ?_
        rw [List.mem_append, List.mem_singleton]
        exact ⟨fun ⟨a, b⟩ c => c.elim b a, fun h => ⟨fun a => h (.inr a), fun a => h (.inl a)⟩⟩
    · obtain ⟨u, z, ms, ds, rfl, hS, hu, hR, hms⟩ := hP
      have ems : ms = seen := by
        rw [hms]
        exact filter_seen hT.asc hAs (fun x hx => by rw [decide_eq_true_eq, hom, hmem x hx]; exact Decidable.not_not) sub
      subst ems
      refine ⟨_, rfl, kp, kx, _, rfl, (S0.trans hS) _ _ hk, rfl, _, rfl, _, u, ds, ms, rfl, hu, hR.th, fun L2 hs2 hm2 v3 H3 hS3 hd3 => ?_⟩
      have S9 := hS9.trans (hS.trans hS3)
      obtain ⟨eL, eqL⟩ := eq_pr hAs sl hs2 hLs (fun c => (hm2 c).trans hR.prime) hLm
      subst eL
      exact ⟨_, rfl, _, _, dTh ms L2, rfl, hd3, dp_thS (S59.trans S9) hdD5, dep_th _ _, eqL, _, rfl, iteF ⟨⟨_, _, _, rfl⟩, S9⟩⟩
  · exact q _ (S09.trans hP.2)
end
end Sh
end
section
namespace Sh
open PySem PySem.Spec PySem.W PySem.Calls PyProof.Rows Builtin L2
/-! ### an instance of a class without an own __init__ -/
structure Mk00 (K : PySem.W.Frag) (C : Addr) : Prop where
  makes : PySem.W.makesIn K C = true
  init : PySem.W.findIn K (.ref C) "__init__" = some (some (.builtin "object.__init__"))
  top : PySem.W.mroIn K C (.type "object") = some true
  kp : PySem.W.keepIn K (.ref C) = true
theorem code_oi {prog : Program} {w : World} {K : PySem.W.Frag} {A : Around} {C y dx : Addr} {R : Result → Shared → Prop} {s : Shared} (X : K.In s.heap) (ho : s.heap.get? y = some (PySem.W.instObj C dx)) (top : PySem.W.mroIn K C (.type "object") = some true) (q : R (.ok (.ret .none)) s) :
    codeAny (model prog w) A (.call (.builtin "object.__init__") ⟨[.ref y], []⟩) R s := by
  have t1 : Looks (model prog w) s.heap (typeOf (.ref y)) (.ref C) := NwA.type_at ho rfl
  have t2 : Looks (model prog w) s.heap (isInstance (.ref y) (.type "object")) true := t1.andThen (looks_mroIn X top)
  refine codeAny_call_builtin oi_plain entry_oi (@check_slot (model prog w) _ _ _ "object.__init__" "object" "__init__" (.ref y) [] [] _ oi_kind oi_split t2 (NwA.oi_args_any (.ref y) [] []) ?_)
  rw [oi_run]
  exact wpAny_pure q
theorem pe_make00 {X : Cx} {C : Addr} {x : Str} {p pos : Pos} (M : Mk00 X.K C) (hm : X.mg x = some (.ref C)) (hg : Gl X x := by rfl) (hdb : (x == ("__debug__" : Str)) = false := by decide) :
    PE X (.Call (.Name x p) [] [] pos) (fun _ H Q => ∀ x dx, H x = none → H dx = none → dx ≠ x → Q (.ref x) (upd (upd H dx (.own x)) x (.ins C dx []))) := by
  refine ⟨fun pins s σ H Q I h => ?_⟩
  refine wpAny_Call_Name_kw (ld_glob I hg hm ?_ hdb)
  refine PySem.W.callWith_K0 I.kIn M.kp (wpAny_call (make_map0 I.kIn M.makes M.init (fun self => Looks.of_pure (oi_bind _)) ?_))
  have I2 := Inv.made (C := C) I
  have e2 : ((s.heap.push PySem.W.emptyDict).push (PySem.W.instObj C s.heap.objs.size)).get? (s.heap.objs.size + 1) = some (PySem.W.instObj C s.heap.objs.size) := by
    have := Heap.get?_push_size (s.heap.push PySem.W.emptyDict) (o := PySem.W.instObj C s.heap.objs.size) rfl
    rwa [Heap.size_push] at this
  refine code_oi I2.kIn e2 M.top ⟨rfl, ?_⟩
  exact ⟨V.ref (s.heap.objs.size + 1), _, I2, rfl, h (s.heap.objs.size + 1) s.heap.objs.size (I.hok.fresh (Nat.le_succ _)) (I.hok.fresh (Nat.le_refl _)) (Nat.ne_of_lt (Nat.lt_succ_self _))⟩
end Sh
end
section
namespace Sh
open PySem PySem.Spec L2
abbrev sLaw : Stmt := top 55
theorem scLaw : FnScope ["_law_script", "_law_kind", "_law_source_here", "_law_names", "_law_first", "_law_second_here", "_law_rows_here", "_law_others", "_law_seen", "_law_k"] ["_law_script"] (defScope sLaw) := ⟨rfl, rfl, rfl, by decide +kernel, rfl, by decide +kernel, by decide +kernel⟩
theorem same_but {H0 H1 H2 : Hp} {p : Addr} (s : Same H0 H1) (h : H0 p = none) (b : But1 p H1 H2) : Same H0 H2 := fun a u e => b a u (ne_of_none e h) (s a u e)
def sixN : List Str := ["a", "a.k", "b", "b1", "c", "z9"]
theorem sixN_asc : Mth.Asc sixN := by unfold Mth.Asc; decide +kernel
section
variable {P : Program} {w : World} {K : PySem.W.Frag} {mg : Str → Option Value} {base : Heap} {C : Addr}
def spLaw (K : PySem.W.Frag) : Sp := fun vs H Q _ => ∃ (a : Addr) (ns : List Int), vs = [.ref a] ∧ SqL K H a (ns.map V.int) ∧ ns.length ≤ 63 ∧ ∀ H', Q (.bl true) H'
theorem ok_law {f0 : Addr} {fd0 : FuncData} (F0 : Fun K "law" "law" sLaw f0 fd0) (mr : mg "range" = none) (mt : mg "tuple" = none) (cl : Cls K C) (M : Mk00 K C) (mC : mg "Bits" = some (.ref C))
    (G1 : Def P w K mg base 1 "_law_source" ["_law_script", "_law_k"] (spSource K)) (G2 : Def P w K mg base 2 "_law_some" ["_law_source_here", "_law_names", "_law_most"] (spSome K)) (G3 : Def P w K mg base 1 "_law_draw" ["_law_source_here", "_law_limit"] (spDraw K))
    (G4 : Def P w K mg base 2 "_law_clause" ["_law_source_here", "_law_names"] (spClause K)) (G5 : Def P w K mg base 3 "_law_second" ["_law_source_here", "_law_names", "_law_clauses"] (spSecond K)) (G6 : Def P w K mg base 2 "_law_solutions" ["_law_theory"] (spSols K))
    (G7 : Def P w K mg base 6 "_law_equal" ["_law_actual", "_law_expected"] (spEq K 5)) (G8 : MDef P w K mg base C 4 "normal" ["self", "theory"] (spBNormal K)) (G9 : Def P w K mg base 3 "_law_normal" ["_law_names", "_law_rows_here"] (spLNormal K))
    (G10 : Def P w K mg base 9 "_law_compared" ["_law_kind", "_law_first", "_law_second_here", "_law_rows_here", "_law_others"] (spCompared K C)) (G11 : Def P w K mg base 8 "_law_shadows" ["_law_kind", "_law_theory", "_law_rows_here", "_law_seen"] (spShadows K C)) :
    FnOk P w K mg base CX0 10 f0 fd0 ["_law_script"] (spLaw K) := by
  refine F0.ok scLaw (fun vs H Q E h => ?_) (fun cdv A outer s H vs Q E hr h => ?_)
  · obtain ⟨a, ns, rfl, _⟩ := h; rfl
  obtain ⟨a, zs, rfl, ha, hz, q⟩ := h
  refine ⟨_, pss_cons (st_ 1 scLaw.nd (pe_make00 M mC)) (pss_cons (st_ 2 scLaw.nd (call_ G1 hr (pa_cons (pv 0) (pa_cons pe_int pa_nil))))
    (pss_cons (st_ 3 scLaw.nd (tup_ (by rfl) mt (call_ G2 hr (pa_cons (pv 2) (pa_cons (pe_lst (pa_cons pe_str (pa_cons pe_str (pa_cons pe_str (pa_cons pe_str (pa_cons pe_str (pa_cons pe_str pa_nil))))))) (pa_cons pe_int pa_nil))))))
    (pss_cons (st_ 4 scLaw.nd (pe_tup (pa_cons (pv 3) (pa_cons (tup_ (by rfl) mt (pe_lc (own := [("_law_k", 9)]) (g := gName 9) (tt := tYes) (by rfl) scLaw.nd (pi_range1 (by rfl) mr (pa_cons (call_ G3 hr (pa_cons (pv 2) (pa_cons pe_int pa_nil))) pa_nil)) (blkOk_by (N := ["_law_script", "_law_kind", "_law_source_here", "_law_names", "_law_first", "_law_second_here", "_law_rows_here", "_law_others", "_law_seen", "_law_k"]) (sc := defScope sLaw) (by decide +kernel)) (fun _ _ _ _ _ => gn 9 scLaw.nd)
      (fun _ _ _ _ _ => pts_nil) (fun _ _ _ _ _ => call_ G4 hr (pa_cons (pv 2) (pa_cons (pv 3) pa_nil))))) pa_nil))))
    (pss_cons (st_ 5 scLaw.nd (pe_tup (pa_cons (pv 3) (pa_cons (call_ G5 hr (pa_cons (call_ G1 hr (pa_cons (pv 0) (pa_cons pe_int pa_nil))) (pa_cons (pv 3) (pa_cons (ixT (pv 4) pe_int) pa_nil)))) pa_nil))))
    (pss_cons (st_ 6 scLaw.nd (call_ G6 hr (pa_cons (pv 4) pa_nil))) (pss_cons (st_ 7 scLaw.nd (call_ G6 hr (pa_cons (pv 5) pa_nil)))
    (pss_cons (ps_if (pt_not (pt_val (call_ G7 hr (pa_cons (meth_ cl G8 hr (pv 1) (pa_cons (pv 4) pa_nil)) (pa_cons (call_ G9 hr (pa_cons (pv 3) (pa_cons (pv 6) pa_nil))) pa_nil))))) (pss_one (ps_ret pe_bl)) pss_nil)
    (pss_cons (ps_if (pt_not (pt_val (call_ G7 hr (pa_cons (meth_ cl G8 hr (pv 1) (pa_cons (pv 5) pa_nil)) (pa_cons (call_ G9 hr (pa_cons (pv 3) (pa_cons (pv 7) pa_nil))) pa_nil))))) (pss_one (ps_ret pe_bl)) pss_nil)
    (pss_cons (ps_if (PW.pt (pw_or (pt_not (pt_val (call_ G10 hr (pa_cons (pv 1) (pa_cons (pv 4) (pa_cons (pv 5) (pa_cons (pv 6) (pa_cons (pv 7) pa_nil)))))))) (pw_or1 (pt_not (pt_val (call_ G10 hr (pa_cons (pv 1) (pa_cons (pv 5) (pa_cons (pv 4) (pa_cons (pv 7) (pa_cons (pv 6) pa_nil)))))))))))
      (pss_one (ps_ret pe_bl)) pss_nil)
    (pss_cons (st_ 8 scLaw.nd (tup_ (by rfl) mt (call_ G2 hr (pa_cons (call_ G1 hr (pa_cons (pv 0) (pa_cons pe_int pa_nil))) (pa_cons (pv 3) (pa_cons pe_int pa_nil))))))
    (pss_one (ps_ret (pe_and (call_ G11 hr (pa_cons (pv 1) (pa_cons (pv 4) (pa_cons (pv 6) (pa_cons (pv 8) pa_nil))))) (pe_one (call_ G11 hr (pa_cons (pv 1) (pa_cons (pv 5) (pa_cons (pv 7) (pa_cons (pv 8) pa_nil))))))))))))))))))), ?_⟩
  intro kp kx hkp hkx hne
  have hkp2 : (upd H kx (.own kp)) kp = none := by rw [upd_ne hne.symm]; exact hkp
  have S01 := (same_new (o := .own kp) hkx).trans (same_new (o := .ins C kx []) hkp2)
  have hk1 : (upd (upd H kx (.own kp)) kp (.ins C kx [])) kp = some (.ins C kx []) := upd_same
  generalize upd (upd H kx (.own kp)) kp (.ins C kx []) = H1 at S01 hk1
  have ha1 := S01.seq ha
  refine ⟨_, rfl, a, 0, zs, rfl, ha1, fun p H2 hp S12 hs2 => ?_⟩
  refine ⟨_, rfl, (by show 6 ≤ sizeLine; decide), fun l hl => ⟨p, l, sixN, 5, rfl, hs2.same (same_new hl), .inl ⟨.inl (.inl upd_same), hs2.ne hl⟩, by decide, fun ns q3 H3 hsub hle hB3 hs3 hq3 => ?_⟩⟩
  have S13 := same_but (S12.trans (same_new (o := .lst [.str "a", .str "a.k", .str "b", .str "b1", .str "c", .str "z9"]) hl)) hp hB3
  have hA : Mth.Asc ns := List.Pairwise.sublist hsub sixN_asc
  refine ⟨_, _, rfl, .lst (.inl (.inl hq3)) (mk_strs ns), encStr.pures ns, fun vN H4 S34 hN => ?_⟩
  have S14 := S13.trans S34
  have hs4 := hs3.same S34
  refine ⟨_, rfl, _, rfl, p, 6, rfl, hs4, by decide, by decide, fun r H5 r0 r1 hB5 hs5 => ⟨r, rfl, by omega, by omega, fun D hD => ?_⟩⟩
  have T45 := tg_but1 hB5 hs4
  have S15 := same_but S14 hp hB5
  have hN5 : Dp K H5 vN (dNm ns) := encNm.tg T45 hN
  have nDp := hs5.ne hD
  refine lc_range (lo := 0) (n := r.toNat) (fun i H' => ∃ cs, But1 p H5 H' ∧ SrcAt H' p ∧ Ls K H' D dCl cs ∧ (∀ c ∈ cs, Mth.VC ns c) ∧ cs.length ≤ i) ⟨[], .of (same_new hD), hs5.same (same_new hD), Ls.nil, (fun _ h => by cases h), Nat.le_refl _⟩ (fun i H' hi hP => ?_) (fun H6 hP => ?_)
  · obtain ⟨cs, hB, hs, hL, hv, hcl⟩ := hP
    refine ⟨rfl, iteT (B := ∃ cs, But1 p H5 H' ∧ SrcAt H' p ∧ Ls K H' D dCl cs ∧ (∀ c ∈ cs, Mth.VC ns c) ∧ cs.length ≤ i + 1) ⟨_, rfl, _, rfl, p, vN, ns, rfl, hs, encNm.tg (tg_but1 hB hs5) hN5, hA, hle, fun c hc v' H7 hB7 hs7 hd7 => ?_⟩⟩
    obtain ⟨ws, hDe, hwd⟩ := hL
    have lw := allf_len hwd
    have hDe7 := hB7 _ _ nDp hDe
    refine ⟨ws, hDe7, Nat.lt_of_le_of_lt (by omega : ws.length ≤ 5) (by decide), cs ++ [c], (hB.trans hB7).mut hD, hs7.mut nDp, Ls.push encCl hDe7 (encCl.tgs (tg_but1 hB7 hs) hwd) hd7, fun d hd => ?_, by rw [List.length_append, List.length_singleton]; omega⟩
    rcases List.mem_append.mp hd with z | z
    · exact hv d z
    · rw [List.mem_singleton.mp z]; exact hc
  obtain ⟨cs, hB6, hs6, hL6, hv, hcl⟩ := hP
  have hcl5 : cs.length ≤ 5 := by omega
  have S16 := same_but S15 hp hB6
  refine ⟨_, _, rfl, hL6.dp, encCl.pures cs, fun vC H7 S67 hC => ⟨(by show 2 ≤ sizeLine; decide), fun t ht => ?_⟩⟩
  have S18 := (S16.trans S67).trans (same_new (o := .tup [vN, vC]) ht)
  have hte : (upd H7 t (.tup [vN, vC])) t = some (.tup [vN, vC]) := upd_same
  have hN8 : Dp K (upd H7 t (.tup [vN, vC])) vN (dNm ns) := encNm.tg (((tg_but1 hB6 hs5).trans (.of S67)).trans (tg_new ht)) hN5
  have hC8 : Dp K (upd H7 t (.tup [vN, vC])) vC (dCls cs) := encCls.tg (f := dCls) (x := cs) (tg_new ht) hC
  generalize upd H7 t (.tup [vN, vC]) = H8 at S18 hte hN8 hC8
  have h8 : Dp K H8 (.ref t) (dTh ns cs) := mk_th (.inl (.inl hte)) hN8 hC8
  have hT1 : Th ns cs := ⟨hA, hle, hv, by omega⟩
  refine ⟨_, rfl, _, rfl, a, 1, zs, rfl, S18.seq ha1, fun p2 H9 hp2 S89 hs9 => ?_⟩
  refine ⟨_, rfl, _, rfl, t, _, _, _, rfl, rfl, .inl (.inl (S89 _ _ hte)), at1, p2, vN, vC, ns, cs, rfl, hs9, encNm.tg (.of S89) hN8, encCls.tg (.of S89) hC8, hA, hle, hv, hcl5, fun ds hdv hdl vD H10 hB10 hs10 hD10 => ⟨(by show 2 ≤ sizeLine; decide), fun t2 ht2 => ?_⟩⟩
  have S810 := same_but S89 hp2 hB10
  have S811 := S810.trans (same_new (o := .tup [vN, vD]) ht2)
  have h11 : Dp K (upd H10 t2 (.tup [vN, vD])) (.ref t2) (dTh ns ds) := mk_th (.inl (.inl upd_same)) (encNm.tg (.of S811) hN8) (encCls.tg (tg_new ht2) hD10)
  generalize upd H10 t2 (.tup [vN, vD]) = H11 at S811 h11
  have hT2 : Th ns ds := ⟨hA, hle, hdv, by omega⟩
  refine ⟨_, rfl, _, ns, cs, rfl, dp_thS S811 h8, hA, hle, fun vR H12 S1112 hR => ?_⟩
  refine ⟨_, rfl, _, ns, ds, rfl, dp_thS S1112 h11, hA, hle, fun vO H13 S1213 hO => ?_⟩
  have S1113 := S1112.trans S1213
  have S813 := S811.trans S1113
  have hN13 := encNm.tg (.of S813) hN8
  have h113 := dp_thS S813 h8
  have h213 := dp_thS S1113 h11
  have hR13 := dp_list_same encCl S1213 hR
  have hk13 := (S18.trans S813) _ _ hk1
  have ha13 := (S18.trans S813).seq ha1
  have mem1 : ∀ {ds : List Cl}, Th ns ds → ∀ c, Mth.IsPr (fun c => Mth.inAll c (Mth.sols ns ds) = true) ns c ↔ Mth.IsPr (Mth.Fol ds) ns c := fun hT c =>
    Mth.IsPr.congr fun c hc => Mth.inAll_sols hT.asc (fun d hd => (hT.vc d hd).sub) hc.sub
  have hKd : Kd C H13 (.ref kp) := ⟨kp, kx, rfl, hk13⟩
  -- the normal forms
  refine ⟨_, rfl, kp, kx, _, rfl, hk13, rfl, _, rfl, _, _, cs, ns, rfl, h113, hT1, fun L1 hs1 hm1 v14 H14 S14' hd14 => ?_⟩
  refine ⟨_, rfl, _, rfl, _, _, ns, Mth.sols ns cs, rfl, encNm.tg (.of S14') hN13, dp_list_same encCl S14' hR13, hA, hle, fun L2 hs2 hm2 v15 H15 S15' hd15 => ?_⟩
  obtain ⟨eL, eqL⟩ := eq_pr hA hle hs1 hs2 hm1 (fun c => (hm2 c).trans (mem1 hT1 c))
  subst eL
  have T15 := S14'.trans S15'
  refine ⟨_, _, dTh ns L1, rfl, dp_thS S15' hd14, hd15, dep_th _ _, eqL, _, rfl, iteF ?_⟩
  refine ⟨_, rfl, kp, kx, _, rfl, T15 _ _ hk13, rfl, _, rfl, _, _, ds, ns, rfl, dp_thS T15 h213, hT2, fun L3 hs3 hm3 v16 H16 S16' hd16 => ?_⟩
  have T16 := T15.trans S16'
  refine ⟨_, rfl, _, rfl, _, _, ns, Mth.sols ns ds, rfl, encNm.tg (.of T16) hN13, dp_list_same encCl T16 hO, hA, hle, fun L4 hs4' hm4 v17 H17 S17' hd17 => ?_⟩
  obtain ⟨eL2, eqL2⟩ := eq_pr hA hle hs3 hs4' hm3 (fun c => (hm4 c).trans (mem1 hT2 c))
  subst eL2
  have T17 := T16.trans S17'
  refine ⟨_, _, dTh ns L3, rfl, dp_thS S17' hd16, hd17, dep_th _ _, eqL2, _, rfl, iteF ?_⟩
  -- compared
  refine ⟨_, rfl, _, rfl, _, rfl, _, rfl, _, rfl, _, _, _, _, _, ns, cs, ds, rfl, Kd.same T17 hKd, dp_thS T17 h113, dp_thS T17 h213, hT1, hT2, by omega, by omega, dp_list_same encCl T17 hR13, dp_list_same encCl T17 hO, fun H18 S18' => ⟨_, rfl, iteF ?_⟩⟩
  have T18 := T17.trans S18'
  refine ⟨_, rfl, _, rfl, _, rfl, _, rfl, _, rfl, _, _, _, _, _, ns, ds, cs, rfl, Kd.same T18 hKd, dp_thS T18 h213, dp_thS T18 h113, hT2, hT1, by omega, by omega, dp_list_same encCl T18 hO, dp_list_same encCl T18 hR13, fun H19 S19' => ⟨_, rfl, iteF ?_⟩⟩
  have T19 := T18.trans S19'
  -- what is seen
  refine ⟨_, rfl, a, 2, zs, rfl, T19.seq ha13, fun p3 H20 hp3 S20 hs20 => ?_⟩
  have hN20 := encNm.tg (.of (T19.trans S20)) hN13
  obtain ⟨an, rfl, han⟩ := dp_nm hN20
  refine ⟨_, rfl, p3, an, ns, 4, rfl, hs20, .inr han, by omega, fun seen q4 H21 hsub4 hle4 hB21 hs21 hq21 => ⟨_, _, rfl, .lst (.inl (.inl hq21)) (mk_strs seen), encStr.pures seen, fun vS H22 S22 hS22 => ?_⟩⟩
  have T22 := T19.trans ((same_but S20 hp3 hB21).trans S22)
  have hAs : Mth.Asc seen := List.Pairwise.sublist hsub4 hA
  refine ⟨_, rfl, _, rfl, _, rfl, _, rfl, _, _, _, _, ns, seen, cs, rfl, Kd.same T22 hKd, dp_thS T22 h113, hT1, dp_list_same encCl T22 hR13, hS22, hAs, fun x hx => hsub4.subset hx, by omega, fun H23 S23 => ⟨_, rfl, iteT ?_⟩⟩
  have T23 := T22.trans S23
  exact ⟨_, rfl, _, rfl, _, rfl, _, rfl, _, _, _, _, ns, seen, ds, rfl, Kd.same T23 hKd, dp_thS T23 h213, hT2, dp_list_same encCl T23 hO, encNm.tg (f := dNm) (x := seen) (.of S23) hS22, hAs, fun x hx => hsub4.subset hx, by omega, fun H24 _ => q H24⟩
end
end Sh
end
namespace Sh
open PySem PySem.Spec L2
theorem all_mk {l : PySem.W.OpenLaw} {w : World} {K : PySem.W.Frag} {h : Heap} {mg : Str → Option Value} {fa C f1 f2 f3 f4 f5 f6 f7 f8 f9 f10 f11 f12 f13 f14 f15 f16 f17 f18 f19 f20 f21 f22 f23 f24 f25 f26 f27 f28 f29 f30 f31 f32 f33 f34 f35 f36 f37 f38 f39 f40 f41 f42 f43 f44 f45 f46 f47 f48 f49 f50 : Addr} (X : K.In h) (G : h.Ns mainGlobals mg) (hfa : mg "law" = some (.ref fa))
    {od1 od2 od3 od4 od5 od6 od7 od8 od9 od10 od11 od12 od13 od14 od15 od16 od17 od18 od19 od20 od21 od22 od23 od24 od25 od26 od27 od28 od29 od30 od31 od32 od33 od34 od35 od36 od37 od38 od39 od40 od41 od42 od43 od44 od45 od46 od47 od48 od49 od50 an1 an2 an3 an4 an5 an6 an7 an8 an9 an10 an11 an12 an13 an14 an15 an16 an17 an18 an19 an20 an21 an22 an23 an24 an25 an26 an27 an28 an29 an30 an31 an32 an33 an34 an35 an36 an37 an38 an39 an40 an41 an42 an43 an44 an45 an46 an47 an48 an49 an50 : Option Addr} {sl1 sl2 sl3 sl4 sl5 sl6 sl7 sl8 sl9 sl10 sl11 sl12 sl13 sl14 sl15 sl16 sl17 sl18 sl19 sl20 sl21 sl22 sl23 sl24 sl25 sl26 sl27 sl28 sl29 sl30 sl31 sl32 sl33 sl34 sl35 sl36 sl37 sl38 sl39 sl40 sl41 sl42 sl43 sl44 sl45 sl46 sl47 sl48 sl49 sl50 : Array (Option Value)} {oc1 oc2 oc3 oc4 oc5 oc6 oc7 oc8 oc9 oc10 oc11 oc12 oc13 oc14 oc15 oc16 oc17 oc18 oc19 oc20 oc21 oc22 oc23 oc24 oc25 oc26 oc27 oc28 oc29 oc30 oc31 oc32 oc33 oc34 oc35 oc36 oc37 oc38 oc39 oc40 oc41 oc42 oc43 oc44 oc45 oc46 oc47 oc48 oc49 oc50 kV1 kV2 kV3 kV4 kV5 kV6 kV7 kV8 kV9 kV10 kV11 kV12 kV13 kV14 kV15 kV16 kV17 kV18 kV19 kV20 kV21 kV22 kV23 kV24 kV25 kV26 kV27 kV28 kV29 kV30 kV31 kV32 kV33 kV34 kV35 kV36 kV37 kV38 kV39 kV40 kV41 kV42 kV43 kV44 kV45 kV46 kV47 kV48 kV49 kV50 dc1 dc2 dc3 dc4 dc5 dc6 dc7 dc8 dc9 dc10 dc11 dc12 dc13 dc14 dc15 dc16 dc17 dc18 dc19 dc20 dc21 dc22 dc23 dc24 dc25 dc26 dc27 dc28 dc29 dc30 dc31 dc32 dc33 dc34 dc35 dc36 dc37 dc38 dc39 dc40 dc41 dc42 dc43 dc44 dc45 dc46 dc47 dc48 dc49 dc50 pm1 pm2 pm3 pm4 pm5 pm6 pm7 pm8 pm9 pm10 pm11 pm12 pm13 pm14 pm15 pm16 pm17 pm18 pm19 pm20 pm21 pm22 pm23 pm24 pm25 pm26 pm27 pm28 pm29 pm30 pm31 pm32 pm33 pm34 pm35 pm36 pm37 pm38 pm39 pm40 pm41 pm42 pm43 pm44 pm45 pm46 pm47 pm48 pm49 pm50 cd1 cd2 cd3 cd4 cd5 cd6 cd7 cd8 cd9 cd10 cd11 cd12 cd13 cd14 cd15 cd16 cd17 cd18 cd19 cd20 cd21 cd22 cd23 cd24 cd25 cd26 cd27 cd28 cd29 cd30 cd31 cd32 cd33 cd34 cd35 cd36 cd37 cd38 cd39 cd40 cd41 cd42 cd43 cd44 cd45 cd46 cd47 cd48 cd49 cd50 ct1 ct2 ct3 ct4 ct5 ct6 ct7 ct8 ct9 ct10 ct11 ct12 ct13 ct14 ct15 ct16 ct17 ct18 ct19 ct20 ct21 ct22 ct23 ct24 ct25 ct26 ct27 ct28 ct29 ct30 ct31 ct32 ct33 ct34 ct35 ct36 ct37 ct38 ct39 ct40 ct41 ct42 ct43 ct44 ct45 ct46 ct47 ct48 ct49 ct50 : Value}
    (aC : PySem.W.nsIn K mainGlobals "Bits" = some (some (.ref C)))
    (aI : PySem.W.findIn K (.ref C) "__init__" = some (some (.builtin "object.__init__")))
    (aS : PySem.W.findIn K (.ref C) "__setattr__" = some (some (.builtin "object.__setattr__")))
    (hMk : PySem.W.makesIn K C = true)
    (hPg : PySem.W.plainGet K C Str.empty = true)
    (hHd : PySem.W.hasDictIn K C = true)
    (hPo : PySem.W.plainOver K C = true)
    (hTop : PySem.W.mroIn K C (.type "object") = some true)
    (hKc : PySem.W.keepIn K (.ref C) = true)
    (a1 : PySem.W.nsIn K mainGlobals "contains" = some (some (.ref f1)))
    (l1 : K.lookup f1 = some ⟨oc1, od1, .func (PySem.W.fnOf "contains" "contains" (defArgs sContains) (defBody sContains) (defScope sContains) .none kV1 dc1 pm1 an1 cd1 ct1), sl1⟩)
    (c1 : PySem.W.codeIn K cd1 "contains" = true)
    (k1 : PySem.W.keepIn K (.ref f1) = true)
    (a2 : PySem.W.nsIn K mainGlobals "drop_name" = some (some (.ref f2)))
    (l2 : K.lookup f2 = some ⟨oc2, od2, .func (PySem.W.fnOf "drop_name" "drop_name" (defArgs sDrop) (defBody sDrop) (defScope sDrop) .none kV2 dc2 pm2 an2 cd2 ct2), sl2⟩)
    (c2 : PySem.W.codeIn K cd2 "drop_name" = true)
    (k2 : PySem.W.keepIn K (.ref f2) = true)
    (a3 : PySem.W.findIn K (.ref C) "holds" = some (some (.ref f3)))
    (l3 : K.lookup f3 = some ⟨oc3, od3, .func (PySem.W.fnOf "holds" "Bits.holds" (defArgs sHolds) (defBody sHolds) (defScope sHolds) .none kV3 dc3 pm3 an3 cd3 ct3), sl3⟩)
    (c3 : PySem.W.codeIn K cd3 "Bits.holds" = true)
    (k3 : PySem.W.keepIn K (.ref f3) = true)
    (n3 : PySem.W.isFn K (.ref f3) = true)
    (a4 : PySem.W.nsIn K mainGlobals "satisfies" = some (some (.ref f4)))
    (l4 : K.lookup f4 = some ⟨oc4, od4, .func (PySem.W.fnOf "satisfies" "satisfies" (defArgs sSat) (defBody sSat) (defScope sSat) .none kV4 dc4 pm4 an4 cd4 ct4), sl4⟩)
    (c4 : PySem.W.codeIn K cd4 "satisfies" = true)
    (k4 : PySem.W.keepIn K (.ref f4) = true)
    (a5 : PySem.W.nsIn K mainGlobals "least_clauses" = some (some (.ref f5)))
    (l5 : K.lookup f5 = some ⟨oc5, od5, .func (PySem.W.fnOf "least_clauses" "least_clauses" (defArgs sLeast) (defBody sLeast) (defScope sLeast) .none kV5 dc5 pm5 an5 cd5 ct5), sl5⟩)
    (c5 : PySem.W.codeIn K cd5 "least_clauses" = true)
    (k5 : PySem.W.keepIn K (.ref f5) = true)
    (a6 : PySem.W.nsIn K mainGlobals "resolvent" = some (some (.ref f6)))
    (l6 : K.lookup f6 = some ⟨oc6, od6, .func (PySem.W.fnOf "resolvent" "resolvent" (defArgs sResolvent) (defBody sResolvent) (defScope sResolvent) .none kV6 dc6 pm6 an6 cd6 ct6), sl6⟩)
    (c6 : PySem.W.codeIn K cd6 "resolvent" = true)
    (k6 : PySem.W.keepIn K (.ref f6) = true)
    (a7 : PySem.W.nsIn K mainGlobals "resolvents" = some (some (.ref f7)))
    (l7 : K.lookup f7 = some ⟨oc7, od7, .func (PySem.W.fnOf "resolvents" "resolvents" (defArgs sResolvents) (defBody sResolvents) (defScope sResolvents) .none kV7 dc7 pm7 an7 cd7 ct7), sl7⟩)
    (c7 : PySem.W.codeIn K cd7 "resolvents" = true)
    (k7 : PySem.W.keepIn K (.ref f7) = true)
    (a8 : PySem.W.nsIn K mainGlobals "eliminate_name" = some (some (.ref f8)))
    (l8 : K.lookup f8 = some ⟨oc8, od8, .func (PySem.W.fnOf "eliminate_name" "eliminate_name" (defArgs sElimName) (defBody sElimName) (defScope sElimName) .none kV8 dc8 pm8 an8 cd8 ct8), sl8⟩)
    (c8 : PySem.W.codeIn K cd8 "eliminate_name" = true)
    (k8 : PySem.W.keepIn K (.ref f8) = true)
    (a9 : PySem.W.nsIn K mainGlobals "close_clauses" = some (some (.ref f9)))
    (l9 : K.lookup f9 = some ⟨oc9, od9, .func (PySem.W.fnOf "close_clauses" "close_clauses" (defArgs sClose) (defBody sClose) (defScope sClose) .none kV9 dc9 pm9 an9 cd9 ct9), sl9⟩)
    (c9 : PySem.W.codeIn K cd9 "close_clauses" = true)
    (k9 : PySem.W.keepIn K (.ref f9) = true)
    (a10 : PySem.W.findIn K (.ref C) "eliminate" = some (some (.ref f10)))
    (l10 : K.lookup f10 = some ⟨oc10, od10, .func (PySem.W.fnOf "eliminate" "Bits.eliminate" (defArgs sBElim) (defBody sBElim) (defScope sBElim) .none kV10 dc10 pm10 an10 cd10 ct10), sl10⟩)
    (c10 : PySem.W.codeIn K cd10 "Bits.eliminate" = true)
    (k10 : PySem.W.keepIn K (.ref f10) = true)
    (n10 : PySem.W.isFn K (.ref f10) = true)
    (a11 : PySem.W.findIn K (.ref C) "normal" = some (some (.ref f11)))
    (l11 : K.lookup f11 = some ⟨oc11, od11, .func (PySem.W.fnOf "normal" "Bits.normal" (defArgs sBNormal) (defBody sBNormal) (defScope sBNormal) .none kV11 dc11 pm11 an11 cd11 ct11), sl11⟩)
    (c11 : PySem.W.codeIn K cd11 "Bits.normal" = true)
    (k11 : PySem.W.keepIn K (.ref f11) = true)
    (n11 : PySem.W.isFn K (.ref f11) = true)
    (a12 : PySem.W.findIn K (.ref C) "lift" = some (some (.ref f12)))
    (l12 : K.lookup f12 = some ⟨oc12, od12, .func (PySem.W.fnOf "lift" "Bits.lift" (defArgs sBLift) (defBody sBLift) (defScope sBLift) .none kV12 dc12 pm12 an12 cd12 ct12), sl12⟩)
    (c12 : PySem.W.codeIn K cd12 "Bits.lift" = true)
    (k12 : PySem.W.keepIn K (.ref f12) = true)
    (n12 : PySem.W.isFn K (.ref f12) = true)
    (a13 : PySem.W.findIn K (.ref C) "ground" = some (some (.ref f13)))
    (l13 : K.lookup f13 = some ⟨oc13, od13, .func (PySem.W.fnOf "ground" "Bits.ground" (defArgs sBGround) (defBody sBGround) (defScope sBGround) .none kV13 dc13 pm13 an13 cd13 ct13), sl13⟩)
    (c13 : PySem.W.codeIn K cd13 "Bits.ground" = true)
    (k13 : PySem.W.keepIn K (.ref f13) = true)
    (n13 : PySem.W.isFn K (.ref f13) = true)
    (a14 : PySem.W.nsIn K mainGlobals "eliminated" = some (some (.ref f14)))
    (l14 : K.lookup f14 = some ⟨oc14, od14, .func (PySem.W.fnOf "eliminated" "eliminated" (defArgs sEliminated) (defBody sEliminated) (defScope sEliminated) .none kV14 dc14 pm14 an14 cd14 ct14), sl14⟩)
    (c14 : PySem.W.codeIn K cd14 "eliminated" = true)
    (k14 : PySem.W.keepIn K (.ref f14) = true)
    (a15 : PySem.W.nsIn K mainGlobals "lifted" = some (some (.ref f15)))
    (l15 : K.lookup f15 = some ⟨oc15, od15, .func (PySem.W.fnOf "lifted" "lifted" (defArgs sLifted) (defBody sLifted) (defScope sLifted) .none kV15 dc15 pm15 an15 cd15 ct15), sl15⟩)
    (c15 : PySem.W.codeIn K cd15 "lifted" = true)
    (k15 : PySem.W.keepIn K (.ref f15) = true)
    (a16 : PySem.W.nsIn K mainGlobals "solve" = some (some (.ref f16)))
    (l16 : K.lookup f16 = some ⟨oc16, od16, .func (PySem.W.fnOf "solve" "solve" (defArgs sSolve) (defBody sSolve) (defScope sSolve) .none kV16 dc16 pm16 an16 cd16 ct16), sl16⟩)
    (c16 : PySem.W.codeIn K cd16 "solve" = true)
    (k16 : PySem.W.keepIn K (.ref f16) = true)
    (a17 : PySem.W.findIn K (.ref C) "counterexample" = some (some (.ref f17)))
    (l17 : K.lookup f17 = some ⟨oc17, od17, .func (PySem.W.fnOf "counterexample" "Bits.counterexample" (defArgs sBCounter) (defBody sBCounter) (defScope sBCounter) .none kV17 dc17 pm17 an17 cd17 ct17), sl17⟩)
    (c17 : PySem.W.codeIn K cd17 "Bits.counterexample" = true)
    (k17 : PySem.W.keepIn K (.ref f17) = true)
    (n17 : PySem.W.isFn K (.ref f17) = true)
    (a18 : PySem.W.findIn K (.ref C) "pin" = some (some (.ref f18)))
    (l18 : K.lookup f18 = some ⟨oc18, od18, .func (PySem.W.fnOf "pin" "Bits.pin" (defArgs sBPin) (defBody sBPin) (defScope sBPin) .none kV18 dc18 pm18 an18 cd18 ct18), sl18⟩)
    (c18 : PySem.W.codeIn K cd18 "Bits.pin" = true)
    (k18 : PySem.W.keepIn K (.ref f18) = true)
    (n18 : PySem.W.isFn K (.ref f18) = true)
    (a19 : PySem.W.nsIn K mainGlobals "merge_names" = some (some (.ref f19)))
    (l19 : K.lookup f19 = some ⟨oc19, od19, .func (PySem.W.fnOf "merge_names" "merge_names" (defArgs sMerge) (defBody sMerge) (defScope sMerge) .none kV19 dc19 pm19 an19 cd19 ct19), sl19⟩)
    (c19 : PySem.W.codeIn K cd19 "merge_names" = true)
    (k19 : PySem.W.keepIn K (.ref f19) = true)
    (a20 : PySem.W.nsIn K mainGlobals "join" = some (some (.ref f20)))
    (l20 : K.lookup f20 = some ⟨oc20, od20, .func (PySem.W.fnOf "join" "join" (defArgs sJoin) (defBody sJoin) (defScope sJoin) .none kV20 dc20 pm20 an20 cd20 ct20), sl20⟩)
    (c20 : PySem.W.codeIn K cd20 "join" = true)
    (k20 : PySem.W.keepIn K (.ref f20) = true)
    (a21 : PySem.W.nsIn K mainGlobals "shadow" = some (some (.ref f21)))
    (l21 : K.lookup f21 = some ⟨oc21, od21, .func (PySem.W.fnOf "shadow" "shadow" (defArgs sShadow) (defBody sShadow) (defScope sShadow) .none kV21 dc21 pm21 an21 cd21 ct21), sl21⟩)
    (c21 : PySem.W.codeIn K cd21 "shadow" = true)
    (k21 : PySem.W.keepIn K (.ref f21) = true)
    (a22 : PySem.W.nsIn K mainGlobals "add_line" = some (some (.ref f22)))
    (l22 : K.lookup f22 = some ⟨oc22, od22, .func (PySem.W.fnOf "add_line" "add_line" (defArgs sAdd) (defBody sAdd) (defScope sAdd) .none kV22 dc22 pm22 an22 cd22 ct22), sl22⟩)
    (c22 : PySem.W.codeIn K cd22 "add_line" = true)
    (k22 : PySem.W.keepIn K (.ref f22) = true)
    (a23 : PySem.W.nsIn K mainGlobals "cut_name" = some (some (.ref f23)))
    (l23 : K.lookup f23 = some ⟨oc23, od23, .func (PySem.W.fnOf "cut_name" "cut_name" (defArgs sCut) (defBody sCut) (defScope sCut) .none kV23 dc23 pm23 an23 cd23 ct23), sl23⟩)
    (c23 : PySem.W.codeIn K cd23 "cut_name" = true)
    (k23 : PySem.W.keepIn K (.ref f23) = true)
    (a24 : PySem.W.nsIn K mainGlobals "trim_lines" = some (some (.ref f24)))
    (l24 : K.lookup f24 = some ⟨oc24, od24, .func (PySem.W.fnOf "trim_lines" "trim_lines" (defArgs sTrim) (defBody sTrim) (defScope sTrim) .none kV24 dc24 pm24 an24 cd24 ct24), sl24⟩)
    (c24 : PySem.W.codeIn K cd24 "trim_lines" = true)
    (k24 : PySem.W.keepIn K (.ref f24) = true)
    (a25 : PySem.W.nsIn K mainGlobals "find_certificate" = some (some (.ref f25)))
    (l25 : K.lookup f25 = some ⟨oc25, od25, .func (PySem.W.fnOf "find_certificate" "find_certificate" (defArgs sFind) (defBody sFind) (defScope sFind) .none kV25 dc25 pm25 an25 cd25 ct25), sl25⟩)
    (c25 : PySem.W.codeIn K cd25 "find_certificate" = true)
    (k25 : PySem.W.keepIn K (.ref f25) = true)
    (a26 : PySem.W.findIn K (.ref C) "certificate" = some (some (.ref f26)))
    (l26 : K.lookup f26 = some ⟨oc26, od26, .func (PySem.W.fnOf "certificate" "Bits.certificate" (defArgs sBCert) (defBody sBCert) (defScope sBCert) .none kV26 dc26 pm26 an26 cd26 ct26), sl26⟩)
    (c26 : PySem.W.codeIn K cd26 "Bits.certificate" = true)
    (k26 : PySem.W.keepIn K (.ref f26) = true)
    (n26 : PySem.W.isFn K (.ref f26) = true)
    (a27 : PySem.W.nsIn K mainGlobals "follows" = some (some (.ref f27)))
    (l27 : K.lookup f27 = some ⟨oc27, od27, .func (PySem.W.fnOf "follows" "follows" (defArgs sFollows) (defBody sFollows) (defScope sFollows) .none kV27 dc27 pm27 an27 cd27 ct27), sl27⟩)
    (c27 : PySem.W.codeIn K cd27 "follows" = true)
    (k27 : PySem.W.keepIn K (.ref f27) = true)
    (a28 : PySem.W.nsIn K mainGlobals "implies" = some (some (.ref f28)))
    (l28 : K.lookup f28 = some ⟨oc28, od28, .func (PySem.W.fnOf "implies" "implies" (defArgs sImplies) (defBody sImplies) (defScope sImplies) .none kV28 dc28 pm28 an28 cd28 ct28), sl28⟩)
    (c28 : PySem.W.codeIn K cd28 "implies" = true)
    (k28 : PySem.W.keepIn K (.ref f28) = true)
    (a29 : PySem.W.nsIn K mainGlobals "_law_source" = some (some (.ref f29)))
    (l29 : K.lookup f29 = some ⟨oc29, od29, .func (PySem.W.fnOf "_law_source" "_law_source" (defArgs sSource) (defBody sSource) (defScope sSource) .none kV29 dc29 pm29 an29 cd29 ct29), sl29⟩)
    (c29 : PySem.W.codeIn K cd29 "_law_source" = true)
    (k29 : PySem.W.keepIn K (.ref f29) = true)
    (a30 : PySem.W.nsIn K mainGlobals "_law_draw" = some (some (.ref f30)))
    (l30 : K.lookup f30 = some ⟨oc30, od30, .func (PySem.W.fnOf "_law_draw" "_law_draw" (defArgs sDraw) (defBody sDraw) (defScope sDraw) .none kV30 dc30 pm30 an30 cd30 ct30), sl30⟩)
    (c30 : PySem.W.codeIn K cd30 "_law_draw" = true)
    (k30 : PySem.W.keepIn K (.ref f30) = true)
    (a31 : PySem.W.nsIn K mainGlobals "_law_some" = some (some (.ref f31)))
    (l31 : K.lookup f31 = some ⟨oc31, od31, .func (PySem.W.fnOf "_law_some" "_law_some" (defArgs sSome) (defBody sSome) (defScope sSome) .none kV31 dc31 pm31 an31 cd31 ct31), sl31⟩)
    (c31 : PySem.W.codeIn K cd31 "_law_some" = true)
    (k31 : PySem.W.keepIn K (.ref f31) = true)
    (a32 : PySem.W.nsIn K mainGlobals "_law_clause" = some (some (.ref f32)))
    (l32 : K.lookup f32 = some ⟨oc32, od32, .func (PySem.W.fnOf "_law_clause" "_law_clause" (defArgs sClause) (defBody sClause) (defScope sClause) .none kV32 dc32 pm32 an32 cd32 ct32), sl32⟩)
    (c32 : PySem.W.codeIn K cd32 "_law_clause" = true)
    (k32 : PySem.W.keepIn K (.ref f32) = true)
    (a33 : PySem.W.nsIn K mainGlobals "_law_cut" = some (some (.ref f33)))
    (l33 : K.lookup f33 = some ⟨oc33, od33, .func (PySem.W.fnOf "_law_cut" "_law_cut" (defArgs sLCut) (defBody sLCut) (defScope sLCut) .none kV33 dc33 pm33 an33 cd33 ct33), sl33⟩)
    (c33 : PySem.W.codeIn K cd33 "_law_cut" = true)
    (k33 : PySem.W.keepIn K (.ref f33) = true)
    (a34 : PySem.W.nsIn K mainGlobals "_law_resolvent" = some (some (.ref f34)))
    (l34 : K.lookup f34 = some ⟨oc34, od34, .func (PySem.W.fnOf "_law_resolvent" "_law_resolvent" (defArgs sLRes) (defBody sLRes) (defScope sLRes) .none kV34 dc34 pm34 an34 cd34 ct34), sl34⟩)
    (c34 : PySem.W.codeIn K cd34 "_law_resolvent" = true)
    (k34 : PySem.W.keepIn K (.ref f34) = true)
    (a35 : PySem.W.nsIn K mainGlobals "_law_widened" = some (some (.ref f35)))
    (l35 : K.lookup f35 = some ⟨oc35, od35, .func (PySem.W.fnOf "_law_widened" "_law_widened" (defArgs sWide) (defBody sWide) (defScope sWide) .none kV35 dc35 pm35 an35 cd35 ct35), sl35⟩)
    (c35 : PySem.W.codeIn K cd35 "_law_widened" = true)
    (k35 : PySem.W.keepIn K (.ref f35) = true)
    (a36 : PySem.W.nsIn K mainGlobals "_law_turned" = some (some (.ref f36)))
    (l36 : K.lookup f36 = some ⟨oc36, od36, .func (PySem.W.fnOf "_law_turned" "_law_turned" (defArgs sTurn) (defBody sTurn) (defScope sTurn) .none kV36 dc36 pm36 an36 cd36 ct36), sl36⟩)
    (c36 : PySem.W.codeIn K cd36 "_law_turned" = true)
    (k36 : PySem.W.keepIn K (.ref f36) = true)
    (a37 : PySem.W.nsIn K mainGlobals "_law_second" = some (some (.ref f37)))
    (l37 : K.lookup f37 = some ⟨oc37, od37, .func (PySem.W.fnOf "_law_second" "_law_second" (defArgs sSecond) (defBody sSecond) (defScope sSecond) .none kV37 dc37 pm37 an37 cd37 ct37), sl37⟩)
    (c37 : PySem.W.codeIn K cd37 "_law_second" = true)
    (k37 : PySem.W.keepIn K (.ref f37) = true)
    (a38 : PySem.W.nsIn K mainGlobals "_law_rows" = some (some (.ref f38)))
    (l38 : K.lookup f38 = some ⟨oc38, od38, .func (PySem.W.fnOf "_law_rows" "_law_rows" (defArgs sRows) (defBody sRows) (defScope sRows) .none kV38 dc38 pm38 an38 cd38 ct38), sl38⟩)
    (c38 : PySem.W.codeIn K cd38 "_law_rows" = true)
    (k38 : PySem.W.keepIn K (.ref f38) = true)
    (a39 : PySem.W.nsIn K mainGlobals "_law_holds" = some (some (.ref f39)))
    (l39 : K.lookup f39 = some ⟨oc39, od39, .func (PySem.W.fnOf "_law_holds" "_law_holds" (defArgs sLHolds) (defBody sLHolds) (defScope sLHolds) .none kV39 dc39 pm39 an39 cd39 ct39), sl39⟩)
    (c39 : PySem.W.codeIn K cd39 "_law_holds" = true)
    (k39 : PySem.W.keepIn K (.ref f39) = true)
    (a40 : PySem.W.nsIn K mainGlobals "_law_in_all" = some (some (.ref f40)))
    (l40 : K.lookup f40 = some ⟨oc40, od40, .func (PySem.W.fnOf "_law_in_all" "_law_in_all" (defArgs sInAll) (defBody sInAll) (defScope sInAll) .none kV40 dc40 pm40 an40 cd40 ct40), sl40⟩)
    (c40 : PySem.W.codeIn K cd40 "_law_in_all" = true)
    (k40 : PySem.W.keepIn K (.ref f40) = true)
    (a41 : PySem.W.nsIn K mainGlobals "_law_solutions" = some (some (.ref f41)))
    (l41 : K.lookup f41 = some ⟨oc41, od41, .func (PySem.W.fnOf "_law_solutions" "_law_solutions" (defArgs sSols) (defBody sSols) (defScope sSols) .none kV41 dc41 pm41 an41 cd41 ct41), sl41⟩)
    (c41 : PySem.W.codeIn K cd41 "_law_solutions" = true)
    (k41 : PySem.W.keepIn K (.ref f41) = true)
    (a42 : PySem.W.nsIn K mainGlobals "_law_restricted" = some (some (.ref f42)))
    (l42 : K.lookup f42 = some ⟨oc42, od42, .func (PySem.W.fnOf "_law_restricted" "_law_restricted" (defArgs sRestr) (defBody sRestr) (defScope sRestr) .none kV42 dc42 pm42 an42 cd42 ct42), sl42⟩)
    (c42 : PySem.W.codeIn K cd42 "_law_restricted" = true)
    (k42 : PySem.W.keepIn K (.ref f42) = true)
    (a43 : PySem.W.nsIn K mainGlobals "_law_normal" = some (some (.ref f43)))
    (l43 : K.lookup f43 = some ⟨oc43, od43, .func (PySem.W.fnOf "_law_normal" "_law_normal" (defArgs sLNormal) (defBody sLNormal) (defScope sLNormal) .none kV43 dc43 pm43 an43 cd43 ct43), sl43⟩)
    (c43 : PySem.W.codeIn K cd43 "_law_normal" = true)
    (k43 : PySem.W.keepIn K (.ref f43) = true)
    (a44 : PySem.W.nsIn K mainGlobals "_law_is_int" = some (some (.ref f44)))
    (l44 : K.lookup f44 = some ⟨oc44, od44, .func (PySem.W.fnOf "_law_is_int" "_law_is_int" (defArgs sIsInt) (defBody sIsInt) (defScope sIsInt) .none kV44 dc44 pm44 an44 cd44 ct44), sl44⟩)
    (c44 : PySem.W.codeIn K cd44 "_law_is_int" = true)
    (k44 : PySem.W.keepIn K (.ref f44) = true)
    (a45 : PySem.W.nsIn K mainGlobals "_law_equal" = some (some (.ref f45)))
    (l45 : K.lookup f45 = some ⟨oc45, od45, .func (PySem.W.fnOf "_law_equal" "_law_equal" (defArgs sEq) (defBody sEq) (defScope sEq) .none kV45 dc45 pm45 an45 cd45 ct45), sl45⟩)
    (c45 : PySem.W.codeIn K cd45 "_law_equal" = true)
    (k45 : PySem.W.keepIn K (.ref f45) = true)
    (a46 : PySem.W.nsIn K mainGlobals "_law_row_of" = some (some (.ref f46)))
    (l46 : K.lookup f46 = some ⟨oc46, od46, .func (PySem.W.fnOf "_law_row_of" "_law_row_of" (defArgs sRowOf) (defBody sRowOf) (defScope sRowOf) .none kV46 dc46 pm46 an46 cd46 ct46), sl46⟩)
    (c46 : PySem.W.codeIn K cd46 "_law_row_of" = true)
    (k46 : PySem.W.keepIn K (.ref f46) = true)
    (a47 : PySem.W.nsIn K mainGlobals "_law_parted" = some (some (.ref f47)))
    (l47 : K.lookup f47 = some ⟨oc47, od47, .func (PySem.W.fnOf "_law_parted" "_law_parted" (defArgs sParted) (defBody sParted) (defScope sParted) .none kV47 dc47 pm47 an47 cd47 ct47), sl47⟩)
    (c47 : PySem.W.codeIn K cd47 "_law_parted" = true)
    (k47 : PySem.W.keepIn K (.ref f47) = true)
    (a48 : PySem.W.nsIn K mainGlobals "_law_compared" = some (some (.ref f48)))
    (l48 : K.lookup f48 = some ⟨oc48, od48, .func (PySem.W.fnOf "_law_compared" "_law_compared" (defArgs sCompared) (defBody sCompared) (defScope sCompared) .none kV48 dc48 pm48 an48 cd48 ct48), sl48⟩)
    (c48 : PySem.W.codeIn K cd48 "_law_compared" = true)
    (k48 : PySem.W.keepIn K (.ref f48) = true)
    (a49 : PySem.W.nsIn K mainGlobals "_law_shadows" = some (some (.ref f49)))
    (l49 : K.lookup f49 = some ⟨oc49, od49, .func (PySem.W.fnOf "_law_shadows" "_law_shadows" (defArgs sShadows) (defBody sShadows) (defScope sShadows) .none kV49 dc49 pm49 an49 cd49 ct49), sl49⟩)
    (c49 : PySem.W.codeIn K cd49 "_law_shadows" = true)
    (k49 : PySem.W.keepIn K (.ref f49) = true)
    (a50 : PySem.W.nsIn K mainGlobals "law" = some (some (.ref f50)))
    (l50 : K.lookup f50 = some ⟨oc50, od50, .func (PySem.W.fnOf "law" "law" (defArgs sLaw) (defBody sLaw) (defScope sLaw) .none kV50 dc50 pm50 an50 cd50 ct50), sl50⟩)
    (c50 : PySem.W.codeIn K cd50 "law" = true)
    (k50 : PySem.W.keepIn K (.ref f50) = true)
    (z0 : PySem.W.nsIn K mainGlobals "len" = some none)
    (z1 : PySem.W.nsIn K mainGlobals "range" = some none)
    (z2 : PySem.W.nsIn K mainGlobals "list" = some none)
    (z3 : PySem.W.nsIn K mainGlobals "tuple" = some none)
    (z4 : PySem.W.nsIn K mainGlobals "sorted" = some none)
    (z5 : PySem.W.nsIn K mainGlobals "any" = some none)
    (z6 : PySem.W.nsIn K mainGlobals "dict" = some none)
    (z7 : PySem.W.nsIn K mainGlobals "reversed" = some none)
    (z8 : PySem.W.nsIn K mainGlobals "int" = some none)
    (z9 : PySem.W.nsIn K mainGlobals "bool" = some none)
    (z10 : PySem.W.nsIn K mainGlobals "str" = some none)
    (z11 : PySem.W.nsIn K mainGlobals "isinstance" = some none) :
    ∃ fd : FuncData, (∀ (s : Shared) (v : Value), BindsTo s fd ⟨[v], []⟩ [("_law_script", v)]) ∧ ∀ base : Heap, K.In base → base.Ns mainGlobals mg → FnOk l.prog w K mg base CX0 10 fa fd ["_law_script"] (spLaw K) := by
  have e := hfa.symm.trans (PySem.W.mg_of X G a50)
  cases e
  have y0 := PySem.W.mg_none_of X G z0
  have y1 := PySem.W.mg_none_of X G z1
  have y2 := PySem.W.mg_none_of X G z2
  have y3 := PySem.W.mg_none_of X G z3
  have y4 := PySem.W.mg_none_of X G z4
  have y5 := PySem.W.mg_none_of X G z5
  have y6 := PySem.W.mg_none_of X G z6
  have y7 := PySem.W.mg_none_of X G z7
  have y8 := PySem.W.mg_none_of X G z8
  have y9 := PySem.W.mg_none_of X G z9
  have y10 := PySem.W.mg_none_of X G z10
  have y11 := PySem.W.mg_none_of X G z11
  have cl : Cls K C := ⟨hPg, hHd, hPo, aS⟩
  have M : Mk00 K C := ⟨hMk, aI, hTop, hKc⟩
  have mC := PySem.W.mg_of X G aC
  have T1 : At K mg "contains" sContains := ⟨_, _, fun_mk l1 c1 k1, PySem.W.mg_of X G a1⟩
  have T2 : At K mg "drop_name" sDrop := ⟨_, _, fun_mk l2 c2 k2, PySem.W.mg_of X G a2⟩
  have T3 : AtM K C "holds" "Bits.holds" sHolds := ⟨_, _, fun_mk l3 c3 k3, a3, n3, k3⟩
  have T4 : At K mg "satisfies" sSat := ⟨_, _, fun_mk l4 c4 k4, PySem.W.mg_of X G a4⟩
  have T5 : At K mg "least_clauses" sLeast := ⟨_, _, fun_mk l5 c5 k5, PySem.W.mg_of X G a5⟩
  have T6 : At K mg "resolvent" sResolvent := ⟨_, _, fun_mk l6 c6 k6, PySem.W.mg_of X G a6⟩
  have T7 : At K mg "resolvents" sResolvents := ⟨_, _, fun_mk l7 c7 k7, PySem.W.mg_of X G a7⟩
  have T8 : At K mg "eliminate_name" sElimName := ⟨_, _, fun_mk l8 c8 k8, PySem.W.mg_of X G a8⟩
  have T9 : At K mg "close_clauses" sClose := ⟨_, _, fun_mk l9 c9 k9, PySem.W.mg_of X G a9⟩
  have T10 : AtM K C "eliminate" "Bits.eliminate" sBElim := ⟨_, _, fun_mk l10 c10 k10, a10, n10, k10⟩
  have T11 : AtM K C "normal" "Bits.normal" sBNormal := ⟨_, _, fun_mk l11 c11 k11, a11, n11, k11⟩
  have T12 : AtM K C "lift" "Bits.lift" sBLift := ⟨_, _, fun_mk l12 c12 k12, a12, n12, k12⟩
  have T13 : AtM K C "ground" "Bits.ground" sBGround := ⟨_, _, fun_mk l13 c13 k13, a13, n13, k13⟩
  have T14 : At K mg "eliminated" sEliminated := ⟨_, _, fun_mk l14 c14 k14, PySem.W.mg_of X G a14⟩
  have T15 : At K mg "lifted" sLifted := ⟨_, _, fun_mk l15 c15 k15, PySem.W.mg_of X G a15⟩
  have T16 : At K mg "solve" sSolve := ⟨_, _, fun_mk l16 c16 k16, PySem.W.mg_of X G a16⟩
  have T17 : AtM K C "counterexample" "Bits.counterexample" sBCounter := ⟨_, _, fun_mk l17 c17 k17, a17, n17, k17⟩
  have T18 : AtM K C "pin" "Bits.pin" sBPin := ⟨_, _, fun_mk l18 c18 k18, a18, n18, k18⟩
  have T19 : At K mg "merge_names" sMerge := ⟨_, _, fun_mk l19 c19 k19, PySem.W.mg_of X G a19⟩
  have T20 : At K mg "join" sJoin := ⟨_, _, fun_mk l20 c20 k20, PySem.W.mg_of X G a20⟩
  have T21 : At K mg "shadow" sShadow := ⟨_, _, fun_mk l21 c21 k21, PySem.W.mg_of X G a21⟩
  have T22 : At K mg "add_line" sAdd := ⟨_, _, fun_mk l22 c22 k22, PySem.W.mg_of X G a22⟩
  have T23 : At K mg "cut_name" sCut := ⟨_, _, fun_mk l23 c23 k23, PySem.W.mg_of X G a23⟩
  have T24 : At K mg "trim_lines" sTrim := ⟨_, _, fun_mk l24 c24 k24, PySem.W.mg_of X G a24⟩
  have T25 : At K mg "find_certificate" sFind := ⟨_, _, fun_mk l25 c25 k25, PySem.W.mg_of X G a25⟩
  have T26 : AtM K C "certificate" "Bits.certificate" sBCert := ⟨_, _, fun_mk l26 c26 k26, a26, n26, k26⟩
  have T27 : At K mg "follows" sFollows := ⟨_, _, fun_mk l27 c27 k27, PySem.W.mg_of X G a27⟩
  have T28 : At K mg "implies" sImplies := ⟨_, _, fun_mk l28 c28 k28, PySem.W.mg_of X G a28⟩
  have T29 : At K mg "_law_source" sSource := ⟨_, _, fun_mk l29 c29 k29, PySem.W.mg_of X G a29⟩
  have T30 : At K mg "_law_draw" sDraw := ⟨_, _, fun_mk l30 c30 k30, PySem.W.mg_of X G a30⟩
  have T31 : At K mg "_law_some" sSome := ⟨_, _, fun_mk l31 c31 k31, PySem.W.mg_of X G a31⟩
  have T32 : At K mg "_law_clause" sClause := ⟨_, _, fun_mk l32 c32 k32, PySem.W.mg_of X G a32⟩
  have T33 : At K mg "_law_cut" sLCut := ⟨_, _, fun_mk l33 c33 k33, PySem.W.mg_of X G a33⟩
  have T34 : At K mg "_law_resolvent" sLRes := ⟨_, _, fun_mk l34 c34 k34, PySem.W.mg_of X G a34⟩
  have T35 : At K mg "_law_widened" sWide := ⟨_, _, fun_mk l35 c35 k35, PySem.W.mg_of X G a35⟩
  have T36 : At K mg "_law_turned" sTurn := ⟨_, _, fun_mk l36 c36 k36, PySem.W.mg_of X G a36⟩
  have T37 : At K mg "_law_second" sSecond := ⟨_, _, fun_mk l37 c37 k37, PySem.W.mg_of X G a37⟩
  have T38 : At K mg "_law_rows" sRows := ⟨_, _, fun_mk l38 c38 k38, PySem.W.mg_of X G a38⟩
  have T39 : At K mg "_law_holds" sLHolds := ⟨_, _, fun_mk l39 c39 k39, PySem.W.mg_of X G a39⟩
  have T40 : At K mg "_law_in_all" sInAll := ⟨_, _, fun_mk l40 c40 k40, PySem.W.mg_of X G a40⟩
  have T41 : At K mg "_law_solutions" sSols := ⟨_, _, fun_mk l41 c41 k41, PySem.W.mg_of X G a41⟩
  have T42 : At K mg "_law_restricted" sRestr := ⟨_, _, fun_mk l42 c42 k42, PySem.W.mg_of X G a42⟩
  have T43 : At K mg "_law_normal" sLNormal := ⟨_, _, fun_mk l43 c43 k43, PySem.W.mg_of X G a43⟩
  have T44 : At K mg "_law_is_int" sIsInt := ⟨_, _, fun_mk l44 c44 k44, PySem.W.mg_of X G a44⟩
  have T45 : At K mg "_law_equal" sEq := ⟨_, _, fun_mk l45 c45 k45, PySem.W.mg_of X G a45⟩
  have T46 : At K mg "_law_row_of" sRowOf := ⟨_, _, fun_mk l46 c46 k46, PySem.W.mg_of X G a46⟩
  have T47 : At K mg "_law_parted" sParted := ⟨_, _, fun_mk l47 c47 k47, PySem.W.mg_of X G a47⟩
  have T48 : At K mg "_law_compared" sCompared := ⟨_, _, fun_mk l48 c48 k48, PySem.W.mg_of X G a48⟩
  have T49 : At K mg "_law_shadows" sShadows := ⟨_, _, fun_mk l49 c49 k49, PySem.W.mg_of X G a49⟩
  refine ⟨PySem.W.fnOf "law" "law" (defArgs sLaw) (defBody sLaw) (defScope sLaw) .none kV50 dc50 pm50 an50 cd50 ct50, fun s v => .of_eq rfl, fun base _ _ => ?_⟩
  have D1 := ok_contains (P := l.prog) (w := w) (mg := mg) (base := base) T1
  have D2 := ok_drop (P := l.prog) (w := w) (mg := mg) (base := base) T2 (by assumption)
  have D3 := ok_holds (P := l.prog) (w := w) (mg := mg) (base := base) T3
  have D4 := ok_sat (P := l.prog) (w := w) (mg := mg) (base := base) T4 (by assumption) (by assumption)
  have D5 := ok_least (P := l.prog) (w := w) (mg := mg) (base := base) T5 (by assumption) (by assumption) (by assumption) (by assumption) (by assumption) (by assumption)
  have D6 := ok_resolvent (P := l.prog) (w := w) (mg := mg) (base := base) T6 (by assumption) (by assumption)
  have D7 := ok_resolvents (P := l.prog) (w := w) (mg := mg) (base := base) T7 (by assumption)
  have D8 := ok_elimName (P := l.prog) (w := w) (mg := mg) (base := base) T8 (by assumption) (by assumption)
  have D9 := ok_close (P := l.prog) (w := w) (mg := mg) (base := base) T9 (by assumption) (by assumption)
  have D10 := ok_bElim (P := l.prog) (w := w) (mg := mg) (base := base) T10 (by assumption) (by assumption)
  have D11 := ok_bNormal (P := l.prog) (w := w) (mg := mg) (base := base) T11 (by assumption)
  have D12 := ok_bLift (P := l.prog) (w := w) (mg := mg) (base := base) T12 (by assumption)
  have D13 := ok_bGround (P := l.prog) (w := w) (mg := mg) (base := base) T13 (by assumption)
  have D14 := ok_eliminated (P := l.prog) (w := w) (mg := mg) (base := base) T14 (by assumption) (by assumption)
  have D15 := ok_lifted (P := l.prog) (w := w) (mg := mg) (base := base) T15 (by assumption) (by assumption) (by assumption) (by assumption) (by assumption)
  have D16 := ok_solve (P := l.prog) (w := w) (mg := mg) (base := base) T16 (by assumption) (by assumption) (by assumption) (by assumption) (by assumption)
  have D17 := ok_bCounter (P := l.prog) (w := w) (mg := mg) (base := base) T17 (by assumption)
  have D18 := ok_bPin (P := l.prog) (w := w) (mg := mg) (base := base) T18 (by assumption)
  have D19 := ok_merge (P := l.prog) (w := w) (mg := mg) (base := base) T19 (by assumption) (by assumption) (by assumption)
  have D20 := ok_join (P := l.prog) (w := w) (mg := mg) (base := base) T20 (by assumption) (by assumption)
  have D21 := ok_shadow (P := l.prog) (w := w) (mg := mg) (base := base) T21 (by assumption) (by assumption) (by assumption)
  have D22 := ok_add (P := l.prog) (w := w) (mg := mg) (base := base) T22 (by assumption) (by assumption)
  have D23 := ok_cut (P := l.prog) (w := w) (mg := mg) (base := base) T23 (by assumption) (by assumption) (by assumption) (by assumption)
  have D24 := ok_trim (P := l.prog) (w := w) (mg := mg) (base := base) T24 (by assumption) (by assumption) (by assumption) (by assumption) (by assumption)
  have D25 := ok_find (P := l.prog) (w := w) (mg := mg) (base := base) T25 (by assumption) (by assumption) (by assumption) (by assumption) (by assumption) (by assumption)
  have D26 := ok_bCert (P := l.prog) (w := w) (mg := mg) (base := base) T26 (by assumption)
  have D27 := ok_follows (P := l.prog) (w := w) (mg := mg) (base := base) T27 (by assumption) (by assumption)
  have D28 := ok_implies (P := l.prog) (w := w) (mg := mg) (base := base) T28 (by assumption)
  have D29 := ok_source (P := l.prog) (w := w) (mg := mg) (base := base) T29 (by assumption) (by assumption)
  have D30 := ok_draw (P := l.prog) (w := w) (mg := mg) (base := base) T30 (by assumption)
  have D31 := ok_some (P := l.prog) (w := w) (mg := mg) (base := base) T31 (by assumption) (by assumption)
  have D32 := ok_clause (P := l.prog) (w := w) (mg := mg) (base := base) T32 (by assumption) (by assumption) (by assumption)
  have D33 := ok_lcut (P := l.prog) (w := w) (mg := mg) (base := base) T33 (by assumption) (by assumption)
  have D34 := ok_lres (P := l.prog) (w := w) (mg := mg) (base := base) T34 (by assumption)
  have D35 := ok_wide (P := l.prog) (w := w) (mg := mg) (base := base) T35 (by assumption) (by assumption) (by assumption) (by assumption)
  have D36 := ok_turn (P := l.prog) (w := w) (mg := mg) (base := base) T36 (by assumption) (by assumption)
  have D37 := ok_second (P := l.prog) (w := w) (mg := mg) (base := base) T37 (by assumption) (by assumption) (by assumption) (by assumption) (by assumption) (by assumption) (by assumption) (by assumption) (by assumption)
  have D38 := ok_rows (P := l.prog) (w := w) (mg := mg) (base := base) T38 (by assumption)
  have D39 := ok_lholds (P := l.prog) (w := w) (mg := mg) (base := base) T39
  have D40 := ok_inall (P := l.prog) (w := w) (mg := mg) (base := base) T40 (by assumption)
  have D41 := ok_sols (P := l.prog) (w := w) (mg := mg) (base := base) T41 (by assumption) (by assumption)
  have D42 := ok_restr (P := l.prog) (w := w) (mg := mg) (base := base) T42 (by assumption)
  have D43 := ok_lnormal (P := l.prog) (w := w) (mg := mg) (base := base) T43 (by assumption) (by assumption) (by assumption) (by assumption) (by assumption) (by assumption)
  have D44 := ok_isint (P := l.prog) (w := w) (mg := mg) (base := base) T44 (by assumption) (by assumption) (by assumption)
  have D45 := ok_eq (P := l.prog) (w := w) (mg := mg) (base := base) T45 (by assumption) (by assumption) (by assumption) (by assumption) (by assumption) (by assumption) 5
  have D46 := ok_rowof (P := l.prog) (w := w) (mg := mg) (base := base) T46 (by assumption) (by assumption) (by assumption) (by assumption) (by assumption) (by assumption) (by assumption)
  have D47 := ok_parted (P := l.prog) (w := w) (mg := mg) (base := base) T47 (by assumption) (by assumption) (by assumption) (by assumption) (by assumption) (by assumption) (by assumption) (by assumption) (by assumption) (by assumption) (by assumption)
  have D48 := ok_compared (P := l.prog) (w := w) (mg := mg) (base := base) T48 (by assumption) (by assumption) (by assumption) (by assumption) (by assumption) (by assumption) (by assumption)
  have D49 := ok_shadows (P := l.prog) (w := w) (mg := mg) (base := base) T49 (by assumption) (by assumption) (by assumption) (by assumption) (by assumption) (by assumption) (by assumption) (by assumption) (by assumption)
  exact ok_law (P := l.prog) (w := w) (mg := mg) (base := base) (fun_mk l50 c50 k50) (by assumption) (by assumption) (by assumption) (by assumption) (by assumption) (by assumption) (by assumption) (by assumption) (by assumption) (by assumption) (by assumption) (by assumption) (by assumption) (by assumption) (by assumption) (by assumption)
theorem walk {l : PySem.W.OpenLaw} {q : Program} {loose : List Str} {XP : (Str → Option Value) → Heap → Prop} {YP : World → Heap → Prop} {d : DefRec} {K : Params → PySem.W.Frag} (hn : l.most = some 63) (hdf : d.params.defaults = [])
    (hY : ∀ (w : World) (h : Heap), YP w h → (K w.params).In h)
    (F : ∀ (w : World) (mg : Str → Option Value) (fa : Addr) (h : Heap), (K w.params).In h → h.Ns mainGlobals mg → mg d.name = some (.ref fa) →
      ∃ fd : FuncData, (∀ (s : Shared) (u : Value), BindsTo s fd ⟨[u], []⟩ [("_law_script", u)]) ∧ ∀ base : Heap, (K w.params).In base → base.Ns mainGlobals mg → FnOk l.prog w (K w.params) mg base CX0 10 fa fd ["_law_script"] (spLaw (K w.params))) :
    PySem.W.WalkO q loose XP YP l.row.toRowW d [] (fun f vs => PySem.call f vs) :=
  L2.walk_of (n := 63) (k := 10) (x := "_law_script") (CX := fun _ => CX0) (sp := fun w => spLaw (K w.params)) hn (by decide) hdf ⟨rfl, by decide, by decide⟩ hY F (fun _ _ a ns hl _ hS => ⟨a, ns, rfl, hS, hl, fun _ => rfl⟩) fun _ _ _ _ _ z => z
end Sh
open PySem PySem.W PyProof.Rows in
set_option maxRecDepth 100000 in
set_option maxHeartbeats 0 in
theorem PySem.Challenge.cw_shadowlinks_k13_whole_bits_alike_holds : PySem.Challenge.rw_shadowlinks_k13_whole_bits_alike.Holds := by
  w_on; o_law; k_head; (case hw => w_witness2)
  k_fill
  refine Sh.walk (l := PySem.Challenge.rw_shadowlinks_k13_whole_bits_alike) rfl rfl (fun w h Y => PySem.W.kIn_of Y) ?F
  case F =>
    intro w mg fa h KX G hmg
    refine' Sh.all_mk KX G hmg ?aC ?aI ?aS ?hMk ?hPg ?hHd ?hPo ?hTop ?hKc ?a1 ?l1 ?c1 ?k1 ?a2 ?l2 ?c2 ?k2 ?a3 ?l3 ?c3 ?k3 ?n3 ?a4 ?l4 ?c4 ?k4 ?a5 ?l5 ?c5 ?k5 ?a6 ?l6 ?c6 ?k6 ?a7 ?l7 ?c7 ?k7 ?a8 ?l8 ?c8 ?k8 ?a9 ?l9 ?c9 ?k9 ?a10 ?l10 ?c10 ?k10 ?n10 ?a11 ?l11 ?c11 ?k11 ?n11 ?a12 ?l12 ?c12 ?k12 ?n12 ?a13 ?l13 ?c13 ?k13 ?n13 ?a14 ?l14 ?c14 ?k14 ?a15 ?l15 ?c15 ?k15 ?a16 ?l16 ?c16 ?k16 ?a17 ?l17 ?c17 ?k17 ?n17 ?a18 ?l18 ?c18 ?k18 ?n18 ?a19 ?l19 ?c19 ?k19 ?a20 ?l20 ?c20 ?k20 ?a21 ?l21 ?c21 ?k21 ?a22 ?l22 ?c22 ?k22 ?a23 ?l23 ?c23 ?k23 ?a24 ?l24 ?c24 ?k24 ?a25 ?l25 ?c25 ?k25 ?a26 ?l26 ?c26 ?k26 ?n26 ?a27 ?l27 ?c27 ?k27 ?a28 ?l28 ?c28 ?k28 ?a29 ?l29 ?c29 ?k29 ?a30 ?l30 ?c30 ?k30 ?a31 ?l31 ?c31 ?k31 ?a32 ?l32 ?c32 ?k32 ?a33 ?l33 ?c33 ?k33 ?a34 ?l34 ?c34 ?k34 ?a35 ?l35 ?c35 ?k35 ?a36 ?l36 ?c36 ?k36 ?a37 ?l37 ?c37 ?k37 ?a38 ?l38 ?c38 ?k38 ?a39 ?l39 ?c39 ?k39 ?a40 ?l40 ?c40 ?k40 ?a41 ?l41 ?c41 ?k41 ?a42 ?l42 ?c42 ?k42 ?a43 ?l43 ?c43 ?k43 ?a44 ?l44 ?c44 ?k44 ?a45 ?l45 ?c45 ?k45 ?a46 ?l46 ?c46 ?k46 ?a47 ?l47 ?c47 ?k47 ?a48 ?l48 ?c48 ?k48 ?a49 ?l49 ?c49 ?k49 ?a50 ?l50 ?c50 ?k50 ?z0 ?z1 ?z2 ?z3 ?z4 ?z5 ?z6 ?z7 ?z8 ?z9 ?z10 ?z11
    (case aC => k_is)
    (case aI => k_is)
    (case aS => k_is)
    (case hMk => k_is)
    (case hPg => k_is)
    (case hHd => k_is)
    (case hPo => k_is)
    (case hTop => k_is)
    (case hKc => k_is)
    (case a1 => k_is)
    (case l1 => k_is)
    (case c1 => k_is)
    (case k1 => k_is)
    (case a2 => k_is)
    (case l2 => k_is)
    (case c2 => k_is)
    (case k2 => k_is)
    (case a3 => k_is)
    (case l3 => k_is)
    (case c3 => k_is)
    (case k3 => k_is)
    (case n3 => k_is)
    (case a4 => k_is)
    (case l4 => k_is)
    (case c4 => k_is)
    (case k4 => k_is)
    (case a5 => k_is)
    (case l5 => k_is)
    (case c5 => k_is)
    (case k5 => k_is)
    (case a6 => k_is)
    (case l6 => k_is)
    (case c6 => k_is)
    (case k6 => k_is)
    (case a7 => k_is)
    (case l7 => k_is)
    (case c7 => k_is)
    (case k7 => k_is)
    (case a8 => k_is)
    (case l8 => k_is)
    (case c8 => k_is)
    (case k8 => k_is)
    (case a9 => k_is)
    (case l9 => k_is)
    (case c9 => k_is)
    (case k9 => k_is)
    (case a10 => k_is)
    (case l10 => k_is)
    (case c10 => k_is)
    (case k10 => k_is)
    (case n10 => k_is)
    (case a11 => k_is)
    (case l11 => k_is)
    (case c11 => k_is)
    (case k11 => k_is)
    (case n11 => k_is)
    (case a12 => k_is)
    (case l12 => k_is)
    (case c12 => k_is)
    (case k12 => k_is)
    (case n12 => k_is)
    (case a13 => k_is)
    (case l13 => k_is)
    (case c13 => k_is)
    (case k13 => k_is)
    (case n13 => k_is)
    (case a14 => k_is)
    (case l14 => k_is)
    (case c14 => k_is)
    (case k14 => k_is)
    (case a15 => k_is)
    (case l15 => k_is)
    (case c15 => k_is)
    (case k15 => k_is)
    (case a16 => k_is)
    (case l16 => k_is)
    (case c16 => k_is)
    (case k16 => k_is)
    (case a17 => k_is)
    (case l17 => k_is)
    (case c17 => k_is)
    (case k17 => k_is)
    (case n17 => k_is)
    (case a18 => k_is)
    (case l18 => k_is)
    (case c18 => k_is)
    (case k18 => k_is)
    (case n18 => k_is)
    (case a19 => k_is)
    (case l19 => k_is)
    (case c19 => k_is)
    (case k19 => k_is)
    (case a20 => k_is)
    (case l20 => k_is)
    (case c20 => k_is)
    (case k20 => k_is)
    (case a21 => k_is)
    (case l21 => k_is)
    (case c21 => k_is)
    (case k21 => k_is)
    (case a22 => k_is)
    (case l22 => k_is)
    (case c22 => k_is)
    (case k22 => k_is)
    (case a23 => k_is)
    (case l23 => k_is)
    (case c23 => k_is)
    (case k23 => k_is)
    (case a24 => k_is)
    (case l24 => k_is)
    (case c24 => k_is)
    (case k24 => k_is)
    (case a25 => k_is)
    (case l25 => k_is)
    (case c25 => k_is)
    (case k25 => k_is)
    (case a26 => k_is)
    (case l26 => k_is)
    (case c26 => k_is)
    (case k26 => k_is)
    (case n26 => k_is)
    (case a27 => k_is)
    (case l27 => k_is)
    (case c27 => k_is)
    (case k27 => k_is)
    (case a28 => k_is)
    (case l28 => k_is)
    (case c28 => k_is)
    (case k28 => k_is)
    (case a29 => k_is)
    (case l29 => k_is)
    (case c29 => k_is)
    (case k29 => k_is)
    (case a30 => k_is)
    (case l30 => k_is)
    (case c30 => k_is)
    (case k30 => k_is)
    (case a31 => k_is)
    (case l31 => k_is)
    (case c31 => k_is)
    (case k31 => k_is)
    (case a32 => k_is)
    (case l32 => k_is)
    (case c32 => k_is)
    (case k32 => k_is)
    (case a33 => k_is)
    (case l33 => k_is)
    (case c33 => k_is)
    (case k33 => k_is)
    (case a34 => k_is)
    (case l34 => k_is)
    (case c34 => k_is)
    (case k34 => k_is)
    (case a35 => k_is)
    (case l35 => k_is)
    (case c35 => k_is)
    (case k35 => k_is)
    (case a36 => k_is)
    (case l36 => k_is)
    (case c36 => k_is)
    (case k36 => k_is)
    (case a37 => k_is)
    (case l37 => k_is)
    (case c37 => k_is)
    (case k37 => k_is)
    (case a38 => k_is)
    (case l38 => k_is)
    (case c38 => k_is)
    (case k38 => k_is)
    (case a39 => k_is)
    (case l39 => k_is)
    (case c39 => k_is)
    (case k39 => k_is)
    (case a40 => k_is)
    (case l40 => k_is)
    (case c40 => k_is)
    (case k40 => k_is)
    (case a41 => k_is)
    (case l41 => k_is)
    (case c41 => k_is)
    (case k41 => k_is)
    (case a42 => k_is)
    (case l42 => k_is)
    (case c42 => k_is)
    (case k42 => k_is)
    (case a43 => k_is)
    (case l43 => k_is)
    (case c43 => k_is)
    (case k43 => k_is)
    (case a44 => k_is)
    (case l44 => k_is)
    (case c44 => k_is)
    (case k44 => k_is)
    (case a45 => k_is)
    (case l45 => k_is)
    (case c45 => k_is)
    (case k45 => k_is)
    (case a46 => k_is)
    (case l46 => k_is)
    (case c46 => k_is)
    (case k46 => k_is)
    (case a47 => k_is)
    (case l47 => k_is)
    (case c47 => k_is)
    (case k47 => k_is)
    (case a48 => k_is)
    (case l48 => k_is)
    (case c48 => k_is)
    (case k48 => k_is)
    (case a49 => k_is)
    (case l49 => k_is)
    (case c49 => k_is)
    (case k49 => k_is)
    (case a50 => k_is)
    (case l50 => k_is)
    (case c50 => k_is)
    (case k50 => k_is)
    (case z0 => k_is)
    (case z1 => k_is)
    (case z2 => k_is)
    (case z3 => k_is)
    (case z4 => k_is)
    (case z5 => k_is)
    (case z6 => k_is)
    (case z7 => k_is)
    (case z8 => k_is)
    (case z9 => k_is)
    (case z10 => k_is)
    (case z11 => k_is)

