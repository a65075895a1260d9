import PyProof.Rows.All
import Wide.All
import OpenK.AllK
import Wide.FinOn
import HandS.ForMost
import HandS.Evl
import HandS.Steps
import HandS.Walk
import HandS.Strs
import HandS.SetFor
import HandS.SortKw
import HandS.IsInst
import HandS.Codes
import KE.DataMinMax
import PySem.Challenge.RW_standstill_k24_whole_only_what_grows
-- KMath
set_option Elab.async false
set_option linter.all false
namespace KM

/-- a part of a body -/
inductive Part where
  | inn (t : Nat) | out (t : Nat) | least (b : Int) (its : List (Nat × Int)) | most (b : Int) (its : List (Nat × Int))

/-- a rule: its head (none: a never-rule), its parts -/
abbrev Rule := Option Nat × List Part

def wsum (its : List (Nat × Int)) (s : Nat → Bool) : Int := ((its.filter fun p => s p.1).map (·.2)).sum
def holds (p : Part) (ri wo : Nat → Bool) : Bool := match p with
  | .inn t => ri t
  | .out t => !wo t
  | .least b its => decide (b ≤ wsum its ri)
  | .most b its => decide (wsum its wo ≤ b)
def body (ps : List Part) (ri wo : Nat → Bool) : Bool := ps.all fun p => holds p ri wo
def things : Part → List Nat
  | .inn t => [t]
  | .out t => [t]
  | .least _ its => its.map (·.1)
  | .most _ its => its.map (·.1)
def items : Part → List (Nat × Int)
  | .inn _ => []
  | .out _ => []
  | .least _ its => its
  | .most _ its => its
def stepOf : Part → Nat
  | .inn _ => 0
  | .out _ => 1
  | .least _ _ => 0
  | .most _ _ => 1
structure WfPart (n : Nat) (p : Part) : Prop where
  lt : ∀ t ∈ things p, t < n
  pos : ∀ it ∈ items p, (0 : Int) ≤ it.2
  len : (items p).length ≤ 3
structure WfRule (n : Nat) (r : Rule) : Prop where
  head : ∀ h, r.1 = some h → h < n
  parts : ∀ p ∈ r.2, WfPart n p
  len : r.2.length ≤ 3
structure Wf (n : Nat) (R : List Rule) : Prop where
  many : n ≤ 8
  rules : ∀ r ∈ R, WfRule n r
  len : R.length ≤ 20

/-! ### sums and parts under larger and equal sets -/
theorem wsum_nil (s : Nat → Bool) : wsum [] s = 0 := rfl
theorem wsum_cons (p : Nat × Int) (r : List (Nat × Int)) (s : Nat → Bool) : wsum (p :: r) s = (if s p.1 = true then p.2 else 0) + wsum r s := by
  unfold wsum
  rw [List.filter_cons]
  by_cases h : s p.1 = true
  · rw [if_pos h, if_pos h, List.map_cons, List.sum_cons]
  · rw [if_neg h, if_neg h, Int.zero_add]
theorem wsum_mono {s u : Nat → Bool} : ∀ {its : List (Nat × Int)}, (∀ it ∈ its, (0 : Int) ≤ it.2) → (∀ t ∈ its.map (·.1), s t = true → u t = true) → wsum its s ≤ wsum its u
  | [], _, _ => by rw [wsum_nil, wsum_nil]; exact Int.le_refl _
  | p :: r, h, k => by
    have ih := wsum_mono (s := s) (u := u) (its := r) (fun it m => h it (List.mem_cons_of_mem _ m)) (fun t m => k t (by rw [List.map_cons]; exact List.mem_cons_of_mem _ m))
    have h0 := h p List.mem_cons_self
    have k0 := k p.1 (by rw [List.map_cons]; exact List.mem_cons_self)
    rw [wsum_cons, wsum_cons]
    by_cases e : s p.1 = true
    · rw [if_pos e, if_pos (k0 e)]; omega
    · rw [if_neg e]
      by_cases e2 : u p.1 = true
      · rw [if_pos e2]; omega
      · rw [if_neg e2]; omega
theorem wsum_congr {s u : Nat → Bool} : ∀ {its : List (Nat × Int)}, (∀ t ∈ its.map (·.1), s t = u t) → wsum its s = wsum its u
  | [], _ => rfl
  | p :: r, k => by
    have ih := wsum_congr (s := s) (u := u) (its := r) (fun t m => k t (by rw [List.map_cons]; exact List.mem_cons_of_mem _ m))
    have k0 := k p.1 (by rw [List.map_cons]; exact List.mem_cons_self)
    rw [wsum_cons, wsum_cons, ih, k0]
/-- the rising set grows; the world is the same where the part leans against it -/
theorem holds_mono {n : Nat} {p : Part} (w : WfPart n p) {s u v x : Nat → Bool} (h1 : ∀ t ∈ things p, s t = true → u t = true) (h2 : stepOf p = 1 → ∀ t ∈ things p, v t = x t) (h : holds p s v = true) : holds p u x = true := by
  cases p with
  | inn t => exact h1 t (by simp [things]) h
  | out t =>
    have e := h2 rfl t (by simp [things])
    show (!x t) = true
    rw [← e]
    exact h
  | least b its =>
    have m := wsum_mono (s := s) (u := u) w.pos h1
    have h' : b ≤ wsum its s := of_decide_eq_true h
    exact decide_eq_true (Int.le_trans h' m)
  | most b its =>
    have e := wsum_congr (s := v) (u := x) (h2 rfl)
    show decide (wsum its x ≤ b) = true
    rw [← e]
    exact h
theorem body_mono {n : Nat} {ps : List Part} (w : ∀ p ∈ ps, WfPart n p) {s u v x : Nat → Bool} (h1 : ∀ p ∈ ps, ∀ t ∈ things p, s t = true → u t = true) (h2 : ∀ p ∈ ps, stepOf p = 1 → ∀ t ∈ things p, v t = x t)
    (h : body ps s v = true) : body ps u x = true := by
  unfold body at h ⊢
  rw [List.all_eq_true] at h ⊢
  exact fun p hp => holds_mono (w p hp) (h1 p hp) (h2 p hp) (h p hp)
theorem body_congr {ps : List Part} {s u v x : Nat → Bool} (h1 : ∀ p ∈ ps, ∀ t ∈ things p, s t = u t) (h2 : ∀ p ∈ ps, ∀ t ∈ things p, v t = x t) : body ps s v = body ps u x := by
  have key : ∀ p ∈ ps, holds p s v = holds p u x := by
    intro p hp
    cases p with
    | inn t => exact h1 _ hp t (by simp [things])
    | out t =>
      show (!v t) = (!x t)
      rw [h2 _ hp t (by simp [things])]
    | least b its =>
      show decide (b ≤ wsum its s) = decide (b ≤ wsum its u)
      rw [wsum_congr (h1 _ hp)]
    | most b its =>
      show decide (wsum its v ≤ b) = decide (wsum its x ≤ b)
      rw [wsum_congr (h2 _ hp)]
  unfold body
  have go : ∀ l : List Part, (∀ p ∈ l, holds p s v = holds p u x) → (l.all fun p => holds p s v) = (l.all fun p => holds p u x) := by
    intro l
    induction l with
    | nil => intro _; rfl
    | cons p r ih =>
      intro k
      rw [List.all_cons, List.all_cons, k p List.mem_cons_self, ih fun q m => k q (List.mem_cons_of_mem _ m)]
  exact go ps key

/-! ### sets that stand -/
def mem (L : List Nat) : Nat → Bool := fun t => decide (t ∈ L)
theorem mem_iff {L : List Nat} {t : Nat} : mem L t = true ↔ t ∈ L := decide_eq_true_iff
def Closed (R : List Rule) (W : Nat → Bool) : Prop := ∀ h ps, (some h, ps) ∈ R → body ps W W = true → W h = true
def Founded (R : List Rule) (W : Nat → Bool) (L : List Nat) : Prop := ∀ k h, L[k]? = some h → ∃ ps, (some h, ps) ∈ R ∧ body ps (mem (L.take k)) W = true
structure Stable (R : List Rule) (n : Nat) (W : Nat → Bool) (L : List Nat) : Prop where
  closed : Closed R W
  onto : ∀ t, t < n → W t = true → t ∈ L
  sub : ∀ t ∈ L, W t = true
  founded : Founded R W L
/-- no rule of R makes a thing of W outside U by U -/
def Full (R : List Rule) (U W : Nat → Bool) : Prop := ∀ h ps, (some h, ps) ∈ R → W h = true → U h = false → body ps U W = false
theorem take_mem {α : Type} {L : List α} {k : Nat} {t : α} (h : t ∈ L.take k) : ∃ j, j < k ∧ L[j]? = some t := by
  obtain ⟨j, hj⟩ := List.mem_iff_getElem?.mp h
  have h1 : j < (L.take k).length := (List.getElem?_eq_some_iff.mp hj).1
  have h2 : j < k := by
    rw [List.length_take] at h1
    omega
  refine ⟨j, h2, ?_⟩
  rw [List.getElem?_take_of_lt h2] at hj
  exact hj
/-- a set that stands is built to its end -/
theorem built_all {n : Nat} {R : List Rule} (w : ∀ r ∈ R, WfRule n r) {W : Nat → Bool} {L M : List Nat} (S : Stable R n W L) (F : Full R (mem M) W) : ∀ t, t < n → W t = true → t ∈ M := by
  have go : ∀ (k j h : Nat), j < k → L[j]? = some h → h ∈ M := by
    intro k
    induction k with
    | zero => intro j h hj; omega
    | succ k ih =>
      intro j h hj e
      by_cases hm : h ∈ M
      · exact hm
      · exfalso
        obtain ⟨ps, hr, hb⟩ := S.founded j h e
        have hW : W h = true := S.sub h (List.mem_of_getElem? e)
        have f := F h ps hr hW (decide_eq_false hm)
        have g : body ps (mem M) W = true := body_mono (w _ hr).parts (fun p hp t ht hs => by
          obtain ⟨i, hi, ei⟩ := take_mem (mem_iff.mp hs)
          exact mem_iff.mpr (ih i t (by omega) ei)) (fun _ _ _ _ _ => rfl) hb
        rw [f] at g
        cases g
  intro t ht hW
  obtain ⟨j, e⟩ := List.mem_iff_getElem?.mp (S.onto t ht hW)
  exact go (j + 1) j t (Nat.lt_succ_self j) e

/-! ### one set that stands, where there are levels -/
def Levelled (R : List Rule) (f : Nat → Int) : Prop := ∀ h ps, (some h, ps) ∈ R → ∀ p ∈ ps, ∀ t ∈ things p, f t + (stepOf p : Int) ≤ f h
theorem one_way {n : Nat} {R : List Rule} (w : ∀ r ∈ R, WfRule n r) {f : Nat → Int} (v : Levelled R f) {G W : Nat → Bool} {L M : List Nat} (S : Stable R n G L) (T : Stable R n W M) (N : Int)
    (ih : ∀ t, t < n → f t < N → G t = W t) : ∀ t, t < n → f t ≤ N → G t = true → W t = true := by
  have go : ∀ (k j h : Nat), j < k → L[j]? = some h → f h ≤ N → W h = true := by
    intro k
    induction k with
    | zero => intro j h hj; omega
    | succ k ihk =>
      intro j h hj e hf
      obtain ⟨ps, hr, hb⟩ := S.founded j h e
      refine T.closed h ps hr (body_mono (w _ hr).parts (fun p hp t ht hs => ?_) (fun p hp h1 t ht => ?_) hb)
      · obtain ⟨i, hi, ei⟩ := take_mem (mem_iff.mp hs)
        have := v h ps hr p hp t ht
        exact ihk i t (by omega) ei (by omega)
      · have := v h ps hr p hp t ht
        rw [h1] at this
        exact ih t (((w _ hr).parts p hp).lt t ht) (by omega)
  intro t ht hf hG
  obtain ⟨j, e⟩ := List.mem_iff_getElem?.mp (S.onto t ht hG)
  exact go (j + 1) j t (Nat.lt_succ_self j) e hf
theorem only_one {n : Nat} {R : List Rule} (w : ∀ r ∈ R, WfRule n r) {f : Nat → Int} (f0 : ∀ t, t < n → 0 ≤ f t) (v : Levelled R f) {G W : Nat → Bool} {L M : List Nat} (S : Stable R n G L) (T : Stable R n W M) :
    ∀ t, t < n → G t = W t := by
  have go : ∀ N : Nat, ∀ t, t < n → f t < (N : Int) → G t = W t := by
    intro N
    induction N with
    | zero =>
      intro t ht h
      have := f0 t ht
      omega
    | succ N ih =>
      intro t ht h
      have a := one_way w v S T (N : Int) ih t ht (by omega)
      have b := one_way w v T S (N : Int) (fun t ht hf => (ih t ht hf).symm) t ht (by omega)
      cases hg : G t with
      | true => exact (a hg).symm
      | false =>
        cases hw : W t with
        | true => rw [b hw] at hg; cases hg
        | false => rfl
  intro t ht
  have := f0 t ht
  exact go (f t + 1).toNat t ht (by omega)

/-! ### what grows -/
structure Grown (R : List Rule) (n : Nat) (f : Nat → Int) (l : Int) (L : List Nat) : Prop where
  lt : ∀ t ∈ L, t < n ∧ f t ≤ l
  founded : Founded R (mem L) L
  full : ∀ h ps, (some h, ps) ∈ R → f h < l → body ps (mem L) (mem L) = true → h ∈ L
theorem grown_nil {R : List Rule} {n : Nat} {f : Nat → Int} (f0 : ∀ t, t < n → 0 ≤ f t) (w : ∀ r ∈ R, WfRule n r) : Grown R n f 0 [] where
  lt := fun _ h => nomatch h
  founded := fun k h e => by simp at e
  full := fun h ps hr hf _ => by
    have := f0 h ((w _ hr).head h rfl)
    omega
theorem mem_snoc_ne {L : List Nat} {x t : Nat} (h : t ≠ x) : mem (L ++ [x]) t = mem L t := by
  unfold mem
  have : (t ∈ L ++ [x]) ↔ t ∈ L := by
    rw [List.mem_append, List.mem_singleton]
    exact ⟨fun z => z.elim id fun e => absurd e h, Or.inl⟩
  exact decide_eq_decide.mpr this
theorem Grown.snoc {R : List Rule} {n : Nat} {f : Nat → Int} {l : Int} {L : List Nat} (w : ∀ r ∈ R, WfRule n r) (v : Levelled R f) (g : Grown R n f l L) {x : Nat} {ps : List Part} (hr : (some x, ps) ∈ R) (hf : f x = l)
    (hb : body ps (mem L) (mem L) = true) : Grown R n f l (L ++ [x]) where
  lt := fun t ht => by
    rcases List.mem_append.mp ht with h | h
    · exact g.lt t h
    · rw [List.mem_singleton] at h
      subst h
      exact ⟨(w _ hr).head t rfl, by omega⟩
  founded := fun k h e => by
    by_cases hk : k < L.length
    · have e' : L[k]? = some h := by
        rw [List.getElem?_append_left hk] at e
        exact e
      obtain ⟨qs, hq, hbq⟩ := g.founded k h e'
      have hl := (g.lt h (List.mem_of_getElem? e')).2
      refine ⟨qs, hq, ?_⟩
      have et : (L ++ [x]).take k = L.take k := by
        rw [List.take_append_of_le_length (by omega)]
      rw [et]
      refine body_mono (w _ hq).parts (fun _ _ _ _ z => z) (fun p hp h1 t ht => ?_) hbq
      have := v h qs hq p hp t ht
      rw [h1] at this
      exact (mem_snoc_ne (by rintro rfl; omega)).symm
    · have hlt : k < (L ++ [x]).length := (List.getElem?_eq_some_iff.mp e).1
      rw [List.length_append, List.length_singleton] at hlt
      have ek : k = L.length := by omega
      subst ek
      rw [List.getElem?_append_right (Nat.le_refl _), Nat.sub_self] at e
      have ex : x = h := Option.some.inj e
      subst ex
      refine ⟨ps, hr, ?_⟩
      have et : (L ++ [x]).take L.length = L := List.take_left
      rw [et]
      refine body_mono (w _ hr).parts (fun _ _ _ _ z => z) (fun p hp h1 t ht => ?_) hb
      have := v x ps hr p hp t ht
      rw [h1] at this
      exact (mem_snoc_ne (by rintro rfl; omega)).symm
  full := fun h qs hq hlt hbq => by
    have e : body qs (mem (L ++ [x])) (mem (L ++ [x])) = body qs (mem L) (mem L) := by
      have k : ∀ p ∈ qs, ∀ t ∈ things p, mem (L ++ [x]) t = mem L t := fun p hp t ht => by
        have := v h qs hq p hp t ht
        exact mem_snoc_ne (by rintro rfl; omega)
      exact body_congr k k
    rw [e] at hbq
    exact List.mem_append_left _ (g.full h qs hq hlt hbq)
theorem Grown.up {R : List Rule} {n : Nat} {f : Nat → Int} {l : Int} {L : List Nat} (g : Grown R n f l L) (h : ∀ h ps, (some h, ps) ∈ R → f h = l → body ps (mem L) (mem L) = true → h ∈ L) : Grown R n f (l + 1) L where
  lt := fun t ht => ⟨(g.lt t ht).1, by have := (g.lt t ht).2; omega⟩
  founded := g.founded
  full := fun x ps hr hf hb => by
    by_cases e : f x = l
    · exact h x ps hr e hb
    · exact g.full x ps hr (by omega) hb
theorem Grown.stable {R : List Rule} {n : Nat} {f : Nat → Int} {l : Int} {L : List Nat} (w : ∀ r ∈ R, WfRule n r) (g : Grown R n f l L) (hl : ∀ t, t < n → f t < l) : Stable R n (mem L) L where
  closed := fun h ps hr hb => mem_iff.mpr (g.full h ps hr (hl h ((w _ hr).head h rfl)) hb)
  onto := fun t _ h => mem_iff.mp h
  sub := fun t h => mem_iff.mpr h
  founded := g.founded

/-! ### a set judged -/
def breaks (r : Rule) (W : Nat → Bool) : Bool := body r.2 W W && (match r.1 with | none => true | some h => !W h)
theorem closed_of {R : List Rule} {W : Nat → Bool} (h : ∀ r ∈ R, breaks r W = false) : Closed R W := fun x ps hr hb => by
  have q := h _ hr
  unfold breaks at q
  rw [hb] at q
  cases e : W x with
  | true => rfl
  | false =>
    rw [Bool.true_and] at q
    have q' : (!W x) = false := q
    rw [e] at q'
    cases q'
theorem makes_not_broken {R : List Rule} {W : Nat → Bool} (h : Closed R W) {x : Nat} {ps : List Part} (hr : (some x, ps) ∈ R) : breaks (some x, ps) W = false := by
  unfold breaks
  cases hb : body ps W W with
  | false => rfl
  | true =>
    have e := h x ps hr hb
    show (true && !W x) = false
    rw [e]
    rfl
/-- the rules that make -/
def makesOf (R : List Rule) : List Rule := R.filter fun r => r.1.isSome
theorem mem_makes {R : List Rule} {h : Nat} {ps : List Part} : (some h, ps) ∈ makesOf R ↔ (some h, ps) ∈ R := by
  unfold makesOf
  rw [List.mem_filter]
  exact ⟨fun z => z.1, fun z => ⟨z, rfl⟩⟩
theorem makes_wf {n : Nat} {R : List Rule} (w : ∀ r ∈ R, WfRule n r) : ∀ r ∈ makesOf R, WfRule n r := fun r hr => w r (List.mem_filter.mp hr).1
theorem makes_levelled {R : List Rule} {f : Nat → Int} : Levelled R f ↔ Levelled (makesOf R) f :=
  ⟨fun v h ps hr => v h ps (mem_makes.mp hr), fun v h ps hr => v h ps (mem_makes.mpr hr)⟩
theorem Stable.makes {R : List Rule} {n : Nat} {W : Nat → Bool} {L : List Nat} (S : Stable R n W L) : Stable (makesOf R) n W L where
  closed := fun h ps hr => S.closed h ps (mem_makes.mp hr)
  onto := S.onto
  sub := S.sub
  founded := fun k h e => by
    obtain ⟨ps, hr, hb⟩ := S.founded k h e
    exact ⟨ps, mem_makes.mpr hr, hb⟩
/-- a set whose rules are all kept and that is built to its end stands -/
theorem stands_of {R : List Rule} {n : Nat} {W : Nat → Bool} {L : List Nat} (h : ∀ r ∈ R, breaks r W = false) (hs : ∀ t ∈ L, W t = true) (hf : Founded R W L) (ho : ∀ t, t < n → W t = true → t ∈ L) : Stable R n W L :=
  ⟨closed_of h, ho, hs, hf⟩
theorem founded_nil {R : List Rule} {W : Nat → Bool} : Founded R W [] := fun k h e => by simp at e
theorem founded_snoc {R : List Rule} {W : Nat → Bool} {L : List Nat} (g : Founded R W L) {x : Nat} {ps : List Part} (hr : (some x, ps) ∈ R) (hb : body ps (mem L) W = true) : Founded R W (L ++ [x]) := fun k h e => by
  by_cases hk : k < L.length
  · rw [List.getElem?_append_left hk] at e
    obtain ⟨qs, hq, hbq⟩ := g k h e
    exact ⟨qs, hq, by rw [List.take_append_of_le_length (by omega)]; exact hbq⟩
  · have hlt : k < (L ++ [x]).length := (List.getElem?_eq_some_iff.mp e).1
    rw [List.length_append, List.length_singleton] at hlt
    have ek : k = L.length := by omega
    subst ek
    rw [List.getElem?_append_right (Nat.le_refl _), Nat.sub_self] at e
    have ex : x = h := Option.some.inj e
    subst ex
    exact ⟨ps, hr, by rw [List.take_left]; exact hb⟩
end KM

-- KLev
set_option Elab.async false
set_option linter.all false
namespace KM
/-! ### the levels, step by step -/
/-- the things of a set below n, in order -/
def nums (n : Nat) (s : Nat → Bool) : List Nat := (List.range n).filter s
def isThing (its : List (Nat × Int)) (t : Nat) : Bool := its.any fun p => p.1 == t
def named (n : Nat) : Part → List Nat
  | .inn t => [t]
  | .out t => [t]
  | .least _ its => nums n (isThing its)
  | .most _ its => nums n (isThing its)
theorem mem_nums {n : Nat} {s : Nat → Bool} {t : Nat} : t ∈ nums n s ↔ t < n ∧ s t = true := by
  unfold nums
  rw [List.mem_filter, List.mem_range]
theorem isThing_iff {its : List (Nat × Int)} {t : Nat} : isThing its t = true ↔ t ∈ its.map (·.1) := by
  unfold isThing
  rw [List.any_eq_true, List.mem_map]
  constructor
  · rintro ⟨p, hp, e⟩
    exact ⟨p, hp, eq_of_beq e⟩
  · rintro ⟨p, hp, e⟩
    exact ⟨p, hp, beq_iff_eq.mpr e⟩
theorem mem_named {n : Nat} {p : Part} (w : WfPart n p) {t : Nat} : t ∈ named n p ↔ t ∈ things p := by
  cases p with
  | inn x => exact Iff.rfl
  | out x => exact Iff.rfl
  | least b its =>
    show t ∈ nums n (isThing its) ↔ t ∈ its.map (·.1)
    rw [mem_nums, isThing_iff]
    exact ⟨fun h => h.2, fun h => ⟨w.lt t h, h⟩⟩
  | most b its =>
    show t ∈ nums n (isThing its) ↔ t ∈ its.map (·.1)
    rw [mem_nums, isThing_iff]
    exact ⟨fun h => h.2, fun h => ⟨w.lt t h, h⟩⟩
/-- one leaning: one leans on other by a step -/
abbrev Edge := Nat × Nat × Nat
def leanP (n : Nat) (h : Nat) (p : Part) : List Edge := (named n p).map fun t => (h, t, stepOf p)
def leanR (n : Nat) (r : Rule) : List Edge := match r.1 with
  | none => []
  | some h => r.2.flatMap (leanP n h)
def leans (n : Nat) (R : List Rule) : List Edge := R.flatMap (leanR n)
theorem mem_leans {n : Nat} {R : List Rule} (w : ∀ r ∈ R, WfRule n r) {h : Nat} {ps : List Part} (hr : (some h, ps) ∈ R) {p : Part} (hp : p ∈ ps) {t : Nat} (ht : t ∈ things p) : (h, t, stepOf p) ∈ leans n R := by
  unfold leans
  refine List.mem_flatMap.mpr ⟨_, hr, ?_⟩
  show (h, t, stepOf p) ∈ ps.flatMap (leanP n h)
  refine List.mem_flatMap.mpr ⟨p, hp, ?_⟩
  exact List.mem_map.mpr ⟨t, (mem_named ((w _ hr).parts p hp)).mpr ht, rfl⟩
theorem stepOf_le (p : Part) : stepOf p ≤ 1 := by cases p <;> simp [stepOf]
theorem lean_wf {n : Nat} {R : List Rule} (w : ∀ r ∈ R, WfRule n r) {e : Edge} (h : e ∈ leans n R) : e.1 < n ∧ e.2.1 < n ∧ e.2.2 ≤ 1 := by
  unfold leans at h
  obtain ⟨r, hr, he⟩ := List.mem_flatMap.mp h
  obtain ⟨hd, ps⟩ := r
  cases hd with
  | none => exact (List.not_mem_nil (show e ∈ ([] : List Edge) from he)).elim
  | some x =>
    have he' : e ∈ ps.flatMap (leanP n x) := he
    obtain ⟨p, hp, hq⟩ := List.mem_flatMap.mp he'
    obtain ⟨t, ht, rfl⟩ := List.mem_map.mp hq
    exact ⟨(w _ hr).head x rfl, ((w _ hr).parts p hp).lt t ((mem_named ((w _ hr).parts p hp)).mp ht), stepOf_le p⟩
theorem nums_len (n : Nat) (s : Nat → Bool) : (nums n s).length ≤ n := by
  unfold nums
  have := List.length_filter_le s (List.range n)
  rw [List.length_range] at this
  exact this
theorem named_len {n : Nat} (hn : n ≤ 8) (p : Part) : (named n p).length ≤ 8 := by
  cases p with
  | inn _ => show 1 ≤ 8; decide
  | out _ => show 1 ≤ 8; decide
  | least _ its => exact Nat.le_trans (nums_len n _) hn
  | most _ its => exact Nat.le_trans (nums_len n _) hn
theorem flat_len {α β : Type} {f : α → List β} {c : Nat} : ∀ {l : List α}, (∀ x ∈ l, (f x).length ≤ c) → (l.flatMap f).length ≤ c * l.length
  | [], _ => by simp
  | x :: r, h => by
    have ih := flat_len (f := f) (c := c) (l := r) fun y m => h y (List.mem_cons_of_mem _ m)
    have h0 := h x List.mem_cons_self
    rw [List.flatMap_cons, List.length_append, List.length_cons, Nat.mul_succ]
    omega
theorem leanR_len {n : Nat} (hn : n ≤ 8) {r : Rule} (w : WfRule n r) : (leanR n r).length ≤ 24 := by
  obtain ⟨hd, ps⟩ := r
  cases hd with
  | none => show 0 ≤ 24; decide
  | some x =>
    have h := flat_len (f := leanP n x) (c := 8) (l := ps) fun p _ => by
      show ((named n p).map _).length ≤ 8
      rw [List.length_map]
      exact named_len hn p
    have := w.len
    show (ps.flatMap (leanP n x)).length ≤ 24
    have e : ps.length ≤ 3 := this
    omega
theorem leans_len {n : Nat} {R : List Rule} (w : Wf n R) : (leans n R).length ≤ 480 := by
  have h := flat_len (f := leanR n) (c := 24) (l := R) fun r hr => leanR_len w.many (w.rules r hr)
  have := w.len
  show (R.flatMap (leanR n)).length ≤ 480
  omega

def relax (c : List Int × Bool) (e : Edge) : List Int × Bool :=
  if c.1.getD e.1 0 < c.1.getD e.2.1 0 + (e.2.2 : Int) then (c.1.set e.1 (c.1.getD e.2.1 0 + (e.2.2 : Int)), true) else c
def relaxes (E : List Edge) (f : List Int) : List Int × Bool := E.foldl relax (f, false)
def levGo (E : List Edge) : Nat → List Int → Option (List Int)
  | 0, _ => none
  | k + 1, f => if (relaxes E f).2 = true then levGo E k (relaxes E f).1 else some (relaxes E f).1
def levels (n : Nat) (R : List Rule) : Option (List Int) := levGo (leans n R) (n + 1) (List.replicate n 0)

theorem relax_len (c : List Int × Bool) (e : Edge) : (relax c e).1.length = c.1.length := by
  unfold relax
  split
  · rw [List.length_set]
  · rfl
theorem fold_len (E : List Edge) : ∀ c : List Int × Bool, (E.foldl relax c).1.length = c.1.length := by
  induction E with
  | nil => intro c; rfl
  | cons e r ih => intro c; rw [List.foldl_cons, ih, relax_len]
/-- where nothing is marked, nothing has changed and no leaning is short -/
theorem fold_still (E : List Edge) : ∀ c : List Int × Bool, (E.foldl relax c).2 = false → E.foldl relax c = c ∧ c.2 = false ∧ ∀ e ∈ E, c.1.getD e.2.1 0 + (e.2.2 : Int) ≤ c.1.getD e.1 0 := by
  induction E with
  | nil => intro c h; exact ⟨rfl, h, fun _ m => nomatch m⟩
  | cons e r ih =>
    intro c h
    rw [List.foldl_cons] at h
    obtain ⟨h1, h2, h3⟩ := ih _ h
    by_cases q : c.1.getD e.1 0 < c.1.getD e.2.1 0 + (e.2.2 : Int)
    · exfalso
      have : (relax c e).2 = true := by unfold relax; rw [if_pos q]
      rw [this] at h2
      cases h2
    · have ec : relax c e = c := by unfold relax; rw [if_neg q]
      rw [ec] at h1 h2 h3
      refine ⟨by rw [List.foldl_cons, ec]; exact h1, h2, fun x m => ?_⟩
      rcases List.mem_cons.mp m with rfl | m
      · omega
      · exact h3 x m
def Betw (f : List Int) (m : Int) : Prop := ∀ x ∈ f, 0 ≤ x ∧ x ≤ m
theorem Betw.getD {f : List Int} {m : Int} (w : Betw f m) (hm : 0 ≤ m) (i : Nat) : 0 ≤ f.getD i 0 ∧ f.getD i 0 ≤ m := by
  rw [List.getD_eq_getElem?_getD]
  cases e : f[i]? with
  | none => exact ⟨Int.le_refl _, hm⟩
  | some x => exact w x (List.mem_of_getElem? e)
theorem relax_betw {c : List Int × Bool} {e : Edge} {m : Int} (hm : 0 ≤ m) (he : e.2.2 ≤ 1) (w : Betw c.1 m) : Betw (relax c e).1 (m + 1) := by
  have g := w.getD hm e.2.1
  unfold relax
  split
  · intro x hx
    rcases List.mem_or_eq_of_mem_set hx with h | h
    · have := w x h
      omega
    · subst h
      omega
  · intro x hx
    have := w x hx
    omega
theorem fold_betw (E : List Edge) : ∀ (c : List Int × Bool) (m : Int), 0 ≤ m → (∀ e ∈ E, e.2.2 ≤ 1) → Betw c.1 m → Betw (E.foldl relax c).1 (m + E.length) := by
  induction E with
  | nil => intro c m hm _ w; simpa using w
  | cons e r ih =>
    intro c m hm he w
    have h := ih _ (m + 1) (by omega) (fun x k => he x (List.mem_cons_of_mem _ k)) (relax_betw hm (he e List.mem_cons_self) w)
    rw [List.foldl_cons, List.length_cons]
    have e1 : m + ((r.length + 1 : Nat) : Int) = m + 1 + (r.length : Int) := by omega
    rw [e1]
    exact h
theorem levGo_ok {n : Nat} (E : List Edge) (he : ∀ e ∈ E, e.2.2 ≤ 1) : ∀ (k : Nat) (f g : List Int) (m : Int), f.length = n → 0 ≤ m → Betw f m → levGo E k f = some g →
    g.length = n ∧ Betw g (m + k * E.length) ∧ ∀ e ∈ E, g.getD e.2.1 0 + (e.2.2 : Int) ≤ g.getD e.1 0 := by
  intro k
  induction k with
  | zero => intro f g m _ _ _ h; cases h
  | succ k ih =>
    intro f g m hf hm w h
    have hw := fold_betw E (f, false) m hm he w
    have hl := fold_len E (f, false)
    unfold levGo at h
    by_cases q : (relaxes E f).2 = true
    · rw [if_pos q] at h
      obtain ⟨a, b, c⟩ := ih (relaxes E f).1 g (m + E.length) (hl.trans hf) (by omega) hw h
      refine ⟨a, ?_, c⟩
      have e1 : m + ((k + 1 : Nat) : Int) * (E.length : Int) = m + (E.length : Int) + (k : Int) * (E.length : Int) := by
        rw [show ((k + 1 : Nat) : Int) = (k : Int) + 1 by omega, Int.add_mul, Int.one_mul]
        omega
      rw [e1]
      exact b
    · rw [if_neg q] at h
      have e := Option.some.inj h
      have q' : (E.foldl relax (f, false)).2 = false := Bool.eq_false_iff.mpr q
      obtain ⟨h1, _, h3⟩ := fold_still E (f, false) q'
      have e1 : (relaxes E f).1 = f := congrArg Prod.fst h1
      rw [e1] at e
      subst e
      refine ⟨hf, fun x hx => ?_, h3⟩
      have := w x hx
      have : (0 : Int) ≤ ((k + 1 : Nat) : Int) * (E.length : Int) := Int.mul_nonneg (by omega) (by omega)
      omega
/-- what levels are: as many as things, not below 0, not above a small number, and no leaning is short -/
structure LevOk (n : Nat) (R : List Rule) (g : List Int) : Prop where
  len : g.length = n
  within : Betw g 10000
  lev : Levelled R fun t => g.getD t 0
theorem levels_ok {n : Nat} {R : List Rule} (w : Wf n R) {g : List Int} (h : levels n R = some g) : LevOk n R g := by
  have hE := leans_len w
  obtain ⟨a, b, c⟩ := levGo_ok (n := n) (leans n R) (fun e he => (lean_wf w.rules he).2.2) (n + 1) (List.replicate n 0) g 0 (by simp) (Int.le_refl _) (fun x hx => by
    have := (List.mem_replicate.mp hx).2
    subst this
    exact ⟨Int.le_refl _, Int.le_refl _⟩) h
  refine ⟨a, fun x hx => ?_, fun hd ps hr p hp t ht => ?_⟩
  · have h1 := b x hx
    have hn := w.many
    have h2 : (n + 1) * (leans n R).length ≤ 9 * 480 := Nat.mul_le_mul (by omega) hE
    have h3 : ((n + 1 : Nat) : Int) * ((leans n R).length : Int) ≤ 4320 := by
      rw [← Int.natCast_mul]
      omega
    omega
  · have := c _ (mem_leans w.rules hr hp ht)
    exact this
theorem LevOk.pos {n : Nat} {R : List Rule} {g : List Int} (v : LevOk n R g) : ∀ t, t < n → 0 ≤ g.getD t 0 := fun t _ => (v.within.getD (by decide) t).1

/-! ### sets as lists in order -/
theorem nums_nodup (n : Nat) (s : Nat → Bool) : (nums n s).Nodup := List.Pairwise.filter _ List.nodup_range
theorem nums_sorted (n : Nat) (s : Nat → Bool) : (nums n s).Pairwise (· < ·) := List.Pairwise.filter _ List.pairwise_lt_range
theorem nums_congr {n : Nat} {s u : Nat → Bool} (h : ∀ t, t < n → s t = u t) : nums n s = nums n u := by
  unfold nums
  exact List.filter_congr fun t ht => h t (List.mem_range.mp ht)
theorem nums_inj {n : Nat} {s u : Nat → Bool} (h : nums n s = nums n u) : ∀ t, t < n → s t = u t := fun t ht => by
  have e : t ∈ nums n s ↔ t ∈ nums n u := by rw [h]
  rw [mem_nums, mem_nums] at e
  cases hs : s t with
  | true => exact (e.mp ⟨ht, hs⟩).2.symm
  | false =>
    cases hu : u t with
    | true =>
      have := (e.mpr ⟨ht, hu⟩).2
      rw [hs] at this
      cases this
    | false => rfl
/-- a list in order of the same things is that list -/
theorem sorted_eq : ∀ {a b : List Nat}, a.Pairwise (· < ·) → b.Pairwise (· < ·) → (∀ t, t ∈ a ↔ t ∈ b) → a = b
  | [], [], _, _, _ => rfl
  | [], y :: s, _, _, h => ((List.not_mem_nil ((h y).mpr List.mem_cons_self))).elim
  | x :: r, [], _, _, h => ((List.not_mem_nil ((h x).mp List.mem_cons_self))).elim
  | x :: r, y :: s, ha, hb, h => by
    rw [List.pairwise_cons] at ha hb
    have exy : x = y := by
      rcases List.mem_cons.mp ((h x).mp List.mem_cons_self) with e | e
      · exact e
      · rcases List.mem_cons.mp ((h y).mpr List.mem_cons_self) with e2 | e2
        · exact e2.symm
        · have h1 := hb.1 x e
          have h2 := ha.1 y e2
          omega
    subst exy
    have hr : r = s := sorted_eq ha.2 hb.2 fun t => by
      constructor
      · intro m
        rcases List.mem_cons.mp ((h t).mp (List.mem_cons_of_mem _ m)) with e | e
        · have := ha.1 t m
          omega
        · exact e
      · intro m
        rcases List.mem_cons.mp ((h t).mpr (List.mem_cons_of_mem _ m)) with e | e
        · have := hb.1 t m
          omega
        · exact e
    rw [hr]
theorem sorted_nums {n : Nat} {s : Nat → Bool} {a : List Nat} (ha : a.Pairwise (· < ·)) (h : ∀ t, t ∈ a ↔ t < n ∧ s t = true) : a = nums n s :=
  sorted_eq ha (nums_sorted n s) fun t => by rw [mem_nums]; exact h t
end KM
namespace KM
theorem isorted_eq : ∀ {a b : List Int}, a.Pairwise (· < ·) → b.Pairwise (· < ·) → (∀ t, t ∈ a ↔ t ∈ b) → a = b
  | [], [], _, _, _ => rfl
  | [], y :: s, _, _, h => ((List.not_mem_nil ((h y).mpr List.mem_cons_self))).elim
  | x :: r, [], _, _, h => ((List.not_mem_nil ((h x).mp List.mem_cons_self))).elim
  | x :: r, y :: s, ha, hb, h => by
    rw [List.pairwise_cons] at ha hb
    have exy : x = y := by
      rcases List.mem_cons.mp ((h x).mp List.mem_cons_self) with e | e
      · exact e
      · rcases List.mem_cons.mp ((h y).mpr List.mem_cons_self) with e2 | e2
        · exact e2.symm
        · have h1 := hb.1 x e
          have h2 := ha.1 y e2
          omega
    subst exy
    have hr : r = s := isorted_eq ha.2 hb.2 fun t => by
      constructor
      · intro m
        rcases List.mem_cons.mp ((h t).mp (List.mem_cons_of_mem _ m)) with e | e
        · have := ha.1 t m
          omega
        · exact e
      · intro m
        rcases List.mem_cons.mp ((h t).mpr (List.mem_cons_of_mem _ m)) with e | e
        · have := hb.1 t m
          omega
        · exact e
    rw [hr]
theorem icast_sorted {L : List Nat} (h : L.Pairwise (· < ·)) : (L.map fun i => ((i : Nat) : Int)).Pairwise (· < ·) := by
  rw [List.pairwise_map]
  exact h.imp fun {a b} (hab : a < b) => by omega
theorem isorted_nums {n : Nat} {s : Nat → Bool} {ns : List Int} (hp : ns.Pairwise (· < ·)) (hm : ∀ k : Int, k ∈ ns ↔ ∃ t : Nat, t < n ∧ s t = true ∧ k = ((t : Nat) : Int)) : ns = (nums n s).map fun i => ((i : Nat) : Int) :=
  isorted_eq hp (icast_sorted (nums_sorted n s)) fun k => by
    rw [hm k, List.mem_map]
    constructor
    · rintro ⟨t, h1, h2, rfl⟩
      exact ⟨t, mem_nums.mpr ⟨h1, h2⟩, rfl⟩
    · rintro ⟨t, h1, rfl⟩
      exact ⟨t, (mem_nums.mp h1).1, (mem_nums.mp h1).2, rfl⟩
/-- a list sorted by ≤ whose items are all different is sorted by < -/
theorem strict_of {ns : List Int} (h : ns.Pairwise (· ≤ ·)) (d : ns.Nodup) : ns.Pairwise (· < ·) := by
  have := h.and d
  exact this.imp fun {a b} (q : a ≤ b ∧ a ≠ b) => by have := q.1; have := q.2; omega
theorem sorted_perm {n : Nat} {s : Nat → Bool} {ns ms : List Int} (hp : ns.Perm ms) (hs : ns.Pairwise (· ≤ ·)) (d : ms.Nodup) (hm : ∀ k : Int, k ∈ ms ↔ ∃ t : Nat, t < n ∧ s t = true ∧ k = ((t : Nat) : Int)) :
    ns = (nums n s).map fun i => ((i : Nat) : Int) :=
  isorted_nums (strict_of hs (hp.nodup_iff.mpr d)) fun k => by rw [hp.mem_iff]; exact hm k
end KM

-- KCnt
set_option Elab.async false
set_option linter.all false
namespace KM
/-- how many things below n are not in s -/
def cnt (n : Nat) (s : Nat → Bool) : Nat := (List.range n).countP fun t => !s t
theorem cnt_succ (n : Nat) (s : Nat → Bool) : cnt (n + 1) s = cnt n s + if s n = true then 0 else 1 := by
  unfold cnt
  rw [List.range_succ, List.countP_append, List.countP_singleton]
  cases s n <;> rfl
theorem cnt_congr {s u : Nat → Bool} : ∀ {n : Nat}, (∀ t, t < n → s t = u t) → cnt n s = cnt n u
  | 0, _ => rfl
  | n + 1, h => by
    rw [cnt_succ, cnt_succ, cnt_congr fun t ht => h t (by omega), h n (by omega)]
theorem cnt_add {s u : Nat → Bool} {x : Nat} (h0 : s x = false) (h1 : u x = true) (h2 : ∀ t, t ≠ x → u t = s t) : ∀ {n : Nat}, x < n → cnt n u + 1 = cnt n s
  | 0, h => by omega
  | n + 1, h => by
    rw [cnt_succ, cnt_succ]
    by_cases e : x = n
    · subst e
      rw [h0, h1, cnt_congr fun t ht => h2 t (by omega)]
      rfl
    · have ih := cnt_add h0 h1 h2 (n := n) (by omega)
      rw [h2 n (fun z => e z.symm)]
      omega
theorem cnt_le (n : Nat) (s : Nat → Bool) : cnt n s ≤ n := by
  have := List.countP_le_length (p := fun t => !s t) (l := List.range n)
  rw [List.length_range] at this
  exact this
theorem cnt_snoc {n : Nat} {L : List Nat} {x : Nat} (hx : x < n) (h : mem L x = false) : cnt n (mem (L ++ [x])) + 1 = cnt n (mem L) :=
  cnt_add h (mem_iff.mpr (List.mem_append_right _ List.mem_cons_self)) (fun _ ht => mem_snoc_ne ht) hx
end KM
namespace KM
theorem cnt_nil : ∀ n : Nat, cnt n (mem []) = n
  | 0 => rfl
  | n + 1 => by
    rw [cnt_succ, cnt_nil n]
    rfl
end KM

-- KRules
set_option Elab.async false
set_option linter.all false
set_option maxRecDepth 100000
set_option maxHeartbeats 4000000
namespace KW
open PySem PySem.Spec PyProof.Rows L2

/-! ### one of several readings -/
theorem pe_any {X : Cx} {ι : Type} {e : Expr} {t : ι → TE} (h : ∀ i, PE X e (t i)) : PE X e (fun σ H Q => ∃ i, t i σ H Q) :=
  ⟨fun pins s σ H Q I w => match w with | ⟨i, hi⟩ => (h i).run pins s σ H Q I hi⟩

/-! ### max(list of ints, default=d) -/
theorem max_dflt {prog : Program} {w : World} {A : Around} {E : Value → Shared → Prop} {s : Shared} {l : Addr} {its : List Value} {ns : List Int} {d : Value} {Q : Value → Shared → Prop}
    (hh : A.handled = none) (hl : s.heap.IsList l its.toArray) (hi : IntsAre its ns)
    (h0 : ns = [] → ∀ h' tk, (∀ b o, s.heap.get? b = some o → h'.get? b = some o) → Q d { s with heap := h', toks := tk })
    (h1 : ∀ h' tk M t', (∀ b o, s.heap.get? b = some o → h'.get? b = some o) → M ∈ ns → (∀ a ∈ ns, a ≤ M) → Q (.int M t') { s with heap := h', toks := tk }) :
    wpAny (model prog w) A (call (.builtin "max") [.ref l] [(Str.ofString "default", d)]) Q E s := by
  have hn : its.length = ns.length := IntsAre.length hi
  have hz : its.toArray.size = ns.length := by rw [List.size_toArray, hn]
  have hv : ∀ (i : Nat) (v : Value), its.toArray[i]? = some v → ∃ t, v = .int (ns.getD i 0) t := fun i v e => IntsAre.int_at hi i v (by simpa using e)
  refine PySem.call_max_walkD (PySem.W.iter_listW (A := A.in1) hh hl fun s2 e W st hfp hw hk => ?_)
  refine ⟨_, _, _, _, _, _, _, s.heap, _, rfl, W, st, hfp, hw, hk, fun z s' m => ?_, fun hp => ⟨fun i j vi vj s' Q' E' _ => CmpOf.ints_gt (fun i => ns.getD i 0) hv i j vi vj s' Q' E', fun v s' hP m => ?_⟩⟩
  · obtain ⟨h', tk, rfl, hk'⟩ := PySem.W.moved_old e rfl m
    exact h0 (List.eq_nil_of_length_eq_zero (by rw [← hz]; exact z)) h' tk hk'
  · obtain ⟨h', tk, rfl, hk'⟩ := PySem.W.moved_old e rfl m
    obtain ⟨t, rfl⟩ := hv _ v hP
    have g := argBest_gt (fun i => ns.getD i 0) (its.toArray.size - 1)
    have hlt : argBest (fun i j => decide (ns.getD i 0 > ns.getD j 0)) (its.toArray.size - 1) < ns.length := by
      have := g.1
      omega
    refine h1 h' tk _ t hk' ?_ fun a ha => ?_
    · rw [List.getD_eq_getElem?_getD, List.getElem?_eq_getElem hlt]
      exact List.getElem_mem hlt
    · obtain ⟨j, hj, rfl⟩ := List.getElem_of_mem ha
      have := g.2 j (by omega)
      rw [List.getD_eq_getElem?_getD, List.getElem?_eq_getElem hj] at this
      exact this
def rMaxDf (K : PySem.W.Frag) : List V → List V → Hp → VK → Prop := fun vs zs H Q => ∃ (a : Addr) (ns : List Int) (d : Int), vs = [V.ref a] ∧ zs = [V.int d] ∧ SqL K H a (ns.map V.int) ∧
  (ns = [] → Q (.int d) H) ∧ ∀ M, M ∈ ns → (∀ x ∈ ns, x ≤ M) → Q (.int M) H
theorem cr_maxDf {X : Cx} (hc : X.calm = true) : CallRK X (.builtin "max") [Str.ofString "default"] (rMaxDf X.K) := by
  intro pins s σ H xs zs us ws Q I r r2 h
  obtain ⟨a, ns, d, rfl, rfl, hs, q0, q1⟩ := h
  obtain ⟨its, rv, hl, _⟩ := I.list hs
  obtain ⟨u, rfl, ru⟩ := vals1 r2
  obtain ⟨t, rfl⟩ := ru
  rw [Vals.ref1 r]
  exact max_dflt (I.ok.hd hc) hl.isList rv.ints (fun e h' tk hk => ⟨.int d, H, I.kept hk, ⟨_, rfl⟩, q0 e⟩) fun h' tk m t' hk h1 h2 => ⟨.int _, H, I.kept hk, ⟨_, rfl⟩, q1 m h1 h2⟩

/-! ### set(list of ints) -/
/-- the empty set, as it is made in the world w -/
abbrev eSet (w : World) : Obj := { cls := .type "set", dict := none, data := .set #[] 0 (.fresh 0 0 (!w.params.followText "set-order")) }
set_option maxHeartbeats 8000000 in
theorem set_of_list {P : Program} {w : World} {A : Around} {E : Value → Shared → Prop} {s : Shared} {l : Addr} {its : Array Value} (ns : List Int) {Q : Value → Shared → Prop}
    (hh : A.handled = none) (hl : s.heap.IsList l its) (hi : IntsAre its.toList ns) (hb : ns.length + 1 < scanBound)
    (k : ∀ (h' : Heap) (tk c : Nat), SetR w h' s.heap.objs.size (fun j => decide (j ∈ ns)) c → c ≤ ns.length → (∀ b o, s.heap.get? b = some o → h'.get? b = some o) → Q (.ref s.heap.objs.size) { s with heap := h', toks := tk }) :
    wpAny (model P w) A (call (.type "set") [.ref l]) Q E s := by
  have hz : its.size = ns.length := by
    rw [← Array.length_toList]
    exact IntsAre.length hi
  obtain ⟨c0, tl, hmro⟩ := PySem.F.called_set.mro
  have g1 := PySem.F.called_set.made
  have g2 := PySem.F.called_set.sub
  have g3 := PySem.F.called_set.notType
  have g4 := PySem.F.called_set.canCreate
  have g5 := PySem.F.typeCall_set_1 (.ref l)
  refine wpAny_call (codeAny_of_tree ?_)
  show wpAny _ _ (callAny (.type "set") _) _ _ _
  refine wpAny_pure ⟨Code.quiet_builtin _ (by decide +kernel), codeAny_builtin PySem.F.entry_type_call ?_⟩
  rw [Around.under_plain (weight_type_call_type "set" [.ref l] []) rfl]
  repeat (any_goals (first | assumption | wp_step))
  refine codeAny_mono (code_set_led1 (.ref l) (E := E) (Q₁ := fun o s1 => o = .ref s.heap.objs.size ∧ s1 = { s with heap := s.heap.push (eSet w) }) ⟨rfl, rfl⟩) fun r s1 hr => ?_
  cases r with
  | error e => exact hr
  | ok fl =>
    cases fl with
    | ret o =>
      obtain ⟨rfl, rfl⟩ := hr
      have hS : (s.heap.push (eSet w)).get? s.heap.objs.size = some (eSet w) := Heap.get?_push_size _ rfl
      have hT : Shared.TypeIs { s with heap := s.heap.push (eSet w) } (.ref s.heap.objs.size) "set" := ⟨_, hS, rfl⟩
      have g6 := PySem.F.called_set.init.lookup
      have g7 := PySem.F.called_set.init.bind (.ref s.heap.objs.size)
      repeat (any_goals (first | assumption | wp_step))
      refine codeAny_mono (codeAny_call_builtin (R := wants (fun r s2 => r = .none ∧ ∃ h' tk c, s2 = { s with heap := h', toks := tk } ∧ SetR w h' s.heap.objs.size (fun j => decide (j ∈ ns)) c ∧ c ≤ ns.length ∧
          (∀ b o, s.heap.get? b = some o → h'.get? b = some o)) E) PySem.F.called_set.init.plain PySem.F.entry_set_init (check_set_init_1 hT ?_)) fun r2 s2 hr2 => ?_
      · obtain ⟨⟨oc, od, odat, osl⟩, hol, hc, nl, hd⟩ := hl
        simp only at hc hd
        subst hc
        subst hd
        have hol' : (s.heap.push (eSet w)).get? l = some { cls := .type "list", dict := od, data := .seq its nl, slots := osl } := Heap.get?_push_of_some _ hol
        have g8 := PySem.F.sub_list_set
        have g9 := PySem.F.sub_list_frozenset
        have g10 : (Value.type "list" == Value.type "dict") = false := by decide
        have hl1 : (s.heap.push (eSet w)).IsList l its := ⟨_, hol', rfl, nl, rfl⟩
        unfold Builtin.«set.__init__» noKeywords Builtin.Frozenset.updateFrom
        generalize hPI : pyIter = PI
        wp_walk
        subst hPI
        refine wpAny_pyIter_list hl1 (wpAny_bind (wpAny_runValue ?_))
        have hlS : l < s.heap.objs.size := Heap.lt_size hol
        have h3 : A.in1.in1.in1.handled = none := by simp [hh]
        have hI : l ≠ (s.heap.push (eSet w)).objs.size := by
          rw [Heap.size_push]
          exact Nat.ne_of_lt (Nat.lt_succ_of_lt hlS)
        have hSf : s.heap.objs.size ∉ [(s.heap.push (eSet w)).objs.size, l] := by
          rw [Heap.size_push]
          intro hm
          rcases List.mem_cons.mp hm with e | hm
          · exact Nat.ne_of_lt (Nat.lt_succ_self _) e
          · rw [List.mem_singleton] at hm
            exact Nat.ne_of_gt hlS hm
        have hv : ∀ (i : Nat) (v : Value), its[i]? = some v → ∃ z t, ns[i]? = some z ∧ v = .int z t := fun i v hv => by
          have hlt : i < ns.length := by
            rw [← hz]
            exact (Array.getElem?_eq_some_iff.mp hv).1
          obtain ⟨t, e⟩ := IntsAre.int_at hi i v (by rw [Array.getElem?_toList]; exact hv)
          refine ⟨ns[i], t, List.getElem?_eq_getElem hlt, ?_⟩
          rw [e, List.getD_eq_getElem?_getD, List.getElem?_eq_getElem hlt] <;> rfl
        refine set_update_ints ((Walks.list h3 _ l hI its).toS) s.heap.objs.size hSf ns hz hb hv (its.size - 0) 0 _ (by omega) (Nat.zero_le _) ⟨⟨_, Heap.get?_push_size _ rfl, rfl, rfl⟩, (hl1.push _)⟩ ?a0 ?a1
        case a0 =>
          refine ⟨0, Nat.le_refl 0, setR_new_at ?_⟩
          exact Heap.get?_push_of_some _ hS
        case a1 =>
          intro s' c' hm hc' hS'
          obtain ⟨h', x1, x2, tk', x3⟩ := s'
          have e1 : x1 = s.gens := hm.gens
          have e2 : x2 = s.drawn := hm.drawn
          have e3 : x3 = s.os := hm.os
          subst e1
          subst e2
          subst e3
          show wpAny _ _ _ _ _ _
          refine wpAny_pure ?_
          show wpAny _ _ (ret Value.none) _ _ _
          rw [hz] at hc'
          refine wpAny_pure ⟨rfl, h', tk', c', rfl, hS', hc', fun b o e => ?_⟩
          have b0 : b < s.heap.objs.size := Heap.lt_size e
          refine hm.heap b o (fun hb2 => ?_) (Heap.get?_push_of_some _ (Heap.get?_push_of_some _ e))
          rcases List.mem_cons.mp hb2 with z | z
          · exact Nat.ne_of_lt b0 z
          · rw [List.mem_singleton, Heap.size_push] at z
            exact Nat.ne_of_lt (Nat.lt_succ_of_lt b0) z
      · cases r2 with
        | error e => exact hr2
        | ok f2 =>
          cases f2 with
          | ret r =>
            obtain ⟨rfl, h', tk, c', rfl, q1, q2, q3⟩ := hr2
            repeat (any_goals (first | assumption | wp_step))
            exact k _ _ _ q1 q2 q3
          | _ => exact hr2.elim
    | _ => exact hr.elim
def rSetOfL (K : PySem.W.Frag) (w : World) : List V → Hp → VK → Prop := fun vs H Q => ∃ (a : Addr) (ns : List Int), vs = [V.ref a] ∧ SqL K H a (ns.map V.int) ∧ ns.length ≤ 1000 ∧
  ∀ (p : Addr) (c : Nat), H p = none → c ≤ ns.length → Q (.ref p) (upd H p (SetO w p (fun j => decide (j ∈ ns)) c))
theorem cr_setL {X : Cx} (hc : X.calm = true) : CallR X (.type "set") (rSetOfL X.K X.w) := by
  intro pins s σ H vs us Q I r h
  obtain ⟨a, ns, rfl, hs, hle, q⟩ := h
  obtain ⟨its, rv, hl, _⟩ := I.list hs
  rw [Vals.ref1 r]
  refine set_of_list ns (I.ok.hd hc) hl.isList rv.ints (by unfold scanBound; omega) fun h' tk c R1 hc' k => ?_
  have hf := I.hok.fresh (Nat.le_refl s.heap.objs.size)
  exact ⟨.ref _, _, I.laid (t' := tk) k (Nat.le_refl _) (setO_new R1), rfl, q _ c hf hc'⟩
end KW

-- KData
set_option Elab.async false
set_option linter.all false
set_option maxRecDepth 100000
set_option maxHeartbeats 4000000
namespace KW
open PySem PySem.Spec PyProof.Rows L2 Evl KM
/-! ### the text by places -/
def top (i : Nat) : Stmt := PySem.Challenge.pw_standstill_k24_whole_only_what_grows.main.body.getD i (.Pass ⟨0, 0, 0, 0⟩)
abbrev Fg := PySem.W.Frag

/-! ### data on the heap -/
def LsAt {α : Type} (K : Fg) (H : Hp) (R : V → α → Prop) (a : Addr) (xs : List α) : Prop := ∃ vs, SqL K H a vs ∧ vs.length = xs.length ∧ ∀ (i : Nat) v x, vs[i]? = some v → xs[i]? = some x → R v x
theorem LsAt.mono {α : Type} {K : Fg} {H H' : Hp} {R R' : V → α → Prop} {a : Addr} {xs : List α} (e : Ex H H') (hr : ∀ v x, R v x → R' v x) (h : LsAt K H R a xs) : LsAt K H' R' a xs := by
  obtain ⟨vs, h1, h2, h3⟩ := h
  exact ⟨vs, ex_l e h1, h2, fun i v x a b => hr v x (h3 i v x a b)⟩
theorem ls_at {α : Type} {vs : List V} {xs : List α} (hl : vs.length = xs.length) {i : Nat} {v : V} (h : vs[i]? = some v) : ∃ x, xs[i]? = some x ∧ x ∈ xs := by
  have h1 : i < xs.length := by
    rw [← hl]
    exact (List.getElem?_eq_some_iff.mp h).1
  exact ⟨xs[i], List.getElem?_eq_getElem h1, List.getElem_mem h1⟩
theorem ls_snoc {α : Type} {R : V → α → Prop} {vs : List V} {xs : List α} {v : V} {x : α} (hl : vs.length = xs.length) (h : ∀ (i : Nat) v x, vs[i]? = some v → xs[i]? = some x → R v x) (r : R v x) :
    (vs ++ [v]).length = (xs ++ [x]).length ∧ ∀ (i : Nat) u y, (vs ++ [v])[i]? = some u → (xs ++ [x])[i]? = some y → R u y := by
  refine ⟨by rw [List.length_append, List.length_append, hl] <;> rfl, fun i u y hu hy => ?_⟩
  by_cases hi : i < vs.length
  · rw [List.getElem?_append_left hi] at hu
    rw [List.getElem?_append_left (by omega)] at hy
    exact h i u y hu hy
  · have h1 : i < (vs ++ [v]).length := (List.getElem?_eq_some_iff.mp hu).1
    rw [List.length_append, List.length_singleton] at h1
    have e : i = vs.length := by omega
    subst e
    rw [List.getElem?_append_right (Nat.le_refl _), Nat.sub_self] at hu
    rw [hl, List.getElem?_append_right (Nat.le_refl _), Nat.sub_self] at hy
    have e1 : v = u := Option.some.inj hu
    have e2 : x = y := Option.some.inj hy
    rw [← e1, ← e2]
    exact r
def ItemAt (K : Fg) (H : Hp) (v : V) (it : Nat × Int) : Prop := ∃ a, v = .ref a ∧ SqT K H a [.int ((it.1 : Nat) : Int), .int it.2]
theorem ItemAt.mono {K : Fg} {H H' : Hp} {v : V} {it : Nat × Int} (e : Ex H H') (h : ItemAt K H v it) : ItemAt K H' v it := by
  obtain ⟨a, h1, h2⟩ := h
  exact ⟨a, h1, ex_t e h2⟩
def PartAt (K : Fg) (H : Hp) (v : V) : Part → Prop
  | .inn t => ∃ a, v = .ref a ∧ SqT K H a [.str "in", .int ((t : Nat) : Int)]
  | .out t => ∃ a, v = .ref a ∧ SqT K H a [.str "out", .int ((t : Nat) : Int)]
  | .least b its => ∃ a l, v = .ref a ∧ SqT K H a [.str "least", .int b, .ref l] ∧ LsAt K H (ItemAt K H) l its
  | .most b its => ∃ a l, v = .ref a ∧ SqT K H a [.str "most", .int b, .ref l] ∧ LsAt K H (ItemAt K H) l its
theorem PartAt.mono {K : Fg} {H H' : Hp} {v : V} {p : Part} (e : Ex H H') (h : PartAt K H v p) : PartAt K H' v p := by
  cases p with
  | inn t => obtain ⟨a, h1, h2⟩ := h; exact ⟨a, h1, ex_t e h2⟩
  | out t => obtain ⟨a, h1, h2⟩ := h; exact ⟨a, h1, ex_t e h2⟩
  | least b its => obtain ⟨a, l, h1, h2, h3⟩ := h; exact ⟨a, l, h1, ex_t e h2, h3.mono e fun _ _ q => q.mono e⟩
  | most b its => obtain ⟨a, l, h1, h2, h3⟩ := h; exact ⟨a, l, h1, ex_t e h2, h3.mono e fun _ _ q => q.mono e⟩
/-- a rule's head as it stands -/
def headV : Option Nat → V
  | none => .non
  | some h => .int ((h : Nat) : Int)
def wordV : Option Nat → V
  | none => .str "never"
  | some _ => .str "make"
def RuleAt (K : Fg) (H : Hp) (v : V) (r : Rule) : Prop := ∃ a l, v = .ref a ∧ SqT K H a [wordV r.1, headV r.1, .ref l] ∧ LsAt K H (PartAt K H) l r.2
theorem RuleAt.mono {K : Fg} {H H' : Hp} {v : V} {r : Rule} (e : Ex H H') (h : RuleAt K H v r) : RuleAt K H' v r := by
  obtain ⟨a, l, h1, h2, h3⟩ := h
  exact ⟨a, l, h1, ex_t e h2, h3.mono e fun _ _ q => q.mono e⟩
def PlainAt (K : Fg) (H : Hp) (v : V) (n : Nat) (R : List Rule) : Prop := ∃ a l, v = .ref a ∧ SqT K H a [.int ((n : Nat) : Int), .ref l] ∧ LsAt K H (RuleAt K H) l R
theorem PlainAt.mono {K : Fg} {H H' : Hp} {v : V} {n : Nat} {R : List Rule} (e : Ex H H') (h : PlainAt K H v n R) : PlainAt K H' v n R := by
  obtain ⟨a, l, h1, h2, h3⟩ := h
  exact ⟨a, l, h1, ex_t e h2, h3.mono e fun _ _ q => q.mono e⟩

/-! ### sets as marks and as lists -/
def bls (n : Nat) (s : Nat → Bool) : List V := (List.range n).map fun i => .bl (s i)
def nvs (L : List Nat) : List V := L.map fun i => .int ((i : Nat) : Int)
theorem bls_len (n : Nat) (s : Nat → Bool) : (bls n s).length = n := by
  unfold bls
  rw [List.length_map, List.length_range]
theorem bls_get {n : Nat} {s : Nat → Bool} {i : Nat} (h : i < n) : (bls n s)[i]? = some (.bl (s i)) := by
  unfold bls
  rw [List.getElem?_map, List.getElem?_range h] <;> rfl
theorem bls_congr {n : Nat} {s u : Nat → Bool} (h : ∀ t, t < n → s t = u t) : bls n s = bls n u := by
  unfold bls
  exact List.map_congr_left fun t ht => by rw [h t (List.mem_range.mp ht)]
theorem list_ext {α : Type} {a b : List α} (hl : a.length = b.length) (h : ∀ (i : Nat), i < a.length → a[i]? = b[i]?) : a = b := by
  refine List.ext_getElem? fun i => ?_
  by_cases hi : i < a.length
  · exact h i hi
  · rw [List.getElem?_eq_none (by omega), List.getElem?_eq_none (by omega)]
theorem bls_set {n : Nat} {s u : Nat → Bool} {i : Nat} {b : Bool} (hi : i < n) (h1 : u i = b) (h2 : ∀ t, t < n → t ≠ i → u t = s t) : (bls n s).set i (.bl b) = bls n u := by
  refine list_ext (by rw [List.length_set, bls_len, bls_len]) fun j hj => ?_
  rw [List.length_set, bls_len] at hj
  rw [bls_get hj]
  by_cases e : i = j
  · subst e
    rw [List.getElem?_set_self (by rw [bls_len]; exact hi), h1]
  · rw [List.getElem?_set_ne e, bls_get hj, h2 j hj (fun z => e z.symm)]
theorem nvs_len (L : List Nat) : (nvs L).length = L.length := by
  unfold nvs
  rw [List.length_map]
theorem nvs_get {L : List Nat} {i : Nat} {v : V} (h : (nvs L)[i]? = some v) : ∃ t, L[i]? = some t ∧ v = .int ((t : Nat) : Int) := by
  unfold nvs at h
  rw [List.getElem?_map] at h
  cases e : L[i]? with
  | none => rw [e] at h; cases h
  | some t => rw [e] at h; exact ⟨t, rfl, (Option.some.inj h).symm⟩
theorem nvs_map (L : List Nat) : nvs L = (L.map fun i => ((i : Nat) : Int)).map V.int := by
  unfold nvs
  rw [List.map_map] <;> rfl
theorem nvs_flat (L : List Nat) : (nvs L).all flatV = true := by
  rw [List.all_eq_true]
  intro v hv
  obtain ⟨t, _, rfl⟩ := List.mem_map.mp hv
  rfl
theorem nvs_in (L : List Nat) (t : Nat) : inV (.int ((t : Nat) : Int)) (nvs L) = mem L t := by
  unfold inV nvs
  rw [List.any_map]
  cases h : mem L t with
  | true =>
    rw [List.any_eq_true]
    exact ⟨t, mem_iff.mp h, beq_self_eq_true ((t : Nat) : Int)⟩
  | false =>
    rw [List.any_eq_false]
    intro x hx e
    have e1 : ((x : Nat) : Int) = ((t : Nat) : Int) := eq_of_beq (show (((x : Nat) : Int) == ((t : Nat) : Int)) = true from e)
    have e2 : x = t := by omega
    subst e2
    have : mem L x = true := mem_iff.mpr hx
    rw [h] at this
    cases this
theorem mem_nums_eq {n : Nat} {s : Nat → Bool} {t : Nat} (h : t < n) : mem (nums n s) t = s t := by
  cases e : s t with
  | true => exact mem_iff.mpr (mem_nums.mpr ⟨h, e⟩)
  | false =>
    refine decide_eq_false fun m => ?_
    have := (mem_nums.mp m).2
    rw [e] at this
    cases this

/-! ### defs by their names -/
structure DefAt (K : Fg) (mg : Str → Option Value) (x : Str) (st : Stmt) (ps : List Str) : Prop where
  ex : ∃ f fd, L2.Fun K x x st f fd ∧ mg x = some (.ref f) ∧ Binds K fd ps []
/-- what the names of the built-ins hold in the module: nothing -/
structure Blt (mg : Str → Option Value) : Prop where
  range : mg "range" = none
  enum : mg "enumerate" = none
  sum : mg "sum" = none
  list : mg "list" = none
  sorted : mg "sorted" = none
  set : mg "set" = none
  all : mg "all" = none
  max : mg "max" = none
  min : mg "min" = none
  len : mg "len" = none
  isi : mg "isinstance" = none
  int : mg "int" = none
  bool : mg "bool" = none
section
variable {P : Program} {w : World} {K : Fg} {mg : Str → Option Value} {base : Heap}
theorem cal_of {x : Str} {st : Stmt} {ps N : List Str} {k : Nat} {sp : Sp} (D : DefAt K mg x st ps) (S : FnScope N ps (L2.defScope st)) (len : ∀ vs H Q E, sp vs H Q E → vs.length = ps.length)
    (body : ∀ (f : Addr) (cdv : Value) (A : Around) (outer : List Env) (s : Shared) (H : Hp) (vs : List V) (Q : VK) (E : XK), Room k (A.deeper (envOfC x (L2.defScope st) s.heap.objs.size f cdv)) → sp vs H Q E →
      ∃ t, PSs (cxOf CX0 P w K mg base N x (L2.defScope st) f cdv A outer s H E).nox (L2.defBody st) t ∧ t { nx := fun _ H' => Q .non H', rt := Q } (start N vs) H) : C8.Cal P w K mg base (k + 1) x sp [] := by
  obtain ⟨f, fd, F, hm, hb⟩ := D.ex
  exact ⟨f, fd, ps, [], F.ok S len fun cdv A outer s H vs Q E hr h => body f cdv A outer s H vs Q E hr h, hm, F.kp, hb, .nil⟩
end
/-- a value and what is true of it behind -/
def Ends' (H : Hp) (post : V → Hp → Prop) (Q : VK) : Prop := ∀ v H', Ex H H' → post v H' → Q v H'
end KW

-- KLem
set_option Elab.async false
set_option linter.all false
set_option maxRecDepth 100000
set_option maxHeartbeats 4000000
namespace KW
open PySem PySem.Spec PyProof.Rows L2 Evl KM
section
variable {K : Fg} {σ : L2.St} {H : Hp} {t : TT} {te : TE} {g : TG} {vs : List Nat}
theorem et_yes : EvT tYes σ H true := fun H1 _ _ q => q H1 (Ex.refl H1)
theorem given_list {α : Type} (xs : List α) (d : α) (p : α → Bool) (f : α → V) : given xs.length (fun i => p (xs.getD i d)) (fun i => f (xs.getD i d)) = (xs.filter p).map f := by
  have e : xs = (List.range xs.length).map fun i => xs.getD i d := by
    refine list_ext (by simp) fun i hi => ?_
    rw [List.getElem?_map, List.getElem?_range hi, List.getElem?_eq_getElem hi]
    simp [List.getD_eq_getElem?_getD, List.getElem?_eq_getElem hi]
  unfold given
  conv => rhs; rw [e]
  rw [List.filter_map, List.map_map]
  rfl
theorem given_all (n : Nat) (v : Nat → V) : given n (fun _ => true) v = (List.range n).map v := by
  unfold given
  rw [List.filter_eq_self.mpr fun _ _ => rfl]
/-- over a list, any target: τ i is what the target makes of the slots at turn i -/
theorem el_lcG {a : Addr} {xs : List V} {tl : TE} (f : Nat → Bool) (v : Nat → V) (τ : Nat → L2.St) (h : Ev tl σ H (.ref a)) (hx : SqL K H a xs) (hz : xs.length ≤ 40000)
    (hg : ∀ (i : Nat) x H1 (Q : L2.St → Hp → Prop), Ex H H1 → xs[i]? = some x → Q (τ i) H1 → g x (wipe σ vs) H1 Q) (hw : ∀ i, i < xs.length → wipe (τ i) vs = wipe σ vs)
    (ht : ∀ (i : Nat) H1, Ex H H1 → i < xs.length → EvT t (τ i) H1 (f i)) (he : ∀ (i : Nat) H1, Ex H H1 → i < xs.length → f i = true → Ev te (τ i) H1 (v i)) :
    EvL (tLc (iList K tl) g t te vs) σ H (given xs.length f v) := fun H0 e Q q => h H0 e _ fun H1 e1 => ⟨a, rfl, ⟨xs, ex_l (e.trans e1) hx⟩, fun Dl hD =>
  lc_list (xs := xs) (Cw H1 f v Dl) ⟨hD, Ex.new hD, upd_same⟩ (fun i H' _ p => ex_l ((e.trans e1).trans p.2.1) hx) (fun i x H' hi p => by
      have hlt := (List.getElem?_eq_some_iff.mp hi).1
      exact hg i x H' _ ((e.trans e1).trans p.2.1) hi ⟨hw i hlt, cw_turn p (by omega) (ht i H1 (e.trans e1) hlt) fun hf => he i H1 (e.trans e1) hlt hf⟩)
    (fun H' p => q Dl H' (fresh_back e1 p.1) (e1.trans p.2.1) p.2.2)⟩
/-- the same over a list that is made on the way -/
theorem el_lcGN {xs : List V} {tl : TE} (f : Nat → Bool) (v : Nat → V) (τ : Nat → L2.St) (h : EvL tl σ H xs) (hz : xs.length ≤ 40000)
    (hg : ∀ (i : Nat) x H1 (Q : L2.St → Hp → Prop), Ex H H1 → xs[i]? = some x → Q (τ i) H1 → g x (wipe σ vs) H1 Q) (hw : ∀ i, i < xs.length → wipe (τ i) vs = wipe σ vs)
    (ht : ∀ (i : Nat) H1, Ex H H1 → i < xs.length → EvT t (τ i) H1 (f i)) (he : ∀ (i : Nat) H1, Ex H H1 → i < xs.length → f i = true → Ev te (τ i) H1 (v i)) :
    EvL (tLc (iList K tl) g t te vs) σ H (given xs.length f v) := fun H0 e Q q => h H0 e _ fun a H1 _ e1 h1 => ⟨a, rfl, ⟨xs, sq_of h1⟩, fun Dl hD =>
  lc_list (xs := xs) (Cw H1 f v Dl) ⟨hD, Ex.new hD, upd_same⟩ (fun i H' _ p => ex_l p.2.1 (sq_of h1)) (fun i x H' hi p => by
      have hlt := (List.getElem?_eq_some_iff.mp hi).1
      exact hg i x H' _ ((e.trans e1).trans p.2.1) hi ⟨hw i hlt, cw_turn p (by omega) (ht i H1 (e.trans e1) hlt) fun hf => he i H1 (e.trans e1) hlt hf⟩)
    (fun H' p => q Dl H' (fresh_back e1 p.1) (e1.trans p.2.1) p.2.2)⟩
/-- over enumerate(list), a target of two names -/
theorem el_lcEn {a : Addr} {xs : List V} {ta : TA} {i1 i2 : Nat} (f : Nat → Bool) (v : Nat → V) (h : EvA ta σ H [.ref a]) (hx : SqL K H a xs) (hz : xs.length ≤ 40000)
    (hw : ∀ x y, wipe (((wipe σ vs).set i1 (some x)).set i2 (some y)) vs = wipe σ vs)
    (ht : ∀ (i : Nat) x H1, Ex H H1 → xs[i]? = some x → EvT t (((wipe σ vs).set i1 (some (.int ((i : Nat) : Int)))).set i2 (some x)) H1 (f i))
    (he : ∀ (i : Nat) x H1, Ex H H1 → xs[i]? = some x → f i = true → Ev te (((wipe σ vs).set i1 (some (.int ((i : Nat) : Int)))).set i2 (some x)) H1 (v i)) :
    EvL (tLc (iEnum K ta) (gTup K 2 (gCons (gName i1) (gCons (gName i2) gNil))) t te vs) σ H (given xs.length f v) := fun H0 e Q q => h H0 e _ fun H1 e1 => ⟨a, xs, rfl, ex_l (e.trans e1) hx, fun Dl hD =>
  lc_it (walk_enum (K := K) (a := a) (xs := xs)) (Cw H1 f v Dl) ⟨hD, Ex.new hD, upd_same⟩ (fun i H' _ p => ex_l ((e.trans e1).trans p.2.1) hx) (fun i x H2 H' hi p y => by
      obtain ⟨T, x1, x2, rfl, hT, rfl, f1, f2⟩ := y
      have ex1 : V.int ((i : Nat) : Int) = x1 := Option.some.inj f1
      subst ex1
      have p' : Cw H1 f v Dl i (upd H2 T (.tup [.int ((i : Nat) : Int), x2])) := ⟨p.1, p.2.1.trans (Ex.new hT), Ex.new hT _ _ p.2.2⟩
      exact ⟨T, _, rfl, st_of upd_same, rfl, _, _, rfl, _, _, rfl, rfl, hw _ _, cw_turn p' (by omega) (ht i x2 H1 (e.trans e1) f2) fun hf => he i x2 H1 (e.trans e1) f2 hf⟩)
    (fun H' p => q Dl H' (fresh_back e1 p.1) (e1.trans p.2.1) p.2.2)⟩
/-! ### indices -/
variable {ta tb : TE} {p : Addr} {xs : List V} {v : V} {i : Int}
theorem ev_T (h : Ev ta σ H (.ref p)) (hi : Ev tb σ H (.int i)) (hs : SqT K H p xs) (ha : atI xs i = some v) : Ev (tOp (rIxT K) ta tb) σ H v := ev_op h hi (rv_ixT hs ha)
theorem ev_L (h : Ev ta σ H (.ref p)) (hi : Ev tb σ H (.int i)) (hs : SqL K H p xs) (ha : atI xs i = some v) : Ev (tOp (rIxL K) ta tb) σ H v := ev_op h hi (rv_ixL hs ha)
theorem ev_mark {n : Nat} {s : Nat → Bool} {t : Nat} (h : Ev ta σ H (.ref p)) (hi : Ev tb σ H (.int ((t : Nat) : Int))) (hs : SqL K H p (bls n s)) (ht : t < n) : Ev (tOp (rIxL K) ta tb) σ H (.bl (s t)) := ev_L h hi hs (atI_nat (bls_get ht))
/-- the target of two names over a tuple of two -/
theorem g_two {i1 i2 : Nat} {T : Addr} {x y : V} {τ : L2.St} {Q : L2.St → Hp → Prop} (hs : SqT K H T [x, y]) (q : Q ((τ.set i1 (some x)).set i2 (some y)) H) : gTup K 2 (gCons (gName i1) (gCons (gName i2) gNil)) (.ref T) τ H Q :=
  ⟨T, _, rfl, hs, rfl, _, _, rfl, _, _, rfl, rfl, q⟩
/-! ### a built-in over a list that is made on the way -/
theorem ev_cbL {r : List V → Hp → VK → Prop} {z : V} (h : EvL ta σ H xs) (hr : ∀ p H1, H1 p = some (.lst xs) → Ex H H1 → RC r [.ref p] H1 z) : Ev (tCB r (tCons ta tNil)) σ H z := fun H1 e Q q =>
  h H1 e _ fun p H2 _ e2 hp => hr p H2 hp (e.trans e2) H2 (Ex.refl H2) Q fun H3 e3 => q H3 (e2.trans e3)
theorem el_cbL {r : List V → Hp → VK → Prop} {ys : List V} (h : EvL ta σ H xs) (hr : ∀ p H1, H1 p = some (.lst xs) → Ex H H1 → RCL r [.ref p] H1 ys) : EvL (tCB r (tCons ta tNil)) σ H ys := fun H1 e Q q =>
  h H1 e _ fun p H2 _ e2 hp => hr p H2 hp (e.trans e2) H2 (Ex.refl H2) Q fun p3 H3 hn e3 h3 => q p3 H3 (fresh_back e2 hn) (e2.trans e3) h3
theorem ev_sumL {ns : List Int} (h : EvL ta σ H (ns.map V.int)) : Ev (tCB (rSum K) (tCons ta tNil)) σ H (.int ns.sum) :=
  ev_cbL h fun p H1 hp _ H2 e2 Q q => ⟨p, ns, rfl, ex_l e2 (sq_of hp), q H2 (Ex.refl H2)⟩
theorem ev_allL {bs : List Bool} (h : EvL ta σ H (bs.map V.bl)) : Ev (tCB (rAll K) (tCons ta tNil)) σ H (.bl (bs.all id)) :=
  ev_cbL h fun p H1 hp _ H2 e2 Q q => ⟨p, bs, rfl, ex_l e2 (sq_of hp), q H2 (Ex.refl H2)⟩
theorem EvL.cast {ys : List V} (h : EvL te σ H xs) (e : xs = ys) : EvL te σ H ys := e ▸ h
end
end KW

-- K1
set_option Elab.async false
set_option linter.all false
set_option maxRecDepth 100000
set_option maxHeartbeats 4000000
namespace KW
open PySem PySem.Spec PyProof.Rows L2 Evl KM
/-! ### marks, numbers, worth_of -/
abbrev sMarks : Stmt := top 2
abbrev sNumbers : Stmt := top 3
abbrev sWorth : Stmt := top 5
theorem scMarks : FnScope ["many", "some", "told", "thing", "k"] ["many", "some"] (L2.defScope sMarks) := ⟨rfl, rfl, rfl, by decide +kernel, rfl, by decide +kernel, by decide +kernel⟩
theorem scNumbers : FnScope ["truths", "thing", "truth"] ["truths"] (L2.defScope sNumbers) := ⟨rfl, rfl, rfl, by decide +kernel, rfl, by decide +kernel, by decide +kernel⟩
theorem scWorth : FnScope ["items", "told", "thing", "worth"] ["items", "told"] (L2.defScope sWorth) := ⟨rfl, rfl, rfl, by decide +kernel, rfl, by decide +kernel, by decide +kernel⟩
def spMarks (K : Fg) : Sp := fun vs H Q _ => ∃ (n : Nat) (a : Addr) (L : List Nat), vs = [.int ((n : Nat) : Int), .ref a] ∧ SqL K H a (nvs L) ∧ n ≤ 8 ∧ (∀ t ∈ L, t < n) ∧
  ∀ p H', H p = none → Ex H H' → H' p = some (.lst (bls n (mem L))) → Q (.ref p) H'
def spNumbers (K : Fg) : Sp := fun vs H Q _ => ∃ (n : Nat) (a : Addr) (s : Nat → Bool), vs = [.ref a] ∧ SqL K H a (bls n s) ∧ n ≤ 8 ∧
  ∀ p H', H p = none → Ex H H' → H' p = some (.lst (nvs (nums n s))) → Q (.ref p) H'
def spWorth (K : Fg) : Sp := fun vs H Q _ => ∃ (n : Nat) (a b : Addr) (its : List (Nat × Int)) (s : Nat → Bool), vs = [.ref a, .ref b] ∧ LsAt K H (ItemAt K H) a its ∧ SqL K H b (bls n s) ∧ (∀ it ∈ its, it.1 < n) ∧ its.length ≤ 3 ∧
  ∀ H', Ex H H' → Q (.int (wsum its s)) H'
section
variable {P : Program} {w : World} {K : Fg} {mg : Str → Option Value} {base : Heap}
theorem cal_marks (D : DefAt K mg "marks" sMarks ["many", "some"]) (B : Blt mg) : C8.Cal P w K mg base 1 "marks" (spMarks K) [] := by
  refine cal_of D scMarks (fun vs H Q E h => ?_) (fun f cdv A outer s H vs Q E hr h => ?_)
  · obtain ⟨n, a, L, rfl, _⟩ := h
    rfl
  · obtain ⟨n, a, L, rfl, hS, hn, hL, q⟩ := h
    refine ⟨_, pss_cons (ps_setLc (i := 2) (own := [("k", 4)]) (g := gName 4) (tt := tYes) rfl scMarks.nd rfl rfl (sw_true rfl rfl rfl (by decide +kernel))
        (pi_range1 (by rfl) B.range (pa_cons (pv 0) pa_nil)) (blkOk_by (N := ["many", "some", "told", "thing", "k"]) (sc := L2.defScope sMarks) (by decide +kernel)) (fun _ _ _ _ _ => pg_name (i := 4) scMarks.nd rfl (Or.inl rfl)) (fun _ _ _ _ _ => pts_nil) (fun _ _ _ _ _ => pe_bl))
      (pss_cons (ps_for PassesOwn.never rfl (pi_list (pv 1)) (pg_name (i := 3) scMarks.nd rfl (Or.inl rfl)) (pss_one (ps_asg pe_bl (pg_sub (pv 2) (pv 3) set_list))))
      (pss_one (ps_ret (pv 2)))), ?_⟩
    -- told = [False for k in range(many)]
    refine q_asgL (el_lcR1 (fun _ => true) (fun _ => .bl false) (ea_cons (ev_var rfl) ea_nil) ⟨by omega, by omega⟩ (fun _ => rfl) (fun _ _ _ _ => et_yes) (fun _ _ _ _ _ => ev_c)) fun p H1 hp e1 h1 => ?_
    have h1' : H1 p = some (.lst (bls n (mem (L.take 0)))) := by
      rw [h1, given_all] <;> rfl
    -- for thing in some: told[thing] = True
    refine q_forLn (a := a) (xs := nvs L) (ev_var rfl) (ex_l e1 hS) (fun i σ H2 => ∃ v, σ = [some (.int ((n : Nat) : Int)), some (.ref a), some (.ref p), v, none] ∧ Ex H H2 ∧ H2 p = some (.lst (bls n (mem (L.take i)))))
      (fun H2 e2 => ⟨none, rfl, e1.trans e2, e2 _ _ h1'⟩) (fun i σ H2 _ ⟨_, _, e2, _⟩ => ex_l e2 hS) ?_ ?_
    · rintro i x σ H2 hx ⟨v, rfl, e2, h2⟩
      obtain ⟨t, ht, rfl⟩ := nvs_get hx
      have htn : t < n := hL t (List.mem_of_getElem? ht)
      refine s_setL h2 ev_c (ev_var rfl) (ev_var rfl) (by rw [bls_len]; exact htn) fun H3 e3 => ⟨_, rfl, (e2.trans e3).mut hp, ?_⟩
      rw [upd_same, bls_set htn (u := mem (L.take (i + 1)))]
      · rw [List.take_add_one, ht]
        exact mem_iff.mpr (List.mem_append_right _ List.mem_cons_self)
      · intro y _ hy
        rw [List.take_add_one, ht]
        exact mem_snoc_ne hy
    · rintro σ H2 ⟨v, rfl, e2, h2⟩
      rw [nvs_len, List.take_of_length_le (Nat.le_refl _)] at h2
      exact ⟨_, rfl, q p H2 hp e2 h2⟩
theorem cal_numbers (D : DefAt K mg "numbers" sNumbers ["truths"]) (B : Blt mg) : C8.Cal P w K mg base 1 "numbers" (spNumbers K) [] := by
  refine cal_of D scNumbers (fun vs H Q E h => ?_) (fun f cdv A outer s H vs Q E hr h => ?_)
  · obtain ⟨n, a, L, rfl, _⟩ := h
    rfl
  · obtain ⟨n, a, u, rfl, hS, hn, q⟩ := h
    refine ⟨_, pss_one (ps_ret (pe_lc (own := [("thing", 1), ("truth", 2)]) (g := gTup K 2 (gCons (gName 1) (gCons (gName 2) gNil))) (tt := tB (tVar 2)) (te := tVar 1) rfl scNumbers.nd (pi_enum (by rfl) B.enum (pa_cons (pv 0) pa_nil)) (blkOk_by (N := ["truths", "thing", "truth"]) (sc := L2.defScope sNumbers) (by decide +kernel))
      (fun _ _ _ _ _ => pg_tup rfl (pgs_cons (pg_name (i := 1) scNumbers.nd rfl (Or.inl rfl)) (pgs_cons (pg_name (i := 2) scNumbers.nd rfl (Or.inl rfl)) pgs_nil)))
      (fun _ _ _ _ _ => pts_one (pt_val (pv 2))) (fun _ _ _ _ _ => pv 1))), ?_⟩
    refine s_retL (el_lcEn (xs := bls n u) u (fun i => .int ((i : Nat) : Int)) (ea_cons (ev_var rfl) ea_nil) hS (by rw [bls_len]; omega) (fun _ _ => rfl) (fun i x H1 _ hx => ?_) (fun i x H1 _ hx _ => ev_var rfl)) fun p H1 hp e1 h1 => ?_
    · have hi : i < n := by
        have := (List.getElem?_eq_some_iff.mp hx).1
        rw [bls_len] at this
        exact this
      rw [bls_get hi] at hx
      exact et_B (ev_var (congrArg some hx.symm))
    · rw [bls_len] at h1
      exact q p H1 hp e1 h1
theorem cal_worth (D : DefAt K mg "worth_of" sWorth ["items", "told"]) (B : Blt mg) : C8.Cal P w K mg base 1 "worth_of" (spWorth K) [] := by
  refine cal_of D scWorth (fun vs H Q E h => ?_) (fun f cdv A outer s H vs Q E hr h => ?_)
  · obtain ⟨n, a, b, its, u, rfl, _⟩ := h
    rfl
  · obtain ⟨n, a, b, its, u, rfl, ⟨us, hL, hlen, hat⟩, hS, hlt, hz, q⟩ := h
    refine ⟨_, pss_one (ps_ret (pe_callB (cr_sum rfl) (by rfl) B.sum (by decide +kernel) (pa_cons (pe_lc (own := [("thing", 2), ("worth", 3)]) (g := gTup K 2 (gCons (gName 2) (gCons (gName 3) gNil))) (tt := tB (tOp (rIxL K) (tVar 1) (tVar 2))) (te := tVar 3) rfl scWorth.nd (pi_list (pv 0)) (blkOk_by (N := ["items", "told", "thing", "worth"]) (sc := L2.defScope sWorth) (by decide +kernel))
      (fun _ _ _ _ _ => pg_tup rfl (pgs_cons (pg_name (i := 2) scWorth.nd rfl (Or.inl rfl)) (pgs_cons (pg_name (i := 3) scWorth.nd rfl (Or.inl rfl)) pgs_nil)))
      (fun _ _ _ _ _ => pts_one (pt_val (pe_ix ix_list (pv 1) (pv 2) (fun _ _ => rfl)))) (fun _ _ _ _ _ => pv 3)) pa_nil))), ?_⟩
    refine s_ret (ev_sumL (EvL.cast (el_lcG (K := K) (a := a) (xs := us) (fun i => u (its.getD i (0, 0)).1) (fun i => .int (its.getD i (0, 0)).2) (fun i => [some (.ref a), some (.ref b), some (.int (((its.getD i (0, 0)).1 : Nat) : Int)), some (.int (its.getD i (0, 0)).2)])
      (ev_var rfl) hL (by omega) (fun i x H1 Q' e1 hx q' => ?_) (fun _ _ => rfl) (fun i H1 e1 hi => ?_) (fun i H1 e1 hi _ => ev_var rfl)) (ys := ((its.filter fun it : Nat × Int => u it.1).map (fun it : Nat × Int => it.2)).map V.int) ?_)) fun H1 e1 => q H1 e1
    · obtain ⟨it, hit, hm⟩ := ls_at hlen hx
      obtain ⟨T, rfl, hT⟩ := hat i x it hx hit
      refine g_two (ex_t e1 hT) ?_
      have ed : its.getD i (0, 0) = it := by rw [List.getD_eq_getElem?_getD, hit] <;> rfl
      rw [ed] at q'
      exact q'
    · have hi' : i < its.length := by omega
      have ed : its.getD i (0, 0) ∈ its := by
        rw [List.getD_eq_getElem?_getD, List.getElem?_eq_getElem hi']
        exact List.getElem_mem hi'
      exact et_B (ev_mark (ev_var rfl) (ev_var rfl) (ex_l e1 hS) (hlt _ ed))
    · rw [hlen, given_list its (0, 0) (fun it => u it.1) (fun it => V.int it.2), List.map_map] <;> rfl
end
end KW

-- K2
set_option Elab.async false
set_option linter.all false
set_option maxRecDepth 100000
set_option maxHeartbeats 4000000
namespace KW
open PySem PySem.Spec PyProof.Rows L2 Evl KM
/-! ### the parts' classes -/
abbrev sInI : Stmt := inClass (top 7) 0
abbrev sInN : Stmt := inClass (top 7) 2
abbrev sInH : Stmt := inClass (top 7) 3
abbrev sOutI : Stmt := inClass (top 8) 0
abbrev sOutN : Stmt := inClass (top 8) 2
abbrev sOutH : Stmt := inClass (top 8) 3
abbrev sLeI : Stmt := inClass (top 9) 0
abbrev sLeN : Stmt := inClass (top 9) 2
abbrev sLeH : Stmt := inClass (top 9) 3
abbrev sMoI : Stmt := inClass (top 10) 0
abbrev sMoN : Stmt := inClass (top 10) 2
abbrev sMoH : Stmt := inClass (top 10) 3
abbrev sPart : Stmt := top 11
structure Clss where
  cI : Addr
  cO : Addr
  cL : Addr
  cM : Addr
def Clss.of (c : Clss) : Part → Addr
  | .inn _ => c.cI
  | .out _ => c.cO
  | .least _ _ => c.cL
  | .most _ _ => c.cM
structure MethAt (K : Fg) (C : Addr) (m qual : Str) (st : Stmt) (ps : List Str) : Prop where
  ex : ∃ f fd, L2.Fun K m qual st f fd ∧ Meth K C m f ∧ Binds K fd ps []
structure InitAt (K : Fg) (mg : Str → Option Value) (x : Str) (C : Addr) (qual : Str) (st : Stmt) (ps : List Str) : Prop where
  ex : ∃ f fd, L2.Fun K "__init__" qual st f fd ∧ Mk K C f ∧ Binds K fd ps []
  mg : mg x = some (.ref C)
/-- what is asked of the classes -/
structure CTx (K : Fg) (mg : Str → Option Value) (c : Clss) : Prop where
  clI : Cls K c.cI
  clO : Cls K c.cO
  clL : Cls K c.cL
  clM : Cls K c.cM
  nI : NoAttr K c.cI "thing"
  nO : NoAttr K c.cO "thing"
  nLb : NoAttr K c.cL "bound"
  nLw : NoAttr K c.cL "weighed"
  nMb : NoAttr K c.cM "bound"
  nMw : NoAttr K c.cM "weighed"
  iI : InitAt K mg "In" c.cI "In.__init__" sInI ["self", "thing"]
  iO : InitAt K mg "Out" c.cO "Out.__init__" sOutI ["self", "thing"]
  iL : InitAt K mg "Least" c.cL "Least.__init__" sLeI ["self", "bound", "items"]
  iM : InitAt K mg "Most" c.cM "Most.__init__" sMoI ["self", "bound", "items"]
  mIn : MethAt K c.cI "named" "In.named" sInN ["self"]
  mOn : MethAt K c.cO "named" "Out.named" sOutN ["self"]
  mLn : MethAt K c.cL "named" "Least.named" sLeN ["self"]
  mMn : MethAt K c.cM "named" "Most.named" sMoN ["self"]
  mIh : MethAt K c.cI "holds" "In.holds" sInH ["self", "rising", "world"]
  mOh : MethAt K c.cO "holds" "Out.holds" sOutH ["self", "rising", "world"]
  mLh : MethAt K c.cL "holds" "Least.holds" sLeH ["self", "rising", "world"]
  mMh : MethAt K c.cM "holds" "Most.holds" sMoH ["self", "rising", "world"]
def fThing (t : Nat) : List (Str × V) := [("thing", .int ((t : Nat) : Int))]
def fWeigh (b : Int) (l : Addr) : List (Str × V) := [("bound", .int b), ("weighed", .ref l)]
theorem nbw : ¬ (("bound" : Str) = "weighed") := by decide +kernel
theorem lk_thing (t : Nat) : (fThing t).lookup ("thing" : Str) = some (.int ((t : Nat) : Int)) := by
  unfold fThing
  rw [List.lookup_cons_self]
theorem lk_bound (b : Int) (l : Addr) : (fWeigh b l).lookup ("bound" : Str) = some (.int b) := by
  unfold fWeigh
  rw [List.lookup_cons_self]
theorem lk_weigh (b : Int) (l : Addr) : (fWeigh b l).lookup ("weighed" : Str) = some (.ref l) := by
  unfold fWeigh
  rw [List.lookup_cons, (by decide +kernel : (("weighed" : Str) == "bound") = false), List.lookup_cons_self]
theorem lk_no1 (t : Nat) {m : Str} (h : (m == ("thing" : Str)) = false) : (fThing t).lookup m = none := by
  unfold fThing
  rw [List.lookup_cons, h]
  rfl
theorem lk_no2 (b : Int) (l : Addr) {m : Str} (h1 : (m == ("bound" : Str)) = false) (h2 : (m == ("weighed" : Str)) = false) : (fWeigh b l).lookup m = none := by
  unfold fWeigh
  rw [List.lookup_cons, h1]
  show ([(("weighed" : Str), V.ref l)]).lookup m = none
  rw [List.lookup_cons, h2]
  rfl
theorem put_weigh (b : Int) (l : Addr) : putF "weighed" (.ref l) (putF "bound" (.int b) []) = fWeigh b l := by
  show (if ("bound" : Str) = "weighed" then _ else (("bound" : Str), V.int b) :: putF "weighed" (.ref l) []) = _
  rw [if_neg nbw]
  rfl
/-- the object of a part -/
def PObj (K : Fg) (c : Clss) (H : Hp) (x : Addr) : Part → Prop
  | .inn t => ∃ dx, H x = some (.ins c.cI dx (fThing t))
  | .out t => ∃ dx, H x = some (.ins c.cO dx (fThing t))
  | .least b its => ∃ dx l, H x = some (.ins c.cL dx (fWeigh b l)) ∧ LsAt K H (ItemAt K H) l its
  | .most b its => ∃ dx l, H x = some (.ins c.cM dx (fWeigh b l)) ∧ LsAt K H (ItemAt K H) l its
theorem PObj.mono {K : Fg} {c : Clss} {H H' : Hp} {x : Addr} {p : Part} (e : Ex H H') (h : PObj K c H x p) : PObj K c H' x p := by
  cases p with
  | inn t => obtain ⟨dx, h1⟩ := h; exact ⟨dx, e _ _ h1⟩
  | out t => obtain ⟨dx, h1⟩ := h; exact ⟨dx, e _ _ h1⟩
  | least b its => obtain ⟨dx, l, h1, h2⟩ := h; exact ⟨dx, l, e _ _ h1, h2.mono e fun _ _ q => q.mono e⟩
  | most b its => obtain ⟨dx, l, h1, h2⟩ := h; exact ⟨dx, l, e _ _ h1, h2.mono e fun _ _ q => q.mono e⟩
theorem PObj.ins {K : Fg} {c : Clss} {H : Hp} {x : Addr} {p : Part} (h : PObj K c H x p) {m : Str} (h1 : (m == ("thing" : Str)) = false) (h2 : (m == ("bound" : Str)) = false) (h3 : (m == ("weighed" : Str)) = false) :
    ∃ dx fs, H x = some (.ins (c.of p) dx fs) ∧ fs.lookup m = none := by
  cases p with
  | inn t => obtain ⟨dx, h⟩ := h; exact ⟨dx, _, h, lk_no1 _ h1⟩
  | out t => obtain ⟨dx, h⟩ := h; exact ⟨dx, _, h, lk_no1 _ h1⟩
  | least b its => obtain ⟨dx, l, h, _⟩ := h; exact ⟨dx, _, h, lk_no2 _ _ h2 h3⟩
  | most b its => obtain ⟨dx, l, h, _⟩ := h; exact ⟨dx, _, h, lk_no2 _ _ h2 h3⟩

/-! ### promises -/
def spThing (C : Addr) : Sp := fun vs H Q _ => ∃ (x dx : Addr) (t : Nat), vs = [.ref x, .int ((t : Nat) : Int)] ∧ H x = some (.ins C dx []) ∧
  ∀ H' : Hp, H' x = some (.ins C dx (fThing t)) → (∀ b o, H b = some o → b ≠ x → H' b = some o) → Q .non H'
def spWeigh (K : Fg) (C : Addr) : Sp := fun vs H Q _ => ∃ (x dx l : Addr) (b : Int) (us : List V), vs = [.ref x, .int b, .ref l] ∧ H x = some (.ins C dx []) ∧ SqL K H l us ∧
  ∀ (H' : Hp) (l' : Addr), H' x = some (.ins C dx (fWeigh b l')) → H' l' = some (.lst us) → (∀ b o, H b = some o → b ≠ x → H' b = some o) → Q .non H'
def spHolds (K : Fg) (c : Clss) (p0 : Part → Prop) : Sp := fun vs H Q _ => ∃ (x a b : Addr) (n : Nat) (p : Part) (ri wo : Nat → Bool), p0 p ∧ vs = [.ref x, .ref a, .ref b] ∧ PObj K c H x p ∧ WfPart n p ∧ SqL K H a (bls n ri) ∧ SqL K H b (bls n wo) ∧
  ∀ H' : Hp, Ex H H' → Q (.bl (holds p ri wo)) H'
def spNamed (K : Fg) (c : Clss) (p0 : Part → Prop) : Sp := fun vs H Q _ => ∃ (x : Addr) (n : Nat) (p : Part), p0 p ∧ vs = [.ref x] ∧ PObj K c H x p ∧ WfPart n p ∧
  ∀ (q : Addr) (H' : Hp), H q = none → Ex H H' → H' q = some (.lst (nvs (named n p))) → Q (.ref q) H'
def spPart (K : Fg) (c : Clss) : Sp := fun vs H Q _ => ∃ (v : V) (p : Part), vs = [v] ∧ PartAt K H v p ∧ ∀ (x : Addr) (H' : Hp), Ex H H' → PObj K c H' x p → Q (.ref x) H'

section
variable {P : Program} {w : World} {K : Fg} {mg : Str → Option Value} {base : Heap}
theorem met_of {m qual : Str} {C : Addr} {st : Stmt} {ps N : List Str} {k : Nat} {sp : Sp} (c : Cls K C) (D : MethAt K C m qual st ps) (S : FnScope N ps (L2.defScope st)) (len : ∀ vs H Q E, sp vs H Q E → vs.length = ps.length)
    (body : ∀ (f : Addr) (cdv : Value) (A : Around) (outer : List Env) (s : Shared) (H : Hp) (vs : List V) (Q : VK) (E : XK), Room k (A.deeper (envOfC qual (L2.defScope st) s.heap.objs.size f cdv)) → sp vs H Q E →
      ∃ t, PSs (cxOf CX0 P w K mg base N qual (L2.defScope st) f cdv A outer s H E).nox (L2.defBody st) t ∧ t { nx := fun _ H' => Q .non H', rt := Q } (start N vs) H) : C8.Met P w K mg base (k + 1) C m sp [] := by
  obtain ⟨f, fd, F, hm, hb⟩ := D.ex
  exact ⟨f, fd, ps, [], c, hm, F.ok S len fun cdv A outer s H vs Q E hr h => body f cdv A outer s H vs Q E hr h, hb, .nil⟩
theorem mak_of {x qual : Str} {C : Addr} {st : Stmt} {ps N : List Str} {k : Nat} {sp : Sp} (D : InitAt K mg x C qual st ps) (S : FnScope N ps (L2.defScope st)) (len : ∀ vs H Q E, sp vs H Q E → vs.length = ps.length)
    (body : ∀ (f : Addr) (cdv : Value) (A : Around) (outer : List Env) (s : Shared) (H : Hp) (vs : List V) (Q : VK) (E : XK), Room k (A.deeper (envOfC qual (L2.defScope st) s.heap.objs.size f cdv)) → sp vs H Q E →
      ∃ t, PSs (cxOf CX0 P w K mg base N qual (L2.defScope st) f cdv A outer s H E).nox (L2.defBody st) t ∧ t { nx := fun _ H' => Q .non H', rt := Q } (start N vs) H) : C8.Mak P w K mg base (k + 1) x C sp [] := by
  obtain ⟨f, fd, F, hm, hb⟩ := D.ex
  exact ⟨f, fd, ps, [], hm, F.ok S len fun cdv A outer s H vs Q E hr h => body f cdv A outer s H vs Q E hr h, D.mg, hb, .nil⟩
theorem ev_fld {σ : L2.St} {H : Hp} {ta : TE} {a C dx : Addr} {fs : List (Str × V)} {f : Str} {v : V} (h : Ev ta σ H (.ref a)) (ho : H a = some (.ins C dx fs)) (c : Cls K C) (n : NoAttr K C f) (l : fs.lookup f = some v) : Ev (tFld K ta f) σ H v := fun H1 e Q q =>
  h H1 e _ fun H2 e2 => ⟨a, C, dx, fs, v, rfl, e2 _ _ (e _ _ ho), c, n, l, q H2 e2⟩
theorem scInI : FnScope ["self", "thing"] ["self", "thing"] (L2.defScope sInI) := ⟨rfl, rfl, rfl, by decide +kernel, rfl, by decide +kernel, by decide +kernel⟩
theorem scOutI : FnScope ["self", "thing"] ["self", "thing"] (L2.defScope sOutI) := ⟨rfl, rfl, rfl, by decide +kernel, rfl, by decide +kernel, by decide +kernel⟩
theorem scLeI : FnScope ["self", "bound", "items"] ["self", "bound", "items"] (L2.defScope sLeI) := ⟨rfl, rfl, rfl, by decide +kernel, rfl, by decide +kernel, by decide +kernel⟩
theorem scMoI : FnScope ["self", "bound", "items"] ["self", "bound", "items"] (L2.defScope sMoI) := ⟨rfl, rfl, rfl, by decide +kernel, rfl, by decide +kernel, by decide +kernel⟩
theorem mak_in {c : Clss} (T : CTx K mg c) : C8.Mak P w K mg base 1 "In" c.cI (spThing c.cI) [] := by
  refine mak_of T.iI scInI (fun vs H Q E h => ?_) (fun f cdv A outer s H vs Q E hr h => ?_)
  · obtain ⟨x, dx, t, rfl, _⟩ := h
    rfl
  · obtain ⟨x, dx, t, rfl, hx, q⟩ := h
    refine ⟨_, pss_one (ps_fld (pv 0) (pv 1) rfl), ?_⟩
    refine ⟨_, rfl, _, rfl, x, c.cI, dx, [], rfl, hx, T.clI, T.nI, (by show 0 < 1000; decide), ?_⟩
    exact q _ upd_same fun b o e hb => by rw [upd_ne hb]; exact e
theorem mak_out {c : Clss} (T : CTx K mg c) : C8.Mak P w K mg base 1 "Out" c.cO (spThing c.cO) [] := by
  refine mak_of T.iO scOutI (fun vs H Q E h => ?_) (fun f cdv A outer s H vs Q E hr h => ?_)
  · obtain ⟨x, dx, t, rfl, _⟩ := h
    rfl
  · obtain ⟨x, dx, t, rfl, hx, q⟩ := h
    refine ⟨_, pss_one (ps_fld (pv 0) (pv 1) rfl), ?_⟩
    refine ⟨_, rfl, _, rfl, x, c.cO, dx, [], rfl, hx, T.clO, T.nO, (by show 0 < 1000; decide), ?_⟩
    exact q _ upd_same fun b o e hb => by rw [upd_ne hb]; exact e
theorem weigh_end {C x dx l l' : Addr} {b : Int} {us : List V} {H : Hp} {Q : VK} (hx : H x = some (.ins C dx [])) (hn : upd H x (.ins C dx (putF "bound" (.int b) [])) l' = none)
    (q : ∀ (H' : Hp) (l' : Addr), H' x = some (.ins C dx (fWeigh b l')) → H' l' = some (.lst us) → (∀ b o, H b = some o → b ≠ x → H' b = some o) → Q .non H') :
    Q .non (upd (upd (upd H x (.ins C dx (putF "bound" (.int b) []))) l' (.lst us)) x (.ins C dx (putF "weighed" (.ref l') (putF "bound" (.int b) [])))) := by
  have hl : l' ≠ x := fun e => by
    rw [e, upd_same] at hn
    cases hn
  refine q _ l' (by rw [upd_same, put_weigh]) (by rw [upd_ne hl, upd_same]) fun a o e ha => ?_
  have hal : a ≠ l' := fun z => by
    rw [z] at e
    rw [upd_ne hl, e] at hn
    cases hn
  rw [upd_ne ha, upd_ne hal, upd_ne ha]
  exact e
theorem mak_least {c : Clss} (T : CTx K mg c) (B : Blt mg) : C8.Mak P w K mg base 1 "Least" c.cL (spWeigh K c.cL) [] := by
  refine mak_of T.iL scLeI (fun vs H Q E h => ?_) (fun f cdv A outer s H vs Q E hr h => ?_)
  · obtain ⟨x, dx, l, b, us, rfl, _⟩ := h
    rfl
  · obtain ⟨x, dx, l, b, us, rfl, hx, hS, q⟩ := h
    refine ⟨_, pss_cons (ps_fld (pv 0) (pv 1) rfl) (pss_one (ps_fld (pv 0) (pe_callTy call_list_of (by rfl) B.list (by decide +kernel) (pa_cons (pv 2) pa_nil)) rfl)), ?_⟩
    refine ⟨_, rfl, _, rfl, x, c.cL, dx, [], rfl, hx, T.clL, T.nLb, (by show 0 < 1000; decide), ?_⟩
    have hS' : SqL K (upd H x (.ins c.cL dx (putF "bound" (.int b) []))) l us := by
      rcases hS with (hS | ⟨o, hS⟩) | hS
      · exact .inl (.inl (by rw [upd_ne (ne_of hS hx (by intro z; cases z))]; exact hS))
      · exact .inl (.inr ⟨o, by rw [upd_ne (ne_of hS hx (by intro z; cases z))]; exact hS⟩)
      · exact .inr hS
    refine ⟨_, rfl, l, us, rfl, .inl hS', fun l' hl' => ?_⟩
    have hne : x ≠ l' := fun e => by
      rw [← e, upd_same] at hl'
      cases hl'
    refine ⟨_, rfl, x, c.cL, dx, _, rfl, Eq.trans (upd_ne hne) upd_same, T.clL, T.nLw, (by show 1 < 1000; decide), ?_⟩
    exact weigh_end (l := l) hx hl' q
theorem mak_most {c : Clss} (T : CTx K mg c) (B : Blt mg) : C8.Mak P w K mg base 1 "Most" c.cM (spWeigh K c.cM) [] := by
  refine mak_of T.iM scMoI (fun vs H Q E h => ?_) (fun f cdv A outer s H vs Q E hr h => ?_)
  · obtain ⟨x, dx, l, b, us, rfl, _⟩ := h
    rfl
  · obtain ⟨x, dx, l, b, us, rfl, hx, hS, q⟩ := h
    refine ⟨_, pss_cons (ps_fld (pv 0) (pv 1) rfl) (pss_one (ps_fld (pv 0) (pe_callTy call_list_of (by rfl) B.list (by decide +kernel) (pa_cons (pv 2) pa_nil)) rfl)), ?_⟩
    refine ⟨_, rfl, _, rfl, x, c.cM, dx, [], rfl, hx, T.clM, T.nMb, (by show 0 < 1000; decide), ?_⟩
    have hS' : SqL K (upd H x (.ins c.cM dx (putF "bound" (.int b) []))) l us := by
      rcases hS with (hS | ⟨o, hS⟩) | hS
      · exact .inl (.inl (by rw [upd_ne (ne_of hS hx (by intro z; cases z))]; exact hS))
      · exact .inl (.inr ⟨o, by rw [upd_ne (ne_of hS hx (by intro z; cases z))]; exact hS⟩)
      · exact .inr hS
    refine ⟨_, rfl, l, us, rfl, .inl hS', fun l' hl' => ?_⟩
    have hne : x ≠ l' := fun e => by
      rw [← e, upd_same] at hl'
      cases hl'
    refine ⟨_, rfl, x, c.cM, dx, _, rfl, Eq.trans (upd_ne hne) upd_same, T.clM, T.nMw, (by show 1 < 1000; decide), ?_⟩
    exact weigh_end (l := l) hx hl' q
end
end KW

-- K3
set_option Elab.async false
set_option linter.all false
set_option maxRecDepth 100000
set_option maxHeartbeats 4000000
namespace KW
open PySem PySem.Spec PyProof.Rows L2 Evl KM
section
variable {K : Fg} {σ : L2.St} {H : Hp} {ta tb te : TE}
/-! ### tests of texts -/
theorem et_eqS {x y : Str} {b : Bool} (h : Ev ta σ H (.str x)) (e : decide (x = y) = b) : EvT (tTest (tOp rEq ta (tC (.str y)))) σ H b := by
  refine et_test (ev_is (ev_op h ev_c (rv_eq rfl)) ?_)
  rw [← e]
  exact congrArg V.bl (decide_eq_decide.mpr ⟨fun z => V.str.inj z, fun z => by rw [z]⟩)
theorem et_neS {x y : Str} {b : Bool} (h : Ev ta σ H (.str x)) (e : (!decide (x = y)) = b) : EvT (tTest (tOp rNe ta (tC (.str y)))) σ H b := by
  refine et_test (ev_is (ev_op h ev_c (rv_ne rfl)) ?_)
  rw [← e]
  exact congrArg V.bl (congrArg not (decide_eq_decide.mpr ⟨fun z => V.str.inj z, fun z => by rw [z]⟩))
theorem rv_ge {i j : Int} : RV (rI0 fun i j => .bl (decide (j ≤ i))) (.int i) (.int j) H (.bl (decide (j ≤ i))) := rv_I0
theorem rv_le {i j : Int} : RV (rI0 fun i j => .bl (decide (i ≤ j))) (.int i) (.int j) H (.bl (decide (i ≤ j))) := rv_I0
/-- sorted(set(a list of things)) -/
theorem el_sortset {w : World} {L : List Nat} {n : Nat} {s : Nat → Bool} (h : EvL ta σ H (nvs L)) (hl : L.length ≤ 60) (hm : ∀ t, t ∈ L ↔ t < n ∧ s t = true) :
    EvL (tCB (rSortedSet w) (tCons (tCB (rSetOfL K w) (tCons ta tNil)) tNil)) σ H (nvs (nums n s)) := fun H1 e Q q =>
  h H1 e _ fun p H2 hp e2 h2 => ⟨p, L.map fun i => ((i : Nat) : Int), rfl, sq_of (by rw [h2, nvs_map]), (by rw [List.length_map]; omega), fun a c ha hc => ⟨a, _, c, rfl, upd_same, (by rw [List.length_map] at hc; omega), fun ns r hs hk hn hr => by
    have e1 : ns = (nums n s).map fun i => ((i : Nat) : Int) := isorted_nums hs fun k => by
      rw [hk k, decide_eq_true_eq, List.mem_map]
      constructor
      · rintro ⟨t, ht, rfl⟩
        exact ⟨t, ((hm t).mp ht).1, ((hm t).mp ht).2, rfl⟩
      · rintro ⟨t, h1, h2, rfl⟩
        exact ⟨t, (hm t).mpr ⟨h1, h2⟩, rfl⟩
    have e3 := Ex.new (o := SetO w a (fun j => decide (j ∈ L.map fun i => ((i : Nat) : Int))) c) ha
    refine q r _ (fresh_back e2 (fresh_back e3 hr)) ((e2.trans e3).trans (Ex.new hr)) ?_
    rw [upd_same, e1, nvs_map]⟩⟩
end
/-! ### holds, named, part_of -/
theorem scInH : FnScope ["self", "rising", "world"] ["self", "rising", "world"] (L2.defScope sInH) := ⟨rfl, rfl, rfl, by decide +kernel, rfl, by decide +kernel, by decide +kernel⟩
theorem scOutH : FnScope ["self", "rising", "world"] ["self", "rising", "world"] (L2.defScope sOutH) := ⟨rfl, rfl, rfl, by decide +kernel, rfl, by decide +kernel, by decide +kernel⟩
theorem scLeH : FnScope ["self", "rising", "world"] ["self", "rising", "world"] (L2.defScope sLeH) := ⟨rfl, rfl, rfl, by decide +kernel, rfl, by decide +kernel, by decide +kernel⟩
theorem scMoH : FnScope ["self", "rising", "world"] ["self", "rising", "world"] (L2.defScope sMoH) := ⟨rfl, rfl, rfl, by decide +kernel, rfl, by decide +kernel, by decide +kernel⟩
theorem scInN : FnScope ["self"] ["self"] (L2.defScope sInN) := ⟨rfl, rfl, rfl, by decide +kernel, rfl, by decide +kernel, by decide +kernel⟩
theorem scOutN : FnScope ["self"] ["self"] (L2.defScope sOutN) := ⟨rfl, rfl, rfl, by decide +kernel, rfl, by decide +kernel, by decide +kernel⟩
theorem scLeN : FnScope ["self", "thing", "worth"] ["self"] (L2.defScope sLeN) := ⟨rfl, rfl, rfl, by decide +kernel, rfl, by decide +kernel, by decide +kernel⟩
theorem scMoN : FnScope ["self", "thing", "worth"] ["self"] (L2.defScope sMoN) := ⟨rfl, rfl, rfl, by decide +kernel, rfl, by decide +kernel, by decide +kernel⟩
theorem scPart : FnScope ["told"] ["told"] (L2.defScope sPart) := ⟨rfl, rfl, rfl, by decide +kernel, rfl, by decide +kernel, by decide +kernel⟩
def isIn : Part → Prop | .inn _ => True | _ => False
def isOut : Part → Prop | .out _ => True | _ => False
def isLeast : Part → Prop | .least _ _ => True | _ => False
def isMost : Part → Prop | .most _ _ => True | _ => False
section
variable {P : Program} {w : World} {K : Fg} {mg : Str → Option Value} {base : Heap}
theorem met_inH {c : Clss} (T : CTx K mg c) : C8.Met P w K mg base 2 c.cI "holds" (spHolds K c isIn) [] := by
  refine met_of T.clI T.mIh scInH (fun vs H Q E h => ?_) (fun f cdv A outer s H vs Q E hr h => ?_)
  · obtain ⟨x, a, b, n, p, ri, wo, _, rfl, _⟩ := h
    rfl
  · obtain ⟨x, a, b, n, p, ri, wo, hp, rfl, ho, hw, ha, hb, q⟩ := h
    cases p with
    | inn t =>
      obtain ⟨dx, ho⟩ := ho
      refine ⟨_, pss_one (ps_ret (pe_ix ix_list (pv 1) (pe_fld (pv 0) rfl) (fun _ _ => rfl))), ?_⟩
      exact s_ret (ev_mark (ev_var rfl) (ev_fld (ev_var rfl) ho T.clI T.nI (lk_thing t)) ha (hw.lt t List.mem_cons_self)) fun H1 e => q H1 e
    | out t => exact hp.elim
    | least _ _ => exact hp.elim
    | most _ _ => exact hp.elim
theorem met_outH {c : Clss} (T : CTx K mg c) : C8.Met P w K mg base 2 c.cO "holds" (spHolds K c isOut) [] := by
  refine met_of T.clO T.mOh scOutH (fun vs H Q E h => ?_) (fun f cdv A outer s H vs Q E hr h => ?_)
  · obtain ⟨x, a, b, n, p, ri, wo, _, rfl, _⟩ := h
    rfl
  · obtain ⟨x, a, b, n, p, ri, wo, hp, rfl, ho, hw, ha, hb, q⟩ := h
    cases p with
    | out t =>
      obtain ⟨dx, ho⟩ := ho
      refine ⟨_, pss_one (ps_ret (pe_not (pe_ix ix_list (pv 2) (pe_fld (pv 0) rfl) (fun _ _ => rfl)))), ?_⟩
      exact s_ret (ev_notV (ev_mark (ev_var rfl) (ev_fld (ev_var rfl) ho T.clO T.nO (lk_thing t)) hb (hw.lt t List.mem_cons_self))) fun H1 e => q H1 e
    | inn t => exact hp.elim
    | least _ _ => exact hp.elim
    | most _ _ => exact hp.elim
theorem met_leH {c : Clss} (T : CTx K mg c) (cW : C8.Cal P w K mg base 1 "worth_of" (spWorth K) []) : C8.Met P w K mg base 2 c.cL "holds" (spHolds K c isLeast) [] := by
  refine met_of T.clL T.mLh scLeH (fun vs H Q E h => ?_) (fun f cdv A outer s H vs Q E hr h => ?_)
  · obtain ⟨x, a, b, n, p, ri, wo, _, rfl, _⟩ := h
    rfl
  · obtain ⟨x, a, b, n, p, ri, wo, hp, rfl, ho, hw, ha, hb, q⟩ := h
    cases p with
    | least z its =>
      obtain ⟨dx, l, ho, hi⟩ := ho
      refine ⟨_, pss_one (ps_ret (pe_cmpR op_ge (C8.pe_c cW hr (by decide) (by rfl) (pa_cons (pe_fld (pv 0) rfl) (pa_cons (pv 1) pa_nil))) (pe_fld (pv 0) rfl) (nomark _))), ?_⟩
      refine s_ret (ev_op (ev_call (ea_cons (ev_fld (ev_var rfl) ho T.clL T.nLw (lk_weigh z l)) (ea_cons (ev_var rfl) ea_nil)) (fun H1 e1 Q' q' E' => ?_)) (ev_fld (ev_var rfl) ho T.clL T.nLb (lk_bound z l)) rv_ge) fun H1 e => q H1 e
      exact ⟨n, l, a, its, ri, rfl, hi.mono e1 fun _ _ r => r.mono e1, ex_l e1 ha, fun it hit => hw.lt it.1 (List.mem_map.mpr ⟨it, hit, rfl⟩), hw.len, q'⟩
    | inn t => exact hp.elim
    | out _ => exact hp.elim
    | most _ _ => exact hp.elim
theorem met_moH {c : Clss} (T : CTx K mg c) (cW : C8.Cal P w K mg base 1 "worth_of" (spWorth K) []) : C8.Met P w K mg base 2 c.cM "holds" (spHolds K c isMost) [] := by
  refine met_of T.clM T.mMh scMoH (fun vs H Q E h => ?_) (fun f cdv A outer s H vs Q E hr h => ?_)
  · obtain ⟨x, a, b, n, p, ri, wo, _, rfl, _⟩ := h
    rfl
  · obtain ⟨x, a, b, n, p, ri, wo, hp, rfl, ho, hw, ha, hb, q⟩ := h
    cases p with
    | most z its =>
      obtain ⟨dx, l, ho, hi⟩ := ho
      refine ⟨_, pss_one (ps_ret (pe_cmpR op_le (C8.pe_c cW hr (by decide) (by rfl) (pa_cons (pe_fld (pv 0) rfl) (pa_cons (pv 2) pa_nil))) (pe_fld (pv 0) rfl) (nomark _))), ?_⟩
      refine s_ret (ev_op (ev_call (ea_cons (ev_fld (ev_var rfl) ho T.clM T.nMw (lk_weigh z l)) (ea_cons (ev_var rfl) ea_nil)) (fun H1 e1 Q' q' E' => ?_)) (ev_fld (ev_var rfl) ho T.clM T.nMb (lk_bound z l)) rv_le) fun H1 e => q H1 e
      exact ⟨n, l, b, its, wo, rfl, hi.mono e1 fun _ _ r => r.mono e1, ex_l e1 hb, fun it hit => hw.lt it.1 (List.mem_map.mpr ⟨it, hit, rfl⟩), hw.len, q'⟩
    | inn t => exact hp.elim
    | out _ => exact hp.elim
    | least _ _ => exact hp.elim
theorem met_inN {c : Clss} (T : CTx K mg c) : C8.Met P w K mg base 1 c.cI "named" (spNamed K c isIn) [] := by
  refine met_of T.clI T.mIn scInN (fun vs H Q E h => ?_) (fun f cdv A outer s H vs Q E hr h => ?_)
  · obtain ⟨x, n, p, _, rfl, _⟩ := h
    rfl
  · obtain ⟨x, n, p, hp, rfl, ho, hw, q⟩ := h
    cases p with
    | inn t =>
      obtain ⟨dx, ho⟩ := ho
      refine ⟨_, pss_one (ps_ret (pe_lst (pa_cons (pe_fld (pv 0) rfl) pa_nil))), ?_⟩
      exact s_retL (el_lst (ea_cons (ev_fld (ev_var rfl) ho T.clI T.nI (lk_thing t)) ea_nil) (by show 1 ≤ 100000; decide)) fun r H1 hn e h1 => q r H1 hn e h1
    | out t => exact hp.elim
    | least _ _ => exact hp.elim
    | most _ _ => exact hp.elim
theorem met_outN {c : Clss} (T : CTx K mg c) : C8.Met P w K mg base 1 c.cO "named" (spNamed K c isOut) [] := by
  refine met_of T.clO T.mOn scOutN (fun vs H Q E h => ?_) (fun f cdv A outer s H vs Q E hr h => ?_)
  · obtain ⟨x, n, p, _, rfl, _⟩ := h
    rfl
  · obtain ⟨x, n, p, hp, rfl, ho, hw, q⟩ := h
    cases p with
    | out t =>
      obtain ⟨dx, ho⟩ := ho
      refine ⟨_, pss_one (ps_ret (pe_lst (pa_cons (pe_fld (pv 0) rfl) pa_nil))), ?_⟩
      exact s_retL (el_lst (ea_cons (ev_fld (ev_var rfl) ho T.clO T.nO (lk_thing t)) ea_nil) (by show 1 ≤ 100000; decide)) fun r H1 hn e h1 => q r H1 hn e h1
    | inn t => exact hp.elim
    | least _ _ => exact hp.elim
    | most _ _ => exact hp.elim
theorem named_comp {K : Fg} {H : Hp} {x l : Addr} {its : List (Nat × Int)} {tl : TE} (h : Ev tl [some (.ref x), none, none] H (.ref l)) (hi : LsAt K H (ItemAt K H) l its) (hl : its.length ≤ 3) :
    EvL (tLc (iList K tl) (gTup K 2 (gCons (gName 1) (gCons (gName 2) gNil))) tYes (tVar 1) [1, 2]) [some (.ref x), none, none] H (nvs (its.map (·.1))) := by
  obtain ⟨us, hL, hlen, hat⟩ := hi
  refine EvL.cast (el_lcG (K := K) (a := l) (xs := us) (fun _ => true) (fun i => .int (((its.getD i (0, 0)).1 : Nat) : Int)) (fun i => [some (.ref x), some (.int (((its.getD i (0, 0)).1 : Nat) : Int)), some (.int (its.getD i (0, 0)).2)])
    h hL (by omega) (fun i v H1 Q' e1 hx q' => ?_) (fun _ _ => rfl) (fun i H1 e1 hi => et_yes) (fun i H1 e1 hi _ => ev_var rfl)) ?_
  · obtain ⟨it, hit, hm⟩ := ls_at hlen hx
    obtain ⟨T, rfl, hT⟩ := hat i v it hx hit
    refine g_two (ex_t e1 hT) ?_
    have ed : its.getD i (0, 0) = it := by rw [List.getD_eq_getElem?_getD, hit] <;> rfl
    rw [ed] at q'
    exact q'
  · have := given_list its (0, 0) (fun _ => true) (fun it : Nat × Int => V.int ((it.1 : Nat) : Int))
    rw [hlen, this, List.filter_eq_self.mpr fun _ _ => rfl]
    unfold nvs
    rw [List.map_map] <;> rfl
theorem named_mem {n : Nat} {its : List (Nat × Int)} (h : ∀ t ∈ its.map (·.1), t < n) (t : Nat) : t ∈ its.map (·.1) ↔ t < n ∧ isThing its t = true := by
  rw [isThing_iff]
  exact ⟨fun m => ⟨h t m, m⟩, fun m => m.2⟩
theorem met_leN {c : Clss} (T : CTx K mg c) (B : Blt mg) : C8.Met P w K mg base 1 c.cL "named" (spNamed K c isLeast) [] := by
  refine met_of T.clL T.mLn scLeN (fun vs H Q E h => ?_) (fun f cdv A outer s H vs Q E hr h => ?_)
  · obtain ⟨x, n, p, _, rfl, _⟩ := h
    rfl
  · obtain ⟨x, n, p, hp, rfl, ho, hw, q⟩ := h
    cases p with
    | least z its =>
      obtain ⟨dx, l, ho, hi⟩ := ho
      refine ⟨_, pss_one (ps_ret (pe_callB (cr_sortedSet rfl) (by rfl) B.sorted (by decide +kernel) (pa_cons (pe_callTy (cr_setL rfl) (by rfl) B.set (by decide +kernel) (pa_cons
        (pe_lc (own := [("thing", 1), ("worth", 2)]) (g := gTup K 2 (gCons (gName 1) (gCons (gName 2) gNil))) (tt := tYes) (te := tVar 1) rfl scLeN.nd (pi_list (pe_fld (pv 0) rfl)) (blkOk_by (N := ["self", "thing", "worth"]) (sc := L2.defScope sLeN) (by decide +kernel))
          (fun _ _ _ _ _ => pg_tup rfl (pgs_cons (pg_name (i := 1) scLeN.nd rfl (Or.inl rfl)) (pgs_cons (pg_name (i := 2) scLeN.nd rfl (Or.inl rfl)) pgs_nil))) (fun _ _ _ _ _ => pts_nil) (fun _ _ _ _ _ => pv 1)) pa_nil)) pa_nil))), ?_⟩
      have hlen : its.length ≤ 3 := hw.len
      exact s_retL (el_sortset (named_comp (ev_fld (ev_var rfl) ho T.clL T.nLw (lk_weigh z l)) hi hw.len) (by rw [List.length_map]; omega) (named_mem hw.lt)) fun r H1 hn e h1 => q r H1 hn e h1
    | inn t => exact hp.elim
    | out _ => exact hp.elim
    | most _ _ => exact hp.elim
theorem met_moN {c : Clss} (T : CTx K mg c) (B : Blt mg) : C8.Met P w K mg base 1 c.cM "named" (spNamed K c isMost) [] := by
  refine met_of T.clM T.mMn scMoN (fun vs H Q E h => ?_) (fun f cdv A outer s H vs Q E hr h => ?_)
  · obtain ⟨x, n, p, _, rfl, _⟩ := h
    rfl
  · obtain ⟨x, n, p, hp, rfl, ho, hw, q⟩ := h
    cases p with
    | most z its =>
      obtain ⟨dx, l, ho, hi⟩ := ho
      refine ⟨_, pss_one (ps_ret (pe_callB (cr_sortedSet rfl) (by rfl) B.sorted (by decide +kernel) (pa_cons (pe_callTy (cr_setL rfl) (by rfl) B.set (by decide +kernel) (pa_cons
        (pe_lc (own := [("thing", 1), ("worth", 2)]) (g := gTup K 2 (gCons (gName 1) (gCons (gName 2) gNil))) (tt := tYes) (te := tVar 1) rfl scMoN.nd (pi_list (pe_fld (pv 0) rfl)) (blkOk_by (N := ["self", "thing", "worth"]) (sc := L2.defScope sMoN) (by decide +kernel))
          (fun _ _ _ _ _ => pg_tup rfl (pgs_cons (pg_name (i := 1) scMoN.nd rfl (Or.inl rfl)) (pgs_cons (pg_name (i := 2) scMoN.nd rfl (Or.inl rfl)) pgs_nil))) (fun _ _ _ _ _ => pts_nil) (fun _ _ _ _ _ => pv 1)) pa_nil)) pa_nil))), ?_⟩
      have hlen : its.length ≤ 3 := hw.len
      exact s_retL (el_sortset (named_comp (ev_fld (ev_var rfl) ho T.clM T.nMw (lk_weigh z l)) hi hw.len) (by rw [List.length_map]; omega) (named_mem hw.lt)) fun r H1 hn e h1 => q r H1 hn e h1
    | inn t => exact hp.elim
    | out _ => exact hp.elim
    | least _ _ => exact hp.elim
end
end KW

-- K4
set_option Elab.async false
set_option linter.all false
set_option maxRecDepth 100000
set_option maxHeartbeats 4000000
namespace KW
open PySem PySem.Spec PyProof.Rows L2 Evl KM
abbrev sBody : Stmt := top 13
abbrev sBreaks : Stmt := top 14
theorem scBody : FnScope ["rule", "rising", "world", "told"] ["rule", "rising", "world"] (L2.defScope sBody) := ⟨rfl, rfl, rfl, by decide +kernel, rfl, by decide +kernel, by decide +kernel⟩
theorem scBreaks : FnScope ["rule", "world"] ["rule", "world"] (L2.defScope sBreaks) := ⟨rfl, rfl, rfl, by decide +kernel, rfl, by decide +kernel, by decide +kernel⟩
def kindP : Part → Part → Prop
  | .inn _ => isIn
  | .out _ => isOut
  | .least _ _ => isLeast
  | .most _ _ => isMost
theorem kind_self (p : Part) : kindP p p := by cases p <;> exact True.intro
def spBody (K : Fg) : Sp := fun vs H Q _ => ∃ (v : V) (a b : Addr) (n : Nat) (r : Rule) (ri wo : Nat → Bool), vs = [v, .ref a, .ref b] ∧ RuleAt K H v r ∧ WfRule n r ∧ SqL K H a (bls n ri) ∧ SqL K H b (bls n wo) ∧
  ∀ H' : Hp, Ex H H' → Q (.bl (body r.2 ri wo)) H'
def spBreaks (K : Fg) : Sp := fun vs H Q _ => ∃ (v : V) (b : Addr) (n : Nat) (r : Rule) (wo : Nat → Bool), vs = [v, .ref b] ∧ RuleAt K H v r ∧ WfRule n r ∧ SqL K H b (bls n wo) ∧
  ∀ H' : Hp, Ex H H' → Q (.bl (breaks r wo)) H'
section
variable {P : Program} {w : World} {K : Fg} {mg : Str → Option Value} {base : Heap}
theorem at0 {x : V} {r : List V} : atI (x :: r) 0 = some x := atI_nat (j := 0) rfl
theorem at1 {x y : V} {r : List V} : atI (x :: y :: r) 1 = some y := atI_nat (j := 1) rfl
theorem at2 {x y z : V} {r : List V} : atI (x :: y :: z :: r) 2 = some z := atI_nat (j := 2) rfl
theorem cal_part {c : Clss} (D : DefAt K mg "part_of" sPart ["told"]) (mI : C8.Mak P w K mg base 1 "In" c.cI (spThing c.cI) []) (mO : C8.Mak P w K mg base 1 "Out" c.cO (spThing c.cO) [])
    (mL : C8.Mak P w K mg base 1 "Least" c.cL (spWeigh K c.cL) []) (mM : C8.Mak P w K mg base 1 "Most" c.cM (spWeigh K c.cM) []) : C8.Cal P w K mg base 3 "part_of" (spPart K c) [] := by
  refine cal_of D scPart (fun vs H Q E h => ?_) (fun f cdv A outer s H vs Q E hr h => ?_)
  · obtain ⟨v, p, rfl, _⟩ := h
    rfl
  · obtain ⟨v, p, rfl, hv, q⟩ := h
    refine ⟨_, pss_cons (ps_if (pt_cmpR op_eq (pe_ix ix_tup (pv 0) pe_int (fun _ _ => rfl)) pe_str (nomark _)) (pss_one (ps_ret (C8.pe_mk mI hr (by decide) (by rfl) (pa_cons (pe_ix ix_tup (pv 0) pe_int (fun _ _ => rfl)) pa_nil)))) pss_nil)
      (pss_cons (ps_if (pt_cmpR op_eq (pe_ix ix_tup (pv 0) pe_int (fun _ _ => rfl)) pe_str (nomark _)) (pss_one (ps_ret (C8.pe_mk mO hr (by decide) (by rfl) (pa_cons (pe_ix ix_tup (pv 0) pe_int (fun _ _ => rfl)) pa_nil)))) pss_nil)
      (pss_cons (ps_if (pt_cmpR op_eq (pe_ix ix_tup (pv 0) pe_int (fun _ _ => rfl)) pe_str (nomark _)) (pss_one (ps_ret (C8.pe_mk mL hr (by decide) (by rfl) (pa_cons (pe_ix ix_tup (pv 0) pe_int (fun _ _ => rfl)) (pa_cons (pe_ix ix_tup (pv 0) pe_int (fun _ _ => rfl)) pa_nil))))) pss_nil)
      (pss_one (ps_ret (C8.pe_mk mM hr (by decide) (by rfl) (pa_cons (pe_ix ix_tup (pv 0) pe_int (fun _ _ => rfl)) (pa_cons (pe_ix ix_tup (pv 0) pe_int (fun _ _ => rfl)) pa_nil))))))), ?_⟩
    cases p with
    | inn t =>
      obtain ⟨a, rfl, ha⟩ := hv
      refine q_when (b := true) (et_eqS (ev_T (ev_var rfl) ev_c ha at0) (by decide +kernel)) (fun _ H1 e1 => ?_) (fun z => nomatch z)
      refine ev_T (ev_var rfl) ev_c (ex_t e1 ha) at1 H1 (Ex.refl H1) _ fun H2 e2 => ?_
      intro x dx nx nd ne
      exact ⟨x, dx, t, rfl, upd_same, fun H' h1 kp => ⟨rfl, q x H' ((e1.trans e2).trans (Same.made nx nd kp)) ⟨dx, h1⟩⟩⟩
    | out t =>
      obtain ⟨a, rfl, ha⟩ := hv
      refine q_when (b := false) (et_eqS (ev_T (ev_var rfl) ev_c ha at0) (by decide +kernel)) (fun z => nomatch z) (fun _ H1 e1 => ?_)
      refine q_when (b := true) (et_eqS (ev_T (ev_var rfl) ev_c (ex_t e1 ha) at0) (by decide +kernel)) (fun _ H2 e2 => ?_) (fun z => nomatch z)
      refine ev_T (ev_var rfl) ev_c (ex_t (e1.trans e2) ha) at1 H2 (Ex.refl H2) _ fun H3 e3 => ?_
      intro x dx nx nd ne
      exact ⟨x, dx, t, rfl, upd_same, fun H' h1 kp => ⟨rfl, q x H' (((e1.trans e2).trans e3).trans (Same.made nx nd kp)) ⟨dx, h1⟩⟩⟩
    | least b its =>
      obtain ⟨a, l, rfl, ha, us, hl, hlen, hat⟩ := hv
      refine q_when (b := false) (et_eqS (ev_T (ev_var rfl) ev_c ha at0) (by decide +kernel)) (fun z => nomatch z) (fun _ H1 e1 => ?_)
      refine q_when (b := false) (et_eqS (ev_T (ev_var rfl) ev_c (ex_t e1 ha) at0) (by decide +kernel)) (fun z => nomatch z) (fun _ H2 e2 => ?_)
      refine q_when (b := true) (et_eqS (ev_T (ev_var rfl) ev_c (ex_t (e1.trans e2) ha) at0) (by decide +kernel)) (fun _ H3 e3 => ?_) (fun z => nomatch z)
      have e13 := (e1.trans e2).trans e3
      refine ev_T (ev_var rfl) ev_c (ex_t e13 ha) at1 H3 (Ex.refl H3) _ fun H4 e4 => ?_
      refine ev_T (ev_var rfl) ev_c (ex_t (e13.trans e4) ha) at2 H4 (Ex.refl H4) _ fun H5 e5 => ?_
      intro x dx nx nd ne
      have e15 := (e13.trans e4).trans e5
      refine ⟨x, dx, l, b, us, rfl, upd_same, ?_, fun H' l' h1 h2 kp => ⟨rfl, q x H' (e15.trans (Same.made nx nd kp)) ⟨dx, l', h1, us, sq_of h2, hlen, fun i v y a1 a2 => (hat i v y a1 a2).mono (e15.trans (Same.made nx nd kp))⟩⟩⟩
      refine ex_l (fun b2 o e => ?_) hl
      rw [upd_ne (ne_of_none (e15 _ _ e) nx), upd_ne (ne_of_none (e15 _ _ e) nd)]
      exact e15 _ _ e
    | most b its =>
      obtain ⟨a, l, rfl, ha, us, hl, hlen, hat⟩ := hv
      refine q_when (b := false) (et_eqS (ev_T (ev_var rfl) ev_c ha at0) (by decide +kernel)) (fun z => nomatch z) (fun _ H1 e1 => ?_)
      refine q_when (b := false) (et_eqS (ev_T (ev_var rfl) ev_c (ex_t e1 ha) at0) (by decide +kernel)) (fun z => nomatch z) (fun _ H2 e2 => ?_)
      refine q_when (b := false) (et_eqS (ev_T (ev_var rfl) ev_c (ex_t (e1.trans e2) ha) at0) (by decide +kernel)) (fun z => nomatch z) (fun _ H3 e3 => ?_)
      have e13 := (e1.trans e2).trans e3
      refine ev_T (ev_var rfl) ev_c (ex_t e13 ha) at1 H3 (Ex.refl H3) _ fun H4 e4 => ?_
      refine ev_T (ev_var rfl) ev_c (ex_t (e13.trans e4) ha) at2 H4 (Ex.refl H4) _ fun H5 e5 => ?_
      intro x dx nx nd ne
      have e15 := (e13.trans e4).trans e5
      refine ⟨x, dx, l, b, us, rfl, upd_same, ?_, fun H' l' h1 h2 kp => ⟨rfl, q x H' (e15.trans (Same.made nx nd kp)) ⟨dx, l', h1, us, sq_of h2, hlen, fun i v y a1 a2 => (hat i v y a1 a2).mono (e15.trans (Same.made nx nd kp))⟩⟩⟩
      refine ex_l (fun b2 o e => ?_) hl
      rw [upd_ne (ne_of_none (e15 _ _ e) nx), upd_ne (ne_of_none (e15 _ _ e) nd)]
      exact e15 _ _ e
abbrev tHolds (K : Fg) (c : Clss) : TE := fun σ H Q => ∃ p : Part, tMeth (c.of p) "holds" (spHolds K c (kindP p)) [] C8.E0 (tCall (spPart K c) [] C8.E0 (tCons (tVar 3) tNil)) (tCons (tVar 1) (tCons (tVar 2) tNil)) σ H Q
theorem cal_body {c : Clss} (D : DefAt K mg "body_holds" sBody ["rule", "rising", "world"]) (B : Blt mg) (cP : C8.Cal P w K mg base 3 "part_of" (spPart K c) []) (mH : ∀ p : Part, C8.Met P w K mg base 2 (c.of p) "holds" (spHolds K c (kindP p)) []) :
    C8.Cal P w K mg base 4 "body_holds" (spBody K) [] := by
  refine cal_of D scBody (fun vs H Q E h => ?_) (fun f cdv A outer s H vs Q E hr h => ?_)
  · obtain ⟨v, a, b, n, r, ri, wo, rfl, _⟩ := h
    rfl
  · obtain ⟨v, a, b, n, r, ri, wo, rfl, ⟨x, l, rfl, hx, us, hl, hlen, hat⟩, hw, ha, hb, q⟩ := h
    refine ⟨_, pss_one (ps_ret (pe_callB (cr_all rfl) (by rfl) B.all (by decide +kernel) (pa_cons
      (pe_lc (own := [("told", 3)]) (g := gName 3) (tt := tYes) (te := tHolds K c) rfl scBody.nd (pi_list (pe_ix ix_tup (pv 0) pe_int (fun _ _ => rfl))) (blkOk_by (N := ["rule", "rising", "world", "told"]) (sc := L2.defScope sBody) (by decide +kernel))
        (fun _ _ _ _ _ => pg_name (i := 3) scBody.nd rfl (Or.inl rfl)) (fun _ _ _ _ _ => pts_nil)
        (fun _ _ _ _ _ => pe_any fun p => C8.pe_mt (mH p) hr (by decide) (C8.pe_c cP hr (by decide) (by rfl) (pa_cons (pv 3) pa_nil)) (pa_cons (pv 1) (pa_cons (pv 2) pa_nil)))) pa_nil))), ?_⟩
    have key : ∀ (ps : List Part), us.length = ps.length → (∀ (i : Nat) v y, us[i]? = some v → ps[i]? = some y → PartAt K H v y) → (∀ p ∈ ps, WfPart n p) → ps.length ≤ 3 →
        EvL (tLc (iList K (tOp (rIxT K) (tVar 0) (tC (.int 2)))) (gName 3) tYes (tHolds K c) [3]) [some (.ref x), some (.ref a), some (.ref b), none] H ((ps.map fun p => holds p ri wo).map V.bl) := by
      intro ps hlen hat hwp hz
      refine EvL.cast (el_lcG (K := K) (a := l) (xs := us) (fun _ => true) (fun i => .bl (holds (ps.getD i (.inn 0)) ri wo)) (fun i => [some (.ref x), some (.ref a), some (.ref b), some (us.getD i .non)])
        (ev_T (ev_var rfl) ev_c hx at2) hl (by omega) (fun i v H1 Q' e1 hv q' => ?_) (fun _ _ => rfl) (fun i H1 e1 hi => et_yes) (fun i H1 e1 hi _ => ?_)) ?_
      · have ed : us.getD i .non = v := by rw [List.getD_eq_getElem?_getD, hv] <;> rfl
        rw [ed] at q'
        exact q'
      · have hv : us[i]? = some (us.getD i .non) := by rw [List.getD_eq_getElem?_getD, List.getElem?_eq_getElem hi] <;> rfl
        obtain ⟨p, hp, hm⟩ := ls_at hlen hv
        have ed : ps.getD i (.inn 0) = p := by rw [List.getD_eq_getElem?_getD, hp] <;> rfl
        rw [ed]
        intro H2 e2 Q' q'
        refine ⟨p, _, rfl, _, p, rfl, (hat i _ p hv hp).mono (e1.trans e2), fun y H3 e3 ho => ?_⟩
        obtain ⟨dx, fs, hins, hno⟩ := ho.ins (m := "holds") (by decide +kernel) (by decide +kernel) (by decide +kernel)
        have e13 := (e1.trans e2).trans e3
        exact ⟨y, dx, fs, rfl, hins, hno, _, rfl, _, rfl, y, a, b, n, p, ri, wo, kind_self p, rfl, ho, hwp p hm, ex_l e13 ha, ex_l e13 hb, fun H4 e4 => q' H4 (e3.trans e4)⟩
      · have := given_list ps (.inn 0) (fun _ => true) (fun p : Part => V.bl (holds p ri wo))
        rw [hlen, this, List.filter_eq_self.mpr fun _ _ => rfl, List.map_map] <;> rfl
    refine s_ret (ev_allL (key r.2 hlen hat hw.parts hw.len)) fun H1 e1 => ?_
    have eb : ((r.2.map fun p => holds p ri wo).all id) = body r.2 ri wo := by
      unfold body
      rw [List.all_map] <;> rfl
    rw [eb]
    exact q H1 e1
theorem cal_breaks (D : DefAt K mg "breaks" sBreaks ["rule", "world"]) (cB : C8.Cal P w K mg base 4 "body_holds" (spBody K) []) : C8.Cal P w K mg base 5 "breaks" (spBreaks K) [] := by
  refine cal_of D scBreaks (fun vs H Q E h => ?_) (fun f cdv A outer s H vs Q E hr h => ?_)
  · obtain ⟨v, b, n, r, wo, rfl, _⟩ := h
    rfl
  · obtain ⟨v, b, n, r, wo, rfl, hv, hw, hb, q⟩ := h
    have hv0 := hv
    obtain ⟨x, l, rfl, hx, hl⟩ := hv
    refine ⟨_, pss_cons (ps_if (PW.pt (pw_or (pt_cmpR op_eq (pe_ix ix_tup (pv 0) pe_int (fun _ _ => rfl)) pe_str (nomark _)) (pw_or1 (pt_not (pt_val (C8.pe_c cB hr (by decide) (by rfl) (pa_cons (pv 0) (pa_cons (pv 1) (pa_cons (pv 1) pa_nil)))))))))
        (pss_one (ps_ret pe_bl)) pss_nil)
      (pss_one (ps_ret (pe_or (pe_cmpR op_eq (pe_ix ix_tup (pv 0) pe_int (fun _ _ => rfl)) pe_str (nomark _)) (pe_one (pe_not (pe_ix ix_list (pv 1) (pe_ix ix_tup (pv 0) pe_int (fun _ _ => rfl)) (fun _ _ => rfl))))))), ?_⟩
    have hcall : Ev (tCall (spBody K) [] C8.E0 (tCons (tVar 0) (tCons (tVar 1) (tCons (tVar 1) tNil)))) [some (.ref x), some (.ref b)] H (.bl (body r.2 wo wo)) :=
      ev_call (ea_cons (ev_var rfl) (ea_cons (ev_var rfl) (ea_cons (ev_var rfl) ea_nil))) fun H1 e1 Q' q' E' => ⟨_, b, b, n, r, wo, wo, rfl, hv0.mono e1, hw, ex_l e1 hb, ex_l e1 hb, q'⟩
    obtain ⟨hd, ps⟩ := r
    cases hd with
    | none =>
      refine q_when (b := !body ps wo wo) (et_or (a := false) (et_eqS (ev_T (ev_var rfl) ev_c hx at0) (by decide +kernel)) (fun _ => et_not (et_B hcall))) (fun hb0 H1 e1 => ?_) (fun hb0 H1 e1 => ?_)
      · have : breaks ((none : Option Nat), ps) wo = false := by
          have e : body ps wo wo = false := by
            cases hq : body ps wo wo with
            | true => rw [hq] at hb0; cases hb0
            | false => rfl
          unfold breaks
          rw [e] <;> rfl
        rw [this] at q
        exact q H1 e1
      · have e : body ps wo wo = true := by
          cases hq : body ps wo wo with
          | false => rw [hq] at hb0; cases hb0
          | true => rfl
        have : breaks ((none : Option Nat), ps) wo = true := by
          unfold breaks
          rw [e] <;> rfl
        rw [this] at q
        refine s_ret (v := .bl true) (ev_is (ev_orV (a := true) (b := true) (ev_is (ev_op (ev_T (ev_var rfl) ev_c (ex_t e1 hx) at0) ev_c (rv_eq rfl)) (congrArg V.bl (decide_eq_true (show V.str "never" = V.str "never" from rfl)))) (fun z => nomatch z)) rfl) fun H2 e2 => q H2 (e1.trans e2)
    | some h =>
      refine q_when (b := !body ps wo wo) (et_or (a := false) (et_eqS (ev_T (ev_var rfl) ev_c hx at0) (by decide +kernel)) (fun _ => et_not (et_B hcall))) (fun hb0 H1 e1 => ?_) (fun hb0 H1 e1 => ?_)
      · have : breaks (some h, ps) wo = false := by
          have e : body ps wo wo = false := by
            cases hq : body ps wo wo with
            | true => rw [hq] at hb0; cases hb0
            | false => rfl
          unfold breaks
          rw [e] <;> rfl
        rw [this] at q
        exact q H1 e1
      · have e : body ps wo wo = true := by
          cases hq : body ps wo wo with
          | false => rw [hq] at hb0; cases hb0
          | true => rfl
        have : breaks (some h, ps) wo = !wo h := by
          unfold breaks
          rw [e] <;> rfl
        rw [this] at q
        refine s_ret (v := .bl (!wo h)) (ev_is (ev_orV (a := false) (b := !wo h) (ev_is (ev_op (ev_T (ev_var rfl) ev_c (ex_t e1 hx) at0) ev_c (rv_eq rfl)) (congrArg V.bl (show decide (V.str "make" = V.str "never") = false by decide +kernel))) (fun _ => ev_notV (ev_mark (ev_var rfl) (ev_T (ev_var rfl) ev_c (ex_t e1 hx) at1) (ex_l e1 hb) (hw.head h rfl)))) rfl) fun H2 e2 => q H2 (e1.trans e2)
end
end KW

-- K5
set_option Elab.async false
set_option linter.all false
set_option maxRecDepth 100000
set_option maxHeartbeats 4000000
namespace KW
open PySem PySem.Spec PyProof.Rows L2 Evl KM
/-! ### leanings -/
abbrev sLean : Stmt := top 16
theorem scLean : FnScope ["plain", "some", "rule", "told", "step", "thing"] ["plain"] (L2.defScope sLean) := ⟨rfl, rfl, rfl, by decide +kernel, rfl, by decide +kernel, by decide +kernel⟩
def EdgeAt (K : Fg) (H : Hp) (v : V) (e : Edge) : Prop := ∃ a, v = .ref a ∧ SqT K H a [.int ((e.1 : Nat) : Int), .int ((e.2.1 : Nat) : Int), .int ((e.2.2 : Nat) : Int)]
theorem EdgeAt.mono {K : Fg} {H H' : Hp} {v : V} {e : Edge} (x : Ex H H') (h : EdgeAt K H v e) : EdgeAt K H' v e := by
  obtain ⟨a, h1, h2⟩ := h
  exact ⟨a, h1, ex_t x h2⟩
theorem st_upd {K : Fg} {H : Hp} {q a : Addr} {ys xs : List V} {o : HO} (h : SqT K H a xs) (hq : H q = some (.lst ys)) : SqT K (upd H q o) a xs := by
  rcases h with (h | ⟨u, h⟩) | h
  · exact .inl (.inl (by rw [upd_ne (ne_of h hq (by intro z; cases z))]; exact h))
  · exact .inl (.inr ⟨u, by rw [upd_ne (ne_of h hq (by intro z; cases z))]; exact h⟩)
  · exact .inr h
theorem sq_upd_t {K : Fg} {H : Hp} {q a : Addr} {xs : List V} {o : HO} (h : H a = some (.tup xs)) (hq : a ≠ q) : SqT K (upd H q o) a xs := st_of (by rw [upd_ne hq]; exact h)
theorem EdgeAt.upd {K : Fg} {H : Hp} {q : Addr} {ys : List V} {o : HO} {v : V} {e : Edge} (h : EdgeAt K H v e) (hq : H q = some (.lst ys)) : EdgeAt K (L2.upd H q o) v e := by
  obtain ⟨a, h1, h2⟩ := h
  exact ⟨a, h1, st_upd h2 hq⟩
/-- a list at q grows: its items so far, over the heap H0 of the entry -/
def Gath {α : Type} (Rl : Hp → V → α → Prop) (H0 H : Hp) (q : Addr) (E : List α) : Prop := Ex H0 H ∧ ∃ vs, H q = some (.lst vs) ∧ vs.length = E.length ∧ ∀ (i : Nat) v e, vs[i]? = some v → E[i]? = some e → Rl H v e
theorem Gath.mono {α : Type} {Rl : Hp → V → α → Prop} (hm : ∀ (H H' : Hp) (v : V) (e : α), Ex H H' → Rl H v e → Rl H' v e) {H0 H H' : Hp} {q : Addr} {E : List α} (x : Ex H H') (g : Gath Rl H0 H q E) : Gath Rl H0 H' q E := by
  obtain ⟨h1, vs, h2, h3, h4⟩ := g
  exact ⟨h1.trans x, vs, x _ _ h2, h3, fun i v e a b => hm _ _ _ _ x (h4 i v e a b)⟩
theorem take_flat {α β : Type} {f : α → List β} {l : List α} {i : Nat} {x : α} (h : l[i]? = some x) : (l.take (i + 1)).flatMap f = (l.take i).flatMap f ++ f x := by
  rw [List.take_add_one, h, List.flatMap_append]
  show _ ++ List.flatMap f [x] = _
  rw [List.flatMap_cons, List.flatMap_nil, List.append_nil]
theorem gE {K : Fg} {H0 H H' : Hp} {q : Addr} {E : List Edge} (x : Ex H H') (g : Gath (EdgeAt K) H0 H q E) : Gath (EdgeAt K) H0 H' q E := Gath.mono (Rl := EdgeAt K) (fun _ _ _ _ y h => EdgeAt.mono y h) x g
abbrev tNamed (K : Fg) (c : Clss) : TE := fun σ H Q => ∃ p : Part, tMeth (c.of p) "named" (spNamed K c (kindP p)) [] C8.E0 (tCall (spPart K c) [] C8.E0 (tCons (tVar 3) tNil)) tNil σ H Q
def spLean (K : Fg) : Sp := fun vs H Q _ => ∃ (v : V) (n : Nat) (R : List Rule), vs = [v] ∧ PlainAt K H v n R ∧ Wf n R ∧ ∀ (q : Addr) (H' : Hp), Ex H H' → LsAt K H' (EdgeAt K H') q (leans n R) → Q (.ref q) H'
theorem step_word {K : Fg} {H : Hp} {v : V} {p : Part} (h : PartAt K H v p) : ∃ a x r, v = .ref a ∧ SqT K H a (.str x :: r) ∧ (decide (x = "out") || decide (x = "most")) = decide (stepOf p = 1) := by
  have k1 : (decide (("in" : Str) = "out") || decide (("in" : Str) = "most")) = false := by decide +kernel
  have k2 : (decide (("out" : Str) = "out") || decide (("out" : Str) = "most")) = true := by decide +kernel
  have k3 : (decide (("least" : Str) = "out") || decide (("least" : Str) = "most")) = false := by decide +kernel
  have k4 : (decide (("most" : Str) = "out") || decide (("most" : Str) = "most")) = true := by decide +kernel
  cases p with
  | inn t => obtain ⟨a, h1, h2⟩ := h; exact ⟨a, _, _, h1, h2, k1⟩
  | out t => obtain ⟨a, h1, h2⟩ := h; exact ⟨a, _, _, h1, h2, k2⟩
  | least b its => obtain ⟨a, l, h1, h2, _⟩ := h; exact ⟨a, _, _, h1, h2, k3⟩
  | most b its => obtain ⟨a, l, h1, h2, _⟩ := h; exact ⟨a, _, _, h1, h2, k4⟩
section
variable {P : Program} {w : World} {K : Fg} {mg : Str → Option Value} {base : Heap}
theorem cal_lean {c : Clss} (D : DefAt K mg "leanings" sLean ["plain"]) (cP : C8.Cal P w K mg base 3 "part_of" (spPart K c) []) (mN : ∀ p : Part, C8.Met P w K mg base 1 (c.of p) "named" (spNamed K c (kindP p)) []) :
    C8.Cal P w K mg base 4 "leanings" (spLean K) [] := by
  refine cal_of D scLean (fun vs H Q E h => ?_) (fun f cdv A outer s H vs Q E hr h => ?_)
  · obtain ⟨v, n, R, rfl, _⟩ := h
    rfl
  · obtain ⟨v, n, R, rfl, ⟨x, l, rfl, hx, us, hl, hlen, hat⟩, hw, q⟩ := h
    refine ⟨_, pss_cons (ps_set (i := 1) scLean.nd rfl (Or.inl rfl) (pe_lst pa_nil))
      (pss_cons (ps_for PassesOwn.never rfl (pi_list (pe_ix ix_tup (pv 0) pe_int (fun _ _ => rfl))) (pg_name (i := 2) scLean.nd rfl (Or.inl rfl))
        (pss_cons (ps_if (pt_cmpR op_eq (pe_ix ix_tup (pv 2) pe_int (fun _ _ => rfl)) pe_str (nomark _)) (pss_one ps_continue) pss_nil)
        (pss_one (ps_for PassesOwn.never rfl (pi_list (pe_ix ix_tup (pv 2) pe_int (fun _ _ => rfl))) (pg_name (i := 3) scLean.nd rfl (Or.inl rfl))
          (pss_cons (ps_set (i := 4) scLean.nd rfl (Or.inl rfl) pe_int)
          (pss_cons (ps_if (PW.pt (pw_or (pt_cmpR op_eq (pe_ix ix_tup (pv 3) pe_int (fun _ _ => rfl)) pe_str (nomark _)) (pw_or1 (pt_cmpR op_eq (pe_ix ix_tup (pv 3) pe_int (fun _ _ => rfl)) pe_str (nomark _))))) (pss_one (ps_set (i := 4) scLean.nd rfl (Or.inl rfl) pe_int)) pss_nil)
          (pss_one (ps_for PassesOwn.never rfl (pi_list (tl := tNamed K c) (pe_any fun p => C8.pe_mt0 (mN p) hr (by decide) (C8.pe_c cP hr (by decide) (by rfl) (pa_cons (pv 3) pa_nil)))) (pg_name (i := 5) scLean.nd rfl (Or.inl rfl))
            (pss_one (ps_expr (pe_bm PySem.F.plainAttrs_list PySem.F.slot_list_append PySem.F.type_list_append mt_append (pv 1) (pa_cons (pe_tup (pa_cons (pe_ix ix_tup (pv 2) pe_int (fun _ _ => rfl)) (pa_cons (pv 5) (pa_cons (pv 4) pa_nil)))) pa_nil))))))))))))
      (pss_one (ps_ret (pv 1)))), ?_⟩
    refine q_asgL (el_lst ea_nil (by show 0 ≤ 100000; decide)) fun p H1 hp e1 h1 => ?_
    have G0 : Gath (EdgeAt K) H H1 p ([] : List Edge) := ⟨e1, [], h1, rfl, fun i v e a _ => by simp at a⟩
    -- for rule in plain[1]
    refine q_forLn (a := l) (xs := us) (ev_T (ev_var rfl) ev_c (ex_t e1 hx) at1) (ex_l e1 hl)
      (fun i σ H2 => ∃ v2 v3 v4 v5, σ = [some (.ref x), some (.ref p), v2, v3, v4, v5] ∧ Gath (EdgeAt K) H H2 p ((R.take i).flatMap (leanR n)))
      (fun H2 e2 => ⟨none, none, none, none, rfl, gE e2 G0⟩) (fun i σ H2 _ ⟨_, _, _, _, _, g⟩ => ex_l g.1 hl) ?_ ?_
    · rintro i v σ H2 hv ⟨v2, v3, v4, v5, rfl, g⟩
      obtain ⟨r, hri, hrm⟩ := ls_at hlen hv
      obtain ⟨a, l2, rfl, ha, us2, hl2, hlen2, hat2⟩ := hat i v r hv hri
      have wr := hw.rules r hrm
      have et := take_flat (f := leanR n) hri
      obtain ⟨hd, ps⟩ := r
      cases hd with
      | none =>
        refine q_when (b := true) (et_eqS (ev_T (ev_var rfl) ev_c (ex_t g.1 ha) at0) (by decide +kernel)) (fun _ H3 e3 => ?_) (fun z => nomatch z)
        refine ⟨_, _, _, _, rfl, ?_⟩
        rw [et]
        show Gath (EdgeAt K) H H3 p (_ ++ [])
        rw [List.append_nil]
        exact gE e3 g
      | some h =>
        refine q_when (b := false) (et_eqS (ev_T (ev_var rfl) ev_c (ex_t g.1 ha) at0) (by decide +kernel)) (fun z => nomatch z) (fun _ H3 e3 => ?_)
        have g3 := gE e3 g
        have b1 : ((R.take i).flatMap (leanR n)).length ≤ 480 := by
          have q1 := flat_len (f := leanR n) (c := 24) (l := R.take i) fun r hr => leanR_len hw.many (hw.rules r (List.mem_of_mem_take hr))
          have q2 := hw.len
          rw [List.length_take] at q1
          omega
        -- for told in rule[2]
        refine s_forLn (a := l2) (xs := us2) (ev_T (ev_var rfl) ev_c (ex_t g3.1 ha) at2) (ex_l g3.1 hl2)
          (fun j σ H4 => ∃ v3 v4 v5, σ = [some (.ref x), some (.ref p), some (.ref a), v3, v4, v5] ∧ Gath (EdgeAt K) H H4 p ((R.take i).flatMap (leanR n) ++ (ps.take j).flatMap (leanP n h)))
          (fun H4 e4 => ⟨_, _, _, rfl, by
            show Gath (EdgeAt K) H H4 p (_ ++ [])
            rw [List.append_nil]
            exact gE e4 g3⟩) (fun j σ H4 _ ⟨_, _, _, _, g⟩ => ex_l g.1 hl2) ?_ ?_
        · rintro j v σ H4 hv4 ⟨v3, v4, v5, rfl, g4⟩
          obtain ⟨pt, hpj, hpm⟩ := ls_at hlen2 hv4
          have hpt := hat2 j v pt hv4 hpj
          obtain ⟨b, wd, rr, rfl, hb, ew⟩ := step_word hpt
          have wp := wr.parts pt hpm
          have ep := take_flat (f := leanP n h) hpj
          have b2 : ((ps.take j).flatMap (leanP n h)).length ≤ 24 := by
            have q1 := flat_len (f := leanP n h) (c := 8) (l := ps.take j) fun p _ => by
              show ((named n p).map _).length ≤ 8
              rw [List.length_map]
              exact named_len hw.many p
            have q2 : ps.length ≤ 3 := wr.len
            rw [List.length_take] at q1
            omega
          refine q_asg ev_c fun H5 e5 => ?_
          have g5 := gE e5 g4
          -- step = 0; if told[0] is out or most: step = 1
          refine q_ifAsg (b := decide (stepOf pt = 1)) (v := .int ((stepOf pt : Nat) : Int)) (et_is (et_or (et_eqS (ev_T (ev_var rfl) ev_c (ex_t g5.1 hb) at0) rfl) (fun _ => et_eqS (ev_T (ev_var rfl) ev_c (ex_t g5.1 hb) at0) rfl)) ew)
            (fun hb1 => ev_is ev_c (by rw [of_decide_eq_true hb1] <;> rfl)) (fun hb0 => ?_) fun H6 e6 => ?_
          · have q1 := of_decide_eq_false hb0
            have q2 := stepOf_le pt
            have q3 : stepOf pt = 0 := by omega
            rw [q3]
            rfl
          have g6 := gE e6 g5
          -- for thing in part_of(told).named()
          refine ⟨pt, _, rfl, _, pt, rfl, hpt.mono g6.1, fun y H7 e7 ho => ?_⟩
          obtain ⟨dx, fs, hins, hno⟩ := ho.ins (m := "named") (by decide +kernel) (by decide +kernel) (by decide +kernel)
          refine ⟨y, dx, fs, rfl, hins, hno, y, n, pt, kind_self pt, rfl, ho, wp, fun q' H8 hq' e8 h8 => ?_⟩
          have g8 := gE e8 (gE e7 g6)
          have hqp : q' ≠ p := by
            obtain ⟨_, vs, hvs, _⟩ := gE e7 g6
            exact (ne_of_none hvs hq').symm
          refine ⟨q', rfl, ⟨_, sq_of h8⟩, for_list (K := K) (a := q') (xs := nvs (named n pt))
            (fun k σ H9 => ∃ v5, σ = [some (.ref x), some (.ref p), some (.ref a), some (.ref b), some (.int ((stepOf pt : Nat) : Int)), v5] ∧ H9 q' = some (.lst (nvs (named n pt))) ∧
              Gath (EdgeAt K) H H9 p ((R.take i).flatMap (leanR n) ++ (ps.take j).flatMap (leanP n h) ++ ((named n pt).take k).map fun t => (h, t, stepOf pt)))
            ⟨_, rfl, h8, by
              show Gath (EdgeAt K) H H8 p (_ ++ [])
              rw [List.append_nil]
              exact g8⟩ (fun k σ H9 _ ⟨_, _, h9, _⟩ => sq_of h9) ?_ ?_⟩
          · rintro k v' σ H9 hk ⟨v5, rfl, h9, g9⟩
            obtain ⟨t, ht, rfl⟩ := nvs_get hk
            obtain ⟨e9, vs, hvs, hl9, hat9⟩ := g9
            have b3 : ((named n pt).take k).length ≤ 8 := by
              have := named_len hw.many pt
              rw [List.length_take]
              omega
            refine s_appU (ys := [.int ((h : Nat) : Int), .int ((t : Nat) : Int), .int ((stepOf pt : Nat) : Int)]) hvs (ev_var rfl) (eu_tup (ea_cons (ev_T (ev_var rfl) ev_c (ex_t e9 ha) at1) (ea_cons (ev_var rfl) (ea_cons (ev_var rfl) ea_nil))) (by show 3 ≤ 100000; decide))
              (by rw [hl9, List.length_append, List.length_append, List.length_map]; omega) fun T H10 hT e10 h10 => ?_
            have hTp : T ≠ p := (ne_of_none hvs hT).symm
            have sn := ls_snoc (R := EdgeAt K (upd H10 p (.lst (vs ++ [.ref T])))) (v := .ref T) (x := ((h, t, stepOf pt) : Edge)) hl9 (fun i v e a1 a2 => ((hat9 i v e a1 a2).mono e10).upd (e10 _ _ hvs)) ⟨T, rfl, sq_upd_t h10 hTp⟩
            refine ⟨_, rfl, (by rw [upd_ne hqp]; exact e10 _ _ h9), (e9.trans e10).mut hp, _, upd_same, ?_⟩
            have ek : ((named n pt).take (k + 1)).map (fun t => ((h, t, stepOf pt) : Edge)) = ((named n pt).take k).map (fun t => ((h, t, stepOf pt) : Edge)) ++ [(h, t, stepOf pt)] := by
              rw [List.take_add_one, ht, List.map_append] <;> rfl
            rw [ek, ← List.append_assoc]
            exact sn
          · rintro σ H9 ⟨v5, rfl, h9, g9⟩
            refine ⟨_, _, _, rfl, ?_⟩
            rw [ep, ← List.append_assoc]
            rw [nvs_len, List.take_of_length_le (Nat.le_refl _)] at g9
            exact g9
        · rintro σ H4 ⟨v3, v4, v5, rfl, g4⟩
          refine ⟨_, _, _, _, rfl, ?_⟩
          have hl2' : us2.length = ps.length := hlen2
          rw [et]
          rw [hl2', List.take_of_length_le (Nat.le_refl _)] at g4
          exact g4
    · rintro σ H2 ⟨v2, v3, v4, v5, rfl, g⟩
      rw [hlen, List.take_of_length_le (Nat.le_refl _)] at g
      obtain ⟨e2, vs, h2, h3, h4⟩ := g
      exact ⟨_, rfl, q p H2 e2 ⟨vs, sq_of h2, h3, h4⟩⟩
end
end KW

-- K6
set_option Elab.async false
set_option linter.all false
set_option maxRecDepth 100000
set_option maxHeartbeats 4000000
namespace KW
open PySem PySem.Spec PyProof.Rows L2 Evl KM
/-! ### levels -/
abbrev sLevels : Stmt := top 17
theorem scLevels : FnScope ["plain", "some", "found", "turn", "changed", "one", "other", "step", "k"] ["plain"] (L2.defScope sLevels) := ⟨rfl, rfl, rfl, by decide +kernel, rfl, by decide +kernel, by decide +kernel⟩
def LevV (n : Nat) (R : List Rule) (H0 : Hp) (v : V) (H : Hp) : Prop := match levels n R with
  | none => v = .non
  | some g => ∃ p, v = .ref p ∧ H0 p = none ∧ H p = some (.lst (g.map V.int))
def spLevels (K : Fg) : Sp := fun vs H Q _ => ∃ (v : V) (n : Nat) (R : List Rule), vs = [v] ∧ PlainAt K H v n R ∧ Wf n R ∧ ∀ (r : V) (H' : Hp), Ex H H' → LevV n R H r H' → Q r H'
theorem int_get {f : List Int} {i : Nat} (h : i < f.length) : (f.map V.int)[i]? = some (.int (f.getD i 0)) := by
  rw [List.getElem?_map, List.getElem?_eq_getElem h, List.getD_eq_getElem?_getD, List.getElem?_eq_getElem h] <;> rfl
theorem g_three {K : Fg} {H : Hp} {i1 i2 i3 : Nat} {T : Addr} {x y z : V} {τ : L2.St} {Q : L2.St → Hp → Prop} (hs : SqT K H T [x, y, z]) (q : Q (((τ.set i1 (some x)).set i2 (some y)).set i3 (some z)) H) :
    gTup K 3 (gCons (gName i1) (gCons (gName i2) (gCons (gName i3) gNil))) (.ref T) τ H Q :=
  ⟨T, _, rfl, hs, rfl, _, _, rfl, _, _, rfl, _, _, rfl, rfl, q⟩
theorem rv_add {H : Hp} {i j : Int} : RV (rI0 fun i j => .int (i + j)) (.int i) (.int j) H (.int (i + j)) := rv_I0
theorem rv_sub {H : Hp} {i j : Int} : RV (rI0 fun i j => .int (i - j)) (.int i) (.int j) H (.int (i - j)) := rv_I0
theorem rv_lt {H : Hp} {i j : Int} : RV (rI0 fun i j => .bl (decide (i < j))) (.int i) (.int j) H (.bl (decide (i < j))) := rv_I0
theorem rv_gt {H : Hp} {i j : Int} : RV (rI0 fun i j => .bl (decide (j < i))) (.int i) (.int j) H (.bl (decide (j < i))) := rv_I0
section
variable {P : Program} {w : World} {K : Fg} {mg : Str → Option Value} {base : Heap}
theorem cal_levels (D : DefAt K mg "levels" sLevels ["plain"]) (B : Blt mg) (cL : C8.Cal P w K mg base 4 "leanings" (spLean K) []) : C8.Cal P w K mg base 5 "levels" (spLevels K) [] := by
  refine cal_of D scLevels (fun vs H Q E h => ?_) (fun f cdv A outer s H vs Q E hr h => ?_)
  · obtain ⟨v, n, R, rfl, _⟩ := h
    rfl
  · obtain ⟨v, n, R, rfl, hv, hw, q⟩ := h
    have hv0 := hv
    obtain ⟨x, l, rfl, hx, us, hl, hlen, hat⟩ := hv
    refine ⟨_, pss_cons (ps_set (i := 1) scLevels.nd rfl (Or.inl rfl) (C8.pe_c cL hr (by decide) (by rfl) (pa_cons (pv 0) pa_nil)))
      (pss_cons (ps_setLc (i := 2) (own := [("k", 8)]) (g := gName 8) (tt := tYes) (te := tC (.int 0)) rfl scLevels.nd rfl rfl (sw_true rfl rfl rfl (by decide +kernel))
        (pi_range1 (by rfl) B.range (pa_cons (pe_ix ix_tup (pv 0) pe_int (fun _ _ => rfl)) pa_nil)) (blkOk_by (N := ["plain", "some", "found", "turn", "changed", "one", "other", "step", "k"]) (sc := L2.defScope sLevels) (by decide +kernel)) (fun _ _ _ _ _ => pg_name (i := 8) scLevels.nd rfl (Or.inl rfl)) (fun _ _ _ _ _ => pts_nil) (fun _ _ _ _ _ => pe_int))
      (pss_cons (ps_for PassesOwn.never rfl (pi_range1 (by rfl) B.range (pa_cons (pe_op op_add (pe_ix ix_tup (pv 0) pe_int (fun _ _ => rfl)) pe_int) pa_nil)) (pg_name (i := 3) scLevels.nd rfl (Or.inl rfl))
        (pss_cons (ps_set (i := 4) scLevels.nd rfl (Or.inl rfl) pe_bl)
        (pss_cons (ps_for PassesOwn.never rfl (pi_list (pv 1)) (pg_tup rfl (pgs_cons (pg_name (i := 5) scLevels.nd rfl (Or.inl rfl)) (pgs_cons (pg_name (i := 6) scLevels.nd rfl (Or.inl rfl)) (pgs_cons (pg_name (i := 7) scLevels.nd rfl (Or.inl rfl)) pgs_nil))))
          (pss_one (ps_if (pt_cmpR op_lt (pe_ix ix_list (pv 2) (pv 5) (fun _ _ => rfl)) (pe_op op_add (pe_ix ix_list (pv 2) (pv 6) (fun _ _ => rfl)) (pv 7)) (nomark _))
            (pss_cons (ps_asg (pe_op op_add (pe_ix ix_list (pv 2) (pv 6) (fun _ _ => rfl)) (pv 7)) (pg_sub (pv 2) (pv 5) set_list)) (pss_one (ps_set (i := 4) scLevels.nd rfl (Or.inl rfl) pe_bl))) pss_nil)))
        (pss_one (ps_if (pt_not (pt_val (pv 4))) (pss_one (ps_ret (pv 2))) pss_nil)))))
      (pss_one (ps_ret pe_non)))), ?_⟩
    -- some = leanings(plain)
    refine ⟨_, rfl, _, n, R, rfl, hv0, hw, fun a H1 e1 hE => ?_⟩
    obtain ⟨es, hes, hel, heat⟩ := hE
    -- found = [0 for k in range(plain[0])]
    refine q_asgL (el_lcR1 (fun _ => true) (fun _ => .int 0) (ea_cons (ev_T (ev_var rfl) ev_c (ex_t e1 hx) at0) ea_nil) ⟨by omega, by have := hw.many; omega⟩ (fun _ => rfl) (fun _ _ _ _ => et_yes) (fun _ _ _ _ _ => ev_c)) fun p H2 hp e2 h2 => ?_
    have h2' : H2 p = some (.lst ((List.replicate n (0 : Int)).map V.int)) := by
      rw [h2, given_all]
      congr 2
      refine list_ext (by simp) fun i hi => ?_
      have hi' : i < n := by simpa using hi
      simp [List.getElem?_map, List.getElem?_range, List.getElem?_replicate, hi']
    have hn8 := hw.many
    -- for turn in range(plain[0] + 1)
    refine q_forR1 (n := ((n : Nat) : Int) + 1) (ea_cons (ev_op (ev_T (ev_var rfl) ev_c (ex_t (e1.trans e2) hx) at0) ev_c rv_add) ea_nil) ⟨by omega, by omega⟩
      (fun i σ H3 => ∃ f : List Int, ∃ v3 v4 v5 v6 v7, σ = [some (.ref x), some (.ref a), some (.ref p), v3, v4, v5, v6, v7, none] ∧ Ex H1 H3 ∧ H3 p = some (.lst (f.map V.int)) ∧ f.length = n ∧ ∃ m, i + m = n + 1 ∧ levels n R = levGo (leans n R) m f)
      (fun H3 e3 => ⟨_, none, none, none, none, none, rfl, e2.trans e3, e3 _ _ h2', by simp, n + 1, by omega, rfl⟩) ?_ ?_
    · rintro i σ H3 hi ⟨f, v3, v4, v5, v6, v7, rfl, e3, h3, hf, m, hm, elv⟩
      obtain ⟨m', rfl⟩ : ∃ m', m = m' + 1 := ⟨m - 1, by omega⟩
      refine q_asg ev_c fun H4 e4 => ?_
      -- for one, other, step in some
      refine q_forL (a := a) (xs := es) (ev_var rfl) (ex_l (e3.trans e4) hes)
        (fun j σ H5 => ∃ v5 v6 v7, σ = [some (.ref x), some (.ref a), some (.ref p), some (.int ((i : Nat) : Int)), some (.bl (((leans n R).take j).foldl relax (f, false)).2), v5, v6, v7, none] ∧ Ex H1 H5 ∧
          H5 p = some (.lst ((((leans n R).take j).foldl relax (f, false)).1.map V.int)))
        (fun H5 e5 => ⟨_, _, _, rfl, (e3.trans e4).trans e5, e5 _ _ (e4 _ _ h3)⟩) (fun j σ H5 _ ⟨_, _, _, _, e5, _⟩ => ex_l e5 hes) ?_ ?_
      · rintro j v σ H5 hv ⟨v5, v6, v7, rfl, e5, h5⟩
        obtain ⟨ed, hed, hem⟩ := ls_at hel hv
        obtain ⟨T, rfl, hT⟩ := heat j v ed hv hed
        obtain ⟨w1, w2, w3⟩ := lean_wf hw.rules hem
        refine g_three (ex_t e5 hT) ?_
        have efold : ((leans n R).take (j + 1)).foldl relax (f, false) = relax (((leans n R).take j).foldl relax (f, false)) ed := by
          rw [List.take_add_one, hed, List.foldl_append] <;> rfl
        rw [efold]
        generalize hcc : ((leans n R).take j).foldl relax (f, false) = cc at h5
        have hcl : cc.1.length = n := by
          rw [← hcc, fold_len]
          exact hf
        have a1 : atI (cc.1.map V.int) ((ed.1 : Nat) : Int) = some (.int (cc.1.getD ed.1 0)) := atI_nat (int_get (by omega))
        have a2 : atI (cc.1.map V.int) ((ed.2.1 : Nat) : Int) = some (.int (cc.1.getD ed.2.1 0)) := atI_nat (int_get (by omega))
        refine s_when (b := decide (cc.1.getD ed.1 0 < cc.1.getD ed.2.1 0 + ((ed.2.2 : Nat) : Int))) (et_test (ev_op (ev_L (ev_var rfl) (ev_var rfl) (sq_of h5) a1) (ev_op (ev_L (ev_var rfl) (ev_var rfl) (sq_of h5) a2) (ev_var rfl) rv_add) rv_lt)) (fun hb H6 e6 => ?_) (fun hb H6 e6 => ?_)
        · have hb' := of_decide_eq_true hb
          have er : relax cc ed = (cc.1.set ed.1 (cc.1.getD ed.2.1 0 + ((ed.2.2 : Nat) : Int)), true) := by
            unfold relax
            rw [if_pos hb']
          have h6 := e6 _ _ h5
          rw [er]
          refine s_setL h6 (ev_op (ev_L (ev_var rfl) (ev_var rfl) (sq_of h6) a2) (ev_var rfl) rv_add) (ev_var rfl) (ev_var rfl) (by rw [List.length_map]; omega) fun H7 e7 => ?_
          refine ⟨_, _, _, rfl, ((e5.trans e6).trans e7).mut ?_, ?_⟩
          · exact hp
          · rw [upd_same, List.map_set]
        · have hb' := of_decide_eq_false hb
          have er : relax cc ed = cc := by
            unfold relax
            rw [if_neg hb']
          rw [er]
          exact ⟨_, _, _, rfl, e5.trans e6, e6 _ _ h5⟩
      · rintro σ H5 ⟨v5, v6, v7, rfl, e5, h5⟩
        rw [hel, List.take_of_length_le (Nat.le_refl _)] at h5 ⊢
        have el1 : levels n R = if (relaxes (leans n R) f).2 = true then levGo (leans n R) m' (relaxes (leans n R) f).1 else some (relaxes (leans n R) f).1 := elv
        refine s_when (b := !(relaxes (leans n R) f).2) (et_not (et_B (ev_var rfl))) (fun hb H6 e6 => ?_) (fun hb H6 e6 => ?_)
        · have hb' : (relaxes (leans n R) f).2 = false := by
            cases hq : (relaxes (leans n R) f).2 with
            | false => rfl
            | true => rw [hq] at hb; cases hb
          refine ⟨_, rfl, q _ H6 ((e1.trans e5).trans e6) ?_⟩
          rw [hb', if_neg Bool.false_ne_true] at el1
          unfold LevV
          rw [el1]
          exact ⟨p, rfl, fresh_back e1 hp, e6 _ _ h5⟩
        · have hb' : (relaxes (leans n R) f).2 = true := by
            cases hq : (relaxes (leans n R) f).2 with
            | true => rfl
            | false => rw [hq] at hb; cases hb
          rw [hb', if_pos rfl] at el1
          exact ⟨_, _, _, _, _, _, rfl, e5.trans e6, e6 _ _ h5, (fold_len (leans n R) (f, false)).trans hf, m', by omega, el1⟩
    · rintro σ H3 ⟨f, v3, v4, v5, v6, v7, rfl, e3, h3, hf, m, hm, elv⟩
      have hm0 : m = 0 := by omega
      subst hm0
      refine q _ H3 (e1.trans e3) ?_
      unfold LevV
      rw [elv]
      rfl
end
end KW

-- K7
set_option Elab.async false
set_option linter.all false
set_option maxRecDepth 100000
set_option maxHeartbeats 4000000
namespace KW
open PySem PySem.Spec PyProof.Rows L2 Evl KM
/-! ### grown -/
abbrev sGrown : Stmt := top 18
theorem scGrown : FnScope ["plain", "found", "risen", "level", "changed", "rule"] ["plain"] (L2.defScope sGrown) := ⟨rfl, rfl, rfl, by decide +kernel, rfl, by decide +kernel, by decide +kernel⟩
def GrownV (n : Nat) (R : List Rule) (v : V) (H : Hp) : Prop := match levels n R with
  | none => v = .non
  | some g => ∃ p L, v = .ref p ∧ H p = some (.lst (nvs (nums n (mem L)))) ∧ Stable R n (mem L) L
def spGrown (K : Fg) : Sp := fun vs H Q _ => ∃ (v : V) (n : Nat) (R : List Rule), vs = [v] ∧ PlainAt K H v n R ∧ Wf n R ∧ ∀ (r : V) (H' : Hp), Ex H H' → GrownV n R r H' → Q r H'
theorem et_isN {σ : L2.St} {H : Hp} {ta : TE} {x : V} {b : Bool} (h : Ev ta σ H x) (e : decide (x = .non) = b) : EvT (tTest (tOp (fun x y H Q => y = V.non ∧ Q (.bl (decide (x = .non))) H) ta (tC .non))) σ H b :=
  et_test (ev_is (ev_op h ev_c (z := .bl (decide (x = .non))) fun H1 _ Q q => ⟨rfl, q H1 (Ex.refl H1)⟩) (congrArg V.bl e))
theorem et_neI {σ : L2.St} {H : Hp} {ta tb : TE} {x y : Int} (h : Ev ta σ H (.int x)) (h2 : Ev tb σ H (.int y)) : EvT (tTest (tOp rNe ta tb)) σ H (!decide (x = y)) := by
  refine et_test (ev_is (ev_op h h2 (rv_ne rfl)) ?_)
  exact congrArg V.bl (congrArg not (decide_eq_decide.mpr ⟨fun z => V.int.inj z, fun z => by rw [z]⟩))
theorem et_eqI {σ : L2.St} {H : Hp} {ta tb : TE} {x y : Int} (h : Ev ta σ H (.int x)) (h2 : Ev tb σ H (.int y)) : EvT (tTest (tOp rEq ta tb)) σ H (decide (x = y)) := by
  refine et_test (ev_is (ev_op h h2 (rv_eq rfl)) ?_)
  exact congrArg V.bl (decide_eq_decide.mpr ⟨fun z => V.int.inj z, fun z => by rw [z]⟩)
/-- a range whose end is known only by what is true of it -/
theorem q_forR1N {σ : L2.St} {H : Hp} {ta : TA} {j : Nat} {D : L2.Ends} {tu tz : TS} (C : Int → Prop) (h : ∀ Q : List V → Hp → Prop, (∀ m H2, Ex H H2 → C m → Q [.int m] H2) → ta σ H Q) (hn : ∀ m, C m → 0 ≤ m ∧ m ≤ 100000) (Pv : Nat → L2.St → Hp → Prop)
    (h0 : ∀ H1, Ex H H1 → Pv 0 σ H1) (hs : ∀ (m : Int) (i : Nat) σ' H', C m → (i : Int) < m → Pv i σ' H' → tu { D with nx := Pv (i + 1), ct := Pv (i + 1), bk := tz D } (σ'.set j (some (.int (i : Int)))) H')
    (hd : ∀ (m : Int) σ' H', C m → Pv m.toNat σ' H' → tz D σ' H') : tSeq (tFor (iRng1 ta) (gName j) tu) tz D σ H :=
  h _ fun m H1 e c => by
    have hb := hn m c
    refine ⟨m, rfl, by omega, by omega, for_range (lo := 0) (n := m.toNat) Pv (h0 H1 e) (fun i σ' H' hi p => ?_) fun σ' H' p => hd m σ' H' c p⟩
    have e0 : (0 : Int) + (i : Int) = (i : Int) := Int.zero_add _
    show tu { D with nx := Pv (i + 1), ct := Pv (i + 1), bk := tz D } (σ'.set j (some (.int ((0 : Int) + (i : Int))))) H'
    rw [e0]
    exact hs m i σ' H' c (by omega) p
section
variable {P : Program} {w : World} {K : Fg} {mg : Str → Option Value} {base : Heap}
theorem ev_body {σ : L2.St} {H : Hp} {t1 t2 t3 : TE} {v : V} {a b : Addr} {n : Nat} {r : Rule} {ri wo : Nat → Bool} {E : XK} (h1 : Ev t1 σ H v) (h2 : Ev t2 σ H (.ref a)) (h3 : Ev t3 σ H (.ref b)) (hv : RuleAt K H v r) (hw : WfRule n r) (ha : SqL K H a (bls n ri)) (hb : SqL K H b (bls n wo)) :
    Ev (tCall (spBody K) [] E (tCons t1 (tCons t2 (tCons t3 tNil)))) σ H (.bl (body r.2 ri wo)) :=
  ev_call (ea_cons h1 (ea_cons h2 (ea_cons h3 ea_nil))) fun H1 e1 Q' q' E' => ⟨v, a, b, n, r, ri, wo, rfl, hv.mono e1, hw, ex_l e1 ha, ex_l e1 hb, q'⟩
theorem el_marks {σ : L2.St} {H : Hp} {ta tb : TE} {n : Nat} {L : List Nat} {E : XK} (h1 : Ev ta σ H (.int ((n : Nat) : Int))) (h2 : EvL tb σ H (nvs L)) (hn : n ≤ 8) (hL : ∀ t ∈ L, t < n) : EvL (tCall (spMarks K) [] E (tCons ta (tCons tb tNil))) σ H (bls n (mem L)) := fun H1 e Q q =>
  h1 H1 e _ fun H2 e2 => h2 H2 (e.trans e2) _ fun p H3 hp e3 h3 => ⟨n, p, L, rfl, sq_of h3, hn, hL, fun p' H4 hp' e4 h4 => q p' H4 (fresh_back (e2.trans e3) hp') ((e2.trans e3).trans e4) h4⟩
theorem el_marksA {σ : L2.St} {H : Hp} {ta tb : TE} {n : Nat} {a : Addr} {L : List Nat} {E : XK} (h1 : Ev ta σ H (.int ((n : Nat) : Int))) (h2 : Ev tb σ H (.ref a)) (hs : SqL K H a (nvs L)) (hn : n ≤ 8) (hL : ∀ t ∈ L, t < n) : EvL (tCall (spMarks K) [] E (tCons ta (tCons tb tNil))) σ H (bls n (mem L)) := fun H1 e Q q =>
  h1 H1 e _ fun H2 e2 => h2 H2 (e.trans e2) _ fun H3 e3 => ⟨n, a, L, rfl, ex_l ((e.trans e2).trans e3) hs, hn, hL, fun p' H4 hp' e4 h4 => q p' H4 (fresh_back (e2.trans e3) hp') ((e2.trans e3).trans e4) h4⟩
theorem el_numbers {σ : L2.St} {H : Hp} {ta : TE} {n : Nat} {a : Addr} {s : Nat → Bool} {E : XK} (h1 : Ev ta σ H (.ref a)) (hs : SqL K H a (bls n s)) (hn : n ≤ 8) : EvL (tCall (spNumbers K) [] E (tCons ta tNil)) σ H (nvs (nums n s)) := fun H1 e Q q =>
  h1 H1 e _ fun H2 e2 => ⟨n, a, s, rfl, ex_l (e.trans e2) hs, hn, fun p' H4 hp' e4 h4 => q p' H4 (fresh_back e2 hp') (e2.trans e4) h4⟩
theorem cal_grown (D : DefAt K mg "grown" sGrown ["plain"]) (B : Blt mg) (cL : C8.Cal P w K mg base 5 "levels" (spLevels K) []) (cM : C8.Cal P w K mg base 1 "marks" (spMarks K) []) (cN : C8.Cal P w K mg base 1 "numbers" (spNumbers K) [])
    (cB : C8.Cal P w K mg base 4 "body_holds" (spBody K) []) : C8.Cal P w K mg base 6 "grown" (spGrown K) [] := by
  refine cal_of D scGrown (fun vs H Q E h => ?_) (fun f cdv A outer s H vs Q E hr h => ?_)
  · obtain ⟨v, n, R, rfl, _⟩ := h
    rfl
  · obtain ⟨v, n, R, rfl, hv, hw, q⟩ := h
    have hv0 := hv
    obtain ⟨x, l, rfl, hx, us, hl, hlen, hat⟩ := hv
    refine ⟨_, (pss_cons (ps_set (i := 1) scGrown.nd rfl (Or.inl rfl) (C8.pe_c cL hr (by decide) (by rfl) (pa_cons (pv 0) pa_nil)))
      (pss_cons (ps_if (pt_cmpR op_isN (pv 1) pe_non (nomark _)) (pss_one (ps_ret pe_non)) pss_nil)
      (pss_cons (ps_set (i := 2) scGrown.nd rfl (Or.inl rfl) (C8.pe_c cM hr (by decide) (by rfl) (pa_cons (pe_ix ix_tup (pv 0) pe_int (fun _ _ => rfl)) (pa_cons (pe_lst pa_nil) pa_nil))))
      (pss_cons (ps_for PassesOwn.never rfl (pi_range1 (by rfl) B.range (pa_cons (pe_op op_add (pe_callBK (cr_maxDf rfl) (by rfl) B.max (by decide +kernel) (pa_cons (pv 1) pa_nil) (pk_cons (pe_un un_neg pe_int) pk_nil)) pe_int) pa_nil)) (pg_name (i := 3) scGrown.nd rfl (Or.inl rfl)) (pss_cons (ps_set (i := 4) scGrown.nd rfl (Or.inl rfl) pe_bl)
      (pss_one (ps_while PassesOwn.never (pt_val (pv 4)) (pss_cons (ps_set (i := 4) scGrown.nd rfl (Or.inl rfl) pe_bl)
      (pss_one (ps_for PassesOwn.never rfl (pi_list (pe_ix ix_tup (pv 0) pe_int (fun _ _ => rfl))) (pg_name (i := 5) scGrown.nd rfl (Or.inl rfl)) (pss_cons (ps_if (PW.pt (pw_or (pt_cmpR op_ne (pe_ix ix_tup (pv 5) pe_int (fun _ _ => rfl)) pe_str (nomark _)) (pw_or (pt_cmpR op_ne (pe_ix ix_list (pv 1) (pe_ix ix_tup (pv 5) pe_int (fun _ _ => rfl)) (fun _ _ => rfl)) (pv 3) (nomark _)) (pw_or1 (pt_val (pe_ix ix_list (pv 2) (pe_ix ix_tup (pv 5) pe_int (fun _ _ => rfl)) (fun _ _ => rfl))))))) (pss_one ps_continue) pss_nil)
      (pss_one (ps_if (pt_val (C8.pe_c cB hr (by decide) (by rfl) (pa_cons (pv 5) (pa_cons (pv 2) (pa_cons (pv 2) pa_nil))))) (pss_cons (ps_asg pe_bl (pg_sub (pv 2) (pe_ix ix_tup (pv 5) pe_int (fun _ _ => rfl)) set_list))
      (pss_one (ps_set (i := 4) scGrown.nd rfl (Or.inl rfl) pe_bl))) pss_nil))))))))))
      (pss_one (ps_ret (C8.pe_c cN hr (by decide) (by rfl) (pa_cons (pv 2) pa_nil)))))))), ?_⟩
    -- found = levels(plain)
    refine ⟨_, rfl, _, n, R, rfl, hv0, hw, fun fv H1 e1 hlv => ?_⟩
    cases hl0 : levels n R with
    | none =>
      unfold LevV at hlv
      rw [hl0] at hlv
      have hlv' : fv = .non := hlv
      subst hlv'
      refine q_when (b := true) (et_isN (ev_var rfl) (by decide +kernel)) (fun _ H2 e2 => ?_) (fun z => nomatch z)
      refine q .non H2 (e1.trans e2) ?_
      unfold GrownV
      rw [hl0]
    | some g =>
      unfold LevV at hlv
      rw [hl0] at hlv
      obtain ⟨pf, rfl, _, hpf⟩ := hlv
      have lv := levels_ok hw hl0
      have glen := lv.len
      refine q_when (b := false) (et_isN (x := .ref pf) (ev_var rfl) (decide_eq_false (fun z => by cases z))) (fun z => nomatch z) (fun _ H2 e2 => ?_)
      -- risen = marks(plain[0], [])
      have e12 := e1.trans e2
      refine q_asgL (el_marks (L := []) (ev_T (ev_var rfl) ev_c (ex_t e12 hx) at0) (el_lst ea_nil (by show 0 ≤ 100000; decide)) hw.many (fun _ z => nomatch z)) fun p H4 hp e4 h4 => ?_
      -- for level in range(max(found, default=-1) + 1)
      refine q_forR1N (fun m => 0 ≤ m ∧ m ≤ 10001 ∧ ∀ t, t < n → g.getD t 0 < m) (fun Q' q' => ?_) (fun m c => ⟨c.1, by have := c.2.1; omega⟩)
        (fun i σ H5 => ∃ v3 v4 v5, ∃ L : List Nat, σ = [some (.ref x), some (.ref pf), some (.ref p), v3, v4, v5] ∧ Ex H2 H5 ∧ H5 p = some (.lst (bls n (mem L))) ∧ Grown R n (fun t => g.getD t 0) ((i : Nat) : Int) L)
        (fun H5 e5 => ⟨none, none, none, [], rfl, e4.trans e5, e5 _ _ h4, grown_nil lv.pos hw.rules⟩) ?_ ?_
      · refine ⟨_, rfl, 1, rfl, pf, g, -1, rfl, rfl, sq_of (e4 _ _ (e2 _ _ hpf)), fun eg => ?_, fun M hM hx => ?_⟩
        · refine ⟨-1, 1, rfl, rfl, q' _ _ (Ex.refl _) ⟨by decide, by decide, fun t ht => ?_⟩⟩
          rw [eg] at glen
          simp at glen
          omega
        · have hb := lv.within M hM
          refine ⟨M, 1, rfl, rfl, q' _ _ (Ex.refl _) ⟨by omega, by omega, fun t ht => ?_⟩⟩
          have hlt : t < g.length := by omega
          have := hx _ (List.getElem_mem hlt)
          rw [List.getD_eq_getElem?_getD, List.getElem?_eq_getElem hlt]
          show g[t] < M + 1
          omega
      · rintro m i σ H5 ⟨c1, c2, c3⟩ hi ⟨v3, v4, v5, L, rfl, e5, h5, gr⟩
        refine q_asg ev_c fun H6 e6 => ?_
        -- while changed
        refine s_while (fun m σ H7 => ∃ (L : List Nat), ∃ (ch : Bool), ∃ v5, σ = [some (.ref x), some (.ref pf), some (.ref p), some (.int ((i : Nat) : Int)), some (.bl ch), v5] ∧ Ex H2 H7 ∧ H7 p = some (.lst (bls n (mem L))) ∧
            Grown R n (fun t => g.getD t 0) ((i : Nat) : Int) L ∧ m = cnt n (mem L) + (if ch = true then 1 else 0) ∧
            (ch = false → ∀ h ps, (some h, ps) ∈ R → g.getD h 0 = ((i : Nat) : Int) → KM.body ps (mem L) (mem L) = true → h ∈ L))
          _ ⟨L, true, v5, rfl, e5.trans e6, e6 _ _ h5, gr, rfl, fun z => nomatch z⟩ ?_
        rintro m7 σ H7 ⟨L, ch, v5, rfl, e7, h7, gr, rfl, hdone⟩
        refine ⟨ch, et_B (ev_var rfl), fun hch H8 e8 => ?_, fun hch H8 e8 => ?_⟩
        · subst hch
          refine ⟨fun σ H9 => ∃ (L' : List Nat), ∃ (ch' : Bool), ∃ v5, σ = [some (.ref x), some (.ref pf), some (.ref p), some (.int ((i : Nat) : Int)), some (.bl ch'), v5] ∧ Ex H2 H9 ∧ H9 p = some (.lst (bls n (mem L'))) ∧
            Grown R n (fun t => g.getD t 0) ((i : Nat) : Int) L' ∧ (ch' = true → cnt n (mem L') < cnt n (mem L)) ∧
            (ch' = false → L' = L ∧ ∀ h ps, (some h, ps) ∈ R → g.getD h 0 = ((i : Nat) : Int) → KM.body ps (mem L) (mem L) = true → h ∈ L), ?_, ?_⟩
          · rintro σ H9 ⟨L', ch', v5, rfl, e9, h9, gr9, d1, d2⟩
            cases ch' with
            | true =>
              have := d1 rfl
              exact ⟨_, (by rw [if_pos rfl]; exact Nat.add_lt_add_right this 1 : cnt n (mem L') + 1 < _), L', true, v5, rfl, e9, h9, gr9, rfl, fun z => nomatch z⟩
            | false =>
              obtain ⟨rfl, d3⟩ := d2 rfl
              exact ⟨cnt n (mem L'), (by rw [if_pos rfl]; exact Nat.lt_succ_self _), L', false, v5, rfl, e9, h9, gr9, rfl, fun _ => d3⟩
          · refine q_asg ev_c fun H9 e9 => ?_
            -- for rule in plain[1]
            refine s_forLn (a := l) (xs := us) (ev_T (ev_var rfl) ev_c (ex_t (((e12.trans e7).trans e8).trans e9) hx) at1) (ex_l (((e12.trans e7).trans e8).trans e9) hl)
              (fun j σ H10 => ∃ (L' : List Nat), ∃ (ch' : Bool), ∃ v5, σ = [some (.ref x), some (.ref pf), some (.ref p), some (.int ((i : Nat) : Int)), some (.bl ch'), v5] ∧ Ex H2 H10 ∧ H10 p = some (.lst (bls n (mem L'))) ∧
                Grown R n (fun t => g.getD t 0) ((i : Nat) : Int) L' ∧ (ch' = true → cnt n (mem L') < cnt n (mem L)) ∧
                (ch' = false → L' = L ∧ ∀ k, k < j → ∀ h ps, R[k]? = some (some h, ps) → g.getD h 0 = ((i : Nat) : Int) → KM.body ps (mem L) (mem L) = true → h ∈ L))
              (fun H10 e10 => ⟨L, false, v5, rfl, ((e7.trans e8).trans e9).trans e10, e10 _ _ (e9 _ _ (e8 _ _ h7)), gr, (fun z => nomatch z), fun _ => ⟨rfl, fun k hk => absurd hk (Nat.not_lt_zero k)⟩⟩)
              (fun j σ H10 _ ⟨_, _, _, _, e10, _⟩ => ex_l (e12.trans e10) hl) ?_ ?_
            · rintro j v σ H10 hv ⟨L', ch', v5, rfl, e10, h10, gr10, d1, d2⟩
              obtain ⟨r, hrj, hrm⟩ := ls_at hlen hv
              have hrat := (hat j v r hv hrj).mono (e12.trans e10)
              have hrat0 := hrat
              obtain ⟨a, l2, rfl, ha, _⟩ := hrat
              have wr := hw.rules r hrm
              obtain ⟨hd, ps⟩ := r
              have stay : ∀ (b : Bool) H11, Ex H10 H11 → b = ch' → (ch' = false → ∀ h, hd = some h → g.getD h 0 = ((i : Nat) : Int) → KM.body ps (mem L) (mem L) = true → h ∈ L) →
                  ∃ (L'' : List Nat), ∃ (ch'' : Bool), ∃ v5, [some (.ref x), some (.ref pf), some (.ref p), some (V.int ((i : Nat) : Int)), some (.bl ch'), some (.ref a)] = [some (V.ref x), some (.ref pf), some (.ref p), some (.int ((i : Nat) : Int)), some (.bl ch''), v5] ∧ Ex H2 H11 ∧ H11 p = some (.lst (bls n (mem L''))) ∧
                  Grown R n (fun t => g.getD t 0) ((i : Nat) : Int) L'' ∧ (ch'' = true → cnt n (mem L'') < cnt n (mem L)) ∧
                  (ch'' = false → L'' = L ∧ ∀ k, k < j + 1 → ∀ h ps, R[k]? = some (some h, ps) → g.getD h 0 = ((i : Nat) : Int) → KM.body ps (mem L) (mem L) = true → h ∈ L) := by
                intro b H11 e11 _ hk
                refine ⟨L', ch', _, rfl, e10.trans e11, e11 _ _ h10, gr10, d1, fun z => ⟨(d2 z).1, fun k hkj h qs hR hf hb => ?_⟩⟩
                by_cases e : k = j
                · subst e
                  rw [hrj] at hR
                  have e3 := Option.some.inj hR
                  have e4 : hd = some h := congrArg Prod.fst e3
                  have e5 : ps = qs := congrArg Prod.snd e3
                  subst e5
                  exact hk z h e4 hf hb
                · exact (d2 z).2 k (by omega) h qs hR hf hb
              cases hd with
              | none =>
                refine q_when (b := true) (et_or (a := true) (b := false) (et_neS (ev_T (ev_var rfl) ev_c ha at0) (by decide +kernel)) (fun z => nomatch z)) (fun _ H11 e11 => ?_) (fun z => nomatch z)
                exact stay ch' H11 e11 rfl fun _ h z => nomatch z
              | some h =>
                have hhn : h < n := wr.head h rfl
                have hgi : (g.map V.int)[h]? = some (.int (g.getD h 0)) := int_get (by omega)
                have hpf10 : H10 pf = some (.lst (g.map V.int)) := e10 _ _ (e2 _ _ hpf)
                refine q_when (b := (!decide (g.getD h 0 = ((i : Nat) : Int))) || mem L' h)
                  (et_or (a := false) (et_neS (ev_T (ev_var rfl) ev_c ha at0) (by decide +kernel)) (fun _ => et_or (et_neI (ev_L (ev_var rfl) (ev_T (ev_var rfl) ev_c ha at1) (sq_of hpf10) (atI_nat hgi)) (ev_var rfl))
                    (fun _ => et_B (ev_mark (ev_var rfl) (ev_T (ev_var rfl) ev_c ha at1) (sq_of h10) hhn)))) (fun hb H11 e11 => ?_) (fun hb H11 e11 => ?_)
                · refine stay ch' H11 e11 rfl fun z h' e4 hf hbd => ?_
                  have e5 : h = h' := Option.some.inj e4
                  subst e5
                  obtain ⟨rfl, _⟩ := d2 z
                  rw [decide_eq_true hf] at hb
                  exact mem_iff.mp hb
                · rw [Bool.or_eq_false_iff] at hb
                  have hf : g.getD h 0 = ((i : Nat) : Int) := by
                    have := hb.1
                    cases hq : decide (g.getD h 0 = ((i : Nat) : Int)) with
                    | true => exact of_decide_eq_true hq
                    | false => rw [hq] at this; cases this
                  have h11 := e11 _ _ h10
                  refine s_when (b := KM.body ps (mem L') (mem L')) (et_B (ev_body (ev_var rfl) (ev_var rfl) (ev_var rfl) (hrat0.mono e11) wr (sq_of h11) (sq_of h11))) (fun hbd H12 e12' => ?_) (fun hbd H12 e12' => ?_)
                  · have h12 := e12' _ _ h11
                    refine s_setL h12 ev_c (ev_var rfl) (ev_T (ev_var rfl) ev_c (ex_t (e11.trans e12') ha) at1) (by rw [bls_len]; exact hhn) fun H13 e13' => ?_
                    refine ⟨L' ++ [h], true, _, rfl, (((e10.trans e11).trans e12').trans e13').mut hp, ?_, gr10.snoc hw.rules lv.lev hrm hf hbd, fun _ => ?_, fun z => nomatch z⟩
                    · rw [upd_same, bls_set hhn (u := mem (L' ++ [h]))]
                      · exact mem_iff.mpr (List.mem_append_right _ List.mem_cons_self)
                      · exact fun y _ hy => mem_snoc_ne hy
                    · have c3 := cnt_snoc (L := L') hhn hb.2
                      cases ch' with
                      | true =>
                        have := d1 rfl
                        omega
                      | false =>
                        obtain ⟨rfl, _⟩ := d2 rfl
                        omega
                  · refine stay ch' H12 (e11.trans e12') rfl fun z h' e4 _ hb2 => ?_
                    obtain ⟨rfl, _⟩ := d2 z
                    rw [hbd] at hb2
                    cases hb2
            · rintro σ H10 ⟨L', ch', v5, rfl, e10, h10, gr10, d1, d2⟩
              refine ⟨L', ch', v5, rfl, e10, h10, gr10, d1, fun z => ⟨(d2 z).1, fun h ps hm hf hb => ?_⟩⟩
              obtain ⟨k, hk⟩ := List.mem_iff_getElem?.mp hm
              exact (d2 z).2 k (by rw [hlen]; exact (List.getElem?_eq_some_iff.mp hk).1) h ps hk hf hb
        · exact ⟨_, _, v5, L, rfl, e7.trans e8, e8 _ _ h7, by
            have := gr.up (hdone hch)
            have e0 : (((i + 1 : Nat)) : Int) = ((i : Nat) : Int) + 1 := by omega
            rw [e0]
            exact this⟩
      · rintro m σ H5 ⟨c1, c2, c3⟩ ⟨v3, v4, v5, L, rfl, e5, h5, gr⟩
        have st := gr.stable hw.rules fun t ht => by
          have := c3 t ht
          show g.getD t 0 < ((m.toNat : Nat) : Int)
          omega
        refine ⟨_, rfl, n, p, mem L, rfl, sq_of h5, hw.many, fun p' H6 hp' e6 h6 => ?_⟩
        refine q _ H6 ((e12.trans e5).trans e6) ?_
        unfold GrownV
        rw [hl0]
        exact ⟨p', L, rfl, h6, st⟩
end
end KW

-- K8
set_option Elab.async false
set_option linter.all false
set_option maxRecDepth 100000
set_option maxHeartbeats 4000000
namespace KW
open PySem PySem.Spec PyProof.Rows L2 Evl KM
/-! ### a set judged -/
abbrev sFirst : Stmt := top 20
abbrev sNext : Stmt := top 21
abbrev sChain : Stmt := top 22
abbrev sBuilt : Stmt := top 23
abbrev sGroup : Stmt := top 24
abbrev sJudged : Stmt := top 25
theorem scFirst : FnScope ["plain", "some", "world", "number", "rule"] ["plain", "some"] (L2.defScope sFirst) := ⟨rfl, rfl, rfl, by decide +kernel, rfl, by decide +kernel, by decide +kernel⟩
theorem scNext : FnScope ["plain", "rising", "world", "best", "number", "rule"] ["plain", "rising", "world"] (L2.defScope sNext) := ⟨rfl, rfl, rfl, by decide +kernel, rfl, by decide +kernel, by decide +kernel⟩
theorem scChain : FnScope ["plain", "some", "world", "rising", "links", "link"] ["plain", "some"] (L2.defScope sChain) := ⟨rfl, rfl, rfl, by decide +kernel, rfl, by decide +kernel, by decide +kernel⟩
theorem scBuilt : FnScope ["plain", "some", "thing", "number"] ["plain", "some"] (L2.defScope sBuilt) := ⟨rfl, rfl, rfl, by decide +kernel, rfl, by decide +kernel, by decide +kernel⟩
theorem scGroup : FnScope ["plain", "some", "left", "thing"] ["plain", "some"] (L2.defScope sGroup) := ⟨rfl, rfl, rfl, by decide +kernel, rfl, by decide +kernel, by decide +kernel⟩
theorem scJudged : FnScope ["plain", "some", "broken", "left"] ["plain", "some"] (L2.defScope sJudged) := ⟨rfl, rfl, rfl, by decide +kernel, rfl, by decide +kernel, by decide +kernel⟩
def FirstV (R : List Rule) (W : Nat → Bool) (v : V) : Prop := (v = .non ∧ ∀ r ∈ R, breaks r W = false) ∨ ∃ (i : Nat) (r : Rule), v = .int ((i : Nat) : Int) ∧ R[i]? = some r ∧ breaks r W = true
def spFirst (K : Fg) : Sp := fun vs H Q _ => ∃ (v : V) (a : Addr) (n : Nat) (R : List Rule) (W : Nat → Bool), vs = [v, .ref a] ∧ PlainAt K H v n R ∧ Wf n R ∧ SqL K H a (nvs (nums n W)) ∧
  ∀ (r : V) (H' : Hp), Ex H H' → FirstV R W r → Q r H'
def NextV (K : Fg) (R : List Rule) (s W : Nat → Bool) (v : V) (H : Hp) : Prop := (v = .non ∧ Full R s W) ∨
  ∃ (T : Addr) (h : Nat) (m : Int) (ps : List Part), v = .ref T ∧ SqT K H T [.int ((h : Nat) : Int), .int m] ∧ (some h, ps) ∈ R ∧ W h = true ∧ s h = false ∧ KM.body ps s W = true
theorem NextV.mono {K : Fg} {R : List Rule} {s W : Nat → Bool} {v : V} {H H' : Hp} (e : Ex H H') (h : NextV K R s W v H) : NextV K R s W v H' := by
  rcases h with h | ⟨T, h, m, ps, h1, h2, h3⟩
  · exact .inl h
  · exact .inr ⟨T, h, m, ps, h1, ex_t e h2, h3⟩
def spNext (K : Fg) : Sp := fun vs H Q _ => ∃ (v : V) (a b : Addr) (n : Nat) (R : List Rule) (s W : Nat → Bool), vs = [v, .ref a, .ref b] ∧ PlainAt K H v n R ∧ Wf n R ∧ SqL K H a (bls n s) ∧ SqL K H b (bls n W) ∧
  ∀ (r : V) (H' : Hp), Ex H H' → NextV K R s W r H' → Q r H'
/-- a chain's things -/
structure ChainOk (R : List Rule) (n : Nat) (W : Nat → Bool) (L : List Nat) : Prop where
  lt : ∀ t ∈ L, t < n
  sub : ∀ t ∈ L, W t = true
  nd : L.Nodup
  len : cnt n (mem L) + L.length = n
  founded : Founded R W L
def LinkAt (K : Fg) (H : Hp) (v : V) (t : Nat) : Prop := ∃ (a : Addr) (m : Int), v = .ref a ∧ SqT K H a [.int ((t : Nat) : Int), .int m]
theorem LinkAt.mono {K : Fg} {H H' : Hp} {v : V} {t : Nat} (e : Ex H H') (h : LinkAt K H v t) : LinkAt K H' v t := by
  obtain ⟨a, m, h1, h2⟩ := h
  exact ⟨a, m, h1, ex_t e h2⟩
theorem LinkAt.upd {K : Fg} {H : Hp} {q : Addr} {ys : List V} {o : HO} {v : V} {t : Nat} (h : LinkAt K H v t) (hq : H q = some (.lst ys)) : LinkAt K (L2.upd H q o) v t := by
  obtain ⟨a, m, h1, h2⟩ := h
  exact ⟨a, m, h1, st_upd h2 hq⟩
def spChain (K : Fg) : Sp := fun vs H Q _ => ∃ (v : V) (a : Addr) (n : Nat) (R : List Rule) (W : Nat → Bool), vs = [v, .ref a] ∧ PlainAt K H v n R ∧ Wf n R ∧ SqL K H a (nvs (nums n W)) ∧
  ∀ (q : Addr) (H' : Hp) (L : List Nat), H q = none → Ex H H' → LsAt K H' (LinkAt K H') q L → ChainOk R n W L → Full R (mem L) W → Q (.ref q) H'
def spBuilt (K : Fg) : Sp := fun vs H Q _ => ∃ (v : V) (a : Addr) (n : Nat) (R : List Rule) (W : Nat → Bool), vs = [v, .ref a] ∧ PlainAt K H v n R ∧ Wf n R ∧ SqL K H a (nvs (nums n W)) ∧
  ∀ (q : Addr) (H' : Hp) (L : List Nat), H q = none → Ex H H' → H' q = some (.lst (nvs (nums n (mem L)))) → ChainOk R n W L → Full R (mem L) W → Q (.ref q) H'
def spGroup (K : Fg) : Sp := fun vs H Q _ => ∃ (v : V) (a : Addr) (n : Nat) (R : List Rule) (W : Nat → Bool), vs = [v, .ref a] ∧ PlainAt K H v n R ∧ Wf n R ∧ SqL K H a (nvs (nums n W)) ∧
  ∀ (q : Addr) (H' : Hp) (L : List Nat), Ex H H' → H' q = some (.lst (nvs (nums n fun t => W t && !mem L t))) → ChainOk R n W L → Full R (mem L) W → Q (.ref q) H'
def JudV (K : Fg) (R : List Rule) (n : Nat) (W : Nat → Bool) (v : V) (H : Hp) : Prop := ∃ p, v = .ref p ∧
  ((∃ (i : Nat) (r : Rule), SqT K H p [.str "broken", .int ((i : Nat) : Int)] ∧ R[i]? = some r ∧ breaks r W = true) ∨
   ((∀ r ∈ R, breaks r W = false) ∧ ∃ L : List Nat, ChainOk R n W L ∧ Full R (mem L) W ∧
     ((∃ q, SqT K H p [.str "group", .ref q] ∧ SqL K H q (nvs (nums n fun t => W t && !mem L t)) ∧ nums n (fun t => W t && !mem L t) ≠ []) ∨
      (∃ q, SqT K H p [.str "stands", .ref q] ∧ nums n (fun t => W t && !mem L t) = []))))
def spJudged (K : Fg) : Sp := fun vs H Q _ => ∃ (v : V) (a : Addr) (n : Nat) (R : List Rule) (W : Nat → Bool), vs = [v, .ref a] ∧ PlainAt K H v n R ∧ Wf n R ∧ SqL K H a (nvs (nums n W)) ∧
  ∀ (r : V) (H' : Hp), Ex H H' → JudV K R n W r H' → Q r H'
theorem et_notN {σ : L2.St} {H : Hp} {ta : TE} {x : V} {b : Bool} (h : Ev ta σ H x) (e : (!decide (x = .non)) = b) : EvT (tTest (tOp (fun x y H Q => y = V.non ∧ Q (.bl (!decide (x = .non))) H) ta (tC .non))) σ H b :=
  et_test (ev_is (ev_op h ev_c (z := .bl (!decide (x = .non))) fun H1 _ Q q => ⟨rfl, q H1 (Ex.refl H1)⟩) (congrArg V.bl e))
theorem ref_ne_non (a : Addr) : (!decide (V.ref a = .non)) = true := by rw [decide_eq_false (fun z => by cases z)] <;> rfl
theorem int_ne_non (a : Int) : (!decide (V.int a = .non)) = true := by rw [decide_eq_false (fun z => by cases z)] <;> rfl
/-- for i, x in enumerate(list) -/
theorem q_forEn {K : Fg} {σ : L2.St} {H : Hp} {ta : TA} {D : L2.Ends} {tu tz : TS} {a : Addr} {xs : List V} {i1 i2 : Nat} (h : EvA ta σ H [.ref a]) (hx : SqL K H a xs) (Pv : Nat → L2.St → Hp → Prop) (h0 : ∀ H1, Ex H H1 → Pv 0 σ H1)
    (hl : ∀ i σ' H', i ≤ xs.length → Pv i σ' H' → SqL K H' a xs)
    (hs : ∀ (i : Nat) x σ' H' H2, xs[i]? = some x → Pv i σ' H' → Ex H' H2 → tu { D with nx := Pv (i + 1), ct := Pv (i + 1), bk := tz D } ((σ'.set i1 (some (.int ((i : Nat) : Int)))).set i2 (some x)) H2)
    (hd : ∀ σ' H', Pv xs.length σ' H' → tz D σ' H') : tSeq (tFor (iEnum K ta) (gTup K 2 (gCons (gName i1) (gCons (gName i2) gNil))) tu) tz D σ H :=
  h H (Ex.refl H) _ fun H1 e1 => ⟨a, xs, rfl, ex_l e1 hx, for_it (walk_enum (K := K) (a := a) (xs := xs)) Pv (h0 H1 e1) hl (fun i x σ' H' H2 hi p y => by
      obtain ⟨T, x1, x2, rfl, hT, rfl, f1, f2⟩ := y
      have ex1 : V.int ((i : Nat) : Int) = x1 := Option.some.inj f1
      subst ex1
      exact ⟨T, _, rfl, st_of upd_same, rfl, _, _, rfl, _, _, rfl, rfl, hs i x2 σ' H' _ f2 p (Ex.new hT)⟩) hd⟩
section
variable {P : Program} {w : World} {K : Fg} {mg : Str → Option Value} {base : Heap}
theorem ev_breaks {σ : L2.St} {H : Hp} {t1 t2 : TE} {v : V} {b : Addr} {n : Nat} {r : Rule} {wo : Nat → Bool} {E : XK} (h1 : Ev t1 σ H v) (h2 : Ev t2 σ H (.ref b)) (hv : RuleAt K H v r) (hw : WfRule n r) (hb : SqL K H b (bls n wo)) :
    Ev (tCall (spBreaks K) [] E (tCons t1 (tCons t2 tNil))) σ H (.bl (breaks r wo)) :=
  ev_call (ea_cons h1 (ea_cons h2 ea_nil)) fun H1 e1 Q' q' E' => ⟨v, b, n, r, wo, rfl, hv.mono e1, hw, ex_l e1 hb, q'⟩
theorem marks_of {n : Nat} (W : Nat → Bool) : bls n (mem (nums n W)) = bls n W := bls_congr fun _ ht => mem_nums_eq ht
theorem cal_first (D : DefAt K mg "first_broken" sFirst ["plain", "some"]) (B : Blt mg) (cM : C8.Cal P w K mg base 1 "marks" (spMarks K) []) (cK : C8.Cal P w K mg base 5 "breaks" (spBreaks K) []) : C8.Cal P w K mg base 6 "first_broken" (spFirst K) [] := by
  refine cal_of D scFirst (fun vs H Q E h => ?_) (fun f cdv A outer s H vs Q E hr h => ?_)
  · obtain ⟨v, a, n, R, W, rfl, _⟩ := h
    rfl
  · obtain ⟨v, a, n, R, W, rfl, ⟨x, l, rfl, hx, us, hl, hlen, hat⟩, hw, hS, q⟩ := h
    refine ⟨_, (pss_cons (ps_set (i := 2) scFirst.nd rfl (Or.inl rfl) (C8.pe_c cM hr (by decide) (by rfl) (pa_cons (pe_ix ix_tup (pv 0) pe_int (fun _ _ => rfl)) (pa_cons (pv 1) pa_nil))))
      (pss_cons (ps_for PassesOwn.never rfl (pi_enum (by rfl) B.enum (pa_cons (pe_ix ix_tup (pv 0) pe_int (fun _ _ => rfl)) pa_nil)) (pg_tup rfl (pgs_cons (pg_name (i := 3) scFirst.nd rfl (Or.inl rfl)) (pgs_cons (pg_name (i := 4) scFirst.nd rfl (Or.inl rfl)) pgs_nil))) (pss_one (ps_if (pt_val (C8.pe_c cK hr (by decide) (by rfl) (pa_cons (pv 4) (pa_cons (pv 2) pa_nil)))) (pss_one (ps_ret (pv 3))) pss_nil)))
      (pss_one (ps_ret pe_non)))), ?_⟩
    refine q_asgL (EvL.cast (el_marksA (ev_T (ev_var rfl) ev_c hx at0) (ev_var rfl) hS hw.many (fun t ht => (mem_nums.mp ht).1)) (congrArg _ rfl)) fun p H1 hp e1 h1 => ?_
    rw [marks_of] at h1
    refine q_forEn (a := l) (xs := us) (ea_cons (ev_T (ev_var rfl) ev_c (ex_t e1 hx) at1) ea_nil) (ex_l e1 hl)
      (fun i σ H2 => ∃ v3 v4, σ = [some (.ref x), some (.ref a), some (.ref p), v3, v4] ∧ Ex H1 H2 ∧ ∀ (k : Nat) r, k < i → R[k]? = some r → breaks r W = false)
      (fun H2 e2 => ⟨none, none, rfl, e2, fun k r hk => absurd hk (Nat.not_lt_zero k)⟩) (fun i σ H2 _ ⟨_, _, _, e2, _⟩ => ex_l (e1.trans e2) hl) ?_ ?_
    · rintro i v σ H2 H3 hv ⟨v3, v4, rfl, e2, hb⟩ e3
      obtain ⟨r, hri, hrm⟩ := ls_at hlen hv
      have hrat := (hat i v r hv hri).mono ((e1.trans e2).trans e3)
      refine s_when (b := breaks r W) (et_B (ev_breaks (ev_var rfl) (ev_var rfl) hrat (hw.rules r hrm) (sq_of (e3 _ _ (e2 _ _ h1))))) (fun hbr H4 e4 => ?_) (fun hbr H4 e4 => ?_)
      · exact ⟨_, rfl, q _ H4 (((e1.trans e2).trans e3).trans e4) (.inr ⟨i, r, rfl, hri, hbr⟩)⟩
      · refine ⟨_, _, rfl, (e2.trans e3).trans e4, fun k r' hk hr' => ?_⟩
        by_cases e : k = i
        · subst e
          rw [hri] at hr'
          have := Option.some.inj hr'
          subst this
          exact hbr
        · exact hb k r' (by omega) hr'
    · rintro σ H2 ⟨v3, v4, rfl, e2, hb⟩
      refine q _ H2 (e1.trans e2) (.inl ⟨rfl, fun r hr => ?_⟩)
      obtain ⟨k, hk⟩ := List.mem_iff_getElem?.mp hr
      exact hb k r (by rw [hlen]; exact (List.getElem?_eq_some_iff.mp hk).1) hk
theorem cal_next (D : DefAt K mg "next_link" sNext ["plain", "rising", "world"]) (B : Blt mg) (cB : C8.Cal P w K mg base 4 "body_holds" (spBody K) []) : C8.Cal P w K mg base 5 "next_link" (spNext K) [] := by
  refine cal_of D scNext (fun vs H Q E h => ?_) (fun f cdv A outer s H vs Q E hr h => ?_)
  · obtain ⟨v, a, b, n, R, s, W, rfl, _⟩ := h
    rfl
  · obtain ⟨v, a, b, n, R, u, W, rfl, ⟨x, l, rfl, hx, us, hl, hlen, hat⟩, hw, ha, hb, q⟩ := h
    refine ⟨_, (pss_cons (ps_set (i := 3) scNext.nd rfl (Or.inl rfl) pe_non)
      (pss_cons (ps_for PassesOwn.never rfl (pi_enum (by rfl) B.enum (pa_cons (pe_ix ix_tup (pv 0) pe_int (fun _ _ => rfl)) pa_nil)) (pg_tup rfl (pgs_cons (pg_name (i := 4) scNext.nd rfl (Or.inl rfl)) (pgs_cons (pg_name (i := 5) scNext.nd rfl (Or.inl rfl)) pgs_nil))) (pss_cons (ps_if (PW.pt (pw_or (pt_cmpR op_eq (pe_ix ix_tup (pv 5) pe_int (fun _ _ => rfl)) pe_str (nomark _)) (pw_or (pt_val (pe_ix ix_list (pv 1) (pe_ix ix_tup (pv 5) pe_int (fun _ _ => rfl)) (fun _ _ => rfl))) (pw_or1 (pt_not (pt_val (pe_ix ix_list (pv 2) (pe_ix ix_tup (pv 5) pe_int (fun _ _ => rfl)) (fun _ _ => rfl)))))))) (pss_one ps_continue) pss_nil)
      (pss_cons (ps_if (PW.pt (pw_and (pt_cmpR op_notN (pv 3) pe_non (nomark _)) (pw_and1 (pt_cmpR op_le (pe_ix ix_tup (pv 3) pe_int (fun _ _ => rfl)) (pe_ix ix_tup (pv 5) pe_int (fun _ _ => rfl)) (nomark _))))) (pss_one ps_continue) pss_nil)
      (pss_one (ps_if (pt_val (C8.pe_c cB hr (by decide) (by rfl) (pa_cons (pv 5) (pa_cons (pv 1) (pa_cons (pv 2) pa_nil))))) (pss_one (ps_set (i := 3) scNext.nd rfl (Or.inl rfl) (pe_tup (pa_cons (pe_ix ix_tup (pv 5) pe_int (fun _ _ => rfl)) (pa_cons (pv 4) pa_nil))))) pss_nil)))))
      (pss_one (ps_ret (pv 3))))), ?_⟩
    refine q_asg ev_c fun H1 e1 => ?_
    refine q_forEn (a := l) (xs := us) (ea_cons (ev_T (ev_var rfl) ev_c (ex_t e1 hx) at1) ea_nil) (ex_l e1 hl)
      (fun i σ H2 => ∃ bv v4 v5, σ = [some (.ref x), some (.ref a), some (.ref b), some bv, v4, v5] ∧ Ex H H2 ∧
        ((bv = .non ∧ ∀ (k : Nat), k < i → ∀ h ps, R[k]? = some (some h, ps) → W h = true → u h = false → KM.body ps u W = false) ∨
          ∃ (T : Addr) (h : Nat) (m : Int) (ps : List Part), bv = .ref T ∧ SqT K H2 T [.int ((h : Nat) : Int), .int m] ∧ (some h, ps) ∈ R ∧ W h = true ∧ u h = false ∧ KM.body ps u W = true))
      (fun H2 e2 => ⟨.non, none, none, rfl, e1.trans e2, .inl ⟨rfl, fun k hk => absurd hk (Nat.not_lt_zero k)⟩⟩) (fun i σ H2 _ ⟨_, _, _, _, e2, _⟩ => ex_l e2 hl) ?_ ?_
    · rintro i v σ H2 H3 hv ⟨bv, v4, v5, rfl, e2, hbv⟩ e3
      obtain ⟨r, hri, hrm⟩ := ls_at hlen hv
      have e23 := e2.trans e3
      have hrat := (hat i v r hv hri).mono e23
      have hrat0 := hrat
      obtain ⟨c, l2, rfl, hc, _⟩ := hrat
      have wr := hw.rules r hrm
      obtain ⟨hd, ps⟩ := r
      have stay : ∀ H4, Ex H3 H4 → ((∃ T, bv = .ref T) ∨ ∀ h, hd = some h → W h = true → u h = false → KM.body ps u W = false) →
          ∃ bv' v4' v5', [some (.ref x), some (.ref a), some (.ref b), some bv, some (V.int ((i : Nat) : Int)), some (.ref c)] = [some (V.ref x), some (.ref a), some (.ref b), some bv', v4', v5'] ∧ Ex H H4 ∧
          ((bv' = .non ∧ ∀ (k : Nat), k < i + 1 → ∀ h ps, R[k]? = some (some h, ps) → W h = true → u h = false → KM.body ps u W = false) ∨
            ∃ (T : Addr) (h : Nat) (m : Int) (ps : List Part), bv' = .ref T ∧ SqT K H4 T [.int ((h : Nat) : Int), .int m] ∧ (some h, ps) ∈ R ∧ W h = true ∧ u h = false ∧ KM.body ps u W = true) := by
        intro H4 e4 hk
        refine ⟨bv, _, _, rfl, e23.trans e4, ?_⟩
        rcases hbv with ⟨rfl, hno⟩ | ⟨T, h, m, qs, h1, h2, h3⟩
        · refine .inl ⟨rfl, fun k hki h qs hR h1 h2 => ?_⟩
          by_cases e : k = i
          · subst e
            rw [hri] at hR
            have e3 := Option.some.inj hR
            have e4 : hd = some h := congrArg Prod.fst e3
            have e5 : ps = qs := congrArg Prod.snd e3
            subst e5
            rcases hk with ⟨T, hT⟩ | hk
            · cases hT
            · exact hk h e4 h1 h2
          · exact hno k (by omega) h qs hR h1 h2
        · exact .inr ⟨T, h, m, qs, h1, ex_t (e3.trans e4) h2, h3⟩
      cases hd with
      | none =>
        refine q_when (b := true) (et_or (a := true) (b := false) (et_eqS (ev_T (ev_var rfl) ev_c hc at0) (by decide +kernel)) (fun z => nomatch z)) (fun _ H4 e4 => ?_) (fun z => nomatch z)
        exact stay H4 e4 (.inr fun h z => nomatch z)
      | some h =>
        have hhn : h < n := wr.head h rfl
        refine q_when (b := u h || !W h) (et_or (a := false) (et_eqS (ev_T (ev_var rfl) ev_c hc at0) (by decide +kernel)) (fun _ => et_or (et_B (ev_mark (ev_var rfl) (ev_T (ev_var rfl) ev_c hc at1) (ex_l e23 ha) hhn))
          (fun _ => et_not (et_B (ev_mark (ev_var rfl) (ev_T (ev_var rfl) ev_c hc at1) (ex_l e23 hb) hhn))))) (fun hb1 H4 e4 => ?_) (fun hb1 H4 e4 => ?_)
        · refine stay H4 e4 (.inr fun h' z h1 h2 => ?_)
          have e5 : h = h' := Option.some.inj z
          subst e5
          rw [h1, h2] at hb1
          cases hb1
        · rw [Bool.or_eq_false_iff] at hb1
          have hW : W h = true := by
            cases hq : W h with
            | true => rfl
            | false => rw [hq] at hb1; cases hb1.2
          have test : ∃ b2, EvT (tAnd (tTest (tOp (fun x y H Q => y = V.non ∧ Q (.bl (!decide (x = .non))) H) (tVar 3) (tC .non))) (tTest (tOp (rI0 fun i j => .bl (decide (i ≤ j))) (tOp (rIxT K) (tVar 3) (tC (.int 0))) (tOp (rIxT K) (tVar 5) (tC (.int 1))))))
              [some (.ref x), some (.ref a), some (.ref b), some bv, some (V.int ((i : Nat) : Int)), some (.ref c)] H4 b2 ∧ (b2 = true → ∃ T, bv = .ref T) := by
            rcases hbv with ⟨rfl, hno⟩ | ⟨T, h0, m, qs, rfl, h2, h3⟩
            · exact ⟨false, et_and (a := false) (b := false) (et_notN (ev_var rfl) (by decide +kernel)) (fun z => nomatch z), fun z => nomatch z⟩
            · exact ⟨_, et_and (a := true) (et_notN (ev_var rfl) (ref_ne_non T)) (fun _ => et_test (ev_op (ev_T (ev_var rfl) ev_c (ex_t (e3.trans e4) h2) at0) (ev_T (ev_var rfl) ev_c (ex_t e4 hc) at1) rv_le)), fun _ => ⟨T, rfl⟩⟩
          obtain ⟨b2, ht, hbt⟩ := test
          refine q_when (b := b2) ht (fun hb2 H5 e5 => ?_) (fun hb2 H5 e5 => ?_)
          · exact stay H5 (e4.trans e5) (.inl (hbt hb2))
          · have e25 := (e23.trans e4).trans e5
            refine s_when (b := KM.body ps u W) (et_B (ev_body (ev_var rfl) (ev_var rfl) (ev_var rfl) (hrat0.mono (e4.trans e5)) wr (ex_l e25 ha) (ex_l e25 hb))) (fun hbd H6 e6 => ?_) (fun hbd H6 e6 => ?_)
            · refine s_asgU (eu_tup (ea_cons (ev_T (ev_var rfl) ev_c (ex_t ((e4.trans e5).trans e6) hc) at1) (ea_cons (ev_var rfl) ea_nil)) (by show 2 ≤ 100000; decide)) fun T H7 hT e7 h7 => ?_
              exact ⟨_, _, _, rfl, (e25.trans e6).trans e7, .inr ⟨T, h, _, ps, rfl, st_of h7, hrm, hW, hb1.1, hbd⟩⟩
            · refine stay H6 ((e4.trans e5).trans e6) (.inr fun h' z _ _ => ?_)
              have e5 : h = h' := Option.some.inj z
              subst e5
              exact hbd
    · rintro σ H2 ⟨bv, v4, v5, rfl, e2, hbv⟩
      refine ⟨_, rfl, q _ H2 e2 ?_⟩
      rcases hbv with ⟨rfl, hno⟩ | h
      · refine .inl ⟨rfl, fun h ps hm h1 h2 => ?_⟩
        obtain ⟨k, hk⟩ := List.mem_iff_getElem?.mp hm
        exact hno k (by rw [hlen]; exact (List.getElem?_eq_some_iff.mp hk).1) h ps hk h1 h2
      · exact .inr h
end
end KW

-- K9
set_option Elab.async false
set_option linter.all false
set_option maxRecDepth 100000
set_option maxHeartbeats 4000000
namespace KW
open PySem PySem.Spec PyProof.Rows L2 Evl KM
theorem chain_nil (R : List Rule) (n : Nat) (W : Nat → Bool) : ChainOk R n W [] :=
  ⟨(fun _ z => nomatch z), (fun _ z => nomatch z), List.nodup_nil, (by rw [KM.cnt_nil] <;> rfl), founded_nil⟩
theorem ChainOk.snoc {R : List Rule} {n : Nat} {W : Nat → Bool} {L : List Nat} (w : ∀ r ∈ R, WfRule n r) (c : ChainOk R n W L) {h : Nat} {ps : List Part} (hr : (some h, ps) ∈ R) (hW : W h = true) (hn : mem L h = false) (hb : KM.body ps (mem L) W = true) :
    ChainOk R n W (L ++ [h]) where
  lt := fun t ht => by
    rcases List.mem_append.mp ht with z | z
    · exact c.lt t z
    · rw [List.mem_singleton] at z
      subst z
      exact (w _ hr).head t rfl
  sub := fun t ht => by
    rcases List.mem_append.mp ht with z | z
    · exact c.sub t z
    · rw [List.mem_singleton] at z
      subst z
      exact hW
  nd := by
    have hnm : h ∉ L := fun z => by
      have := mem_iff.mpr z
      rw [hn] at this
      cases this
    rw [List.nodup_append]
    refine ⟨c.nd, List.pairwise_singleton _ h, fun a ha b hb e => ?_⟩
    rw [List.mem_singleton] at hb
    rw [e, hb] at ha
    exact hnm ha
  len := by
    have h1 := cnt_snoc (L := L) ((w _ hr).head h rfl) hn
    have h2 := c.len
    rw [List.length_append, List.length_singleton]
    omega
  founded := founded_snoc c.founded hr hb
theorem bls_true {n : Nat} {L : List Nat} {h : Nat} (hh : h < n) : (bls n (mem L)).set h (.bl true) = bls n (mem (L ++ [h])) :=
  bls_set hh (mem_iff.mpr (List.mem_append_right _ List.mem_cons_self)) fun _ _ ht => mem_snoc_ne ht
section
variable {P : Program} {w : World} {K : Fg} {mg : Str → Option Value} {base : Heap}
theorem cal_chain (D : DefAt K mg "chain" sChain ["plain", "some"]) (cM : C8.Cal P w K mg base 1 "marks" (spMarks K) []) (cX : C8.Cal P w K mg base 5 "next_link" (spNext K) []) : C8.Cal P w K mg base 6 "chain" (spChain K) [] := by
  refine cal_of D scChain (fun vs H Q E h => ?_) (fun f cdv A outer s H vs Q E hr h => ?_)
  · obtain ⟨v, a, n, R, W, rfl, _⟩ := h
    rfl
  · obtain ⟨v, a, n, R, W, rfl, hv, hw, hS, q⟩ := h
    have hv0 := hv
    obtain ⟨x, l, rfl, hx, _⟩ := hv
    refine ⟨_, (pss_cons (ps_set (i := 2) scChain.nd rfl (Or.inl rfl) (C8.pe_c cM hr (by decide) (by rfl) (pa_cons (pe_ix ix_tup (pv 0) pe_int (fun _ _ => rfl)) (pa_cons (pv 1) pa_nil))))
      (pss_cons (ps_set (i := 3) scChain.nd rfl (Or.inl rfl) (C8.pe_c cM hr (by decide) (by rfl) (pa_cons (pe_ix ix_tup (pv 0) pe_int (fun _ _ => rfl)) (pa_cons (pe_lst pa_nil) pa_nil))))
      (pss_cons (ps_set (i := 4) scChain.nd rfl (Or.inl rfl) (pe_lst pa_nil))
      (pss_cons (ps_set (i := 5) scChain.nd rfl (Or.inl rfl) (C8.pe_c cX hr (by decide) (by rfl) (pa_cons (pv 0) (pa_cons (pv 3) (pa_cons (pv 2) pa_nil)))))
      (pss_cons (ps_while PassesOwn.never (pt_cmpR op_notN (pv 5) pe_non (nomark _)) (pss_cons (ps_expr (pe_bm PySem.F.plainAttrs_list PySem.F.slot_list_append PySem.F.type_list_append mt_append (pv 4) (pa_cons (pv 5) pa_nil)))
      (pss_cons (ps_asg pe_bl (pg_sub (pv 3) (pe_ix ix_tup (pv 5) pe_int (fun _ _ => rfl)) set_list))
      (pss_one (ps_set (i := 5) scChain.nd rfl (Or.inl rfl) (C8.pe_c cX hr (by decide) (by rfl) (pa_cons (pv 0) (pa_cons (pv 3) (pa_cons (pv 2) pa_nil)))))))))
      (pss_one (ps_ret (pv 4)))))))), ?_⟩
    refine q_asgL (el_marksA (ev_T (ev_var rfl) ev_c hx at0) (ev_var rfl) hS hw.many (fun t ht => (mem_nums.mp ht).1)) fun pw H1 hpw e1 h1 => ?_
    rw [marks_of] at h1
    refine q_asgL (el_marks (L := []) (ev_T (ev_var rfl) ev_c (ex_t e1 hx) at0) (el_lst ea_nil (by show 0 ≤ 100000; decide)) hw.many (fun _ z => nomatch z)) fun pr H2 hpr e2 h2 => ?_
    refine q_asgL (el_lst ea_nil (by show 0 ≤ 100000; decide)) fun pk H3 hpk e3 h3 => ?_
    have e13 := (e1.trans e2).trans e3
    have hpr1 : H1 pr = none := hpr
    have hpk1 : H1 pk = none := fresh_back e2 hpk
    have hrk : pr ≠ pk := ne_of_none h2 hpk
    -- link = next_link(plain, rising, world)
    refine ⟨_, rfl, _, rfl, _, rfl, _, pr, pw, n, R, mem [], W, rfl, hv0.mono e13, hw, sq_of (e3 _ _ h2), sq_of (e3 _ _ (e2 _ _ h1)), fun lv H4 e4 hlv => ?_⟩
    -- while link is not None
    refine q_while (fun m σ H5 => ∃ L : List Nat, ∃ us : List V, ∃ lv : V, σ = [some (.ref x), some (.ref a), some (.ref pw), some (.ref pr), some (.ref pk), some lv] ∧ Ex H1 H5 ∧ H5 pr = some (.lst (bls n (mem L))) ∧
        H5 pk = some (.lst us) ∧ us.length = L.length ∧ (∀ (i : Nat) v t, us[i]? = some v → L[i]? = some t → LinkAt K H5 v t) ∧ ChainOk R n W L ∧ NextV K R (mem L) W lv H5 ∧ m = cnt n (mem L))
      _ ⟨[], [], lv, rfl, (e2.trans e3).trans e4, e4 _ _ (e3 _ _ h2), e4 _ _ h3, rfl, (fun i v t z => by simp at z), chain_nil R n W, hlv, rfl⟩ ?_
    rintro m σ H5 ⟨L, us, lv, rfl, e5, hr5, hk5, hul, hua, hc, hnx, rfl⟩
    rcases hnx with ⟨rfl, hfull⟩ | ⟨T, h, mm, ps, rfl, hT, hrm, hW, hnm, hbd⟩
    · refine ⟨false, et_notN (ev_var rfl) (by decide +kernel), (fun z => nomatch z), fun _ H6 e6 => ?_⟩
      exact ⟨_, rfl, q pk H6 L (fresh_back e1 hpk1) ((e1.trans e5).trans e6) ⟨us, sq_of (e6 _ _ hk5), hul, fun i v t a1 a2 => (hua i v t a1 a2).mono e6⟩ hc hfull⟩
    · refine ⟨true, et_notN (ev_var rfl) (ref_ne_non T), (fun _ H6 e6 => ?_), fun z => nomatch z⟩
      have hhn : h < n := (hw.rules _ hrm).head h rfl
      have hLn : L.length ≤ n := by
        have := hc.len
        omega
      have hn8 := hw.many
      refine ⟨fun σ H7 => ∃ m', m' < cnt n (mem L) ∧ ∃ L : List Nat, ∃ us : List V, ∃ lv : V, σ = [some (.ref x), some (.ref a), some (.ref pw), some (.ref pr), some (.ref pk), some lv] ∧ Ex H1 H7 ∧ H7 pr = some (.lst (bls n (mem L))) ∧
        H7 pk = some (.lst us) ∧ us.length = L.length ∧ (∀ (i : Nat) v t, us[i]? = some v → L[i]? = some t → LinkAt K H7 v t) ∧ ChainOk R n W L ∧ NextV K R (mem L) W lv H7 ∧ m' = cnt n (mem L), fun _ _ z => z, ?_⟩
      have hk6 := e6 _ _ hk5
      have hr6 := e6 _ _ hr5
      have e16 := e5.trans e6
      -- links.append(link)
      refine q_app hk6 (ev_var rfl) (ev_var rfl) (by omega) fun H7 e7 => ?_
      have hk7 := e7 _ _ hk6
      have hr8 : upd H7 pk (.lst (us ++ [.ref T])) pr = some (.lst (bls n (mem L))) := by
        rw [upd_ne hrk]
        exact e7 _ _ hr6
      have e18 : Ex H1 (upd H7 pk (.lst (us ++ [.ref T]))) := (e16.trans e7).mut hpk1
      have hT8 : SqT K (upd H7 pk (.lst (us ++ [.ref T]))) T [.int ((h : Nat) : Int), .int mm] := st_upd (ex_t (e6.trans e7) hT) hk7
      have sn := ls_snoc (R := LinkAt K (upd H7 pk (.lst (us ++ [.ref T])))) (v := .ref T) (x := h) hul (fun i v t a1 a2 => (((hua i v t a1 a2).mono e6).mono e7).upd hk7) ⟨T, mm, rfl, hT8⟩
      -- rising[link[0]] = True
      refine q_setL hr8 ev_c (ev_var rfl) (ev_T (ev_var rfl) ev_c hT8 at0) (by rw [bls_len]; exact hhn) fun H9 e9 => ?_
      have hr9 := e9 _ _ hr8
      have hk10 : upd H9 pr (.lst ((bls n (mem L)).set h (.bl true))) pk = some (.lst (us ++ [.ref T])) := by
        rw [upd_ne hrk.symm]
        exact e9 _ _ upd_same
      have e110 : Ex H1 (upd H9 pr (.lst ((bls n (mem L)).set h (.bl true)))) := (e18.trans e9).mut hpr1
      have hr10 : upd H9 pr (.lst ((bls n (mem L)).set h (.bl true))) pr = some (.lst (bls n (mem (L ++ [h])))) := by rw [upd_same, bls_true hhn]
      -- link = next_link(plain, rising, world)
      refine ⟨_, rfl, _, rfl, _, rfl, _, pr, pw, n, R, mem (L ++ [h]), W, rfl, hv0.mono (e1.trans e110), hw, sq_of hr10, sq_of (e110 _ _ h1), fun lv H11 e11 hlv => ?_⟩
      refine ⟨cnt n (mem (L ++ [h])), ?_, L ++ [h], us ++ [.ref T], lv, rfl, e110.trans e11, e11 _ _ hr10, e11 _ _ hk10, sn.1, fun i v t a1 a2 => ((((sn.2 i v t a1 a2).mono e9).upd hr9).mono e11), hc.snoc hw.rules hrm hW hnm hbd, hlv, rfl⟩
      have := cnt_snoc (L := L) hhn hnm
      omega
theorem cal_built (D : DefAt K mg "built" sBuilt ["plain", "some"]) (B : Blt mg) (cC : C8.Cal P w K mg base 6 "chain" (spChain K) []) : C8.Cal P w K mg base 7 "built" (spBuilt K) [] := by
  refine cal_of D scBuilt (fun vs H Q E h => ?_) (fun f cdv A outer s H vs Q E hr h => ?_)
  · obtain ⟨v, a, n, R, W, rfl, _⟩ := h
    rfl
  · obtain ⟨v, a, n, R, W, rfl, hv, hw, hS, q⟩ := h
    refine ⟨_, (pss_one (ps_ret (pe_callB cr_sorted (by rfl) B.sorted (by decide +kernel) (pa_cons (pe_lc (own := [("thing", 2), ("number", 3)]) (g := gTup K 2 (gCons (gName 2) (gCons (gName 3) gNil))) (tt := tYes) (te := tVar 2) rfl scBuilt.nd  (pi_list (C8.pe_c cC hr (by decide) (by rfl) (pa_cons (pv 0) (pa_cons (pv 1) pa_nil)))) (blkOk_by (N := ["plain", "some", "thing", "number"]) (sc := L2.defScope sBuilt) (by decide +kernel)) (fun _ _ _ _ _ => (pg_tup rfl (pgs_cons (pg_name (i := 2) scBuilt.nd rfl (Or.inl rfl)) (pgs_cons (pg_name (i := 3) scBuilt.nd rfl (Or.inl rfl)) pgs_nil)))) (fun _ _ _ _ _ => pts_nil) (fun _ _ _ _ _ => (pv 2))) pa_nil)))), ?_⟩
    have key : ∀ (qa : Addr) (H1 : Hp) (L : List Nat), H qa = none → Ex H H1 → LsAt K H1 (LinkAt K H1) qa L → ChainOk R n W L → Full R (mem L) W →
        tLc (iList K (tC (.ref qa))) (gTup K 2 (gCons (gName 2) (gCons (gName 3) gNil))) tYes (tVar 2) [2, 3] [some v, some (.ref a), none, none] H1 fun y H2 => rSorted K [y] H2 Q := by
      rintro qa H1 L hqa e1 ⟨us, hl, hlen, hat⟩ hc hf
      have hln : L.length ≤ n := by
        have := hc.len
        omega
      have hn8 := hw.many
      have hel : EvL (tLc (iList K (tC (.ref qa))) (gTup K 2 (gCons (gName 2) (gCons (gName 3) gNil))) tYes (tVar 2) [2, 3]) [some v, some (.ref a), none, none] H1 (nvs L) := by
        have pick : ∀ i, i < us.length → ∃ T m, us[i]? = some (.ref T) ∧ SqT K H1 T [.int ((L.getD i 0 : Nat) : Int), .int m] := by
          intro i hi
          have hv : us[i]? = some us[i] := List.getElem?_eq_getElem hi
          obtain ⟨t, ht, _⟩ := ls_at hlen hv
          obtain ⟨T, m, e, hT⟩ := hat i _ t hv ht
          refine ⟨T, m, by rw [hv, e], ?_⟩
          rw [List.getD_eq_getElem?_getD, ht]
          exact hT
        refine EvL.cast (el_lcG (K := K) (a := qa) (xs := us) (fun _ => true) (fun i => .int ((L.getD i 0 : Nat) : Int)) (fun i => [some v, some (.ref a), some (.int ((L.getD i 0 : Nat) : Int)), some (if h : i < us.length then .int (pick i h).choose_spec.choose else .non)])
          ev_c hl (by omega) (fun i y H2 Q' e2 hy q' => ?_) (fun _ _ => rfl) (fun i H2 e2 hi => et_yes) (fun i H2 e2 hi _ => ev_var rfl)) ?_
        · have hi := (List.getElem?_eq_some_iff.mp hy).1
          have sp := (pick i hi).choose_spec.choose_spec
          have ey := Option.some.inj (hy.symm.trans sp.1)
          rw [ey]
          refine g_two (ex_t e2 sp.2) ?_
          have q2 := q'
          simp only [hi, dif_pos] at q2
          exact q2
        · have := given_list L 0 (fun _ => true) (fun t : Nat => V.int ((t : Nat) : Int))
          rw [hlen, this, List.filter_eq_self.mpr fun _ _ => rfl] <;> rfl
      refine hel H1 (Ex.refl H1) _ fun p H2 hp e2 h2 => ⟨p, L.map fun i => ((i : Nat) : Int), rfl, sq_of (by rw [h2, nvs_map]), by rw [List.length_map]; omega, fun ns r hperm hsort hr => ?_⟩
      have e3 : ns = (nums n (mem L)).map fun i => ((i : Nat) : Int) := sorted_perm hperm hsort (List.Pairwise.map _ (fun a b (hab : a ≠ b) => by omega) hc.nd) fun k => by
        rw [List.mem_map]
        constructor
        · rintro ⟨t, ht, rfl⟩
          exact ⟨t, hc.lt t ht, mem_iff.mpr ht, rfl⟩
        · rintro ⟨t, _, ht, rfl⟩
          exact ⟨t, mem_iff.mp ht, rfl⟩
      refine q r _ L (fresh_back (e1.trans e2) hr) ((e1.trans e2).trans (Ex.new hr)) ?_ hc hf
      rw [upd_same, e3, nvs_map]
    exact ⟨_, rfl, _, rfl, v, a, n, R, W, rfl, hv, hw, hS, key⟩
theorem cal_group (D : DefAt K mg "group" sGroup ["plain", "some"]) (cM : C8.Cal P w K mg base 1 "marks" (spMarks K) []) (cN : C8.Cal P w K mg base 1 "numbers" (spNumbers K) []) (cU : C8.Cal P w K mg base 7 "built" (spBuilt K) []) : C8.Cal P w K mg base 8 "group" (spGroup K) [] := by
  refine cal_of D scGroup (fun vs H Q E h => ?_) (fun f cdv A outer s H vs Q E hr h => ?_)
  · obtain ⟨v, a, n, R, W, rfl, _⟩ := h
    rfl
  · obtain ⟨v, a, n, R, W, rfl, hv, hw, hS, q⟩ := h
    have hv0 := hv
    obtain ⟨x, l, rfl, hx, _⟩ := hv
    refine ⟨_, (pss_cons (ps_set (i := 2) scGroup.nd rfl (Or.inl rfl) (C8.pe_c cM hr (by decide) (by rfl) (pa_cons (pe_ix ix_tup (pv 0) pe_int (fun _ _ => rfl)) (pa_cons (pv 1) pa_nil))))
      (pss_cons (ps_for PassesOwn.never rfl (pi_list (C8.pe_c cU hr (by decide) (by rfl) (pa_cons (pv 0) (pa_cons (pv 1) pa_nil)))) (pg_name (i := 3) scGroup.nd rfl (Or.inl rfl)) (pss_one (ps_asg pe_bl (pg_sub (pv 2) (pv 3) set_list))))
      (pss_one (ps_ret (C8.pe_c cN hr (by decide) (by rfl) (pa_cons (pv 2) pa_nil)))))), ?_⟩
    refine q_asgL (el_marksA (ev_T (ev_var rfl) ev_c hx at0) (ev_var rfl) hS hw.many (fun t ht => (mem_nums.mp ht).1)) fun p H1 hp e1 h1 => ?_
    rw [marks_of] at h1
    -- for thing in built(plain, some)
    refine ⟨_, rfl, _, rfl, _, a, n, R, W, rfl, hv0.mono e1, hw, ex_l e1 hS, fun qb H2 L hqb e2 h2 hc hf => ?_⟩
    have hbp : qb ≠ p := (ne_of_none h1 hqb).symm
    refine ⟨qb, rfl, ⟨_, sq_of h2⟩, for_list (K := K) (a := qb) (xs := nvs (nums n (mem L)))
      (fun i σ H3 => ∃ v3, σ = [some (.ref x), some (.ref a), some (.ref p), v3] ∧ Ex H H3 ∧ H3 qb = some (.lst (nvs (nums n (mem L)))) ∧ H3 p = some (.lst (bls n fun t => W t && !mem ((nums n (mem L)).take i) t)))
      ⟨none, rfl, e1.trans e2, h2, ?_⟩ (fun i σ H3 _ ⟨_, _, _, h3, _⟩ => sq_of h3) ?_ ?_⟩
    · rw [e2 _ _ h1]
      congr 2
      exact bls_congr fun t _ => by
        show W t = (W t && !mem [] t)
        rw [show mem [] t = false from rfl, Bool.not_false, Bool.and_true]
    · rintro i y σ H3 hy ⟨v3, rfl, e3, hb3, h3⟩
      obtain ⟨t, ht, rfl⟩ := nvs_get hy
      have htn : t < n := (mem_nums.mp (List.mem_of_getElem? ht)).1
      refine s_setL h3 ev_c (ev_var rfl) (ev_var rfl) (by rw [bls_len]; exact htn) fun H4 e4 => ⟨_, rfl, (e3.trans e4).mut hp, ?_, ?_⟩
      · rw [upd_ne hbp]
        exact e4 _ _ hb3
      · rw [upd_same, List.take_add_one, ht]
        refine congrArg (fun z => some (HO.lst z)) (bls_set htn ?_ fun u _ hu => ?_)
        · show (W t && !mem ((nums n (mem L)).take i ++ [t]) t) = false
          rw [mem_iff.mpr (List.mem_append_right _ List.mem_cons_self)]
          cases W t <;> rfl
        · show (W u && !mem ((nums n (mem L)).take i ++ [t]) u) = (W u && !mem ((nums n (mem L)).take i) u)
          rw [mem_snoc_ne hu]
    · rintro σ H3 ⟨v3, rfl, e3, hb3, h3⟩
      have h3' : H3 p = some (.lst (bls n fun t => W t && !mem L t)) := by
        rw [h3, nvs_len, List.take_of_length_le (Nat.le_refl _)]
        refine congrArg (fun z => some (HO.lst z)) (bls_congr fun t ht => ?_)
        rw [mem_nums_eq ht]
      refine s_retL (el_numbers (ev_var rfl) (sq_of h3') hw.many) fun r H4 hr4 e4 h4 => ?_
      exact q r H4 L (e3.trans e4) h4 hc hf
theorem cal_judged (D : DefAt K mg "judged" sJudged ["plain", "some"]) (B : Blt mg) (cF : C8.Cal P w K mg base 6 "first_broken" (spFirst K) []) (cG : C8.Cal P w K mg base 8 "group" (spGroup K) []) (cC : C8.Cal P w K mg base 6 "chain" (spChain K) []) :
    C8.Cal P w K mg base 9 "judged" (spJudged K) [] := by
  refine cal_of D scJudged (fun vs H Q E h => ?_) (fun f cdv A outer s H vs Q E hr h => ?_)
  · obtain ⟨v, a, n, R, W, rfl, _⟩ := h
    rfl
  · obtain ⟨v, a, n, R, W, rfl, hv, hw, hS, q⟩ := h
    refine ⟨_, (pss_cons (ps_set (i := 2) scJudged.nd rfl (Or.inl rfl) (C8.pe_c cF hr (by decide) (by rfl) (pa_cons (pv 0) (pa_cons (pv 1) pa_nil))))
      (pss_cons (ps_if (pt_cmpR op_notN (pv 2) pe_non (nomark _)) (pss_one (ps_ret (pe_tup (pa_cons pe_str (pa_cons (pv 2) pa_nil))))) pss_nil)
      (pss_cons (ps_set (i := 3) scJudged.nd rfl (Or.inl rfl) (C8.pe_c cG hr (by decide) (by rfl) (pa_cons (pv 0) (pa_cons (pv 1) pa_nil))))
      (pss_cons (ps_if (pt_cmpR op_gt (pe_callB call_len_seq (by rfl) B.len (by decide +kernel) (pa_cons (pv 3) pa_nil)) pe_int (nomark _)) (pss_one (ps_ret (pe_tup (pa_cons pe_str (pa_cons (pv 3) pa_nil))))) pss_nil)
      (pss_one (ps_ret (pe_tup (pa_cons pe_str (pa_cons (C8.pe_c cC hr (by decide) (by rfl) (pa_cons (pv 0) (pa_cons (pv 1) pa_nil))) pa_nil))))))))), ?_⟩
    refine ⟨_, rfl, _, rfl, v, a, n, R, W, rfl, hv, hw, hS, fun bv H1 e1 hbv => ?_⟩
    rcases hbv with ⟨rfl, hno⟩ | ⟨i, r, rfl, hi, hbr⟩
    · refine q_when (b := false) (et_notN (ev_var rfl) (by decide +kernel)) (fun z => nomatch z) (fun _ H2 e2 => ?_)
      have e12 := e1.trans e2
      refine ⟨_, rfl, _, rfl, v, a, n, R, W, rfl, hv.mono e12, hw, ex_l e12 hS, fun g H3 L e3 h3 hc hf => ?_⟩
      have e13 := e12.trans e3
      have hlen : Ev (tCB (rLenS K) (tCons (tVar 3) tNil)) [some v, some (.ref a), some .non, some (.ref g)] H3 (.int (((nvs (nums n fun t => W t && !mem L t)).length : Nat) : Int)) := ev_len (ev_var rfl) (sq_of h3)
      refine q_when (b := decide ((0 : Int) < (((nvs (nums n fun t => W t && !mem L t)).length : Nat) : Int))) (et_test (ev_op hlen ev_c rv_gt)) (fun hb H4 e4 => ?_) (fun hb H4 e4 => ?_)
      · refine s_retU (eu_tup (ea_cons ev_c (ea_cons (ev_var rfl) ea_nil)) (by show 2 ≤ 100000; decide)) fun p H5 hp e5 h5 => ?_
        refine q _ H5 ((e13.trans e4).trans e5) ⟨p, rfl, .inr ⟨hno, L, hc, hf, .inl ⟨g, st_of h5, sq_of (e5 _ _ (e4 _ _ h3)), fun z => ?_⟩⟩⟩
        rw [z] at hb
        cases hb
      · have hz : nums n (fun t => W t && !mem L t) = [] := by
          have := of_decide_eq_false hb
          rw [nvs_len] at this
          exact List.eq_nil_of_length_eq_zero (by omega)
        refine ⟨_, rfl, _, rfl, v, a, n, R, W, rfl, hv.mono (e13.trans e4), hw, ex_l (e13.trans e4) hS, fun g2 H5 L2 hg2 e5 _ _ _ => ?_⟩
        refine ⟨by show 2 ≤ sizeLine; decide, fun p hp => ?_⟩
        exact q _ _ (((e13.trans e4).trans e5).trans (Ex.new hp)) ⟨p, rfl, .inr ⟨hno, L, hc, hf, .inr ⟨g2, st_of upd_same, hz⟩⟩⟩
    · refine q_when (b := true) (et_notN (ev_var rfl) (int_ne_non _)) (fun _ H2 e2 => ?_) (fun z => nomatch z)
      refine s_retU (eu_tup (ea_cons ev_c (ea_cons (ev_var rfl) ea_nil)) (by show 2 ≤ 100000; decide)) fun p H5 hp e5 h5 => ?_
      exact q _ H5 ((e1.trans e2).trans e5) ⟨p, rfl, .inl ⟨i, r, st_of h5, hi, hbr⟩⟩
end
end KW

-- K10
set_option Elab.async false
set_option linter.all false
set_option maxRecDepth 100000
set_option maxHeartbeats 4000000
namespace KW
open PySem PySem.Spec PyProof.Rows L2 Evl KM
/-! ### the law's own defs: numbers out of the script -/
abbrev sCell : Stmt := top 27
abbrev sWhole : Stmt := top 28
abbrev sMixed : Stmt := top 29
abbrev sTruths : Stmt := top 30
theorem scCell : FnScope ["_law_script", "_law_k"] ["_law_script", "_law_k"] (L2.defScope sCell) := ⟨rfl, rfl, rfl, by decide +kernel, rfl, by decide +kernel, by decide +kernel⟩
theorem scWhole : FnScope ["_law_found"] ["_law_found"] (L2.defScope sWhole) := ⟨rfl, rfl, rfl, by decide +kernel, rfl, by decide +kernel, by decide +kernel⟩
theorem scMixed : FnScope ["_law_cell", "_law_k", "_law_factor", "_law_prime"] ["_law_cell", "_law_k"] (L2.defScope sMixed) := ⟨rfl, rfl, rfl, by decide +kernel, rfl, by decide +kernel, by decide +kernel⟩
theorem scTruths : FnScope ["_law_cell", "_law_many", "_law_k", "_law_factor", "_law_bits", "_law_place"] ["_law_cell", "_law_many", "_law_k"] (L2.defScope sTruths) := ⟨rfl, rfl, rfl, by decide +kernel, rfl, by decide +kernel, by decide +kernel⟩
def spLCell (K : Fg) : Sp := fun vs H Q _ => ∃ (a : Addr) (ns : List Int), vs = [.ref a, .int 0] ∧ SqL K H a (ns.map V.int) ∧ ∀ (z : Int) H', Ex H H' → Q (.int z) H'
def spWhole : Sp := fun vs H Q _ => ∃ i : Int, vs = [.int i] ∧ ∀ H', Ex H H' → Q (.bl true) H'
def spMixed : Sp := fun vs H Q _ => ∃ (c : Int) (k : Nat), vs = [.int c, .int ((k : Nat) : Int)] ∧ k ≤ 5 ∧ ∀ (z : Int) H', 0 ≤ z → Ex H H' → Q (.int z) H'
def spTruths (K : Fg) : Sp := fun vs H Q _ => ∃ (c : Int) (n : Nat), vs = [.int c, .int ((n : Nat) : Int), .int 0] ∧ n ≤ 8 ∧ ∀ (p : Addr) (s : Nat → Bool) H', Ex H H' → H' p = some (.lst (bls n s)) → Q (.ref p) H'
section
variable {H : Hp}
theorem rv_mod {i j : Int} (h : 0 < j) : RV (rI (fun _ j => 0 < j) fun i j => .int (i % j)) (.int i) (.int j) H (.int (i % j)) := rv_I h
theorem rv_div {i j : Int} (h : 0 < j) (h2 : j < 1073741824) : RV (rI CDiv fun i j => .int (i / j)) (.int i) (.int j) H (.int (i / j)) := rv_I ⟨h, h2⟩
theorem rv_mul {i j : Int} (h : -(2 ^ 64) < i) (h2 : i < 2 ^ 64) : RV (rI CMul fun i j => .int (i * j)) (.int i) (.int j) H (.int (i * j)) := rv_I (.inl ⟨h, h2⟩)
theorem rv_pow {i j : Int} (h : CPow i j) : RV (rI CPow fun i j => .int (i ^ j.toNat)) (.int i) (.int j) H (.int (i ^ j.toNat)) := rv_I h
theorem rv_shr {i j : Int} (h : 0 ≤ j) : RV (rI (fun _ j => 0 ≤ j) fun i j => .int (i / 2 ^ j.toNat)) (.int i) (.int j) H (.int (i / 2 ^ j.toNat)) := rv_I h
theorem rv_and {i j : Int} : RV (rI0 fun i j => .int (Builtin.bitAnd i j)) (.int i) (.int j) H (.int (Builtin.bitAnd i j)) := rv_I0
/-- an item of a list that is written on the way -/
theorem ev_menu {K : Fg} {σ : L2.St} {ta tb : TE} {xs : List V} {k : Nat} {v : V} (h : EvL ta σ H xs) (hi : Ev tb σ H (.int ((k : Nat) : Int))) (hv : xs[k]? = some v) : Ev (tOp (rIxL K) ta tb) σ H v :=
  ev_opL1 h (fun H1 e => hi.mono e) fun p H1 hp _ => rv_ixL (sq_of hp) (atI_nat hv)
theorem ten18 : ((10 : Int) ^ (18 : Int).toNat) = 1000000000000000000 := by decide +kernel
theorem six {k : Nat} (h : k ≤ 5) (a0 a1 a2 a3 a4 a5 : Int) : ∃ z, ([.int a0, .int a1, .int a2, .int a3, .int a4, .int a5] : List V)[k]? = some (.int z) ∧ (z = a0 ∨ z = a1 ∨ z = a2 ∨ z = a3 ∨ z = a4 ∨ z = a5) := by
  match k, h with
  | 0, _ => exact ⟨_, rfl, .inl rfl⟩
  | 1, _ => exact ⟨_, rfl, .inr (.inl rfl)⟩
  | 2, _ => exact ⟨_, rfl, .inr (.inr (.inl rfl))⟩
  | 3, _ => exact ⟨_, rfl, .inr (.inr (.inr (.inl rfl)))⟩
  | 4, _ => exact ⟨_, rfl, .inr (.inr (.inr (.inr (.inl rfl))))⟩
  | 5, _ => exact ⟨_, rfl, .inr (.inr (.inr (.inr (.inr rfl))))⟩
  | k + 6, h => omega
theorem el_ints {σ : L2.St} {ta : TA} {vs : List V} (h : EvA ta σ H vs) (hl : vs.length ≤ 100000) : EvL (tLst ta) σ H vs := el_lst h hl
end
section
variable {P : Program} {w : World} {K : Fg} {mg : Str → Option Value} {base : Heap}
theorem cal_lcell (D : DefAt K mg "_law_cell_at" sCell ["_law_script", "_law_k"]) (B : Blt mg) : C8.Cal P w K mg base 1 "_law_cell_at" (spLCell K) [] := by
  refine cal_of D scCell (fun vs H Q E h => ?_) (fun f cdv A outer s H vs Q E hr h => ?_)
  · obtain ⟨a, ns, rfl, _⟩ := h
    rfl
  · obtain ⟨a, ns, rfl, hS, q⟩ := h
    refine ⟨_, (pss_cons (ps_if (pt_cmpR op_lt (pv 1) (pe_callB call_len_seq (by rfl) B.len (by decide +kernel) (pa_cons (pv 0) pa_nil)) (nomark _)) (pss_one (ps_ret (pe_ix ix_list (pv 0) (pv 1) (fun _ _ => rfl)))) pss_nil)
      (pss_one (ps_ret pe_int))), ?_⟩
    have hlen : Ev (tCB (rLenS K) (tCons (tVar 0) tNil)) [some (.ref a), some (.int 0)] H (.int (((ns.map V.int).length : Nat) : Int)) := ev_len (ev_var rfl) hS
    refine q_when (b := decide ((0 : Int) < (((ns.map V.int).length : Nat) : Int))) (et_test (ev_op (ev_var rfl) hlen rv_lt)) (fun hb H1 e1 => ?_) (fun _ H1 e1 => ?_)
    · cases ns with
      | nil => cases hb
      | cons z r => exact s_ret (ev_L (ev_var rfl) (ev_var rfl) (ex_l e1 hS) at0) fun H2 e2 => q z H2 (e1.trans e2)
    · exact q 0 H1 e1
theorem cal_whole (D : DefAt K mg "_law_whole" sWhole ["_law_found"]) (B : Blt mg) : C8.Cal P w K mg base 1 "_law_whole" spWhole [] := by
  refine cal_of D scWhole (fun vs H Q E h => ?_) (fun f cdv A outer s H vs Q E hr h => ?_)
  · obtain ⟨i, rfl, _⟩ := h
    rfl
  · obtain ⟨i, rfl, q⟩ := h
    refine ⟨_, (pss_one (ps_ret (pe_and (pe_callB call_isi (by rfl) B.isi (by decide +kernel) (pa_cons (pv 0) (pa_cons (pe_bltn (v := .ty "int") (by rfl) B.int boot_int rfl) pa_nil))) (pe_one (pe_not (pe_callB call_isi (by rfl) B.isi (by decide +kernel) (pa_cons (pv 0) (pa_cons (pe_bltn (v := .ty "bool") (by rfl) B.bool boot_bool rfl) pa_nil)))))))), ?_⟩
    refine ⟨_, rfl, _, _, _, _, true, rfl, .ty "int", .base (.int i), kit_ty (by decide +kernel), true, rfl, iteT ?_⟩
    refine ⟨_, rfl, _, _, _, _, false, rfl, .ty "bool", .base (.int i), kit_ty (by decide +kernel), false, rfl, ?_⟩
    exact q H (Ex.refl H)
theorem cal_mixed (D : DefAt K mg "_law_mixed" sMixed ["_law_cell", "_law_k"]) : C8.Cal P w K mg base 1 "_law_mixed" spMixed [] := by
  refine cal_of D scMixed (fun vs H Q E h => ?_) (fun f cdv A outer s H vs Q E hr h => ?_)
  · obtain ⟨c, k, rfl, _⟩ := h
    rfl
  · obtain ⟨c, k, rfl, hk, q⟩ := h
    refine ⟨_, (pss_cons (ps_set (i := 2) scMixed.nd rfl (Or.inl rfl) (pe_ix ix_list (pe_lst (pa_cons pe_int (pa_cons pe_int (pa_cons pe_int (pa_cons pe_int (pa_cons pe_int (pa_cons pe_int pa_nil))))))) (pv 1) (fun _ _ => rfl)))
      (pss_cons (ps_set (i := 3) scMixed.nd rfl (Or.inl rfl) (pe_ix ix_list (pe_lst (pa_cons pe_int (pa_cons pe_int (pa_cons pe_int (pa_cons pe_int (pa_cons pe_int (pa_cons pe_int pa_nil))))))) (pv 1) (fun _ _ => rfl)))
      (pss_one (ps_ret (pe_op op_mod (pe_op op_mul (pe_op op_add (pe_op op_mod (pv 0) (pe_op op_pow pe_int pe_int)) pe_int) (pv 2)) (pv 3)))))), ?_⟩
    obtain ⟨z1, h1, _⟩ := six hk 742938285 950706377 1226874159 1343714439 630360017 1389796131
    obtain ⟨z2, h2, h2'⟩ := six hk 2147483647 2147483629 2147483587 2147483579 2147483563 2147483549
    have hp : 0 < z2 := by omega
    refine q_asg (ev_menu (el_ints (ea_cons ev_c (ea_cons ev_c (ea_cons ev_c (ea_cons ev_c (ea_cons ev_c (ea_cons ev_c ea_nil)))))) (by show 6 ≤ 100000; decide)) (ev_var rfl) h1) fun H1 e1 => ?_
    refine q_asg (ev_menu (el_ints (ea_cons ev_c (ea_cons ev_c (ea_cons ev_c (ea_cons ev_c (ea_cons ev_c (ea_cons ev_c ea_nil)))))) (by show 6 ≤ 100000; decide)) (ev_var rfl) h2) fun H2 e2 => ?_
    have hb := Int.emod_nonneg c (show ((10 : Int) ^ (18 : Int).toNat) ≠ 0 by rw [ten18]; decide)
    have hb2 := Int.emod_lt_of_pos c (show 0 < ((10 : Int) ^ (18 : Int).toNat) by rw [ten18]; decide)
    rw [ten18] at hb2
    refine s_ret (ev_op (ev_op (ev_op (ev_op (ev_var rfl) (ev_op ev_c ev_c (rv_pow ⟨by decide, by decide, by decide⟩)) (rv_mod (by rw [ten18]; decide))) ev_c rv_add) (ev_var rfl) (rv_mul (by omega) (by rw [ten18]; omega))) (ev_var rfl) (rv_mod hp)) fun H3 e3 => ?_
    exact q _ H3 (Int.emod_nonneg _ (by omega)) ((e1.trans e2).trans e3)
theorem cal_truths (D : DefAt K mg "_law_truths" sTruths ["_law_cell", "_law_many", "_law_k"]) (B : Blt mg) : C8.Cal P w K mg base 1 "_law_truths" (spTruths K) [] := by
  refine cal_of D scTruths (fun vs H Q E h => ?_) (fun f cdv A outer s H vs Q E hr h => ?_)
  · obtain ⟨c, n, rfl, _⟩ := h
    rfl
  · obtain ⟨c, n, rfl, hn, q⟩ := h
    refine ⟨_, (pss_cons (ps_set (i := 3) scTruths.nd rfl (Or.inl rfl) (pe_ix ix_list (pe_lst (pa_cons pe_int (pa_cons pe_int (pa_cons pe_int (pa_cons pe_int pa_nil))))) (pv 2) (fun _ _ => rfl)))
      (pss_cons (ps_set (i := 4) scTruths.nd rfl (Or.inr rfl) (pe_op op_mod (pe_op op_mul (pe_op op_add (pe_op op_mod (pv 0) (pe_op op_pow pe_int pe_int)) pe_int) (pv 3)) pe_int))
      (pss_one (ps_ret (pe_lc (own := [("_law_place", 5)]) (g := gName 5) (tt := tYes) (te := tOp rEq (tOp (rI0 fun i j => .int (Builtin.bitAnd i j)) (tOp (rI (fun _ j => 0 ≤ j) fun i j => .int (i / 2 ^ j.toNat)) (tVar 4) (tVar 5)) (tC (.int 1))) (tC (.int 1))) rfl scTruths.nd (pi_range1 (by rfl) B.range (pa_cons (pv 1) pa_nil)) (blkOk_by (N := ["_law_cell", "_law_many", "_law_k", "_law_factor", "_law_bits", "_law_place"]) (sc := L2.defScope sTruths) (by decide +kernel)) (fun _ _ _ _ _ => (pg_name (i := 5) scTruths.nd rfl (Or.inl rfl))) (fun _ _ _ _ _ => pts_nil) (fun _ _ _ _ _ => (pe_cmpR op_eq (pe_op op_and (pe_op op_shr (pv 4) (pv 5)) pe_int) pe_int (nomark _)))))))), ?_⟩
    refine q_asg (ev_menu (k := 0) (el_ints (ea_cons ev_c (ea_cons ev_c (ea_cons ev_c (ea_cons ev_c ea_nil)))) (by show 4 ≤ 100000; decide)) (ev_var rfl) rfl) fun H1 e1 => ?_
    have hb := Int.emod_nonneg c (show ((10 : Int) ^ (18 : Int).toNat) ≠ 0 by rw [ten18]; decide)
    have hb2 := Int.emod_lt_of_pos c (show 0 < ((10 : Int) ^ (18 : Int).toNat) by rw [ten18]; decide)
    rw [ten18] at hb2
    refine q_asg (ev_op (ev_op (ev_op (ev_op (ev_var rfl) (ev_op ev_c ev_c (rv_pow ⟨by decide, by decide, by decide⟩)) (rv_mod (by rw [ten18]; decide))) ev_c rv_add) (ev_var rfl) (rv_mul (by omega) (by rw [ten18]; omega))) ev_c (rv_mod (by decide))) fun H2 e2 => ?_
    refine s_retL (EvL.cast (el_lcR1 (n := ((n : Nat) : Int)) (fun _ => true) (fun i => .bl (decide (V.int (Builtin.bitAnd (((c % 10 ^ (18 : Int).toNat + 1) * 1234567890123456789 % 2305843009213693951) / 2 ^ ((i : Nat) : Int).toNat) 1) = V.int 1))) (ea_cons (ev_var rfl) ea_nil) ⟨by omega, by omega⟩ (fun _ => rfl) (fun _ _ _ _ => et_yes)
      (fun i H3 e3 hi _ => ev_op (ev_op (ev_op (ev_var rfl) (ev_var rfl) (rv_shr (by omega))) ev_c rv_and) ev_c (rv_eq rfl))) (ys := bls n fun i => decide (V.int (Builtin.bitAnd (((c % 10 ^ (18 : Int).toNat + 1) * 1234567890123456789 % 2305843009213693951) / 2 ^ ((i : Nat) : Int).toNat) 1) = V.int 1)) (given_all _ _)) fun p H3 hp e3 h3 => ?_
    exact q p _ H3 ((e1.trans e2).trans e3) h3
end
end KW

-- K11
set_option Elab.async false
set_option linter.all false
set_option maxRecDepth 100000
set_option maxHeartbeats 4000000
namespace KW
open PySem PySem.Spec PyProof.Rows L2 Evl KM
/-! ### what is new behind H -/
def newer (H H' : Hp) : Hp := fun a => if (H a).isSome = true then none else H' a
section
variable {H H0 H' H'' : Hp} {a p : Addr} {o u : HO}
theorem newer_some (h : newer H H' a = some o) : H a = none ∧ H' a = some o := by
  unfold newer at h
  cases e : H a with
  | none =>
    rw [e] at h
    exact ⟨rfl, h⟩
  | some x =>
    rw [e] at h
    cases h
theorem newer_of (h0 : H a = none) (h1 : H' a = some o) : newer H H' a = some o := by
  unfold newer
  rw [h0]
  exact h1
theorem newer_ex : Ex (newer H H') H' := fun a o h => (newer_some h).2
theorem newer_step (e : Ex H' H'') : Ex (newer H H') (newer H H'') := fun a o h => newer_of (newer_some h).1 (e a o (newer_some h).2)
theorem newer_low (e : Ex H0 H) : Ex (newer H H') (newer H0 H') := fun a o h => newer_of (fresh_back e (newer_some h).1) (newer_some h).2
theorem newer_upd (h : H p = some u) : Ex (newer H H') (newer H (upd H' p o)) := fun a x e => by
  have ha := (newer_some e).1
  have hne : a ≠ p := fun z => by rw [z, h] at ha; cases ha
  exact newer_of ha (by rw [upd_ne hne]; exact (newer_some e).2)
end
/-! ### a comprehension whose items are made anew -/
theorem lc_new {K : Fg} {σ : L2.St} {H : Hp} {te : TE} {g : TG} {vs : List Nat} {a : Addr} {xs : List V} {tl : TE} (Rl : Hp → V → Nat → Prop) (hR : ∀ (H1 H2 : Hp) (v : V) (i : Nat), Ex H1 H2 → Rl H1 v i → Rl H2 v i) (τ : Nat → L2.St) (h : Ev tl σ H (.ref a)) (hx : SqL K H a xs) (hz : xs.length ≤ 40000)
    (hg : ∀ (i : Nat) x H1 (Q : L2.St → Hp → Prop), Ex H H1 → xs[i]? = some x → Q (τ i) H1 → g x (wipe σ vs) H1 Q) (hw : ∀ i, i < xs.length → wipe (τ i) vs = wipe σ vs)
    (he : ∀ (i : Nat) H1, Ex H H1 → i < xs.length → ∀ Q : VK, (∀ v H2, Ex H1 H2 → Rl (newer H1 H2) v i → Q v H2) → te (τ i) H1 Q) {Q : VK}
    (q : ∀ p H' ys, H p = none → Ex H H' → H' p = some (.lst ys) → ys.length = xs.length → (∀ (i : Nat) v, ys[i]? = some v → Rl (newer H H') v i) → Q (.ref p) H') : tLc (iList K tl) g tYes te vs σ H Q :=
  h H (Ex.refl H) _ fun H1 e1 => ⟨a, rfl, ⟨xs, ex_l e1 hx⟩, fun Dl hD => by
    have eD : Ex H1 (upd H1 Dl (.lst [])) := Ex.new hD
    refine lc_list (xs := xs) (fun i H' => Ex H1 H' ∧ ∃ ys, H' Dl = some (.lst ys) ∧ ys.length = i ∧ ∀ (j : Nat) v, ys[j]? = some v → Rl (newer (upd H1 Dl (.lst [])) H') v j) ⟨eD, [], upd_same, rfl, fun j v z => by simp at z⟩
      (fun i H' _ p => ex_l (e1.trans p.1) hx) (fun i x H' hi p => ?_) (fun H' p => ?_)
    · obtain ⟨p1, ys, p2, p3, p4⟩ := p
      have hlt := (List.getElem?_eq_some_iff.mp hi).1
      refine hg i x H' _ (e1.trans p1) hi ⟨hw i hlt, ?_⟩
      refine (he i H' (e1.trans p1) hlt _ fun v H2 e2 r => ⟨ys, e2 _ _ p2, sz_lt (by omega), (p1.trans e2).mut hD, ys ++ [v], upd_same, by rw [List.length_append, p3] <;> rfl, fun j y hy => ?_⟩)
      · have eold : Ex (newer (upd H1 Dl (.lst [])) H') (newer (upd H1 Dl (.lst [])) (upd H2 Dl (.lst (ys ++ [v])))) := (newer_step e2).trans (newer_upd upd_same)
        by_cases hj : j < ys.length
        · rw [List.getElem?_append_left hj] at hy
          exact hR _ _ _ _ eold (p4 j y hy)
        · have hlt2 := (List.getElem?_eq_some_iff.mp hy).1
          rw [List.length_append, List.length_singleton] at hlt2
          have ej : j = ys.length := by omega
          rw [ej, List.getElem?_append_right (Nat.le_refl _), Nat.sub_self] at hy
          have ey : v = y := Option.some.inj hy
          rw [← ey, ej, p3]
          refine hR _ _ _ _ (Ex.trans (fun b o hb => ?_) (newer_upd (u := .lst []) (H := upd H1 Dl (.lst [])) upd_same)) r
          obtain ⟨n1, n2⟩ := newer_some hb
          have hbD : b ≠ Dl := fun z => by rw [z, p2] at n1; cases n1
          refine newer_of ?_ n2
          rw [upd_ne hbD]
          exact fresh_back p1 n1
    · obtain ⟨p1, ys, p2, p3, p4⟩ := p
      exact q Dl H' ys (fresh_back e1 hD) (e1.trans p1) p2 p3 fun i v hv => hR _ _ _ _ (newer_low (e1.trans eD)) (p4 i v hv)⟩
end KW

-- K12
set_option Elab.async false
set_option linter.all false
set_option maxRecDepth 100000
set_option maxHeartbeats 4000000
namespace KW
open PySem PySem.Spec PyProof.Rows L2 Evl KM
/-! ### the law's own defs: parts and rules out of numbers -/
abbrev sLPart : Stmt := top 31
abbrev sLRule : Stmt := top 32
theorem scLPart : FnScope ["_law_number", "_law_many", "_law_great", "_law_sort", "_law_bound", "_law_items", "_law_k"] ["_law_number", "_law_many", "_law_great"] (L2.defScope sLPart) := ⟨rfl, rfl, rfl, by decide +kernel, rfl, by decide +kernel, by decide +kernel⟩
theorem scLRule : FnScope ["_law_cell", "_law_many", "_law_words", "_law_mixed_here", "_law_great", "_law_parts", "_law_k", "_law_word"] ["_law_cell", "_law_many", "_law_words"] (L2.defScope sLRule) := ⟨rfl, rfl, rfl, by decide +kernel, rfl, by decide +kernel, by decide +kernel⟩
def spLPart (K : Fg) : Sp := fun vs H Q _ => ∃ (z : Int) (n : Nat) (g : Int), vs = [.int z, .int ((n : Nat) : Int), .int g] ∧ 0 ≤ z ∧ n ≤ 8 ∧ 0 ≤ g ∧
  ∀ (v : V) (p : Part) H', Ex H H' → PartAt K (newer H H') v p → WfPart n p → Q v H'
def spLRule (K : Fg) : Sp := fun vs H Q _ => ∃ (c : Int) (n : Nat) (a : Addr), vs = [.int c, .int ((n : Nat) : Int), .ref a] ∧ SqL K H a [.str "make", .str "make", .str "make", .str "never"] ∧ n ≤ 8 ∧
  ∀ (v : V) (r : Rule) H', Ex H H' → RuleAt K (newer H H') v r → WfRule n r → Q v H'
theorem nat_of {z : Int} (h : 0 ≤ z) : ∃ k : Nat, z = ((k : Nat) : Int) := ⟨z.toNat, by omega⟩
section
variable {P : Program} {w : World} {K : Fg} {mg : Str → Option Value} {base : Heap}
theorem cal_lpart (D : DefAt K mg "_law_part" sLPart ["_law_number", "_law_many", "_law_great"]) (B : Blt mg) : C8.Cal P w K mg base 1 "_law_part" (spLPart K) [] := by
  refine cal_of D scLPart (fun vs H Q E h => ?_) (fun f cdv A outer s H vs Q E hr h => ?_)
  · obtain ⟨z, n, g, rfl, _⟩ := h
    rfl
  · obtain ⟨z, n, g, rfl, hz, hn, hg, q⟩ := h
    refine ⟨_, (pss_cons (ps_set (i := 3) scLPart.nd rfl (Or.inl rfl) (pe_op op_mod (pv 0) pe_int))
      (pss_cons (ps_set (i := 0) scLPart.nd rfl (Or.inl rfl) (pe_op op_fdiv (pv 0) pe_int))
      (pss_cons (ps_if (PW.pt (pw_and (pt_cmpR op_lt (pv 3) pe_int (nomark _)) (pw_and1 (pt_cmpR op_gt (pv 1) pe_int (nomark _))))) (pss_one (ps_ret (pe_tup (pa_cons (pe_ix ix_list (pe_lst (pa_cons pe_str (pa_cons pe_str (pa_cons pe_str (pa_cons pe_str pa_nil))))) (pv 3) (fun _ _ => rfl)) (pa_cons (pe_op op_mod (pv 0) (pv 1)) pa_nil))))) pss_nil)
      (pss_cons (ps_set (i := 4) scLPart.nd rfl (Or.inl rfl) (pe_op op_mul (pe_op op_sub (pe_op op_mod (pv 0) pe_int) pe_int) (pv 2)))
      (pss_cons (ps_set (i := 0) scLPart.nd rfl (Or.inl rfl) (pe_op op_fdiv (pv 0) pe_int))
      (pss_cons (ps_set (i := 5) scLPart.nd rfl (Or.inl rfl) (pe_lst pa_nil))
      (pss_cons (ps_for PassesOwn.never rfl (pi_range1 (by rfl) B.range (pa_cons (pe_op op_mod (pv 0) pe_int) pa_nil)) (pg_name (i := 6) scLPart.nd rfl (Or.inl rfl)) (pss_one (ps_if (pt_cmpR op_gt (pv 1) pe_int (nomark _)) (pss_cons (ps_expr (pe_bm PySem.F.plainAttrs_list PySem.F.slot_list_append PySem.F.type_list_append mt_append (pv 5) (pa_cons (pe_tup (pa_cons (pe_op op_mod (pe_op op_fdiv (pv 0) pe_int) (pv 1)) (pa_cons (pe_op op_mul (pe_op op_mod (pe_op op_fdiv (pv 0) (pe_op op_mul pe_int (pv 1))) pe_int) (pv 2)) pa_nil))) pa_nil)))
      (pss_one (ps_set (i := 0) scLPart.nd rfl (Or.inl rfl) (pe_op op_fdiv (pv 0) (pe_op op_mul pe_int (pv 1)))))) pss_nil)))
      (pss_one (ps_ret (pe_tup (pa_cons (pe_ix ix_list (pe_lst (pa_cons pe_str (pa_cons pe_str pa_nil))) (pe_op op_mod (pv 3) pe_int) (fun _ _ => rfl)) (pa_cons (pv 4) (pa_cons (pv 5) pa_nil))))))))))))), ?_⟩
    refine q_asg (ev_op (ev_var rfl) ev_c (rv_mod (by decide))) fun H1 e1 => ?_
    refine q_asg (ev_op (ev_var rfl) ev_c (rv_div (by decide) (by decide))) fun H2 e2 => ?_
    have e12 := e1.trans e2
    have hz2 : 0 ≤ z / 6 := Int.ediv_nonneg hz (by decide)
    have hs1 := Int.emod_nonneg z (show (6 : Int) ≠ 0 by decide)
    have hs2 := Int.emod_lt_of_pos z (show (0 : Int) < 6 by decide)
    generalize hz2e : z / 6 = z2 at hz2
    generalize hse : z % 6 = so at hs1 hs2
    refine q_when (b := decide (so < 4) && decide ((0 : Int) < ((n : Nat) : Int))) (et_and (et_test (ev_op (ev_var rfl) ev_c rv_lt)) (fun _ => et_test (ev_op (ev_var rfl) ev_c rv_gt))) (fun hb H3 e3 => ?_) (fun hb H3 e3 => ?_)
    · rw [Bool.and_eq_true, decide_eq_true_eq, decide_eq_true_eq] at hb
      obtain ⟨k, rfl⟩ := nat_of hs1
      have hm1 := Int.emod_nonneg z2 (show ((n : Nat) : Int) ≠ 0 by omega)
      have hm2 := Int.emod_lt_of_pos z2 hb.2
      obtain ⟨t, ht⟩ := nat_of hm1
      have htn : t < n := by omega
      obtain ⟨wd, hwd, hcase⟩ : ∃ wd : Str, ([.str "in", .str "out", .str "in", .str "out"] : List V)[k]? = some (.str wd) ∧ (wd = "in" ∨ wd = "out") := by
        match k, hb.1 with
        | 0, _ => exact ⟨_, rfl, .inl rfl⟩
        | 1, _ => exact ⟨_, rfl, .inr rfl⟩
        | 2, _ => exact ⟨_, rfl, .inl rfl⟩
        | 3, _ => exact ⟨_, rfl, .inr rfl⟩
        | k + 4, h => omega
      refine s_retU (eu_tup (ea_cons (ev_menu (el_lst (ea_cons ev_c (ea_cons ev_c (ea_cons ev_c (ea_cons ev_c ea_nil)))) (by show 4 ≤ 100000; decide)) (ev_var rfl) hwd) (ea_cons (ev_op (ev_var rfl) (ev_var rfl) (rv_mod hb.2)) ea_nil)) (by show 2 ≤ 100000; decide)) fun p H4 hp e4 h4 => ?_
      rw [ht] at h4
      have hpH : H p = none := fresh_back (e12.trans e3) hp
      have hT : SqT K (newer H H4) p [.str wd, .int ((t : Nat) : Int)] := st_of (newer_of hpH h4)
      rcases hcase with rfl | rfl
      · exact q _ (.inn t) H4 ((e12.trans e3).trans e4) ⟨p, rfl, hT⟩ ⟨fun u hu => by rw [List.mem_singleton.mp hu]; exact htn, fun _ z => (List.not_mem_nil z).elim, Nat.zero_le _⟩
      · exact q _ (.out t) H4 ((e12.trans e3).trans e4) ⟨p, rfl, hT⟩ ⟨fun u hu => by rw [List.mem_singleton.mp hu]; exact htn, fun _ z => (List.not_mem_nil z).elim, Nat.zero_le _⟩
    · have hb1 := Int.emod_nonneg z2 (show (6 : Int) ≠ 0 by decide)
      have hb2 := Int.emod_lt_of_pos z2 (show (0 : Int) < 6 by decide)
      refine q_asg (ev_op (ev_op (ev_op (ev_var rfl) ev_c (rv_mod (by decide))) ev_c rv_sub) (ev_var rfl) (rv_mul (by omega) (by omega))) fun H4 e4 => ?_
      generalize (z2 % 6 - 1) * g = bnd
      refine q_asg (ev_op (ev_var rfl) ev_c (rv_div (by decide) (by decide))) fun H5 e5 => ?_
      have hz3 : 0 ≤ z2 / 6 := Int.ediv_nonneg hz2 (by decide)
      generalize z2 / 6 = z3 at hz3
      refine q_asgL (el_lst ea_nil (by show 0 ≤ 100000; decide)) fun ql H6 hql e6 h6 => ?_
      have e16 := (((e12.trans e3).trans e4).trans e5).trans e6
      have hqH : H ql = none := fresh_back (((e12.trans e3).trans e4).trans e5) hql
      have hr1 := Int.emod_nonneg z3 (show (4 : Int) ≠ 0 by decide)
      have hr2 := Int.emod_lt_of_pos z3 (show (0 : Int) < 4 by decide)
      -- for k in range(number % 4)
      refine q_forR1 (n := z3 % 4) (ea_cons (ev_op (ev_var rfl) ev_c (rv_mod (by decide))) ea_nil) ⟨hr1, by omega⟩
        (fun i σ H7 => ∃ (z' : Int), ∃ v6, ∃ (its : List (Nat × Int)), ∃ (us : List V), σ = [some (.int z'), some (.int ((n : Nat) : Int)), some (.int g), some (.int so), some (.int bnd), some (.ref ql), v6] ∧ 0 ≤ z' ∧ Ex H5 H7 ∧
          H7 ql = some (.lst us) ∧ us.length = its.length ∧ (∀ (j : Nat) v it, us[j]? = some v → its[j]? = some it → ItemAt K (newer H6 H7) v it) ∧ (∀ it ∈ its, it.1 < n ∧ (0 : Int) ≤ it.2) ∧ its.length ≤ i ∧ ∀ b, H7 b = none → H6 b = none)
        (fun H7 e7 => ⟨z3, none, [], [], rfl, hz3, e6.trans e7, e7 _ _ h6, rfl, (fun j v it a1 => by simp at a1), (fun _ z => (List.not_mem_nil z).elim), Nat.le_refl 0, fun b hb => fresh_back e7 hb⟩) ?_ ?_
      · rintro i σ H7 hi ⟨z', v6, its, us, rfl, hz', e7, h7, hul, hua, hwf, hil, hsub⟩
        refine s_when (b := decide ((0 : Int) < ((n : Nat) : Int))) (et_test (ev_op (ev_var rfl) ev_c rv_gt)) (fun hb H8 e8 => ?_) (fun hb H8 e8 => ?_)
        · have hn0 := of_decide_eq_true hb
          have hd4 : 0 ≤ z' / 4 := Int.ediv_nonneg hz' (by decide)
          have hm1 := Int.emod_nonneg (z' / 4) (show ((n : Nat) : Int) ≠ 0 by omega)
          have hm2 := Int.emod_lt_of_pos (z' / 4) hn0
          obtain ⟨t, ht⟩ := nat_of hm1
          have hz4 : 0 ≤ z' / (4 * ((n : Nat) : Int)) := Int.ediv_nonneg hz' (by omega)
          have hw1 := Int.emod_nonneg (z' / (4 * ((n : Nat) : Int))) (show (4 : Int) ≠ 0 by decide)
          have hw2 := Int.emod_lt_of_pos (z' / (4 * ((n : Nat) : Int))) (show (0 : Int) < 4 by decide)
          have h8 := e8 _ _ h7
          refine q_appU h8 (ev_var rfl) (eu_tup (ea_cons (ev_op (ev_op (ev_var rfl) ev_c (rv_div (by decide) (by decide))) (ev_var rfl) (rv_mod hn0))
            (ea_cons (ev_op (ev_op (ev_op (ev_var rfl) (ev_op ev_c (ev_var rfl) (rv_mul (by decide) (by decide))) (rv_div (by omega) (by omega))) ev_c (rv_mod (by decide))) (ev_var rfl) (rv_mul (by omega) (by omega))) ea_nil)) (by show 2 ≤ 100000; decide)) (by omega) fun T H9 hT e9 h9 => ?_
          refine s_asg (ev_op (ev_var rfl) (ev_op ev_c (ev_var rfl) (rv_mul (by decide) (by decide))) (rv_div (by omega) (by omega))) fun H10 e10 => ?_
          have hT6 : H6 T = none := hsub T (fresh_back e8 hT)
          have h9q : H9 ql = some (.lst us) := e9 _ _ h8
          have hTq : T ≠ ql := fun z => by rw [z, h8] at hT; cases hT
          have eN : Ex (newer H6 H7) (newer H6 H10) := (((newer_step (e8.trans e9)).trans (newer_upd h6)).trans (newer_step e10))
          have hT10 : H10 T = some (.tup [.int ((t : Nat) : Int), .int (z' / (4 * ((n : Nat) : Int)) % 4 * g)]) := e10 _ _ (by rw [upd_ne hTq, ← ht]; exact h9)
          have sn := ls_snoc (R := ItemAt K (newer H6 H10)) (v := .ref T) (x := (t, z' / (4 * ((n : Nat) : Int)) % 4 * g)) hul (fun j v it a1 a2 => (hua j v it a1 a2).mono eN) ⟨T, rfl, st_of (newer_of hT6 hT10)⟩
          refine ⟨_, _, its ++ [(t, z' / (4 * ((n : Nat) : Int)) % 4 * g)], us ++ [.ref T], rfl, hz4, ((e7.trans (e8.trans e9)).mut hql).trans e10, e10 _ _ upd_same, sn.1, sn.2, fun it hit => ?_, by rw [List.length_append, List.length_singleton]; omega, fun b hb => ?_⟩
          · rcases List.mem_append.mp hit with m | m
            · exact hwf it m
            · rw [List.mem_singleton.mp m]
              exact ⟨by omega, Int.mul_nonneg hw1 hg⟩
          · have hbq : b ≠ ql := fun z => by rw [z, e10 _ _ upd_same] at hb; cases hb
            have h1 := fresh_back e10 hb
            rw [upd_ne hbq] at h1
            exact hsub b (fresh_back (e8.trans e9) h1)
        · exact ⟨z', _, its, us, rfl, hz', e7.trans e8, e8 _ _ h7, hul, fun j v it a1 a2 => (hua j v it a1 a2).mono (newer_step e8), hwf, by omega, fun b hb => hsub b (fresh_back e8 hb)⟩
      · rintro σ H7 ⟨z', v6, its, us, rfl, hz', e7, h7, hul, hua, hwf, hil, hsub⟩
        have e57 : Ex H H7 := (((e12.trans e3).trans e4).trans e5).trans e7
        have hd1 := Int.emod_nonneg so (show (2 : Int) ≠ 0 by decide)
        have hd2 := Int.emod_lt_of_pos so (show (0 : Int) < 2 by decide)
        obtain ⟨k, hk⟩ := nat_of hd1
        obtain ⟨wd, hwd, hcase⟩ : ∃ wd : Str, ([.str "least", .str "most"] : List V)[k]? = some (.str wd) ∧ (wd = "least" ∨ wd = "most") := by
          match k, (by omega : k < 2) with
          | 0, _ => exact ⟨_, rfl, .inl rfl⟩
          | 1, _ => exact ⟨_, rfl, .inr rfl⟩
          | k + 2, h => omega
        have hix := ev_op (H := H7) (σ := [some (.int z'), some (.int ((n : Nat) : Int)), some (.int g), some (.int so), some (.int bnd), some (.ref ql), v6]) (ta := tVar 3) (tb := tC (.int 2)) (ev_var rfl) ev_c (rv_mod (i := so) (show (0 : Int) < 2 by decide))
        rw [hk] at hix
        refine s_retU (eu_tup (ea_cons (ev_menu (el_lst (ea_cons ev_c (ea_cons ev_c ea_nil)) (by show 2 ≤ 100000; decide)) hix hwd) (ea_cons (ev_var rfl) (ea_cons (ev_var rfl) ea_nil))) (by show 3 ≤ 100000; decide)) fun p H8 hp e8 h8 => ?_
        have hpH : H p = none := fresh_back e57 hp
        have hT : SqT K (newer H H8) p [.str wd, .int bnd, .ref ql] := st_of (newer_of hpH h8)
        have hLs : LsAt K (newer H H8) (ItemAt K (newer H H8)) ql its := ⟨us, sq_of (newer_of hqH (e8 _ _ h7)), hul, fun j v it a1 a2 => (hua j v it a1 a2).mono ((newer_step e8).trans (newer_low e16))⟩
        have hwp : ∀ p : Part, (things p = its.map (·.1)) → items p = its → WfPart n p := fun p q1 q2 => ⟨fun t ht => by
            rw [q1] at ht
            obtain ⟨it, hit, rfl⟩ := List.mem_map.mp ht
            exact (hwf it hit).1, fun it hit => by rw [q2] at hit; exact (hwf it hit).2, by rw [q2]; omega⟩
        rcases hcase with rfl | rfl
        · exact q _ (.least bnd its) H8 (e57.trans e8) ⟨p, ql, rfl, hT, hLs⟩ (hwp _ rfl rfl)
        · exact q _ (.most bnd its) H8 (e57.trans e8) ⟨p, ql, rfl, hT, hLs⟩ (hwp _ rfl rfl)
end
end KW

-- K13
set_option Elab.async false
set_option linter.all false
set_option maxRecDepth 100000
set_option maxHeartbeats 4000000
namespace KW
open PySem PySem.Spec PyProof.Rows L2 Evl KM
section
variable {K : Fg} {σ : L2.St} {H : Hp} {D : Ends} {ta te : TE} {tz : TS}
/-- append a value told by what is true of it -/
theorem s_appR {l : Addr} {xs : List V} (Pw : V → Hp → Prop) (hl : H l = some (.lst xs)) (ha : Ev ta σ H (.ref l)) (h : ∀ (H1 : Hp) (Q : VK), Ex H H1 → (∀ v H2, Ex H1 H2 → Pw v H2 → Q v H2) → te σ H1 Q) (hz : xs.length < 100000)
    (k : ∀ v H1, Ex H H1 → Pw v H1 → D.nx σ (upd H1 l (.lst (xs ++ [v])))) : tDrop (tBM K "list" rAppend ta (tCons te tNil)) D σ H := ha H (Ex.refl H) _ fun H1 e1 =>
  ⟨Or.inl ⟨rfl, xs, sq_of (e1 l _ hl)⟩, h H1 _ e1 fun v H2 e2 hv => ⟨l, xs, v, rfl, rfl, e2 l _ (e1 l _ hl), sz_lt hz, k v H2 (e1.trans e2) hv⟩⟩
theorem ev_lenT {p : Addr} {xs : List V} (ha : Ev ta σ H (.ref p)) (h : SqT K H p xs) : Ev (tCB (rLenS K) (tCons ta tNil)) σ H (.int ((xs.length : Nat) : Int)) := fun H1 e Q q =>
  ha H1 e _ fun H2 e2 => ⟨p, xs, rfl, Or.inr (ex_t (e.trans e2) h), q H2 e2⟩
end
theorem nat_add1 (i : Nat) : (1 : Int) + ((i : Nat) : Int) = ((1 + i : Nat) : Int) := by omega
theorem ten60 : 0 < ((10 : Int) ^ (60 : Int).toNat) := by decide +kernel
section
variable {P : Program} {w : World} {K : Fg} {mg : Str → Option Value} {base : Heap}
theorem cal_lrule (D : DefAt K mg "_law_rule" sLRule ["_law_cell", "_law_many", "_law_words"]) (B : Blt mg) (cMx : C8.Cal P w K mg base 1 "_law_mixed" spMixed []) (cPt : C8.Cal P w K mg base 1 "_law_part" (spLPart K) []) : C8.Cal P w K mg base 2 "_law_rule" (spLRule K) [] := by
  refine cal_of D scLRule (fun vs H Q E h => ?_) (fun f cdv A outer s H vs Q E hr h => ?_)
  · obtain ⟨c, n, a, rfl, _⟩ := h
    rfl
  · obtain ⟨c, n, a, rfl, hW, hn, q⟩ := h
    refine ⟨_, (pss_cons (ps_set (i := 3) scLRule.nd rfl (Or.inl rfl) (C8.pe_c cMx hr (by decide) (by rfl) (pa_cons (pv 0) (pa_cons pe_int pa_nil))))
      (pss_cons (ps_set (i := 4) scLRule.nd rfl (Or.inl rfl) pe_int)
      (pss_cons (ps_if (pt_cmpR op_eq (pe_op op_mod (pe_op op_fdiv (pv 3) pe_int) pe_int) pe_int (nomark _)) (pss_one (ps_set (i := 4) scLRule.nd rfl (Or.inl rfl) (pe_op op_mod (pv 0) (pe_op op_pow pe_int pe_int)))) pss_nil)
      (pss_cons (ps_set (i := 5) scLRule.nd rfl (Or.inl rfl) (pe_lst pa_nil))
      (pss_cons (ps_for PassesOwn.never rfl (pi_range1 (by rfl) B.range (pa_cons (pe_ix ix_list (pe_lst (pa_cons pe_int (pa_cons pe_int (pa_cons pe_int (pa_cons pe_int (pa_cons pe_int (pa_cons pe_int pa_nil))))))) (pe_op op_mod (pe_op op_fdiv (pv 3) pe_int) pe_int) (fun _ _ => rfl)) pa_nil)) (pg_name (i := 6) scLRule.nd rfl (Or.inl rfl)) (pss_one (ps_expr (pe_bm PySem.F.plainAttrs_list PySem.F.slot_list_append PySem.F.type_list_append mt_append (pv 5) (pa_cons (C8.pe_c cPt hr (by decide) (by rfl) (pa_cons (C8.pe_c cMx hr (by decide) (by rfl) (pa_cons (pv 0) (pa_cons (pe_op op_add pe_int (pv 6)) pa_nil))) (pa_cons (pv 1) (pa_cons (pv 4) pa_nil)))) pa_nil)))))
      (pss_cons (ps_set (i := 7) scLRule.nd rfl (Or.inl rfl) (pe_ix ix_list (pv 2) (pe_op op_mod (pv 3) (pe_callB call_len_seq (by rfl) B.len (by decide +kernel) (pa_cons (pv 2) pa_nil))) (fun _ _ => rfl)))
      (pss_cons (ps_if (PW.pt (pw_or (pt_cmpR op_eq (pv 7) pe_str (nomark _)) (pw_or1 (pt_cmpR op_eq (pv 1) pe_int (nomark _))))) (pss_one (ps_ret (pe_tup (pa_cons pe_str (pa_cons pe_non (pa_cons (pv 5) pa_nil)))))) pss_nil)
      (pss_one (ps_ret (pe_tup (pa_cons (pv 7) (pa_cons (pe_op op_mod (pe_op op_fdiv (pv 3) pe_int) (pv 1)) (pa_cons (pv 5) pa_nil))))))))))))), ?_⟩
    refine ⟨_, rfl, c, 0, rfl, by decide, fun z H1 hz e1 => ?_⟩
    refine q_asg ev_c fun H2 e2 => ?_
    have e12 := e1.trans e2
    refine q_ifAsg (b := decide (V.int (z / 4096 % 8) = V.int 3)) (v := .int (if decide (V.int (z / 4096 % 8) = V.int 3) = true then c % 10 ^ (60 : Int).toNat else 1)) (et_test (ev_op (ev_op (ev_op (ev_var rfl) ev_c (rv_div (by decide) (by decide))) ev_c (rv_mod (by decide))) ev_c (rv_eq rfl)))
      (fun hb => ?_) (fun hb => ?_) fun H3 e3 => ?_
    · rw [if_pos hb]
      exact ev_op (ev_var rfl) (ev_op ev_c ev_c (rv_pow ⟨by decide, by decide, by decide⟩)) (rv_mod ten60)
    · rw [hb, if_neg (by decide)]
      rfl
    have hg : 0 ≤ (if decide (V.int (z / 4096 % 8) = V.int 3) = true then c % 10 ^ (60 : Int).toNat else 1) := by
      by_cases hb : decide (V.int (z / 4096 % 8) = V.int 3) = true
      · rw [if_pos hb]
        exact Int.emod_nonneg _ (by have := ten60; omega)
      · rw [if_neg hb]
        decide
    generalize (if decide (V.int (z / 4096 % 8) = V.int 3) = true then c % 10 ^ (60 : Int).toNat else 1) = g at hg
    have e13 := e12.trans e3
    refine q_asgL (el_lst ea_nil (by show 0 ≤ 100000; decide)) fun ql H4 hql e4 h4 => ?_
    have e14 := e13.trans e4
    have hqH : H ql = none := fresh_back e13 hql
    have hr1 := Int.emod_nonneg (z / 512) (show (6 : Int) ≠ 0 by decide)
    have hr2 := Int.emod_lt_of_pos (z / 512) (show (0 : Int) < 6 by decide)
    obtain ⟨k, hk⟩ := nat_of hr1
    obtain ⟨m, hm, hm'⟩ := six (show k ≤ 5 by omega) 1 2 0 1 3 2
    have hix := ev_op (H := H4) (σ := [some (.int c), some (.int ((n : Nat) : Int)), some (.ref a), some (.int z), some (.int g), some (.ref ql), none, none]) (ta := tOp (rI CDiv fun i j => .int (i / j)) (tVar 3) (tC (.int 512))) (tb := tC (.int 6)) (ev_op (ev_var rfl) ev_c (rv_div (i := z) (show (0 : Int) < 512 by decide) (by decide))) ev_c (rv_mod (show (0 : Int) < 6 by decide))
    rw [hk] at hix
    refine q_forR1 (n := m) (ea_cons (ev_menu (el_ints (ea_cons ev_c (ea_cons ev_c (ea_cons ev_c (ea_cons ev_c (ea_cons ev_c (ea_cons ev_c ea_nil)))))) (by show 6 ≤ 100000; decide)) hix hm) ea_nil) ⟨by omega, by omega⟩
      (fun i σ H7 => ∃ v6, ∃ (ps : List Part), ∃ (us : List V), σ = [some (.int c), some (.int ((n : Nat) : Int)), some (.ref a), some (.int z), some (.int g), some (.ref ql), v6, none] ∧ Ex H3 H7 ∧
        H7 ql = some (.lst us) ∧ us.length = ps.length ∧ (∀ (j : Nat) v p, us[j]? = some v → ps[j]? = some p → PartAt K (newer H4 H7) v p) ∧ (∀ p ∈ ps, WfPart n p) ∧ ps.length ≤ i ∧ ∀ b, H7 b = none → H4 b = none)
      (fun H7 e7 => ⟨none, [], [], rfl, e4.trans e7, e7 _ _ h4, rfl, (fun j v it a1 => by simp at a1), (fun _ z => (List.not_mem_nil z).elim), Nat.le_refl 0, fun b hb => fresh_back e7 hb⟩) ?_ ?_
    · rintro i σ H7 hi ⟨v6, ps, us, rfl, e7, h7, hul, hua, hwf, hil, hsub⟩
      refine s_appR (fun v H8 => ∃ p, PartAt K (newer H7 H8) v p ∧ WfPart n p) h7 (ev_var rfl) (fun H8 Q e8 q => ?_) (by omega) fun v H8 e8 hpv => ?_
      · refine ⟨_, rfl, (ev_op ev_c (ev_var rfl) rv_add) H8 (Ex.refl H8) _ fun H9 e9 => ?_⟩
        refine ⟨c, 1 + i, by rw [← nat_add1] <;> rfl, by omega, fun z' H10 hz' e10 => ⟨_, rfl, _, rfl, z', n, g, rfl, hz', hn, hg, fun v p H11 e11 hp hwp => ?_⟩⟩
        exact q v H11 ((e9.trans e10).trans e11) ⟨p, hp.mono (newer_low (((e8.trans e9).trans e10))), hwp⟩
      · obtain ⟨p, hp, hwp⟩ := hpv
        have h8 := e8 _ _ h7
        have eN : Ex (newer H4 H7) (newer H4 (upd H8 ql (.lst (us ++ [v])))) := (newer_step e8).trans (newer_upd h4)
        have eP : Ex (newer H7 H8) (newer H4 (upd H8 ql (.lst (us ++ [v])))) := Ex.trans (fun b o hb => newer_of (hsub b (newer_some hb).1) (newer_some hb).2) (newer_upd h4)
        have sn := ls_snoc (R := PartAt K (newer H4 (upd H8 ql (.lst (us ++ [v]))))) (v := v) (x := p) hul (fun j v it a1 a2 => (hua j v it a1 a2).mono eN) (hp.mono eP)
        refine ⟨_, ps ++ [p], us ++ [v], rfl, (e7.trans e8).mut hql, upd_same, sn.1, sn.2, fun p' hp' => ?_, by rw [List.length_append, List.length_singleton]; omega, fun b hb => ?_⟩
        · rcases List.mem_append.mp hp' with m | m
          · exact hwf p' m
          · rw [List.mem_singleton.mp m]
            exact hwp
        · have hbq : b ≠ ql := fun z => by rw [z, upd_same] at hb; cases hb
          rw [upd_ne hbq] at hb
          exact hsub b (fresh_back e8 hb)
    · rintro σ H7 ⟨v6, ps, us, rfl, e7, h7, hul, hua, hwf, hil, hsub⟩
      have e17 : Ex H H7 := e13.trans e7
      have hps3 : ps.length ≤ 3 := by omega
      have hq1 := Int.emod_nonneg z (show (4 : Int) ≠ 0 by decide)
      have hq2 := Int.emod_lt_of_pos z (show (0 : Int) < 4 by decide)
      have hW7 := ex_l e17 hW
      obtain ⟨wd, hwd, hcase⟩ : ∃ wd : Str, atI ([.str "make", .str "make", .str "make", .str "never"] : List V) (z % 4) = some (.str wd) ∧ (wd = "make" ∨ wd = "never") := by
        obtain ⟨k, hk⟩ := nat_of hq1
        rw [hk]
        match k, (by omega : k < 4) with
        | 0, _ => exact ⟨_, atI_nat rfl, .inl rfl⟩
        | 1, _ => exact ⟨_, atI_nat rfl, .inl rfl⟩
        | 2, _ => exact ⟨_, atI_nat rfl, .inl rfl⟩
        | 3, _ => exact ⟨_, atI_nat rfl, .inr rfl⟩
        | k + 4, h => omega
      refine q_asg (ev_L (ev_var rfl) (ev_op (ev_var rfl) (ev_len (ev_var rfl) hW7) (rv_mod (show (0 : Int) < ((4 : Nat) : Int) by decide))) hW7 hwd) fun H8 e8 => ?_
      have hLs : ∀ H9, Ex H8 H9 → LsAt K (newer H H9) (PartAt K (newer H H9)) ql ps := fun H9 e9 => ⟨us, sq_of (newer_of hqH (e9 _ _ (e8 _ _ h7))), hul, fun j v it a1 a2 => (hua j v it a1 a2).mono ((newer_step (e8.trans e9)).trans (newer_low e14))⟩
      refine q_when (b := decide (wd = "never") || decide (V.int ((n : Nat) : Int) = V.int 0)) (et_or (et_eqS (ev_var rfl) rfl) (fun _ => et_test (ev_op (ev_var rfl) ev_c (rv_eq rfl)))) (fun hb H9 e9 => ?_) (fun hb H9 e9 => ?_)
      · refine s_retU (eu_tup (ea_cons ev_c (ea_cons ev_c (ea_cons (ev_var rfl) ea_nil))) (by show 3 ≤ 100000; decide)) fun p H10 hp e10 h10 => ?_
        have e810 := (e9.trans e10)
        have hpH : H p = none := fresh_back ((e17.trans e8).trans e9) hp
        exact q _ (none, ps) H10 ((e17.trans e8).trans e810) ⟨p, ql, rfl, st_of (newer_of hpH h10), hLs H10 e810⟩ ⟨(fun h z => nomatch z), hwf, hps3⟩
      · rw [Bool.or_eq_false_iff, decide_eq_false_iff_not, decide_eq_false_iff_not] at hb
        have hn0 : 0 < ((n : Nat) : Int) := by
          rcases Nat.eq_zero_or_pos n with h | h
          · exact absurd (by rw [h] <;> rfl) hb.2
          · omega
        have hwm : wd = "make" := hcase.elim id fun z => absurd z hb.1
        subst hwm
        obtain ⟨t, ht⟩ := nat_of (Int.emod_nonneg (z / 32768) (show ((n : Nat) : Int) ≠ 0 by omega))
        have ht2 := Int.emod_lt_of_pos (z / 32768) hn0
        refine s_retU (eu_tup (ea_cons (ev_var rfl) (ea_cons (ev_op (ev_op (ev_var rfl) ev_c (rv_div (by decide) (by decide))) (ev_var rfl) (rv_mod hn0)) (ea_cons (ev_var rfl) ea_nil))) (by show 3 ≤ 100000; decide)) fun p H10 hp e10 h10 => ?_
        rw [ht] at h10
        have e810 := (e9.trans e10)
        have hpH : H p = none := fresh_back ((e17.trans e8).trans e9) hp
        exact q _ (some t, ps) H10 ((e17.trans e8).trans e810) ⟨p, ql, rfl, st_of (newer_of hpH h10), hLs H10 e810⟩ ⟨(fun h z => by have := Option.some.inj z; omega), hwf, hps3⟩
end
end KW

-- K14
set_option Elab.async false
set_option linter.all false
set_option maxRecDepth 100000
set_option maxHeartbeats 4000000
namespace KW
open PySem PySem.Spec PyProof.Rows L2 Evl KM
abbrev sTamed : Stmt := top 33
abbrev sPlain : Stmt := top 34
theorem scTamed : FnScope ["_law_rule_here", "_law_many", "_law_low", "_law_parts", "_law_row", "_law_word", "_law_top", "_law_thing", "_law_worth"] ["_law_rule_here", "_law_many"] (L2.defScope sTamed) := ⟨rfl, rfl, rfl, by decide +kernel, rfl, by decide +kernel, by decide +kernel⟩
theorem scPlain : FnScope ["_law_script", "_law_mixed_here", "_law_many", "_law_rules", "_law_cell", "_law_rule_here"] ["_law_script"] (L2.defScope sPlain) := ⟨rfl, rfl, rfl, by decide +kernel, rfl, by decide +kernel, by decide +kernel⟩
def spTamed (K : Fg) : Sp := fun vs H Q _ => ∃ (v : V) (n : Nat) (r : Rule), vs = [v, .int ((n : Nat) : Int)] ∧ RuleAt K H v r ∧ WfRule n r ∧ n ≤ 8 ∧
  ∀ (v' : V) (r' : Rule) H', Ex H H' → ((v' = v ∧ r' = r) ∨ RuleAt K (newer H H') v' r') → WfRule n r' → Q v' H'
def spPlain (K : Fg) : Sp := fun vs H Q _ => ∃ (a : Addr) (ns : List Int), vs = [.ref a] ∧ SqL K H a (ns.map V.int) ∧ ns.length ≤ 63 ∧
  ∀ (v : V) (n : Nat) (R : List Rule) H', Ex H H' → PlainAt K H' v n R → Wf n R → Q v H'
/-- a part as it stands: of two places, or of three -/
theorem part_two {K : Fg} {H : Hp} {v : V} {p : Part} {n : Nat} (h : PartAt K H v p) (w : WfPart n p) :
    (∃ a wd t, v = .ref a ∧ SqT K H a [.str wd, .int ((t : Nat) : Int)] ∧ (wd = "in" ∨ wd = "out") ∧ t < n) ∨
    (∃ a wd b l its, v = .ref a ∧ SqT K H a [.str wd, .int b, .ref l] ∧ LsAt K H (ItemAt K H) l its ∧ (wd = "least" ∨ wd = "most") ∧ (∀ it ∈ its, it.1 < n ∧ (0 : Int) ≤ it.2) ∧ its.length ≤ 3) := by
  cases p with
  | inn t => obtain ⟨a, h1, h2⟩ := h; exact .inl ⟨a, _, t, h1, h2, .inl rfl, w.lt t List.mem_cons_self⟩
  | out t => obtain ⟨a, h1, h2⟩ := h; exact .inl ⟨a, _, t, h1, h2, .inr rfl, w.lt t List.mem_cons_self⟩
  | least b its => obtain ⟨a, l, h1, h2, h3⟩ := h; exact .inr ⟨a, _, b, l, its, h1, h2, h3, .inl rfl, fun it hit => ⟨w.lt it.1 (List.mem_map.mpr ⟨it, hit, rfl⟩), w.pos it hit⟩, w.len⟩
  | most b its => obtain ⟨a, l, h1, h2, h3⟩ := h; exact .inr ⟨a, _, b, l, its, h1, h2, h3, .inr rfl, fun it hit => ⟨w.lt it.1 (List.mem_map.mpr ⟨it, hit, rfl⟩), w.pos it hit⟩, w.len⟩
theorem two_part {K : Fg} {H : Hp} {a : Addr} {wd : Str} {t n : Nat} (h : SqT K H a [.str wd, .int ((t : Nat) : Int)]) (c : wd = "in" ∨ wd = "out") (ht : t < n) : ∃ p, PartAt K H (.ref a) p ∧ WfPart n p := by
  rcases c with rfl | rfl
  · exact ⟨.inn t, ⟨a, rfl, h⟩, ⟨fun u hu => by rw [List.mem_singleton.mp hu]; exact ht, fun _ z => (List.not_mem_nil z).elim, Nat.zero_le _⟩⟩
  · exact ⟨.out t, ⟨a, rfl, h⟩, ⟨fun u hu => by rw [List.mem_singleton.mp hu]; exact ht, fun _ z => (List.not_mem_nil z).elim, Nat.zero_le _⟩⟩
theorem three_part {K : Fg} {H : Hp} {a l : Addr} {wd : Str} {b : Int} {its : List (Nat × Int)} {n : Nat} (h : SqT K H a [.str wd, .int b, .ref l]) (hl : LsAt K H (ItemAt K H) l its) (c : wd = "least" ∨ wd = "most") (hi : ∀ it ∈ its, it.1 < n ∧ (0 : Int) ≤ it.2) (h3 : its.length ≤ 3) :
    ∃ p, PartAt K H (.ref a) p ∧ WfPart n p := by
  have hwp : ∀ p : Part, (things p = its.map (·.1)) → items p = its → WfPart n p := fun p q1 q2 => ⟨fun t ht => by
      rw [q1] at ht
      obtain ⟨it, hit, rfl⟩ := List.mem_map.mp ht
      exact (hi it hit).1, fun it hit => by rw [q2] at hit; exact (hi it hit).2, by rw [q2]; exact h3⟩
  rcases c with rfl | rfl
  · exact ⟨.least b its, ⟨a, l, rfl, h, hl⟩, hwp _ rfl rfl⟩
  · exact ⟨.most b its, ⟨a, l, rfl, h, hl⟩, hwp _ rfl rfl⟩
theorem headV_some {r : Rule} {h : Nat} (e : r.1 = some h) : headV r.1 = .int ((h : Nat) : Int) := by rw [e]; rfl
theorem wordV_some {r : Rule} {h : Nat} (e : r.1 = some h) : wordV r.1 = .str "make" := by rw [e]; rfl
section
variable {K : Fg} {σ : L2.St} {H : Hp} {ta tb te : TE}
theorem ev_min {i j : Int} (h1 : Ev ta σ H (.int i)) (h2 : Ev tb σ H (.int j)) : Ev (tCB (fun xs H Q => ∃ i j, xs = [.int i, .int j] ∧ Q (.int (if j < i then j else i)) H) (tCons ta (tCons tb tNil))) σ H (.int (if j < i then j else i)) :=
  ev_cb (ea_cons h1 (ea_cons h2 ea_nil)) fun H1 _ Q q => ⟨i, j, rfl, q H1 (Ex.refl H1)⟩
/-- a word among words -/
theorem et_inW {x y z : Str} (h : Ev ta σ H (.str x)) (h2 : EvL tb σ H [.str y, .str z]) : EvT (tTest (tOp (rIn K false) ta tb)) σ H (inV (.str x) [.str y, .str z]) :=
  et_test (ev_opL h h2 fun p H1 hp _ => rv_isL (sq_of hp) rfl rfl)
end
/-- a list of new things on its way -/
structure Acc {α : Type} (Rl : Hp → V → α → Prop) (good : α → Prop) (H4 : Hp) (ql : Addr) (H7 : Hp) (ws : List V) (ps : List α) : Prop where
  is : H7 ql = some (.lst ws)
  len : ws.length = ps.length
  rel : ∀ (j : Nat) v p, ws[j]? = some v → ps[j]? = some p → Rl (newer H4 H7) v p
  good : ∀ p ∈ ps, good p
  sub : ∀ b, H7 b = none → H4 b = none
section
variable {α : Type} {Rl : Hp → V → α → Prop} {good : α → Prop} {H4 H7 H8 : Hp} {ql : Addr} {ws : List V} {ps : List α}
theorem Acc.nil (h4 : H4 ql = some (.lst [])) (e : Ex H4 H7) : Acc Rl good H4 ql H7 [] [] :=
  ⟨e _ _ h4, rfl, fun j v p z => by simp at z, fun _ z => (List.not_mem_nil z).elim, fun _ hb => fresh_back e hb⟩
theorem Acc.ex (hR : ∀ (H1 H2 : Hp) (v : V) (p : α), Ex H1 H2 → Rl H1 v p → Rl H2 v p) (A : Acc Rl good H4 ql H7 ws ps) (e : Ex H7 H8) : Acc Rl good H4 ql H8 ws ps :=
  ⟨e _ _ A.is, A.len, fun j v p a b => hR _ _ _ _ (newer_step e) (A.rel j v p a b), A.good, fun b hb => A.sub b (fresh_back e hb)⟩
theorem Acc.snoc {u : HO} (h4 : H4 ql = some u) (hR : ∀ (H1 H2 : Hp) (v : V) (p : α), Ex H1 H2 → Rl H1 v p → Rl H2 v p) (A : Acc Rl good H4 ql H7 ws ps) (e : Ex H7 H8) {v : V} {p : α} (r : Rl (newer H7 H8) v p) (g : good p) :
    Acc Rl good H4 ql (upd H8 ql (.lst (ws ++ [v]))) (ws ++ [v]) (ps ++ [p]) := by
  have eN : Ex (newer H4 H7) (newer H4 (upd H8 ql (.lst (ws ++ [v])))) := (newer_step e).trans (newer_upd h4)
  have eP : Ex (newer H7 H8) (newer H4 (upd H8 ql (.lst (ws ++ [v])))) := Ex.trans (fun b o hb => newer_of (A.sub b (newer_some hb).1) (newer_some hb).2) (newer_upd h4)
  have sn := ls_snoc (R := Rl (newer H4 (upd H8 ql (.lst (ws ++ [v]))))) (v := v) (x := p) A.len (fun j v p a1 a2 => hR _ _ _ _ eN (A.rel j v p a1 a2)) (hR _ _ _ _ eP r)
  refine ⟨upd_same, sn.1, sn.2, fun p' hp' => ?_, fun b hb => ?_⟩
  · rcases List.mem_append.mp hp' with m | m
    · exact A.good p' m
    · rw [List.mem_singleton.mp m]
      exact g
  · have hbq : b ≠ ql := fun z => by rw [z, upd_same] at hb; cases hb
    rw [upd_ne hbq] at hb
    exact A.sub b (fresh_back e hb)
end
section
variable {P : Program} {w : World} {K : Fg} {mg : Str → Option Value} {base : Heap}
theorem cal_tamed (D : DefAt K mg "_law_tamed" sTamed ["_law_rule_here", "_law_many"]) (B : Blt mg) : C8.Cal P w K mg base 1 "_law_tamed" (spTamed K) [] := by
  refine cal_of D scTamed (fun vs H Q E h => ?_) (fun f cdv A outer s H vs Q E hr h => ?_)
  · obtain ⟨v, n, r, rfl, _⟩ := h
    rfl
  · obtain ⟨v, n, r, rfl, hv, hwr, hn, q⟩ := h
    have hv0 := hv
    obtain ⟨x, l, rfl, hx, hl⟩ := hv
    refine ⟨_, (pss_cons (ps_if (pt_cmpR op_eq (pe_ix ix_tup (pv 0) pe_int (fun _ _ => rfl)) pe_str (nomark _)) (pss_one (ps_ret (pv 0))) pss_nil)
      (pss_cons (ps_set (i := 2) scTamed.nd rfl (Or.inl rfl) (pe_op op_mul (pe_op op_fdiv (pe_ix ix_tup (pv 0) pe_int (fun _ _ => rfl)) pe_int) pe_int))
      (pss_cons (ps_set (i := 3) scTamed.nd rfl (Or.inl rfl) (pe_lst pa_nil))
      (pss_cons (ps_for PassesOwn.never rfl (pi_list (pe_ix ix_tup (pv 0) pe_int (fun _ _ => rfl))) (pg_name (i := 4) scTamed.nd rfl (Or.inl rfl)) (pss_cons (ps_set (i := 5) scTamed.nd rfl (Or.inl rfl) (pe_ix ix_tup (pv 4) pe_int (fun _ _ => rfl)))
      (pss_cons (ps_set (i := 6) scTamed.nd rfl (Or.inr rfl) (pe_callB (call_min2 rfl) (by rfl) B.min (by decide +kernel) (pa_cons (pv 1) (pa_cons (pe_op op_add (pv 2) pe_int) pa_nil))))
      (pss_cons (ps_if (PW.pt (pw_and (pt_cmpR op_in_seq (pv 5) (pe_lst (pa_cons pe_str (pa_cons pe_str pa_nil))) (by rfl)) (pw_and1 (pt_cmpR op_gt (pv 2) pe_int (nomark _))))) (pss_one (ps_set (i := 6) scTamed.nd rfl (Or.inr rfl) (pv 2))) pss_nil)
      (pss_cons (ps_if (PW.pt (pw_and (pt_cmpR op_in_seq (pv 5) (pe_lst (pa_cons pe_str (pa_cons pe_str pa_nil))) (by rfl)) (pw_and1 (pt_cmpR op_eq (pv 2) pe_int (nomark _))))) (pss_one (ps_set (i := 5) scTamed.nd rfl (Or.inl rfl) (pe_ix ix_list (pe_lst (pa_cons pe_str (pa_cons pe_str pa_nil))) (pe_op op_sub (pe_callB call_len_seq (by rfl) B.len (by decide +kernel) (pa_cons (pv 4) pa_nil)) pe_int) (fun _ _ => rfl)))) pss_nil)
      (pss_one (ps_if (pt_cmpR op_eq (pe_callB call_len_seq (by rfl) B.len (by decide +kernel) (pa_cons (pv 4) pa_nil)) pe_int (nomark _)) (pss_one (ps_expr (pe_bm PySem.F.plainAttrs_list PySem.F.slot_list_append PySem.F.type_list_append mt_append (pv 3) (pa_cons (pe_tup (pa_cons (pv 5) (pa_cons (pe_op op_mod (pe_ix ix_tup (pv 4) pe_int (fun _ _ => rfl)) (pv 6)) pa_nil))) pa_nil)))) (pss_one (ps_expr (pe_bm PySem.F.plainAttrs_list PySem.F.slot_list_append PySem.F.type_list_append mt_append (pv 3) (pa_cons (pe_tup (pa_cons (pv 5) (pa_cons (pe_ix ix_tup (pv 4) pe_int (fun _ _ => rfl)) (pa_cons (pe_lc (own := [("_law_thing", 7), ("_law_worth", 8)]) (g := gTup K 2 (gCons (gName 7) (gCons (gName 8) gNil))) (tt := tYes) (te := tTup (tCons (tOp (rI (fun _ j => 0 < j) fun i j => .int (i % j)) (tVar 7) (tVar 6)) (tCons (tVar 8) tNil))) rfl scTamed.nd (pi_list (pe_ix ix_tup (pv 4) pe_int (fun _ _ => rfl))) (blkOk_by (N := ["_law_rule_here", "_law_many", "_law_low", "_law_parts", "_law_row", "_law_word", "_law_top", "_law_thing", "_law_worth"]) (sc := L2.defScope sTamed) (by decide +kernel)) (fun _ _ _ _ _ => (pg_tup rfl (pgs_cons (pg_name (i := 7) scTamed.nd rfl (Or.inl rfl)) (pgs_cons (pg_name (i := 8) scTamed.nd rfl (Or.inl rfl)) pgs_nil)))) (fun _ _ _ _ _ => pts_nil) (fun _ _ _ _ _ => (pe_tup (pa_cons (pe_op op_mod (pv 7) (pv 6)) (pa_cons (pv 8) pa_nil))))) pa_nil)))) pa_nil)))))))))))
      (pss_one (ps_ret (pe_tup (pa_cons (pe_ix ix_tup (pv 0) pe_int (fun _ _ => rfl)) (pa_cons (pe_ix ix_tup (pv 0) pe_int (fun _ _ => rfl)) (pa_cons (pv 3) pa_nil)))))))))), ?_⟩
    cases hd : r.1 with
    | none =>
      refine q_when (b := true) (et_eqS (x := "never") (ev_is (ev_T (ev_var rfl) ev_c hx at0) (by rw [hd]; rfl)) rfl) (fun _ H1 e1 => ?_) (fun z => nomatch z)
      exact s_ret (ev_var rfl) fun H2 e2 => q _ r H2 (e1.trans e2) (.inl ⟨rfl, rfl⟩) hwr
    | some h =>
      rw [headV_some hd, wordV_some hd] at hx
      refine q_when (b := false) (et_eqS (ev_T (ev_var rfl) ev_c hx at0) (by decide +kernel)) (fun z => nomatch z) (fun _ H1 e1 => ?_)
      have hhn := hwr.head h hd
      refine q_asg (ev_op (ev_op (ev_T (ev_var rfl) ev_c (ex_t e1 hx) at1) ev_c (rv_div (by decide) (by decide))) ev_c (rv_mul (by omega) (by omega))) fun H2 e2 => ?_
      have hlo1 : 0 ≤ ((h : Nat) : Int) / 3 * 3 := by omega
      have hlo2 : ((h : Nat) : Int) / 3 * 3 ≤ ((h : Nat) : Int) := by omega
      generalize ((h : Nat) : Int) / 3 * 3 = lo at hlo1 hlo2
      refine q_asgL (el_lst ea_nil (by show 0 ≤ 100000; decide)) fun ql H4 hql e4 h4 => ?_
      have e12 := e1.trans e2
      have e14 := e12.trans e4
      have hqH : H ql = none := fresh_back e12 hql
      obtain ⟨us, hus, hlen, hat⟩ := hl
      have h3l := hwr.len
      refine q_forLn (ev_T (ev_var rfl) ev_c (ex_t e14 hx) at2) (ex_l e14 hus)
        (fun i σ H7 => ∃ v4 v5 v6, ∃ (ps : List Part), ∃ (ws : List V), σ = [some (.ref x), some (.int ((n : Nat) : Int)), some (.int lo), some (.ref ql), v4, v5, v6, none, none] ∧ Ex H2 H7 ∧ Acc (PartAt K) (WfPart n) H4 ql H7 ws ps ∧ ps.length ≤ i)
        (fun H7 e7 => ⟨none, none, none, [], [], rfl, e4.trans e7, Acc.nil h4 e7, Nat.le_refl 0⟩)
        (fun i σ H7 _ hI => ?_) ?_ ?_
      · obtain ⟨_, _, _, _, _, _, e7, _⟩ := hI
        exact ex_l (e12.trans e7) hus
      · rintro i rv σ H7 hrv ⟨v4, v5, v6, ps, ws, rfl, e7, hA, hil⟩
        have e17 := e12.trans e7
        obtain ⟨p0, hp0, hp0m⟩ := ls_at hlen hrv
        have hpv := (hat i rv p0 hrv hp0).mono e17
        have hlt1 : i < us.length := (List.getElem?_eq_some_iff.mp hrv).1
        have hlw : ws.length < 100000 := by
          have := hA.len
          omega
        have hpl : ∀ p : Part, (ps ++ [p]).length ≤ i + 1 := fun p => by rw [List.length_append, List.length_singleton]; omega
        have htp : ∃ tp : Int, (if lo + 3 < ((n : Nat) : Int) then lo + 3 else ((n : Nat) : Int)) = tp ∧ 0 < tp ∧ tp ≤ ((n : Nat) : Int) := ⟨_, rfl, by split <;> omega, by split <;> omega⟩
        obtain ⟨tp, htpe, htp1, htp2⟩ := htp
        have htt : ∀ b : Bool, (b = true → 0 < lo) → 0 < (if b = true then lo else tp) ∧ (if b = true then lo else tp) ≤ ((n : Nat) : Int) := fun b hb => by
          cases b with
          | true => exact ⟨by rw [if_pos rfl]; exact hb rfl, by rw [if_pos rfl]; omega⟩
          | false => exact ⟨by rw [if_neg (by decide)]; exact htp1, by rw [if_neg (by decide)]; exact htp2⟩
        rcases part_two hpv (hwr.parts p0 hp0m) with ⟨a, wd, t, rfl, ha, hc, ht⟩ | ⟨a, wd, b, li, its, rfl, ha, hli, hc, hits, hits3⟩
        · refine q_asg (ev_T (ev_var rfl) ev_c ha at0) fun H8 e8 => ?_
          refine q_asg (ev_is (ev_min (ev_var rfl) (ev_op (ev_var rfl) ev_c rv_add)) (congrArg V.int htpe)) fun H9 e9 => ?_
          refine q_ifAsg (b := inV (.str wd) [.str "out", .str "most"] && decide (0 < lo)) (v := .int (if (inV (.str wd) [.str "out", .str "most"] && decide (0 < lo)) = true then lo else tp))
            (et_and (et_inW (ev_var rfl) (el_lst (ea_cons ev_c (ea_cons ev_c ea_nil)) (by show 2 ≤ 100000; decide))) fun _ => et_test (ev_op (ev_var rfl) ev_c rv_gt)) (fun hb => ?_) (fun hb => ?_) fun H10 e10 => ?_
          · rw [if_pos hb]
            exact ev_var rfl
          · rw [hb, if_neg (by decide)]
            rfl
          obtain ⟨hu1, hu2⟩ := htt (inV (.str wd) [.str "out", .str "most"] && decide (0 < lo)) fun hb => by
            rw [Bool.and_eq_true] at hb
            exact of_decide_eq_true hb.2
          generalize (if (inV (.str wd) [.str "out", .str "most"] && decide (0 < lo)) = true then lo else tp) = tq at hu1 hu2
          have e810 := (e8.trans e9).trans e10
          refine q_ifAsg (b := inV (.str wd) [.str "out", .str "most"] && decide (V.int lo = V.int 0)) (v := .str (if (inV (.str wd) [.str "out", .str "most"] && decide (V.int lo = V.int 0)) = true then ("in" : Str) else wd))
            (et_and (et_inW (ev_var rfl) (el_lst (ea_cons ev_c (ea_cons ev_c ea_nil)) (by show 2 ≤ 100000; decide))) fun _ => et_test (ev_op (ev_var rfl) ev_c (rv_eq rfl))) (fun hb => ?_) (fun hb => ?_) fun H11 e11 => ?_
          · rw [if_pos hb]
            exact ev_menu (k := 0) (el_lst (ea_cons ev_c (ea_cons ev_c ea_nil)) (by show 2 ≤ 100000; decide)) (ev_op (ev_lenT (ev_var rfl) (ex_t e810 ha)) ev_c rv_sub) rfl
          · rw [hb, if_neg (by decide)]
            rfl
          have hw2 : (if (inV (.str wd) [.str "out", .str "most"] && decide (V.int lo = V.int 0)) = true then ("in" : Str) else wd) = ("in" : Str) ∨ (if (inV (.str wd) [.str "out", .str "most"] && decide (V.int lo = V.int 0)) = true then ("in" : Str) else wd) = "out" := by
            split
            · exact .inl rfl
            · exact hc
          generalize (if (inV (.str wd) [.str "out", .str "most"] && decide (V.int lo = V.int 0)) = true then ("in" : Str) else wd) = wq at hw2
          have e811 := e810.trans e11
          refine s_if (b := true) (et_test (ev_is (ev_op (ev_lenT (ev_var rfl) (ex_t e811 ha)) ev_c (rv_eq rfl)) rfl)) (fun _ H12 e12' => ?_) (fun z => nomatch z)
          have e812 := e811.trans e12'
          have hA12 := hA.ex (fun _ _ _ _ e h => h.mono e) e812
          refine s_appU hA12.is (ev_var rfl) (eu_tup (ea_cons (ev_var rfl) (ea_cons (ev_op (ev_T (ev_var rfl) ev_c (ex_t e812 ha) at1) (ev_var rfl) (rv_mod hu1)) ea_nil)) (by show 2 ≤ 100000; decide)) hlw fun T H13 hT e13 h13 => ?_
          obtain ⟨t', ht'⟩ := nat_of (Int.emod_nonneg ((t : Nat) : Int) (show tq ≠ 0 by omega))
          have ht2 := Int.emod_lt_of_pos ((t : Nat) : Int) hu1
          rw [ht'] at h13 ht2
          obtain ⟨p, hp, hwp⟩ := two_part (K := K) (n := n) (st_of (newer_of hT h13)) hw2 (by omega)
          exact ⟨_, _, _, ps ++ [p], ws ++ [.ref T], rfl, ((e7.trans e812).trans e13).mut hql, hA12.snoc h4 (fun _ _ _ _ e h => h.mono e) e13 hp hwp, hpl p⟩
        · refine q_asg (ev_T (ev_var rfl) ev_c ha at0) fun H8 e8 => ?_
          refine q_asg (ev_is (ev_min (ev_var rfl) (ev_op (ev_var rfl) ev_c rv_add)) (congrArg V.int htpe)) fun H9 e9 => ?_
          refine q_ifAsg (b := inV (.str wd) [.str "out", .str "most"] && decide (0 < lo)) (v := .int (if (inV (.str wd) [.str "out", .str "most"] && decide (0 < lo)) = true then lo else tp))
            (et_and (et_inW (ev_var rfl) (el_lst (ea_cons ev_c (ea_cons ev_c ea_nil)) (by show 2 ≤ 100000; decide))) fun _ => et_test (ev_op (ev_var rfl) ev_c rv_gt)) (fun hb => ?_) (fun hb => ?_) fun H10 e10 => ?_
          · rw [if_pos hb]
            exact ev_var rfl
          · rw [hb, if_neg (by decide)]
            rfl
          obtain ⟨hu1, hu2⟩ := htt (inV (.str wd) [.str "out", .str "most"] && decide (0 < lo)) fun hb => by
            rw [Bool.and_eq_true] at hb
            exact of_decide_eq_true hb.2
          generalize (if (inV (.str wd) [.str "out", .str "most"] && decide (0 < lo)) = true then lo else tp) = tq at hu1 hu2
          have e810 := (e8.trans e9).trans e10
          refine q_ifAsg (b := inV (.str wd) [.str "out", .str "most"] && decide (V.int lo = V.int 0)) (v := .str (if (inV (.str wd) [.str "out", .str "most"] && decide (V.int lo = V.int 0)) = true then ("least" : Str) else wd))
            (et_and (et_inW (ev_var rfl) (el_lst (ea_cons ev_c (ea_cons ev_c ea_nil)) (by show 2 ≤ 100000; decide))) fun _ => et_test (ev_op (ev_var rfl) ev_c (rv_eq rfl))) (fun hb => ?_) (fun hb => ?_) fun H11 e11 => ?_
          · rw [if_pos hb]
            exact ev_menu (k := 1) (el_lst (ea_cons ev_c (ea_cons ev_c ea_nil)) (by show 2 ≤ 100000; decide)) (ev_op (ev_lenT (ev_var rfl) (ex_t e810 ha)) ev_c rv_sub) rfl
          · rw [hb, if_neg (by decide)]
            rfl
          have hw2 : (if (inV (.str wd) [.str "out", .str "most"] && decide (V.int lo = V.int 0)) = true then ("least" : Str) else wd) = ("least" : Str) ∨ (if (inV (.str wd) [.str "out", .str "most"] && decide (V.int lo = V.int 0)) = true then ("least" : Str) else wd) = "most" := by
            split
            · exact .inl rfl
            · exact hc
          generalize (if (inV (.str wd) [.str "out", .str "most"] && decide (V.int lo = V.int 0)) = true then ("least" : Str) else wd) = wq at hw2
          have e811 := e810.trans e11
          refine s_if (b := false) (et_test (ev_is (ev_op (ev_lenT (ev_var rfl) (ex_t e811 ha)) ev_c (rv_eq rfl)) rfl)) (fun z => nomatch z) (fun _ H12 e12' => ?_)
          have e812 := e811.trans e12'
          have hA12 := hA.ex (fun _ _ _ _ e h => h.mono e) e812
          obtain ⟨vs, hvs, hvl, hva⟩ := hli
          have ev : ∀ j, j < vs.length → ∃ T, vs[j]? = some (.ref T) ∧ SqT K H7 T [.int (((its.getD j (0, 0)).1 : Nat) : Int), .int (its.getD j (0, 0)).2] := fun j hj => by
            have h1 : its[j]? = some (its.getD j (0, 0)) := by rw [List.getD_eq_getElem?_getD, List.getElem?_eq_getElem (by omega)]; rfl
            obtain ⟨T, hT1, hT2⟩ := hva j _ _ (List.getElem?_eq_getElem hj) h1
            exact ⟨T, by rw [List.getElem?_eq_getElem hj, hT1], hT2⟩
          have hmem : ∀ j, j < vs.length → its.getD j (0, 0) ∈ its := fun j hj => by
            rw [List.getD_eq_getElem?_getD, List.getElem?_eq_getElem (by omega)]
            exact List.getElem_mem _
          refine s_appR (fun v H13 => ∃ p, PartAt K (newer H12 H13) v p ∧ WfPart n p) hA12.is (ev_var rfl) (fun H13 Q e13 q => ?_) hlw fun v H13 e13 hp => ?_
          · refine ⟨_, rfl, (ev_T (ta := tVar 4) (tb := tC (.int 1)) (ev_var rfl) ev_c (ex_t (e812.trans e13) ha) at1) H13 (Ex.refl H13) _ fun H14 e14' => ?_⟩
            have e714 := (e812.trans e13).trans e14'
            refine lc_new (K := K) (xs := vs) (fun H v j => ItemAt K H v (((its.getD j (0, 0)).1 : Nat) % tq.toNat, (its.getD j (0, 0)).2)) (fun _ _ _ _ e h => h.mono e)
              (fun j => [some (.ref x), some (.int ((n : Nat) : Int)), some (.int lo), some (.ref ql), some (.ref a), some (.str wq), some (.int tq), some (.int (((its.getD j (0, 0)).1 : Nat) : Int)), some (.int (its.getD j (0, 0)).2)])
              (ev_T (ev_var rfl) ev_c (ex_t e714 ha) at2) (ex_l e714 hvs) (by omega) (fun j y H15 Q e15 hy hQ => ?_) (fun j hj => rfl) (fun j H15 e15 hj Q hQ => ?_) fun pl H15 ys hpl15 e15 h15 hys hrel => ?_
            · have hj := (List.getElem?_eq_some_iff.mp hy).1
              obtain ⟨T, hT1, hT2⟩ := ev j hj
              rw [hT1] at hy
              rw [← Option.some.inj hy]
              exact g_two (ex_t (e714.trans e15) hT2) hQ
            · have hq2 : (((its.getD j (0, 0)).1 : Nat) : Int) % tq = ((((its.getD j (0, 0)).1 : Nat) % tq.toNat : Nat) : Int) := by
                rw [Int.natCast_emod, Int.toNat_of_nonneg (by omega)]
              refine eu_tup (ea_cons (ev_op (ev_var rfl) (ev_var rfl) (rv_mod hu1)) (ea_cons (ev_var rfl) ea_nil)) (by show 2 ≤ 100000; decide) H15 (Ex.refl H15) _ fun T H16 hT e16 h16 => ?_
              rw [hq2] at h16
              exact hQ _ H16 e16 ⟨T, rfl, st_of (newer_of hT h16)⟩
            · refine ⟨sz_of (by show 3 ≤ 100000; decide), fun T hT => ?_⟩
              have hTn : H12 T = none := fresh_back ((e13.trans e14').trans e15) hT
              have hpn : H12 pl = none := fresh_back (e13.trans e14') hpl15
              have eT : Ex H15 (upd H15 T (.tup [.str wq, .int b, .ref pl])) := Ex.new hT
              obtain ⟨p, hp, hwp⟩ := three_part (K := K) (n := n) (a := T) (l := pl) (wd := wq) (b := b) (its := its.map fun it => (it.1 % tq.toNat, it.2)) (H := newer H12 (upd H15 T (.tup [.str wq, .int b, .ref pl])))
                (st_of (newer_of hTn upd_same)) ⟨ys, sq_of (newer_of hpn (eT _ _ h15)), by rw [List.length_map, hys, hvl], fun j v it a1 a2 => by
                  rw [List.getElem?_map] at a2
                  have hj : j < its.length := by
                    have := (List.getElem?_eq_some_iff.mp a1).1
                    omega
                  have r := hrel j v a1
                  rw [List.getD_eq_getElem?_getD] at r
                  rw [List.getElem?_eq_getElem hj] at a2 r
                  rw [← Option.some.inj a2]
                  exact r.mono ((newer_low (e13.trans e14')).trans (newer_step eT))⟩ hw2 (fun it hit => by
                  obtain ⟨i0, hi0, rfl⟩ := List.mem_map.mp hit
                  refine ⟨?_, (hits i0 hi0).2⟩
                  have := Nat.mod_lt i0.1 (show 0 < tq.toNat by omega)
                  show i0.1 % tq.toNat < n
                  omega) (by rw [List.length_map]; exact hits3)
              exact q _ _ ((e14'.trans e15).trans eT) ⟨p, hp.mono (Ex.refl _), hwp⟩
          · obtain ⟨p, hp, hwp⟩ := hp
            exact ⟨_, _, _, ps ++ [p], ws ++ [v], rfl, ((e7.trans e812).trans e13).mut hql, hA12.snoc h4 (fun _ _ _ _ e h => h.mono e) e13 hp hwp, hpl p⟩
      · rintro σ H7 ⟨v4, v5, v6, ps, ws, rfl, e7, hA, hil⟩
        have e17 := e12.trans e7
        have hx7 := ex_t e17 hx
        refine s_retU (eu_tup (ea_cons (ev_T (ev_var rfl) ev_c hx7 at0) (ea_cons (ev_T (ev_var rfl) ev_c hx7 at1) (ea_cons (ev_var rfl) ea_nil))) (by show 3 ≤ 100000; decide)) fun p H10 hp e10 h10 => ?_
        have hpH : H p = none := fresh_back e17 hp
        exact q _ (some h, ps) H10 (e17.trans e10) (.inr ⟨p, ql, rfl, st_of (newer_of hpH h10), ⟨ws, sq_of (newer_of hqH (e10 _ _ hA.is)), hA.len, fun j v it a1 a2 => (hA.rel j v it a1 a2).mono ((newer_step e10).trans (newer_low e14))⟩⟩)
          ⟨(fun h z => by have := Option.some.inj z; omega), hA.good, by show ps.length ≤ 3; omega⟩
end
end KW

-- K15
set_option Elab.async false
set_option linter.all false
set_option maxRecDepth 100000
set_option maxHeartbeats 4000000
namespace KW
open PySem PySem.Spec PyProof.Rows L2 Evl KM
theorem sIx_nat2 (n d k : Nat) : HT.sIx n d (some ((k : Nat) : Int)) = min k n := by
  show (if ((k : Nat) : Int) < 0 then (((k : Nat) : Int) + (n : Int)).toNat else min ((k : Nat) : Int).toNat n) = min k n
  rw [if_neg (by omega), Int.toNat_natCast]
/-- a cut of a list of ints: at most hi - lo ints -/
theorem cut_ints (ns : List Int) (lo hi : Nat) (hle : lo ≤ hi) : ∃ ms : List Int, cutV (ns.map V.int) (some ((lo : Nat) : Int)) (some ((hi : Nat) : Int)) = ms.map V.int ∧ ms.length ≤ hi - lo := by
  refine ⟨(ns.drop (HT.sIx (ns.map V.int).length 0 (some ((lo : Nat) : Int)))).take (HT.sIx (ns.map V.int).length (ns.map V.int).length (some ((hi : Nat) : Int)) - HT.sIx (ns.map V.int).length 0 (some ((lo : Nat) : Int))), ?_, ?_⟩
  · unfold cutV
    rw [List.map_take, List.map_drop]
  · rw [List.length_take, sIx_nat2, sIx_nat2]
    omega
section
variable {P : Program} {w : World} {K : Fg} {mg : Str → Option Value} {base : Heap}
theorem cal_plain (D : DefAt K mg "_law_plain" sPlain ["_law_script"]) (B : Blt mg) (cMx : C8.Cal P w K mg base 1 "_law_mixed" spMixed []) (cCe : C8.Cal P w K mg base 1 "_law_cell_at" (spLCell K) []) (cRu : C8.Cal P w K mg base 2 "_law_rule" (spLRule K) [])
    (cTa : C8.Cal P w K mg base 1 "_law_tamed" (spTamed K) []) : C8.Cal P w K mg base 3 "_law_plain" (spPlain K) [] := by
  refine cal_of D scPlain (fun vs H Q E h => ?_) (fun f cdv A outer s H vs Q E hr h => ?_)
  · obtain ⟨a, ns, rfl, _⟩ := h
    rfl
  · obtain ⟨a, ns, rfl, hS, hns, q⟩ := h
    refine ⟨_, (pss_cons (ps_set (i := 1) scPlain.nd rfl (Or.inl rfl) (C8.pe_c cMx hr (by decide) (by rfl) (pa_cons (C8.pe_c cCe hr (by decide) (by rfl) (pa_cons (pv 0) (pa_cons pe_int pa_nil))) (pa_cons pe_int pa_nil))))
      (pss_cons (ps_set (i := 2) scPlain.nd rfl (Or.inl rfl) (pe_op op_mod (pv 1) pe_int))
      (pss_cons (ps_set (i := 3) scPlain.nd rfl (Or.inl rfl) (pe_lst pa_nil))
      (pss_cons (ps_for PassesOwn.never rfl (pi_list (pe_slice sl_list (pv 0) (po_some pe_int) (po_some pe_int))) (pg_name (i := 4) scPlain.nd rfl (Or.inl rfl)) (pss_cons (ps_set (i := 5) scPlain.nd rfl (Or.inl rfl) (C8.pe_c cRu hr (by decide) (by rfl) (pa_cons (pv 4) (pa_cons (pv 2) (pa_cons (pe_lst (pa_cons pe_str (pa_cons pe_str (pa_cons pe_str (pa_cons pe_str pa_nil))))) pa_nil)))))
      (pss_cons (ps_if (pt_cmpR op_gt (pe_op op_mod (pe_op op_fdiv (pv 1) pe_int) pe_int) pe_int (nomark _)) (pss_one (ps_set (i := 5) scPlain.nd rfl (Or.inl rfl) (C8.pe_c cTa hr (by decide) (by rfl) (pa_cons (pv 5) (pa_cons (pv 2) pa_nil))))) pss_nil)
      (pss_one (ps_expr (pe_bm PySem.F.plainAttrs_list PySem.F.slot_list_append PySem.F.type_list_append mt_append (pv 3) (pa_cons (pv 5) pa_nil)))))))
      (pss_one (ps_ret (pe_tup (pa_cons (pv 2) (pa_cons (pv 3) pa_nil))))))))), ?_⟩
    refine ⟨_, rfl, a, ns, rfl, hS, fun z H1 e1 => ⟨z, 4, rfl, by decide, fun m H2 hm e2 => ?_⟩⟩
    have e12 := e1.trans e2
    refine q_asg (ev_op (ev_var rfl) ev_c (rv_mod (by decide))) fun H3 e3 => ?_
    obtain ⟨n, hn⟩ := nat_of (Int.emod_nonneg m (show (9 : Int) ≠ 0 by decide))
    have hn8 := Int.emod_lt_of_pos m (show (0 : Int) < 9 by decide)
    rw [hn] at hn8 ⊢
    refine q_asgL (el_lst ea_nil (by show 0 ≤ 100000; decide)) fun ql H4 hql e4 h4 => ?_
    have e13 := e12.trans e3
    have e14 := e13.trans e4
    have hqH : H ql = none := fresh_back e13 hql
    obtain ⟨ms, hms, hml⟩ := cut_ints ns 2 22 (by decide)
    have hR : ∀ (H1 H2 : Hp) (v : V) (r : Rule), Ex H1 H2 → RuleAt K H1 v r → RuleAt K H2 v r := fun _ _ _ _ e h => h.mono e
    refine q_forNLn (xs := ms.map V.int) (EvL.cast (el_sl (ev_var rfl) (eo_some ev_c) (eo_some ev_c) (ex_l e14 hS)) hms)
      (fun p i σ H7 => ∃ v4 v5, ∃ (R : List Rule), ∃ (ws : List V), σ = [some (.ref a), some (.int m), some (.int ((n : Nat) : Int)), some (.ref ql), v4, v5] ∧ Ex H3 H7 ∧ Acc (RuleAt K) (WfRule n) H4 ql H7 ws R ∧ R.length ≤ i ∧ H7 p = some (.lst (ms.map V.int)) ∧ p ≠ ql)
      (fun p H7 hp e7 h7 => ⟨none, none, [], [], rfl, e4.trans e7, Acc.nil h4 e7, Nat.le_refl 0, h7, (ne_of_none h4 hp).symm⟩)
      (fun p i σ H7 _ ⟨_, _, _, _, _, _, _, _, h, _⟩ => sq_of h) ?_ ?_
    · rintro p i cv σ H7 hcv ⟨v4, v5, R, ws, rfl, e7, hA, hil, hp7, hpq⟩
      have hi : i < ms.length := by
        have := (List.getElem?_eq_some_iff.mp hcv).1
        rw [List.length_map] at this
        exact this
      obtain ⟨c, rfl⟩ : ∃ c, cv = V.int c := by
        rw [List.getElem?_map, List.getElem?_eq_getElem hi] at hcv
        exact ⟨_, (Option.some.inj hcv).symm⟩
      have hlw : ws.length < 100000 := by
        have := hA.len
        omega
      have done : ∀ (v : V) (r : Rule) (H9 : Hp), Ex H7 H9 → RuleAt K (newer H7 H9) v r → WfRule n r → ∀ v5', ∃ v4 v5, ∃ (R : List Rule), ∃ (ws' : List V), ([some (.ref a), some (.int m), some (.int ((n : Nat) : Int)), some (.ref ql), some (.int c), v5'] : L2.St) = [some (.ref a), some (.int m), some (.int ((n : Nat) : Int)), some (.ref ql), v4, v5] ∧
          Ex H3 (upd H9 ql (.lst (ws ++ [v]))) ∧ Acc (RuleAt K) (WfRule n) H4 ql (upd H9 ql (.lst (ws ++ [v]))) ws' R ∧ R.length ≤ i + 1 ∧ (upd H9 ql (.lst (ws ++ [v]))) p = some (.lst (ms.map V.int)) ∧ p ≠ ql :=
        fun v r H9 e9 hr hw v5' => ⟨_, _, R ++ [r], ws ++ [v], rfl, (e7.trans e9).mut hql, hA.snoc h4 hR e9 hr hw, by rw [List.length_append, List.length_singleton]; omega, by rw [upd_ne hpq]; exact e9 _ _ hp7, hpq⟩
      refine ⟨_, rfl, _, rfl, (el_lst (ea_cons ev_c (ea_cons ev_c (ea_cons ev_c (ea_cons ev_c ea_nil)))) (by show 4 ≤ 100000; decide)) H7 (Ex.refl H7) _ fun lw H8 _ e8 h8 => ?_⟩
      refine ⟨c, n, lw, rfl, sq_of h8, by omega, fun v r H9 e9 hrl hwf => ?_⟩
      have e79 := e8.trans e9
      have hr7 : RuleAt K (newer H7 H9) v r := hrl.mono (newer_low e8)
      refine q_when (b := decide ((0 : Int) < m / 9 % 8)) (et_test (ev_op (ev_op (ev_op (ev_var rfl) ev_c (rv_div (by decide) (by decide))) ev_c (rv_mod (by decide))) ev_c rv_gt)) (fun _ H10 e10 => ?_) (fun _ H10 e10 => ?_)
      · refine ⟨_, rfl, _, rfl, v, n, r, rfl, (hr7.mono newer_ex).mono e10, hwf, by omega, fun v' r' H11 e11 hor hwf' => ?_⟩
        have e711 := (e79.trans e10).trans e11
        have hr11 : RuleAt K (newer H7 H11) v' r' := by
          rcases hor with ⟨rfl, rfl⟩ | h
          · exact hr7.mono (newer_step (e10.trans e11))
          · exact h.mono (newer_low (e79.trans e10))
        exact s_app (hA.ex hR e711).is (ev_var rfl) (ev_var rfl) hlw fun H12 e12 => done v' r' H12 (e711.trans e12) (hr11.mono (newer_step e12)) hwf' _
      · have e710 := e79.trans e10
        exact s_app (hA.ex hR e710).is (ev_var rfl) (ev_var rfl) hlw fun H12 e12 => done v r H12 (e710.trans e12) (hr7.mono (newer_step (e10.trans e12))) hwf _
    · rintro p σ H7 ⟨v4, v5, R, ws, rfl, e7, hA, hil, hp7, hpq⟩
      rw [List.length_map] at hil
      refine s_retU (eu_tup (ea_cons (ev_var rfl) (ea_cons (ev_var rfl) ea_nil)) (by show 2 ≤ 100000; decide)) fun T H8 hT e8 h8 => ?_
      exact q _ n R H8 ((e13.trans e7).trans e8) ⟨T, ql, rfl, st_of h8, ws, sq_of (e8 _ _ hA.is), hA.len, fun j v r a1 a2 => (hA.rel j v r a1 a2).mono (newer_ex.trans e8)⟩ ⟨by omega, hA.good, by omega⟩
end
end KW

-- K16
set_option Elab.async false
set_option linter.all false
set_option maxRecDepth 100000
set_option maxHeartbeats 4000000
namespace KW
open PySem PySem.Spec PyProof.Rows L2 Evl KM
/-! ### the law's own reading of a rule -/
abbrev sHoldsL : Stmt := top 35
abbrev sBodyL : Stmt := top 36
theorem scHoldsL : FnScope ["_law_row", "_law_rising", "_law_world", "_law_thing", "_law_worth"] ["_law_row", "_law_rising", "_law_world"] (L2.defScope sHoldsL) := ⟨rfl, rfl, rfl, by decide +kernel, rfl, by decide +kernel, by decide +kernel⟩
theorem scBodyL : FnScope ["_law_rule_here", "_law_rising", "_law_world", "_law_row"] ["_law_rule_here", "_law_rising", "_law_world"] (L2.defScope sBodyL) := ⟨rfl, rfl, rfl, by decide +kernel, rfl, by decide +kernel, by decide +kernel⟩
def spHoldsL (K : Fg) : Sp := fun vs H Q _ => ∃ (v : V) (a b : Addr) (n : Nat) (p : Part) (ri wo : Nat → Bool), vs = [v, .ref a, .ref b] ∧ PartAt K H v p ∧ WfPart n p ∧ SqL K H a (bls n ri) ∧ SqL K H b (bls n wo) ∧ ∀ H', Ex H H' → Q (.bl (holds p ri wo)) H'
def spBodyL (K : Fg) : Sp := fun vs H Q _ => ∃ (v : V) (a b : Addr) (n : Nat) (r : Rule) (ri wo : Nat → Bool), vs = [v, .ref a, .ref b] ∧ RuleAt K H v r ∧ WfRule n r ∧ SqL K H a (bls n ri) ∧ SqL K H b (bls n wo) ∧ ∀ H', Ex H H' → Q (.bl (KM.body r.2 ri wo)) H'
section
variable {K : Fg} {H : Hp}
/-- the sum of the worths of a row's items that are told -/
theorem ev_worths {n : Nat} {wd : Str} {x a b l t : Addr} {bb : Int} {k : Nat} {its : List (Nat × Int)} {u : Nat → Bool} (hk : ([some (V.ref x), some (V.ref a), some (V.ref b), none, none] : L2.St)[k]? = some (some (.ref t))) (hk3 : k < 3) (hx : SqT K H x [.str wd, .int bb, .ref l]) (hl : LsAt K H (ItemAt K H) l its)
    (ht : SqL K H t (bls n u)) (hlt : ∀ it ∈ its, it.1 < n) (hz : its.length ≤ 3) :
    Ev (tCB (rSum K) (tCons (tLc (iList K (tOp (rIxT K) (tVar 0) (tC (.int 2)))) (gTup K 2 (gCons (gName 3) (gCons (gName 4) gNil))) (tB (tOp (rIxL K) (tVar k) (tVar 3))) (tVar 4) [3, 4]) tNil)) [some (.ref x), some (.ref a), some (.ref b), none, none] H (.int (wsum its u)) := by
  obtain ⟨us, hL, hlen, hat⟩ := hl
  refine ev_sumL (EvL.cast (el_lcG (K := K) (a := l) (xs := us) (fun i => u (its.getD i (0, 0)).1) (fun i => .int (its.getD i (0, 0)).2) (fun i => [some (.ref x), some (.ref a), some (.ref b), some (.int (((its.getD i (0, 0)).1 : Nat) : Int)), some (.int (its.getD i (0, 0)).2)])
    (ev_T (ev_var rfl) ev_c hx at2) hL (by omega) (fun i x H1 Q' e1 hx q' => ?_) (fun _ _ => rfl) (fun i H1 e1 hi => ?_) (fun i H1 e1 hi _ => ev_var rfl)) (ys := ((its.filter fun it : Nat × Int => u it.1).map (fun it : Nat × Int => it.2)).map V.int) ?_)
  · obtain ⟨it, hit, hm⟩ := ls_at hlen hx
    obtain ⟨T, rfl, hT⟩ := hat i x it hx hit
    refine g_two (ex_t e1 hT) ?_
    have ed : its.getD i (0, 0) = it := by rw [List.getD_eq_getElem?_getD, hit] <;> rfl
    rw [ed] at q'
    exact q'
  · have hi' : i < its.length := by omega
    have ed : its.getD i (0, 0) ∈ its := by
      rw [List.getD_eq_getElem?_getD, List.getElem?_eq_getElem hi']
      exact List.getElem_mem hi'
    refine et_B (ev_mark (ev_var ?_) (ev_var rfl) (ex_l e1 ht) (hlt _ ed))
    match k, hk3, hk with
    | 0, _, hk => exact hk
    | 1, _, hk => exact hk
    | 2, _, hk => exact hk
  · rw [hlen, given_list its (0, 0) (fun it => u it.1) (fun it => V.int it.2), List.map_map] <;> rfl
end
section
variable {P : Program} {w : World} {K : Fg} {mg : Str → Option Value} {base : Heap}
theorem cal_holdsL (D : DefAt K mg "_law_holds" sHoldsL ["_law_row", "_law_rising", "_law_world"]) (B : Blt mg) : C8.Cal P w K mg base 1 "_law_holds" (spHoldsL K) [] := by
  refine cal_of D scHoldsL (fun vs H Q E h => ?_) (fun f cdv A outer s H vs Q E hr h => ?_)
  · obtain ⟨v, a, b, n, p, ri, wo, rfl, _⟩ := h
    rfl
  · obtain ⟨v, a, b, n, p, ri, wo, rfl, hp, hw, ha, hb, q⟩ := h
    refine ⟨_, (pss_cons (ps_if (pt_cmpR op_eq (pe_ix ix_tup (pv 0) pe_int (fun _ _ => rfl)) pe_str (nomark _)) (pss_one (ps_ret (pe_ix ix_list (pv 1) (pe_ix ix_tup (pv 0) pe_int (fun _ _ => rfl)) (fun _ _ => rfl)))) pss_nil)
      (pss_cons (ps_if (pt_cmpR op_eq (pe_ix ix_tup (pv 0) pe_int (fun _ _ => rfl)) pe_str (nomark _)) (pss_one (ps_ret (pe_not (pe_ix ix_list (pv 2) (pe_ix ix_tup (pv 0) pe_int (fun _ _ => rfl)) (fun _ _ => rfl))))) pss_nil)
      (pss_cons (ps_if (pt_cmpR op_eq (pe_ix ix_tup (pv 0) pe_int (fun _ _ => rfl)) pe_str (nomark _)) (pss_one (ps_ret (pe_cmpR op_ge (pe_callB (cr_sum rfl) (by rfl) B.sum (by decide +kernel) (pa_cons (pe_lc (own := [("_law_thing", 3), ("_law_worth", 4)]) (g := gTup K 2 (gCons (gName 3) (gCons (gName 4) gNil))) (tt := tB (tOp (rIxL K) (tVar 1) (tVar 3))) (te := tVar 4) rfl scHoldsL.nd (pi_list (pe_ix ix_tup (pv 0) pe_int (fun _ _ => rfl))) (blkOk_by (N := ["_law_row", "_law_rising", "_law_world", "_law_thing", "_law_worth"]) (sc := L2.defScope sHoldsL) (by decide +kernel)) (fun _ _ _ _ _ => (pg_tup rfl (pgs_cons (pg_name (i := 3) scHoldsL.nd rfl (Or.inl rfl)) (pgs_cons (pg_name (i := 4) scHoldsL.nd rfl (Or.inl rfl)) pgs_nil)))) (fun _ _ _ _ _ => (pts_one (pt_val (pe_ix ix_list (pv 1) (pv 3) (fun _ _ => rfl))))) (fun _ _ _ _ _ => (pv 4))) pa_nil)) (pe_ix ix_tup (pv 0) pe_int (fun _ _ => rfl)) (nomark _)))) pss_nil)
      (pss_one (ps_ret (pe_cmpR op_le (pe_callB (cr_sum rfl) (by rfl) B.sum (by decide +kernel) (pa_cons (pe_lc (own := [("_law_thing", 3), ("_law_worth", 4)]) (g := gTup K 2 (gCons (gName 3) (gCons (gName 4) gNil))) (tt := tB (tOp (rIxL K) (tVar 2) (tVar 3))) (te := tVar 4) rfl scHoldsL.nd (pi_list (pe_ix ix_tup (pv 0) pe_int (fun _ _ => rfl))) (blkOk_by (N := ["_law_row", "_law_rising", "_law_world", "_law_thing", "_law_worth"]) (sc := L2.defScope sHoldsL) (by decide +kernel)) (fun _ _ _ _ _ => (pg_tup rfl (pgs_cons (pg_name (i := 3) scHoldsL.nd rfl (Or.inl rfl)) (pgs_cons (pg_name (i := 4) scHoldsL.nd rfl (Or.inl rfl)) pgs_nil)))) (fun _ _ _ _ _ => (pts_one (pt_val (pe_ix ix_list (pv 2) (pv 3) (fun _ _ => rfl))))) (fun _ _ _ _ _ => (pv 4))) pa_nil)) (pe_ix ix_tup (pv 0) pe_int (fun _ _ => rfl)) (nomark _))))))), ?_⟩
    cases p with
    | inn t =>
      obtain ⟨x, rfl, hx⟩ := hp
      refine q_when (b := true) (et_eqS (ev_T (ev_var rfl) ev_c hx at0) (by decide +kernel)) (fun _ H1 e1 => ?_) (fun z => nomatch z)
      exact s_ret (ev_mark (ev_var rfl) (ev_T (ev_var rfl) ev_c (ex_t e1 hx) at1) (ex_l e1 ha) (hw.lt t List.mem_cons_self)) fun H2 e2 => q H2 (e1.trans e2)
    | out t =>
      obtain ⟨x, rfl, hx⟩ := hp
      refine q_when (b := false) (et_eqS (ev_T (ev_var rfl) ev_c hx at0) (by decide +kernel)) (fun z => nomatch z) (fun _ H1 e1 => ?_)
      refine q_when (b := true) (et_eqS (ev_T (ev_var rfl) ev_c (ex_t e1 hx) at0) (by decide +kernel)) (fun _ H2 e2 => ?_) (fun z => nomatch z)
      have e12 := e1.trans e2
      exact s_ret (ev_notV (ev_mark (ev_var rfl) (ev_T (ev_var rfl) ev_c (ex_t e12 hx) at1) (ex_l e12 hb) (hw.lt t List.mem_cons_self))) fun H3 e3 => q H3 (e12.trans e3)
    | least bb its =>
      obtain ⟨x, l, rfl, hx, hl⟩ := hp
      refine q_when (b := false) (et_eqS (ev_T (ev_var rfl) ev_c hx at0) (by decide +kernel)) (fun z => nomatch z) (fun _ H1 e1 => ?_)
      refine q_when (b := false) (et_eqS (ev_T (ev_var rfl) ev_c (ex_t e1 hx) at0) (by decide +kernel)) (fun z => nomatch z) (fun _ H2 e2 => ?_)
      refine q_when (b := true) (et_eqS (ev_T (ev_var rfl) ev_c (ex_t (e1.trans e2) hx) at0) (by decide +kernel)) (fun _ H3 e3 => ?_) (fun z => nomatch z)
      have e13 := (e1.trans e2).trans e3
      exact s_ret (ev_op (ev_worths (k := 1) rfl (by decide) (ex_t e13 hx) (hl.mono e13 fun _ _ h => h.mono e13) (ex_l e13 ha) (fun it hit => hw.lt it.1 (List.mem_map.mpr ⟨it, hit, rfl⟩)) hw.len) (ev_T (ev_var rfl) ev_c (ex_t e13 hx) at1) rv_ge) fun H4 e4 => q H4 (e13.trans e4)
    | most bb its =>
      obtain ⟨x, l, rfl, hx, hl⟩ := hp
      refine q_when (b := false) (et_eqS (ev_T (ev_var rfl) ev_c hx at0) (by decide +kernel)) (fun z => nomatch z) (fun _ H1 e1 => ?_)
      refine q_when (b := false) (et_eqS (ev_T (ev_var rfl) ev_c (ex_t e1 hx) at0) (by decide +kernel)) (fun z => nomatch z) (fun _ H2 e2 => ?_)
      refine q_when (b := false) (et_eqS (ev_T (ev_var rfl) ev_c (ex_t (e1.trans e2) hx) at0) (by decide +kernel)) (fun z => nomatch z) (fun _ H3 e3 => ?_)
      have e13 := (e1.trans e2).trans e3
      exact s_ret (ev_op (ev_worths (k := 2) rfl (by decide) (ex_t e13 hx) (hl.mono e13 fun _ _ h => h.mono e13) (ex_l e13 hb) (fun it hit => hw.lt it.1 (List.mem_map.mpr ⟨it, hit, rfl⟩)) hw.len) (ev_T (ev_var rfl) ev_c (ex_t e13 hx) at1) rv_le) fun H4 e4 => q H4 (e13.trans e4)
theorem cal_bodyL (D : DefAt K mg "_law_body" sBodyL ["_law_rule_here", "_law_rising", "_law_world"]) (cHo : C8.Cal P w K mg base 1 "_law_holds" (spHoldsL K) []) : C8.Cal P w K mg base 2 "_law_body" (spBodyL K) [] := by
  refine cal_of D scBodyL (fun vs H Q E h => ?_) (fun f cdv A outer s H vs Q E hr h => ?_)
  · obtain ⟨v, a, b, n, r, ri, wo, rfl, _⟩ := h
    rfl
  · obtain ⟨v, a, b, n, r, ri, wo, rfl, ⟨x, l, rfl, hx, us, hl, hlen, hat⟩, hw, ha, hb, q⟩ := h
    refine ⟨_, (pss_cons (ps_for PassesOwn.never rfl (pi_list (pe_ix ix_tup (pv 0) pe_int (fun _ _ => rfl))) (pg_name (i := 3) scBodyL.nd rfl (Or.inl rfl)) (pss_one (ps_if (pt_not (pt_val (C8.pe_c cHo hr (by decide) (by rfl) (pa_cons (pv 3) (pa_cons (pv 1) (pa_cons (pv 2) pa_nil)))))) (pss_one (ps_ret pe_bl)) pss_nil)))
      (pss_one (ps_ret pe_bl))), ?_⟩
    refine q_forLn (ev_T (ev_var rfl) ev_c hx at2) hl
      (fun i σ H7 => ∃ v3, σ = [some (.ref x), some (.ref a), some (.ref b), v3] ∧ Ex H H7 ∧ KM.body (r.2.take i) ri wo = true)
      (fun H7 e7 => ⟨none, rfl, e7, rfl⟩) (fun i σ H7 _ ⟨_, _, e7, _⟩ => ex_l e7 hl) ?_ ?_
    · rintro i pv σ H7 hpv ⟨v3, rfl, e7, hbd⟩
      obtain ⟨p, hp, hpm⟩ := ls_at hlen hpv
      have hpa := (hat i pv p hpv hp).mono e7
      refine s_when (b := !holds p ri wo) (et_not (et_B (ev_call (ea_cons (ev_var rfl) (ea_cons (ev_var rfl) (ea_cons (ev_var rfl) ea_nil))) (fun H8 e8 Q' q' E' => ⟨pv, a, b, n, p, ri, wo, rfl, hpa.mono e8, hw.parts p hpm, ex_l (e7.trans e8) ha, ex_l (e7.trans e8) hb, q'⟩)))) (fun hh H8 e8 => ?_) (fun hh H8 e8 => ?_)
      · have hf : KM.body r.2 ri wo = false := by
          cases hc : KM.body r.2 ri wo with
          | false => rfl
          | true =>
            unfold KM.body at hc
            rw [List.all_eq_true] at hc
            rw [hc p hpm] at hh
            cases hh
        rw [hf] at q
        exact q H8 (e7.trans e8)
      · refine ⟨_, rfl, e7.trans e8, ?_⟩
        rw [List.take_add_one, hp]
        unfold KM.body at hbd ⊢
        rw [List.all_append, hbd, Bool.true_and]
        show (holds p ri wo && true) = true
        rw [Bool.and_true]
        cases hc : holds p ri wo with
        | true => rfl
        | false => rw [hc] at hh; cases hh
    · rintro σ H7 ⟨v3, rfl, e7, hbd⟩
      rw [hlen, List.take_length] at hbd
      rw [hbd] at q
      exact q H7 e7
end
end KW

-- K17
set_option Elab.async false
set_option linter.all false
set_option maxRecDepth 100000
set_option maxHeartbeats 4000000
namespace KW
open PySem PySem.Spec PyProof.Rows L2 Evl KM
/-! ### lists of things compared -/
def pints (L : List Nat) : List PyData := L.map fun i => PyData.int ((i : Nat) : Int)
theorem pints_lay : ∀ L : List Nat, PyData.canLayAll0 (pints L) = true
  | [] => rfl
  | _ :: r => by
    have := pints_lay r
    unfold pints at this ⊢
    simp [PyData.canLayAll0, PyData.canLay0, this]
theorem pints_depth : ∀ L : List Nat, PyData.depthAll (pints L) = 0
  | [] => rfl
  | _ :: r => by
    have := pints_depth r
    unfold pints at this ⊢
    simp [PyData.depthAll, PyData.depth, this]
theorem pints_shaped (L : List Nat) : SeqAt.shaped (.list (pints L)) = true := by
  simp [SeqAt.shaped, PyData.canLay0, PyData.depth, pints_lay, pints_depth]
theorem pints_eqv : ∀ L M : List Nat, PyData.eqvAll (pints L) (pints M) = decide (L = M)
  | [], [] => by simp [pints, PyData.eqvAll]
  | [], _ :: _ => by simp [pints, PyData.eqvAll]
  | _ :: _, [] => by simp [pints, PyData.eqvAll]
  | a :: r, b :: t => by
    have ih := pints_eqv r t
    unfold pints at ih ⊢
    rw [List.map_cons, List.map_cons, PyData.eqvAll, ih, PyData.eqv]
    by_cases h : a = b
    · subst h
      by_cases h' : r = t <;> simp [h']
    · have : ¬ ((a : Nat) : Int) = ((b : Nat) : Int) := by omega
      simp [h, this]
section
variable {K : Fg} {H : Hp} {σ : L2.St} {ta tb tc : TE}
theorem dp_all : ∀ L : List Nat, DpAll K H (nvs L) (pints L)
  | [] => .nil
  | a :: r => .cons (.int _) (dp_all r)
theorem rv_eqLs {a b : Addr} {L M : List Nat} (h : SqL K H a (nvs L)) (h2 : SqL K H b (nvs M)) : RV (rEqD K) (.ref a) (.ref b) H (.bl (decide (L = M))) := fun H1 e Q q =>
  ⟨.list (pints L), .list (pints M), .lst (ex_l e h) (dp_all L), .lst (ex_l e h2) (dp_all M), pints_shaped L, pints_shaped M, by rw [PyData.eqv, pints_eqv]; exact q H1 (Ex.refl H1)⟩
theorem rv_neLs {a b : Addr} {L M : List Nat} (h : SqL K H a (nvs L)) (h2 : SqL K H b (nvs M)) : RV (rNeD K) (.ref a) (.ref b) H (.bl (!decide (L = M))) := fun H1 e Q q =>
  ⟨.list (pints L), .list (pints M), .lst (ex_l e h) (dp_all L), .lst (ex_l e h2) (dp_all M), pints_shaped L, pints_shaped M, by rw [PyData.eqv, pints_eqv]; exact q H1 (Ex.refl H1)⟩
/-- a thing in, not in, a list of things -/
theorem ev_inN {a : Addr} {t : Nat} {L : List Nat} (h : Ev ta σ H (.int ((t : Nat) : Int))) (h2 : Ev tb σ H (.ref a)) (hs : SqL K H a (nvs L)) : Ev (tOp (rIn K false) ta tb) σ H (.bl (mem L t)) :=
  ev_is (ev_op h h2 (rv_isL hs rfl (nvs_flat L))) (congrArg V.bl (nvs_in L t))
theorem ev_niN {a : Addr} {t : Nat} {L : List Nat} (h : Ev ta σ H (.int ((t : Nat) : Int))) (h2 : Ev tb σ H (.ref a)) (hs : SqL K H a (nvs L)) : Ev (tOp (rIn K true) ta tb) σ H (.bl (!mem L t)) :=
  ev_is (ev_op h h2 (rv_niL hs rfl (nvs_flat L))) (congrArg (fun b => V.bl (!b)) (nvs_in L t))
theorem ev_chain {r r' : R2} {x y z : V} {b : Bool} (ha : Ev ta σ H x) (hb : Ev tb σ H y) (hc : Ev tc σ H z) (h1 : RV r x y H (.bl true)) (h2 : RV r' y z H (.bl b)) : Ev (tChain r r' ta tb tc) σ H (.bl b) := fun H1 e Q q =>
  ha H1 e _ fun H2 e2 => hb H2 (e.trans e2) _ fun H3 e3 => h1 H3 ((e.trans e2).trans e3) _ fun H4 e4 => ⟨true, rfl, iteT (hc H4 (((e.trans e2).trans e3).trans e4) _ fun H5 e5 => h2 H5 ((((e.trans e2).trans e3).trans e4).trans e5) Q fun H6 e6 => q H6 ((((e2.trans e3).trans e4).trans e5).trans e6))⟩
end
/-! ### whether a set falls as it should -/
abbrev sFalls : Stmt := top 37
theorem scFalls : FnScope ["_law_plain_here", "_law_some", "_law_answer", "_law_thing", "_law_world", "_law_rule_here", "_law_rest"] ["_law_plain_here", "_law_some", "_law_answer"] (L2.defScope sFalls) := ⟨rfl, rfl, rfl, by decide +kernel, rfl, by decide +kernel, by decide +kernel⟩
def spFalls (K : Fg) : Sp := fun vs H Q _ => ∃ (pl : V) (a : Addr) (an : V) (n : Nat) (R : List Rule) (W : Nat → Bool), vs = [pl, .ref a, an] ∧ PlainAt K H pl n R ∧ Wf n R ∧ (∀ r ∈ R, ∃ h ps, r = (some h, ps)) ∧ SqL K H a (nvs (nums n W)) ∧ JudV K R n W an H ∧
  (∀ L, (∀ r ∈ R, breaks r W = false) → ChainOk R n W L → Full R (mem L) W → nums n (fun t => W t && !mem L t) = [] → False) ∧ ∀ H', Ex H H' → Q (.bl true) H'
section
variable {P : Program} {w : World} {K : Fg} {mg : Str → Option Value} {base : Heap}
theorem cal_falls (D : DefAt K mg "_law_falls" sFalls ["_law_plain_here", "_law_some", "_law_answer"]) (B : Blt mg) (cWh : C8.Cal P w K mg base 1 "_law_whole" spWhole []) (cBo : C8.Cal P w K mg base 2 "_law_body" (spBodyL K) []) : C8.Cal P w K mg base 3 "_law_falls" (spFalls K) [] := by
  refine cal_of D scFalls (fun vs H Q E h => ?_) (fun f cdv A outer s H vs Q E hr h => ?_)
  · obtain ⟨pl, a, an, n, R, W, rfl, _⟩ := h
    rfl
  · obtain ⟨pl, a, an, n, R, W, rfl, hpl, hwf, hmk, hS, hj, hns, q⟩ := h
    have hpl0 := hpl
    obtain ⟨x, l, rfl, hx, us, hl, hlen, hat⟩ := hpl
    have hn8 := hwf.many
    refine ⟨_, (pss_cons (ps_setLc (i := 4) (own := [("_law_thing", 3)]) (g := gName 3) (tt := tYes) (te := tOp (rIn K false) (tVar 3) (tVar 1)) rfl scFalls.nd rfl rfl (sw_true rfl rfl rfl (by decide +kernel)) (pi_range1 (by rfl) B.range (pa_cons (pe_ix ix_tup (pv 0) pe_int (fun _ _ => rfl)) pa_nil)) (blkOk_by (N := ["_law_plain_here", "_law_some", "_law_answer", "_law_thing", "_law_world", "_law_rule_here", "_law_rest"]) (sc := L2.defScope sFalls) (by decide +kernel)) (fun _ _ _ _ _ => (pg_name (i := 3) scFalls.nd rfl (Or.inl rfl))) (fun _ _ _ _ _ => pts_nil) (fun _ _ _ _ _ => (pe_cmpR op_in_seq (pv 3) (pv 1) (by rfl))))
      (pss_cons (ps_if (pt_cmpR op_eq (pe_ix ix_tup (pv 2) pe_int (fun _ _ => rfl)) pe_str (nomark _)) (pss_cons (ps_if (PW.pt (pw_or (pt_not (pt_val (C8.pe_c cWh hr (by decide) (by rfl) (pa_cons (pe_ix ix_tup (pv 2) pe_int (fun _ _ => rfl)) pa_nil)))) (pw_or1 (pt_not (pt_chain op_le op_lt pe_int (pe_ix ix_tup (pv 2) pe_int (fun _ _ => rfl)) (pe_callB call_len_seq (by rfl) B.len (by decide +kernel) (pa_cons (pe_ix ix_tup (pv 0) pe_int (fun _ _ => rfl)) pa_nil))))))) (pss_one (ps_ret pe_bl)) pss_nil)
      (pss_cons (ps_set (i := 5) scFalls.nd rfl (Or.inl rfl) (pe_ix ix_list (pe_ix ix_tup (pv 0) pe_int (fun _ _ => rfl)) (pe_ix ix_tup (pv 2) pe_int (fun _ _ => rfl)) (fun _ _ => rfl)))
      (pss_one (ps_ret (pe_and (C8.pe_c cBo hr (by decide) (by rfl) (pa_cons (pv 5) (pa_cons (pv 4) (pa_cons (pv 4) pa_nil)))) (pe_one (pe_not (pe_ix ix_list (pv 4) (pe_ix ix_tup (pv 5) pe_int (fun _ _ => rfl)) (fun _ _ => rfl))))))))) pss_nil)
      (pss_cons (ps_if (PW.pt (pw_or (pt_cmpR op_ne (pe_ix ix_tup (pv 2) pe_int (fun _ _ => rfl)) pe_str (nomark _)) (pw_or1 (pt_cmpR (op_eqD hr.units) (pe_ix ix_tup (pv 2) pe_int (fun _ _ => rfl)) (pe_lst pa_nil) (nomark _))))) (pss_one (ps_ret pe_bl)) pss_nil)
      (pss_cons (ps_for PassesOwn.never rfl (pi_list (pe_ix ix_tup (pv 2) pe_int (fun _ _ => rfl))) (pg_name (i := 3) scFalls.nd rfl (Or.inl rfl)) (pss_one (ps_if (pt_cmpR op_notIn_seq (pv 3) (pv 1) (by rfl)) (pss_one (ps_ret pe_bl)) pss_nil)))
      (pss_cons (ps_setLc (i := 6) (own := [("_law_thing", 3)]) (g := gName 3) (tt := tYes) (te := tAndV (tOp (rIn K false) (tVar 3) (tVar 1)) (tOp (rIn K true) (tVar 3) (tOp (rIxT K) (tVar 2) (tC (.int 1))))) rfl scFalls.nd rfl rfl (sw_true rfl rfl rfl (by decide +kernel)) (pi_range1 (by rfl) B.range (pa_cons (pe_ix ix_tup (pv 0) pe_int (fun _ _ => rfl)) pa_nil)) (blkOk_by (N := ["_law_plain_here", "_law_some", "_law_answer", "_law_thing", "_law_world", "_law_rule_here", "_law_rest"]) (sc := L2.defScope sFalls) (by decide +kernel)) (fun _ _ _ _ _ => (pg_name (i := 3) scFalls.nd rfl (Or.inl rfl))) (fun _ _ _ _ _ => pts_nil) (fun _ _ _ _ _ => (pe_and (pe_cmpR op_in_seq (pv 3) (pv 1) (by rfl)) (pe_one (pe_cmpR op_notIn_seq (pv 3) (pe_ix ix_tup (pv 2) pe_int (fun _ _ => rfl)) (by rfl))))))
      (pss_cons (ps_for PassesOwn.never rfl (pi_list (pe_ix ix_tup (pv 0) pe_int (fun _ _ => rfl))) (pg_name (i := 5) scFalls.nd rfl (Or.inl rfl)) (pss_one (ps_if (PW.pt (pw_and (pt_cmpR op_in_seq (pe_ix ix_tup (pv 5) pe_int (fun _ _ => rfl)) (pe_ix ix_tup (pv 2) pe_int (fun _ _ => rfl)) (by rfl)) (pw_and1 (pt_val (C8.pe_c cBo hr (by decide) (by rfl) (pa_cons (pv 5) (pa_cons (pv 6) (pa_cons (pv 4) pa_nil)))))))) (pss_one (ps_ret pe_bl)) pss_nil)))
      (pss_one (ps_ret pe_bl)))))))), ?_⟩
    refine q_asgL (EvL.cast (el_lcR1 (n := ((n : Nat) : Int)) (fun _ => true) (fun i => .bl (mem (nums n W) i)) (ea_cons (ev_T (ev_var rfl) ev_c hx at0) ea_nil) ⟨by omega, by omega⟩ (fun _ => rfl) (fun _ _ _ _ => et_yes)
      (fun i H3 e3 hi _ => ev_inN (ev_var rfl) (ev_var rfl) (ex_l e3 hS))) (ys := bls n W) ((given_all _ _).trans (bls_congr fun t ht => mem_nums_eq ht))) fun pw H1 hpw e1 h1 => ?_
    obtain ⟨p, rfl, ⟨i, r, hT, hi, hbr⟩ | ⟨hno, L, hc, hf, ⟨g, hT, hg, hne⟩ | ⟨g, hT, hz⟩⟩⟩ := hj
    · -- broken
      refine q_if (b := true) (et_eqS (ev_T (ev_var rfl) ev_c (ex_t e1 hT) at0) (by decide +kernel)) (fun _ H2 e2 => ?_) (fun z => nomatch z)
      have e12 := e1.trans e2
      have hiR := (List.getElem?_eq_some_iff.mp hi).1
      refine q_when (b := false) (et_or (a := false) (b := false) (et_not (a := true) (et_B (ev_call (ea_cons (ev_T (ev_var rfl) ev_c (ex_t e12 hT) at1) ea_nil) fun H8 e8 Q' q' E' => ⟨_, rfl, q'⟩)))
        (fun _ => et_not (a := true) (et_test (ev_chain ev_c (ev_T (ev_var rfl) ev_c (ex_t e12 hT) at1) (ev_len (ev_T (ev_var rfl) ev_c (ex_t e12 hx) at1) (ex_l e12 hl))
          (fun H8 e8 Q' q' => (rv_le (i := 0) (j := ((i : Nat) : Int))) H8 e8 Q' (by rw [decide_eq_true (by omega : (0 : Int) ≤ ((i : Nat) : Int))]; exact q'))
          (fun H8 e8 Q' q' => (rv_lt (i := ((i : Nat) : Int)) (j := ((us.length : Nat) : Int))) H8 e8 Q' (by rw [decide_eq_true (by omega : ((i : Nat) : Int) < ((us.length : Nat) : Int))]; exact q'))))))
        (fun z => nomatch z) (fun _ H3 e3 => ?_)
      have e13 := e12.trans e3
      have hiu : i < us.length := by omega
      have hv := List.getElem?_eq_getElem hiu
      generalize us[i] = rv at hv
      have hra := hat i rv r hv hi
      obtain ⟨h, ps, rfl⟩ := hmk r (List.mem_of_getElem? hi)
      have hwr := hwf.rules _ (List.mem_of_getElem? hi)
      refine q_asg (ev_L (ev_T (ev_var rfl) ev_c (ex_t e13 hx) at1) (ev_T (ev_var rfl) ev_c (ex_t e13 hT) at1) (ex_l e13 hl) (atI_nat hv)) fun H4 e4 => ?_
      have e14 := e13.trans e4
      have hra4 := hra.mono e14
      have hw4 : SqL K H4 pw (bls n W) := sq_of (((e2.trans e3).trans e4) _ _ h1)
      obtain ⟨xr, lr, rfl, hxr, hlr⟩ := hra
      have hxr' : SqT K H xr [.str "make", .int ((h : Nat) : Int), .ref lr] := hxr
      have hb := hbr
      unfold breaks at hb
      refine s_ret (ev_is (ev_andV (a := KM.body ps W W) (b := !W h) (ev_call (ea_cons (ev_var rfl) (ea_cons (ev_var rfl) (ea_cons (ev_var rfl) ea_nil))) fun H8 e8 Q' q' E' => ⟨_, pw, pw, n, (some h, ps), W, W, rfl, hra4.mono e8, hwr, ex_l e8 hw4, ex_l e8 hw4, q'⟩)
        (fun _ => ev_notV (ev_mark (ev_var rfl) (ev_T (ev_var rfl) ev_c (ex_t e14 hxr') at1) hw4 (hwr.head h rfl)))) (congrArg V.bl hb)) fun H5 e5 => ?_
      exact q H5 (e14.trans e5)
    · -- group
      refine q_if (b := false) (et_eqS (ev_T (ev_var rfl) ev_c (ex_t e1 hT) at0) (by decide +kernel)) (fun z => nomatch z) (fun _ H2 e2 => ?_)
      have e12 := e1.trans e2
      refine q_when (b := false) (et_or (a := false) (b := false) (et_neS (ev_T (ev_var rfl) ev_c (ex_t e12 hT) at0) (by decide +kernel))
        (fun _ => et_test (ev_is (ev_opL (ev_T (ev_var rfl) ev_c (ex_t e12 hT) at1) (el_lst ea_nil (by show 0 ≤ 100000; decide)) fun qn H3 hqn e3 => rv_eqLs (M := []) (ex_l (e12.trans e3) hg) (sq_of hqn)) (by rw [decide_eq_false hne])))) (fun z => nomatch z) (fun _ H3 e3 => ?_)
      have e13 := e12.trans e3
      refine q_forLn (ev_T (ev_var rfl) ev_c (ex_t e13 hT) at1) (ex_l e13 hg) (fun i σ H7 => ∃ v3, σ = [some (.ref x), some (.ref a), some (.ref p), v3, some (.ref pw), none, none] ∧ Ex H1 H7)
        (fun H7 e7 => ⟨none, rfl, (e2.trans e3).trans e7⟩) (fun i σ H7 _ ⟨_, _, e7⟩ => ex_l (e1.trans e7) hg) ?_ ?_
      · rintro i y σ H7 hy ⟨v3, rfl, e7⟩
        obtain ⟨t, ht, rfl⟩ := nvs_get hy
        have hm := mem_nums.mp (List.mem_of_getElem? ht)
        have hWt := hm.2
        rw [Bool.and_eq_true] at hWt
        exact s_when (b := false) (et_test (ev_is (ev_niN (ev_var rfl) (ev_var rfl) (ex_l (e1.trans e7) hS)) (by rw [mem_nums_eq hm.1, hWt.1] <;> rfl))) (fun z => nomatch z) (fun _ H8 e8 => ⟨_, rfl, e7.trans e8⟩)
      · rintro σ H7 ⟨v3, rfl, e7⟩
        have e17 := e1.trans e7
        refine q_asgL (EvL.cast (el_lcR1 (n := ((n : Nat) : Int)) (fun _ => true) (fun i => .bl (mem (nums n W) i && !mem (nums n fun t => W t && !mem L t) i)) (ea_cons (ev_T (ev_var rfl) ev_c (ex_t e17 hx) at0) ea_nil) ⟨by omega, by omega⟩ (fun _ => rfl) (fun _ _ _ _ => et_yes)
          (fun i H3 e3 hi _ => ev_andV (ev_inN (ev_var rfl) (ev_var rfl) (ex_l (e17.trans e3) hS)) (fun _ => ev_niN (ev_var rfl) (ev_T (ev_var rfl) ev_c (ex_t (e17.trans e3) hT) at1) (ex_l (e17.trans e3) hg)))) (ys := bls n (mem L)) ((given_all _ _).trans (bls_congr fun t ht => ?_))) fun pr H8 hpr e8 h8 => ?_
        · have ht' : t < n := ht
          rw [mem_nums_eq ht', mem_nums_eq ht']
          cases hm : mem L t with
          | true => rw [hc.sub t (mem_iff.mp hm)] <;> rfl
          | false => cases W t <;> rfl
        have e18 := e17.trans e8
        have h18 := e7.trans e8
        refine q_forLn (ev_T (ev_var rfl) ev_c (ex_t e18 hx) at1) (ex_l e18 hl) (fun i σ H9 => ∃ v3 v5, σ = [some (.ref x), some (.ref a), some (.ref p), v3, some (.ref pw), v5, some (.ref pr)] ∧ Ex H8 H9)
          (fun H9 e9 => ⟨_, _, rfl, e9⟩) (fun i σ H9 _ ⟨_, _, _, e9⟩ => ex_l (e18.trans e9) hl) ?_ ?_
        · rintro i rv σ H9 hrv ⟨v3, v5, rfl, e9⟩
          have e19 := e18.trans e9
          obtain ⟨r, hr', hrm⟩ := ls_at hlen hrv
          have hra := (hat i rv r hrv hr')
          obtain ⟨h, ps, rfl⟩ := hmk r hrm
          have hwr := hwf.rules _ hrm
          have hra9 := hra.mono e19
          obtain ⟨xr, lr, rfl, hxr, hlr⟩ := hra
          have hxr' : SqT K H xr [.str "make", .int ((h : Nat) : Int), .ref lr] := hxr
          refine s_when (b := false) (et_is (et_and (a := mem (nums n fun t => W t && !mem L t) h) (b := KM.body ps (mem L) W) (et_test (ev_inN (ev_T (ev_var rfl) ev_c (ex_t e19 hxr') at1) (ev_T (ev_var rfl) ev_c (ex_t e19 hT) at1) (ex_l e19 hg)))
            (fun _ => et_B (ev_call (ea_cons (ev_var rfl) (ea_cons (ev_var rfl) (ea_cons (ev_var rfl) ea_nil))) fun H10 e10 Q' q' E' => ⟨_, pr, pw, n, (some h, ps), mem L, W, rfl, hra9.mono e10, hwr, ex_l (e9.trans e10) (sq_of h8), ex_l ((h18.trans e9).trans e10) (sq_of h1), q'⟩))) ?_) (fun z => nomatch z) (fun _ H10 e10 => ⟨_, _, rfl, e9.trans e10⟩)
          rw [mem_nums_eq (hwr.head h rfl)]
          cases hW : W h with
          | false => rfl
          | true =>
            cases hm : mem L h with
            | true => rfl
            | false => exact hf h ps hrm hW hm
        · rintro σ H9 ⟨v3, v5, rfl, e9⟩
          exact q H9 (e18.trans e9)
    · exact (hns L hno hc hf hz).elim
end
end KW

-- K18
set_option Elab.async false
set_option linter.all false
set_option maxRecDepth 100000
set_option maxHeartbeats 4000000
namespace KW
open PySem PySem.Spec PyProof.Rows L2 Evl KM
/-! ### other sets to judge -/
abbrev sOthers : Stmt := top 38
theorem scOthers : FnScope ["_law_script", "_law_many", "_law_some", "_law_others_here", "_law_thing", "_law_cell", "_law_truths_here", "_law_drawn", "_law_other"] ["_law_script", "_law_many", "_law_some"] (L2.defScope sOthers) := ⟨rfl, rfl, rfl, by decide +kernel, rfl, by decide +kernel, by decide +kernel⟩
def OthAt (n : Nat) (H : Hp) (v : V) (W : Nat → Bool) : Prop := ∃ p, v = .ref p ∧ H p = some (.lst (nvs (nums n W)))
theorem OthAt.mono {n : Nat} (H1 H2 : Hp) (v : V) (W : Nat → Bool) (e : Ex H1 H2) (h : OthAt n H1 v W) : OthAt n H2 v W := by
  obtain ⟨p, h1, h2⟩ := h
  exact ⟨p, h1, e _ _ h2⟩
def spOthers (K : Fg) : Sp := fun vs H Q _ => ∃ (a : Addr) (ns : List Int) (n : Nat) (g : Addr) (G : Nat → Bool), vs = [.ref a, .int ((n : Nat) : Int), .ref g] ∧ SqL K H a (ns.map V.int) ∧ n ≤ 8 ∧ H g = some (.lst (nvs (nums n G))) ∧
  ∀ (p : Addr) (H' : Hp) (us : List V) (Ws : List (Nat → Bool)), Ex H H' → H' p = some (.lst us) → us.length = Ws.length → (∀ (j : Nat) v W, us[j]? = some v → Ws[j]? = some W → OthAt n H' v W) → (∀ W ∈ Ws, nums n W ≠ nums n G) → Q (.ref p) H'
theorem nums_filter (n : Nat) (s p : Nat → Bool) : (nums n s).filter p = nums n fun t => s t && p t := by
  unfold nums
  rw [List.filter_filter]
  exact List.filter_congr fun t _ => Bool.and_comm _ _
section
variable {K : Fg} {H : Hp} {σ : L2.St} {ta tb tc : TE}
theorem el_catN {g : Addr} {xs ys : List V} (ha : Ev ta σ H (.ref g)) (hg : H g = some (.lst xs)) (hb : EvL tb σ H ys) (hz : xs.length + ys.length ≤ 100000) : EvL (tOp rCat ta tb) σ H (xs ++ ys) := fun H1 e Q q =>
  ha H1 e _ fun H2 e2 => hb H2 (e.trans e2) _ fun p H3 hp e3 h3 => ⟨g, p, xs, ys, rfl, rfl, e3 _ _ (e2 _ _ (e _ _ hg)), h3, sz_of hz, fun pp hpp => q pp _ (fresh_back (e2.trans e3) hpp) ((e2.trans e3).trans (Ex.new hpp)) upd_same⟩
/-- sorted(a list of things of which none comes twice) -/
theorem el_sortN {n : Nat} {s : Nat → Bool} {L : List Nat} (h : EvL ta σ H (nvs L)) (hl : L.length ≤ 60) (hd : L.Nodup) (hm : ∀ t, t ∈ L ↔ t < n ∧ s t = true) : EvL (tCB (rSorted K) (tCons ta tNil)) σ H (nvs (nums n s)) :=
  el_cbL h fun p H1 hp _ H2 e2 Q q => ⟨p, L.map fun i => ((i : Nat) : Int), rfl, sq_of (by rw [e2 _ _ hp, nvs_map]), by rw [List.length_map]; omega, fun ns' r hperm hsort hr => q r _ hr (Ex.new hr) (by
    have e3 : ns' = (nums n s).map fun i => ((i : Nat) : Int) := sorted_perm hperm hsort (List.Pairwise.map _ (fun a b (hab : a ≠ b) => by omega) hd) fun k => by
      rw [List.mem_map]
      constructor
      · rintro ⟨t, ht, rfl⟩
        exact ⟨t, ((hm t).mp ht).1, ((hm t).mp ht).2, rfl⟩
      · rintro ⟨t, h1, h2, rfl⟩
        exact ⟨t, (hm t).mpr ⟨h1, h2⟩, rfl⟩
    rw [upd_same, e3, nvs_map])⟩
end
section
variable {P : Program} {w : World} {K : Fg} {mg : Str → Option Value} {base : Heap}
theorem cal_others (D : DefAt K mg "_law_others" sOthers ["_law_script", "_law_many", "_law_some"]) (B : Blt mg) (cTr : C8.Cal P w K mg base 1 "_law_truths" (spTruths K) []) : C8.Cal P w K mg base 2 "_law_others" (spOthers K) [] := by
  refine cal_of D scOthers (fun vs H Q E h => ?_) (fun f cdv A outer s H vs Q E hr h => ?_)
  · obtain ⟨a, ns, n, g, G, rfl, _⟩ := h
    rfl
  · obtain ⟨a, ns, n, g, G, rfl, hS, hn8, hg, q⟩ := h
    refine ⟨_, (pss_cons (ps_set (i := 3) scOthers.nd rfl (Or.inl rfl) (pe_lst pa_nil))
      (pss_cons (ps_for PassesOwn.never rfl (pi_range1 (by rfl) B.range (pa_cons (pv 1) pa_nil)) (pg_name (i := 4) scOthers.nd rfl (Or.inr rfl)) (pss_one (ps_if (pt_cmpR op_in_seq (pv 4) (pv 2) (by rfl)) (pss_one (ps_expr (pe_bm PySem.F.plainAttrs_list PySem.F.slot_list_append PySem.F.type_list_append mt_append (pv 3) (pa_cons (pe_lc (own := [("_law_other", 8)]) (g := gName 8) (tt := tTest (tOp rNe (tVar 8) (tVar 4))) (te := tVar 8) rfl scOthers.nd (pi_list (pv 2)) (blkOk_by (N := ["_law_script", "_law_many", "_law_some", "_law_others_here", "_law_thing", "_law_cell", "_law_truths_here", "_law_drawn", "_law_other"]) (sc := L2.defScope sOthers) (by decide +kernel)) (fun _ _ _ _ _ => (pg_name (i := 8) scOthers.nd rfl (Or.inl rfl))) (fun _ _ _ _ _ => (pts_one (pt_cmpR op_ne (pv 8) (pv 4) (nomark _)))) (fun _ _ _ _ _ => (pv 8))) pa_nil)))) (pss_one (ps_expr (pe_bm PySem.F.plainAttrs_list PySem.F.slot_list_append PySem.F.type_list_append mt_append (pv 3) (pa_cons (pe_callB cr_sorted (by rfl) B.sorted (by decide +kernel) (pa_cons (pe_op op_cat (pv 2) (pe_lst (pa_cons (pv 4) pa_nil))) pa_nil)) pa_nil)))))))
      (pss_cons (ps_for PassesOwn.never rfl (pi_list (pe_slice sl_list (pv 0) (po_some pe_int) (po_some pe_int))) (pg_name (i := 5) scOthers.nd rfl (Or.inl rfl)) (pss_cons (ps_set (i := 6) scOthers.nd rfl (Or.inr rfl) (C8.pe_c cTr hr (by decide) (by rfl) (pa_cons (pv 5) (pa_cons (pv 1) (pa_cons pe_int pa_nil)))))
      (pss_cons (ps_setLc (i := 7) (own := [("_law_thing", 4)]) (g := gName 4) (tt := tB (tOp (rIxL K) (tVar 6) (tVar 4))) (te := tVar 4) rfl scOthers.nd rfl rfl (sw_true rfl rfl rfl (by decide +kernel)) (pi_range1 (by rfl) B.range (pa_cons (pv 1) pa_nil)) (blkOk_by (N := ["_law_script", "_law_many", "_law_some", "_law_others_here", "_law_thing", "_law_cell", "_law_truths_here", "_law_drawn", "_law_other"]) (sc := L2.defScope sOthers) (by decide +kernel)) (fun _ _ _ _ _ => (pg_name (i := 4) scOthers.nd rfl (Or.inl rfl))) (fun _ _ _ _ _ => (pts_one (pt_val (pe_ix ix_list (pv 6) (pv 4) (fun _ _ => rfl))))) (fun _ _ _ _ _ => (pv 4)))
      (pss_one (ps_if (pt_cmpR (op_neD hr.units) (pv 7) (pv 2) (nomark _)) (pss_one (ps_expr (pe_bm PySem.F.plainAttrs_list PySem.F.slot_list_append PySem.F.type_list_append mt_append (pv 3) (pa_cons (pv 7) pa_nil)))) pss_nil)))))
      (pss_one (ps_ret (pv 3)))))), ?_⟩
    refine q_asgL (el_lst ea_nil (by show 0 ≤ 100000; decide)) fun ql H4 hql e4 h4 => ?_
    have hgl := nums_len n G
    refine q_forR1 (n := ((n : Nat) : Int)) (ea_cons (ev_var rfl) ea_nil) ⟨by omega, by omega⟩
      (fun i σ H7 => ∃ v4, ∃ (Ws : List (Nat → Bool)), ∃ (us : List V), σ = [some (.ref a), some (.int ((n : Nat) : Int)), some (.ref g), some (.ref ql), v4, none, none, none, none] ∧ Ex H H7 ∧ Acc (OthAt n) (fun W => nums n W ≠ nums n G) H4 ql H7 us Ws ∧ Ws.length ≤ i)
      (fun H7 e7 => ⟨none, [], [], rfl, e4.trans e7, Acc.nil h4 e7, Nat.le_refl 0⟩) ?_ ?_
    · rintro i σ H7 hi ⟨v4, Ws, us, rfl, e7, hA, hil⟩
      have hin : i < n := by omega
      refine s_if (b := mem (nums n G) i) (et_test (ev_inN (ev_var rfl) (ev_var rfl) (ex_l e7 (sq_of hg)))) (fun hb H8 e8 => ?_) (fun hb H8 e8 => ?_)
      · have hA8 := hA.ex OthAt.mono e8
        have e18 := e7.trans e8
        refine s_appL hA8.is (ev_var rfl) (EvL.cast (el_lcL (K := K) (xs := nvs (nums n G)) (fun j => !decide ((((nums n G).getD j 0 : Nat) : Int) = ((i : Nat) : Int))) (fun j => .int (((nums n G).getD j 0 : Nat) : Int)) (ev_var rfl) (ex_l e18 (sq_of hg)) (by rw [nvs_len]; omega) (fun _ => rfl)
          (fun j y H9 e9 hy => ?_) (fun j y H9 e9 hy _ => ?_)) (ys := nvs (nums n fun t => G t && !decide (((t : Nat) : Int) = ((i : Nat) : Int)))) ?_) (by have := hA.len; omega) fun p H9 hp e9 h9 => ?_
        · obtain ⟨t, ht, rfl⟩ := nvs_get hy
          have ed : (nums n G).getD j 0 = t := by rw [List.getD_eq_getElem?_getD, ht] <;> rfl
          rw [ed]
          exact et_neI (ev_var rfl) (ev_var rfl)
        · obtain ⟨t, ht, rfl⟩ := nvs_get hy
          have ed : (nums n G).getD j 0 = t := by rw [List.getD_eq_getElem?_getD, ht] <;> rfl
          rw [ed]
          exact ev_var rfl
        · rw [nvs_len, given_list (nums n G) 0 (fun t => !decide (((t : Nat) : Int) = ((i : Nat) : Int))) (fun t => V.int ((t : Nat) : Int)), nums_filter] <;> rfl
        · refine ⟨_, Ws ++ [_], us ++ [.ref p], rfl, (e18.trans e9).mut hql, hA8.snoc h4 OthAt.mono e9 ⟨p, rfl, newer_of hp h9⟩ ?_, by rw [List.length_append, List.length_singleton]; omega⟩
          intro he
          have h1 : i ∈ nums n G := mem_iff.mp hb
          rw [← he] at h1
          have h2 := (mem_nums.mp h1).2
          rw [Bool.and_eq_true, decide_eq_true (rfl : ((i : Nat) : Int) = ((i : Nat) : Int))] at h2
          cases h2.2
      · have hA8 := hA.ex OthAt.mono e8
        have e18 := e7.trans e8
        have hni : i ∉ nums n G := fun z => by rw [mem_iff.mpr z] at hb; cases hb
        refine s_appL hA8.is (ev_var rfl) (el_sortN (K := K) (n := n) (s := fun t => G t || decide (t = i)) (L := nums n G ++ [i]) (EvL.cast (el_catN (ev_var rfl) (e18 _ _ hg) (el_lst (ea_cons (ev_var rfl) ea_nil) (by show 1 ≤ 100000; decide)) (by rw [nvs_len]; show _ + 1 ≤ _; omega)) ?_) (by rw [List.length_append, List.length_singleton]; omega) ?_ (fun t => ?_)) (by have := hA.len; omega) fun p H9 hp e9 h9 => ?_
        · unfold nvs
          rw [List.map_append] <;> rfl
        · rw [List.nodup_append]
          refine ⟨nums_nodup n G, List.pairwise_singleton _ i, fun x hx y hy e => ?_⟩
          rw [List.mem_singleton] at hy
          rw [e, hy] at hx
          exact hni hx
        · rw [List.mem_append, mem_nums, List.mem_singleton, Bool.or_eq_true, decide_eq_true_eq]
          constructor
          · rintro (h | rfl)
            · exact ⟨h.1, .inl h.2⟩
            · exact ⟨hin, .inr rfl⟩
          · rintro ⟨h1, h2 | h2⟩
            · exact .inl ⟨h1, h2⟩
            · exact .inr h2
        · refine ⟨_, Ws ++ [_], us ++ [.ref p], rfl, (e18.trans e9).mut hql, hA8.snoc h4 OthAt.mono e9 ⟨p, rfl, newer_of hp h9⟩ ?_, by rw [List.length_append, List.length_singleton]; omega⟩
          intro he
          refine hni ?_
          rw [← he]
          exact mem_nums.mpr ⟨hin, by rw [decide_eq_true rfl, Bool.or_true]⟩
    · rintro σ H7 ⟨v4, Ws, us, rfl, e7, hA, hil⟩
      obtain ⟨ms, hms, hml⟩ := cut_ints ns 2 14 (by decide)
      have hil' : Ws.length ≤ 8 := by omega
      refine q_forNLn (xs := ms.map V.int) (EvL.cast (el_sl (ev_var rfl) (eo_some ev_c) (eo_some ev_c) (ex_l e7 hS)) hms)
        (fun p i σ H8 => ∃ v4 v5 v6 v7, ∃ (Ws : List (Nat → Bool)), ∃ (us : List V), σ = [some (.ref a), some (.int ((n : Nat) : Int)), some (.ref g), some (.ref ql), v4, v5, v6, v7, none] ∧ Ex H H8 ∧ Acc (OthAt n) (fun W => nums n W ≠ nums n G) H4 ql H8 us Ws ∧ Ws.length ≤ 8 + i ∧ H8 p = some (.lst (ms.map V.int)) ∧ p ≠ ql)
        (fun p H8 hp e8 h8 => ⟨_, none, none, none, Ws, us, rfl, e7.trans e8, hA.ex OthAt.mono e8, hil', h8, (ne_of_none hA.is hp).symm⟩)
        (fun p i σ H8 _ ⟨_, _, _, _, _, _, _, _, _, _, h, _⟩ => sq_of h) ?_ ?_
      · rintro p i cv σ H8 hcv ⟨v4, v5, v6, v7, Ws, us, rfl, e8, hA, hil, hp8, hpq⟩
        have hi : i < ms.length := by
          have := (List.getElem?_eq_some_iff.mp hcv).1
          rw [List.length_map] at this
          exact this
        obtain ⟨c, rfl⟩ : ∃ c, cv = V.int c := by
          rw [List.getElem?_map, List.getElem?_eq_getElem hi] at hcv
          exact ⟨_, (Option.some.inj hcv).symm⟩
        refine ⟨_, rfl, _, rfl, c, n, rfl, hn8, fun pt s H9 e9 h9 => ?_⟩
        refine q_asgL (EvL.cast (el_lcR1 (n := ((n : Nat) : Int)) (fun j => s j) (fun j => .int ((j : Nat) : Int)) (ea_cons (ev_var rfl) ea_nil) ⟨by omega, by omega⟩ (fun _ => rfl) (fun j H10 e10 hj => et_B (ev_mark (ev_var rfl) (ev_var rfl) (ex_l e10 (sq_of h9)) (by omega)))
          (fun j H10 e10 hj _ => ev_var rfl)) (ys := nvs (nums n s)) rfl) fun pd H10 hpd e10 h10 => ?_
        have e810 := e9.trans e10
        have hA10 := hA.ex OthAt.mono e810
        refine s_when (b := !decide (nums n s = nums n G)) (et_test (ev_op (ev_var rfl) (ev_var rfl) (rv_neLs (sq_of h10) (ex_l (e8.trans e810) (sq_of hg))))) (fun hb H11 e11 => ?_) (fun hb H11 e11 => ?_)
        · have hA11 := hA10.ex OthAt.mono e11
          refine s_app hA11.is (ev_var rfl) (ev_var rfl) (by have := hA.len; omega) fun H12 e12 => ?_
          refine ⟨_, _, _, _, Ws ++ [s], us ++ [.ref pd], rfl, ((e8.trans e810).trans (e11.trans e12)).mut hql, hA.snoc h4 OthAt.mono (e810.trans (e11.trans e12)) ⟨pd, rfl, newer_of (fresh_back e9 hpd) ((e11.trans e12) _ _ h10)⟩ ?_, by rw [List.length_append, List.length_singleton]; omega,
            by rw [upd_ne hpq]; exact (e810.trans (e11.trans e12)) _ _ hp8, hpq⟩
          intro he
          rw [decide_eq_true he] at hb
          cases hb
        · exact ⟨_, _, _, _, Ws, us, rfl, (e8.trans e810).trans e11, hA10.ex OthAt.mono e11, by omega, (e810.trans e11) _ _ hp8, hpq⟩
      · rintro p σ H8 ⟨v4, v5, v6, v7, Ws, us, rfl, e8, hA, hil, hp8, hpq⟩
        refine s_ret (ev_var rfl) fun H9 e9 => ?_
        exact q ql H9 us Ws (e8.trans e9) (e9 _ _ hA.is) hA.len (fun j v W a1 a2 => OthAt.mono _ _ _ _ (newer_ex.trans e9) (hA.rel j v W a1 a2)) hA.good
end
end KW

-- K19
set_option Elab.async false
set_option linter.all false
set_option maxRecDepth 100000
set_option maxHeartbeats 4000000
namespace KW
open PySem PySem.Spec PyProof.Rows L2 Evl KM
/-! ### the law -/
abbrev sLaw : Stmt := top 39
theorem scLaw : FnScope ["_law_script", "_law_plain_here", "_law_some", "_law_rules", "_law_answer", "_law_other", "_law_rule_here"] ["_law_script"] (L2.defScope sLaw) := ⟨rfl, rfl, rfl, by decide +kernel, rfl, by decide +kernel, by decide +kernel⟩
def spLaw (K : Fg) : Sp := fun vs H Q _ => ∃ (a : Addr) (ns : List Int), vs = [.ref a] ∧ SqL K H a (ns.map V.int) ∧ ns.length ≤ 63 ∧ ∀ H', Q (.bl true) H'
theorem if_yes {c : Bool} {A B : Prop} (h : c = true) (x : A) : if c = true then A else B := by rw [if_pos h]; exact x
theorem if_no {c : Bool} {A B : Prop} (h : c = false) (x : B) : if c = true then A else B := by rw [h, if_neg (by decide)]; exact x
theorem given_pairs (us : List V) (R : List Rule) (hl : us.length = R.length) : ∃ (p : Nat → Bool) (f : Nat → V), (∀ (i : Nat) (v : V) (r : Rule), us[i]? = some v → R[i]? = some r → p i = r.1.isSome ∧ f i = v) ∧
    (given us.length p f).length = (makesOf R).length ∧ ∀ (j : Nat) (v : V) (r : Rule), (given us.length p f)[j]? = some v → (makesOf R)[j]? = some r → ∃ i : Nat, us[i]? = some v ∧ R[i]? = some r := by
  have hz : (us.zip R).length = us.length := by rw [List.length_zip]; omega
  have e1 := given_list (us.zip R) (V.non, ((none, []) : Rule)) (fun z => z.2.1.isSome) (fun z => z.1)
  have e2 : makesOf R = ((us.zip R).filter fun z => z.2.1.isSome).map fun z => z.2 := by
    have h2 : R = (us.zip R).map fun z => z.2 := (List.map_snd_zip (by omega)).symm
    unfold makesOf
    conv => lhs; rw [h2]
    rw [List.filter_map] <;> rfl
  rw [hz] at e1
  refine ⟨_, _, fun i v r a b => ?_, by rw [e1, e2, List.length_map, List.length_map], fun j v r a b => ?_⟩
  · have : (us.zip R)[i]? = some (v, r) := by rw [List.getElem?_zip_eq_some]; exact ⟨a, b⟩
    rw [List.getD_eq_getElem?_getD, this]
    exact ⟨rfl, rfl⟩
  · rw [e1, List.getElem?_map] at a
    rw [e2, List.getElem?_map] at b
    cases hc : ((us.zip R).filter fun z => z.2.1.isSome)[j]? with
    | none => rw [hc] at a; cases a
    | some z =>
      rw [hc] at a b
      obtain ⟨i, hi⟩ := List.mem_iff_getElem?.mp (List.mem_filter.mp (List.mem_of_getElem? hc)).1
      rw [List.getElem?_zip_eq_some] at hi
      exact ⟨i, by rw [hi.1]; exact a, by rw [hi.2]; exact b⟩
theorem makes_full {R : List Rule} {n : Nat} (w : Wf n R) : Wf n (makesOf R) := ⟨w.many, makes_wf w.rules, Nat.le_trans (List.length_filter_le _ _) w.len⟩
theorem makes_some {R : List Rule} : ∀ r ∈ makesOf R, ∃ h ps, r = (some h, ps) := fun r hr => by
  obtain ⟨h, ps⟩ := r
  have h2 := (List.mem_filter.mp hr).2
  cases h with
  | none => cases h2
  | some h => exact ⟨h, ps, rfl⟩
theorem left_nil {R : List Rule} {n : Nat} {W : Nat → Bool} {L M : List Nat} (w : ∀ r ∈ R, WfRule n r) (S : Stable R n W L) (F : Full R (mem M) W) : nums n (fun t => W t && !mem M t) = [] := by
  rw [List.eq_nil_iff_forall_not_mem]
  intro t ht
  have h1 := mem_nums.mp ht
  have h2 := h1.2
  rw [Bool.and_eq_true] at h2
  rw [mem_iff.mpr (built_all w S F t h1.1 h2.1)] at h2
  cases h2.2
section
variable {K : Fg} {H : Hp} {σ : L2.St} {ta tb tc : TE}
theorem q_asgUL {i : Nat} {x : V} {ys : List V} {D : Ends} {tz : TS} (ha : Ev ta σ H x) (hb : ∀ H1, Ex H H1 → EvL tb σ H1 ys) (k : ∀ T p H1, H T = none → H p = none → Ex H H1 → H1 T = some (.tup [x, .ref p]) → H1 p = some (.lst ys) → tz D (σ.set i (some (.ref T))) H1) :
    tSeq (tAsg (tTup (tCons ta (tCons tb tNil))) (gName i)) tz D σ H := ha H (Ex.refl H) _ fun H1 e1 => hb H1 e1 H1 (Ex.refl H1) _ fun p H2 hp e2 h2 => ⟨sz_of (by show 2 ≤ 100000; decide), fun T hT => k T p _ (fresh_back (e1.trans e2) hT) (fresh_back e1 hp) ((e1.trans e2).trans (Ex.new hT)) upd_same (Ex.new hT _ _ h2)⟩
theorem q_asgR {i : Nat} {D : Ends} {tz : TS} {te : TE} (Pw : V → Hp → Prop) (h : ∀ Q : VK, (∀ v H1, Ex H H1 → Pw v H1 → Q v H1) → te σ H Q) (k : ∀ v H1, Ex H H1 → Pw v H1 → tz D (σ.set i (some v)) H1) : tSeq (tAsg te (gName i)) tz D σ H := h _ k
theorem ev_jud {v : V} {b : Addr} {n : Nat} {R : List Rule} {W : Nat → Bool} {x : V} {E : XK} (ha : Ev ta σ H v) (hb : Ev tb σ H (.ref b)) (hv : PlainAt K H v n R) (hw : Wf n R) (hS : SqL K H b (nvs (nums n W))) (hj : ∀ r H', JudV K R n W r H' → ∃ p xs, r = .ref p ∧ SqT K H' p (x :: xs)) :
    Ev (tOp (rIxT K) (tCall (spJudged K) [] E (tCons ta (tCons (tCB (rListS K) (tCons tb tNil)) tNil))) (tC (.int 0))) σ H x := fun H1 e Q q =>
  ha H1 e _ fun H2 e2 => el_list hb hS H2 (e.trans e2) _ fun p3 H3 hp e3 h3 => ⟨v, p3, n, R, W, rfl, hv.mono ((e.trans e2).trans e3), hw, sq_of h3, fun r H4 e4 j => by
    obtain ⟨p, xs, rfl, hT⟩ := hj r H4 j
    exact ⟨p, _, 0, _, rfl, rfl, hT, at0, q H4 ((e2.trans e3).trans e4)⟩⟩
end
section
variable {P : Program} {w : World} {K : Fg} {mg : Str → Option Value} {base : Heap}
theorem ok_law {f : Addr} {fd : FuncData} (F : L2.Fun K "law" "law" sLaw f fd) (B : Blt mg) (cPl : C8.Cal P w K mg base 3 "_law_plain" (spPlain K) []) (cLe : C8.Cal P w K mg base 5 "levels" (spLevels K) []) (cGr : C8.Cal P w K mg base 6 "grown" (spGrown K) [])
    (cJu : C8.Cal P w K mg base 9 "judged" (spJudged K) []) (cOt : C8.Cal P w K mg base 2 "_law_others" (spOthers K) []) (cFa : C8.Cal P w K mg base 3 "_law_falls" (spFalls K) []) : FnOk P w K mg base CX0 10 f fd ["_law_script"] (spLaw K) := by
  refine F.ok scLaw (fun vs H Q E h => ?_) (fun cdv A outer s H vs Q E hr h => ?_)
  · obtain ⟨a, ns, rfl, _⟩ := h
    rfl
  · obtain ⟨a, ns, rfl, hS, hns, q⟩ := h
    refine ⟨_, (pss_cons (ps_set (i := 1) scLaw.nd rfl (Or.inl rfl) (C8.pe_c cPl hr (by decide) (by rfl) (pa_cons (pv 0) pa_nil)))
      (pss_cons (ps_if (pt_cmpR op_isN (C8.pe_c cLe hr (by decide) (by rfl) (pa_cons (pv 1) pa_nil)) pe_non (nomark _)) (pss_one (ps_ret (pe_cmpR op_isN (C8.pe_c cGr hr (by decide) (by rfl) (pa_cons (pv 1) pa_nil)) pe_non (nomark _)))) pss_nil)
      (pss_cons (ps_set (i := 2) scLaw.nd rfl (Or.inl rfl) (C8.pe_c cGr hr (by decide) (by rfl) (pa_cons (pv 1) pa_nil)))
      (pss_cons (ps_if (pt_not (pt_val (pe_callB call_isi (by rfl) B.isi (by decide +kernel) (pa_cons (pv 2) (pa_cons (pe_bltn (v := .ty "list") (by rfl) B.list boot_list rfl) pa_nil))))) (pss_one (ps_ret pe_bl)) pss_nil)
      (pss_cons (ps_set (i := 3) scLaw.nd rfl (Or.inl rfl) (pe_tup (pa_cons (pe_ix ix_tup (pv 1) pe_int (fun _ _ => rfl)) (pa_cons (pe_lc (own := [("_law_rule_here", 6)]) (g := gName 6) (tt := tTest (tOp rEq (tOp (rIxT K) (tVar 6) (tC (.int 0))) (tC (.str "make")))) (te := tVar 6) rfl scLaw.nd (pi_list (pe_ix ix_tup (pv 1) pe_int (fun _ _ => rfl))) (blkOk_by (N := ["_law_script", "_law_plain_here", "_law_some", "_law_rules", "_law_answer", "_law_other", "_law_rule_here"]) (sc := L2.defScope sLaw) (by decide +kernel)) (fun _ _ _ _ _ => (pg_name (i := 6) scLaw.nd rfl (Or.inl rfl))) (fun _ _ _ _ _ => (pts_one (pt_cmpR op_eq (pe_ix ix_tup (pv 6) pe_int (fun _ _ => rfl)) pe_str (nomark _)))) (fun _ _ _ _ _ => (pv 6))) pa_nil))))
      (pss_cons (ps_if (pt_cmpR op_ne (pe_ix ix_tup (C8.pe_c cJu hr (by decide) (by rfl) (pa_cons (pv 3) (pa_cons (pe_callTy call_list_of (by rfl) B.list (by decide +kernel) (pa_cons (pv 2) pa_nil)) pa_nil))) pe_int (fun _ _ => rfl)) pe_str (nomark _)) (pss_one (ps_ret pe_bl)) pss_nil)
      (pss_cons (ps_set (i := 4) scLaw.nd rfl (Or.inl rfl) (C8.pe_c cJu hr (by decide) (by rfl) (pa_cons (pv 1) (pa_cons (pe_callTy call_list_of (by rfl) B.list (by decide +kernel) (pa_cons (pv 2) pa_nil)) pa_nil))))
      (pss_cons (ps_if (PW.pt (pw_and (pt_cmpR op_ne (pe_ix ix_tup (pv 4) pe_int (fun _ _ => rfl)) pe_str (nomark _)) (pw_and1 (PW.pt (pw_or (pt_cmpR op_ne (pe_ix ix_tup (pv 4) pe_int (fun _ _ => rfl)) pe_str (nomark _)) (pw_or1 (pt_cmpR op_ne (pe_ix ix_tup (pe_ix ix_list (pe_ix ix_tup (pv 1) pe_int (fun _ _ => rfl)) (pe_ix ix_tup (pv 4) pe_int (fun _ _ => rfl)) (fun _ _ => rfl)) pe_int (fun _ _ => rfl)) pe_str (nomark _)))))))) (pss_one (ps_ret pe_bl)) pss_nil)
      (pss_cons (ps_for PassesOwn.never rfl (pi_list (C8.pe_c cOt hr (by decide) (by rfl) (pa_cons (pv 0) (pa_cons (pe_ix ix_tup (pv 1) pe_int (fun _ _ => rfl)) (pa_cons (pv 2) pa_nil))))) (pg_name (i := 5) scLaw.nd rfl (Or.inl rfl)) (pss_one (ps_if (pt_not (pt_val (C8.pe_c cFa hr (by decide) (by rfl) (pa_cons (pv 3) (pa_cons (pv 5) (pa_cons (C8.pe_c cJu hr (by decide) (by rfl) (pa_cons (pv 3) (pa_cons (pe_callTy call_list_of (by rfl) B.list (by decide +kernel) (pa_cons (pv 5) pa_nil)) pa_nil))) pa_nil)))))) (pss_one (ps_ret pe_bl)) pss_nil)))
      (pss_one (ps_ret pe_bl))))))))))), ?_⟩
    refine ⟨_, rfl, a, ns, rfl, hS, hns, fun pl n R H1 e1 hpl hwf => ?_⟩
    refine ⟨_, rfl, pl, n, R, rfl, hpl, hwf, fun lv H2 e2 hlv => ⟨rfl, _, rfl, ?_⟩⟩
    have hn8 := hwf.many
    cases hlev : levels n R with
    | none =>
      unfold LevV at hlv
      rw [hlev] at hlv
      have hlv' : lv = .non := hlv
      subst hlv'
      refine if_yes (by decide) ?_
      refine ⟨_, rfl, pl, n, R, rfl, hpl.mono e2, hwf, fun gv H3 e3 hgv => ⟨rfl, ?_⟩⟩
      unfold GrownV at hgv
      rw [hlev] at hgv
      have hgv' : gv = .non := hgv
      subst hgv'
      exact q H3
    | some lf =>
      unfold LevV at hlv
      rw [hlev] at hlv
      obtain ⟨lp, rfl, _, _⟩ := hlv
      refine if_no (decide_eq_false fun z => by cases z) ?_
      refine ⟨_, rfl, pl, n, R, rfl, hpl.mono e2, hwf, fun gv H3 e3 hgv => ?_⟩
      unfold GrownV at hgv
      rw [hlev] at hgv
      obtain ⟨g, L, rfl, hg, S⟩ := hgv
      have lok := levels_ok hwf hlev
      have f0 := lok.pos
      have hpl3 := hpl.mono (e2.trans e3)
      have e13 := (e1.trans e2).trans e3
      -- isinstance(some, list)
      refine q_when (b := false) (et_not (a := true) (et_B (ev_cb (ea_cons (ev_var rfl) (ea_cons ev_c ea_nil)) fun H4 e4 Q' q' => ⟨.ref g, .ty "list", .type "list", .type "list", true, rfl, .ty "list", .base (.lst (e4 _ _ hg)), kit_ty (by decide +kernel), q' H4 (Ex.refl _)⟩))) (fun z => nomatch z) (fun _ H4 e4 => ?_)
      have hpl4 := hpl3.mono e4
      have hpl40 := hpl4
      obtain ⟨x, l, rfl, hx, us, hl, hlen, hat⟩ := hpl4
      obtain ⟨pp, ff, hpf, hgl, hgi⟩ := given_pairs us R hlen
      have hus20 := hwf.len
      refine q_asgUL (ev_T (ev_var rfl) ev_c hx at0) (fun H5 e5 => el_lcL (K := K) (xs := us) pp ff (ev_T (ev_var rfl) ev_c (ex_t e5 hx) at1) (ex_l e5 hl) (by omega) (fun _ => rfl) (fun i y H6 e6 hy => ?_) (fun i y H6 e6 hy _ => ?_)) fun T pr H5 hT hpr e5 h5T h5p => ?_
      · obtain ⟨r, hr', hrm⟩ := ls_at hlen hy
        obtain ⟨xr, lr, rfl, hxr, _⟩ := hat i y r hy hr'
        have hp1 := (hpf i _ r hy hr').1
        rw [hp1]
        obtain ⟨hd, ps⟩ := r
        cases hd with
        | none => exact et_eqS (x := "never") (ev_T (ev_var rfl) ev_c (ex_t (e5.trans e6) hxr) at0) (show decide (("never" : Str) = "make") = false by decide +kernel)
        | some h => exact et_eqS (x := "make") (ev_T (ev_var rfl) ev_c (ex_t (e5.trans e6) hxr) at0) (show decide (("make" : Str) = "make") = true by decide +kernel)
      · obtain ⟨r, hr', hrm⟩ := ls_at hlen hy
        rw [(hpf i _ r hy hr').2]
        exact ev_var rfl
      have hmk : PlainAt K H5 (.ref T) n (makesOf R) := ⟨T, pr, rfl, st_of h5T, _, sq_of h5p, hgl, fun j v r a b => by
        obtain ⟨i, h1, h2⟩ := hgi j v r a b
        exact (hat i v r h1 h2).mono e5⟩
      have hwm := makes_full hwf
      have SM := S.makes
      have hg5 : H5 g = some (.lst (nvs (nums n (mem L)))) := e5 _ _ (e4 _ _ hg)
      have e45 := e4.trans e5
      -- judged(rules, list(some))[0] != "stands"
      refine q_when (b := false) (et_neS (x := "stands") (ev_jud (ev_var rfl) (ev_var rfl) hmk hwm (sq_of hg5) fun r H' hj => ?_) (by decide +kernel)) (fun z => nomatch z) (fun _ H6 e6 => ?_)
      · obtain ⟨p, rfl, ⟨i, r, hT, hi, hbr⟩ | ⟨hno, M, hc, hf, ⟨gq, hT, hgq, hne⟩ | ⟨gq, hT, hz⟩⟩⟩ := hj
        · obtain ⟨h, ps, rfl⟩ := makes_some r (List.mem_of_getElem? hi)
          rw [makes_not_broken SM.closed (List.mem_of_getElem? hi)] at hbr
          cases hbr
        · exact (hne (left_nil hwm.rules SM hf)).elim
        · exact ⟨p, _, rfl, hT⟩
      -- answer = judged(plain, list(some))
      have hg6 := e6 _ _ hg5
      refine q_asgR (JudV K R n (mem L)) (fun Q' q' => ⟨_, rfl, el_list (ev_var rfl) (sq_of hg6) H6 (Ex.refl H6) _ fun p3 H7 hp3 e7 h7 => ⟨_, p3, n, R, mem L, rfl, hpl40.mono ((e5.trans e6).trans e7), hwf, sq_of h7, fun an H8 e8 hj => q' an H8 (e7.trans e8) hj⟩⟩) fun an H8 e8 hj => ?_
      have e58 := e6.trans e8
      have hx8 := ex_t (e5.trans e58) hx
      have hl8 := ex_l (e5.trans e58) hl
      refine q_when (b := false) ?_ (fun z => nomatch z) (fun _ H9 e9 => ?_)
      · obtain ⟨p, rfl, ⟨i, r, hT', hi, hbr⟩ | ⟨hno, M, hc, hf, ⟨gq, hT', hgq, hne⟩ | ⟨gq, hT', hz⟩⟩⟩ := hj
        · have hiu : i < us.length := by
            have := (List.getElem?_eq_some_iff.mp hi).1
            omega
          have hv := List.getElem?_eq_getElem hiu
          generalize us[i] = rv at hv
          obtain ⟨xr, lr, rfl, hxr, hlr⟩ := hat i rv r hv hi
          obtain ⟨hd, ps⟩ := r
          cases hd with
          | some h =>
            rw [makes_not_broken S.closed (List.mem_of_getElem? hi)] at hbr
            cases hbr
          | none =>
            have hxr' : SqT K H8 xr [.str "never", .non, .ref lr] := ex_t (e5.trans e58) hxr
            exact et_is (et_and (a := true) (b := false) (et_neS (x := "broken") (ev_T (ev_var rfl) ev_c hT' at0) (by decide +kernel)) (fun _ => et_or (a := false) (b := false) (et_neS (x := "broken") (ev_T (ev_var rfl) ev_c hT' at0) (by decide +kernel))
              (fun _ => et_neS (x := "never") (ev_T (ev_L (ev_T (ev_var rfl) ev_c hx8 at1) (ev_T (ev_var rfl) ev_c hT' at1) hl8 (atI_nat hv)) ev_c hxr' at0) (by decide +kernel)))) rfl
        · exact (hne (left_nil hwf.rules S hf)).elim
        · exact et_is (et_and (a := false) (b := false) (et_neS (x := "stands") (ev_T (ev_var rfl) ev_c hT' at0) (by decide +kernel)) (fun z => nomatch z)) rfl
      -- for other in others(script, plain[0], some)
      have e59 := e58.trans e9
      have e19 : Ex H H9 := (e13.trans e45).trans e59
      refine ⟨_, rfl, (ev_T (ev_var rfl) ev_c (ex_t (e5.trans e59) hx) at0) H9 (Ex.refl H9) _ fun H10 e10 => ⟨_, rfl, a, ns, n, g, mem L, rfl, ex_l (e19.trans e10) hS, hn8, (e59.trans e10) _ _ hg5, fun po H11 os Ws e11 hpo hol hoa hog => ?_⟩⟩
      refine ⟨po, rfl, ⟨os, sq_of hpo⟩, for_list (K := K) (a := po) (xs := os) (fun i σ H12 => ∃ v5, σ = [some (.ref a), some (.ref x), some (.ref g), some (.ref T), some an, v5, none] ∧ Ex H11 H12)
        ⟨none, rfl, Ex.refl H11⟩ (fun i σ H12 _ ⟨_, _, e12⟩ => sq_of (e12 _ _ hpo)) ?_ ?_⟩
      · rintro i ov σ H12 hov ⟨v5, rfl, e12⟩
        obtain ⟨W, hW, hWm⟩ := ls_at hol hov
        obtain ⟨pw, rfl, hpw⟩ := hoa i ov W hov hW
        have e512 := ((e59.trans e10).trans e11).trans e12
        refine s_when (b := false) (et_not (a := true) (et_B (fun H13 e13' Q' q' => ?_))) (fun z => nomatch z) (fun _ H13 e13' => ⟨_, rfl, e12.trans e13'⟩)
        refine ⟨_, rfl, _, rfl, _, rfl, el_list (ev_var rfl) (sq_of ((e12.trans e13') _ _ hpw)) H13 (Ex.refl H13) _ fun p4 H14 hp4 e14 h14 => ⟨_, p4, n, makesOf R, W, rfl, hmk.mono ((e512.trans e13').trans e14), hwm, sq_of h14, fun an' H15 e15 hj' => ?_⟩⟩
        refine ⟨.ref T, pw, an', n, makesOf R, W, rfl, hmk.mono (((e512.trans e13').trans e14).trans e15), hwm, makes_some, sq_of ((((e12.trans e13').trans e14).trans e15) _ _ hpw), hj', fun M hno hc hf hz => ?_, fun H16 e16 => q' H16 ((e14.trans e15).trans e16)⟩
        have hon : ∀ t, t < n → W t = true → t ∈ M := fun t ht hWt => by
          cases hm : mem M t with
          | true => exact mem_iff.mp hm
          | false =>
            have : t ∈ nums n (fun t => W t && !mem M t) := mem_nums.mpr ⟨ht, by rw [hWt, hm] <;> rfl⟩
            rw [hz] at this
            exact (List.not_mem_nil this).elim
        have SW : Stable (makesOf R) n W M := stands_of hno hc.sub hc.founded hon
        exact hog W hWm (nums_congr fun t ht => (only_one hwm.rules f0 (makes_levelled.mp lok.lev) SM SW t ht).symm)
      · rintro σ H12 ⟨v5, rfl, e12⟩
        exact q H12
end
end KW

-- K20
set_option Elab.async false
set_option linter.all false
set_option maxRecDepth 100000
set_option maxHeartbeats 4000000
namespace KW
open PySem PySem.Spec PyProof.Rows L2 Evl KM
/-! ### what the top has written -/
section
variable {K : Fg} {mg : Str → Option Value} {h : Heap}
theorem def_mk (X : K.In h) (G : h.Ns mainGlobals mg) {x : Str} {st : Stmt} {ps : List Str} {f : Addr} {oc : Value} {od an : Option Addr} {osl : Array (Option Value)} {kV doc pm cdv ct : Value}
    (hb : ∀ (kV doc pm : Value) (an : Option Addr) (cdv ct : Value) (us : List Value), us.length = ps.length → bindArgs (PySem.W.fnOf x x (L2.defArgs st) (L2.defBody st) (L2.defScope st) .none kV doc pm an cdv ct) ⟨us, []⟩ = pure (ps.zip us))
    (a : PySem.W.nsIn K mainGlobals x = some (some (.ref f))) (l : K.lookup f = some ⟨oc, od, .func (PySem.W.fnOf x x (L2.defArgs st) (L2.defBody st) (L2.defScope st) .none kV doc pm an cdv ct), osl⟩)
    (c : PySem.W.codeIn K cdv x = true) (k : PySem.W.keepIn K (.ref f) = true) : DefAt K mg x st ps := ⟨f, _, fun_mk l c k, PySem.W.mg_of X G a, (fun_mk l c k).binds hb⟩
theorem meth_mk {C : Addr} {x qual : Str} {st : Stmt} {ps : List Str} {f : Addr} {oc : Value} {od an : Option Addr} {osl : Array (Option Value)} {kV doc pm cdv ct : Value}
    (hb : ∀ (kV doc pm : Value) (an : Option Addr) (cdv ct : Value) (us : List Value), us.length = ps.length → bindArgs (PySem.W.fnOf x qual (L2.defArgs st) (L2.defBody st) (L2.defScope st) .none kV doc pm an cdv ct) ⟨us, []⟩ = pure (ps.zip us))
    (a : PySem.W.findIn K (.ref C) x = some (some (.ref f))) (i : PySem.W.isFn K (.ref f) = true) (l : K.lookup f = some ⟨oc, od, .func (PySem.W.fnOf x qual (L2.defArgs st) (L2.defBody st) (L2.defScope st) .none kV doc pm an cdv ct), osl⟩)
    (c : PySem.W.codeIn K cdv qual = true) (k : PySem.W.keepIn K (.ref f) = true) : MethAt K C x qual st ps := ⟨f, _, fun_mk l c k, ⟨a, i, k⟩, (fun_mk l c k).binds hb⟩
theorem init_mk (X : K.In h) (G : h.Ns mainGlobals mg) {C : Addr} {x qual : Str} {st : Stmt} {ps : List Str} {f : Addr} {oc : Value} {od an : Option Addr} {osl : Array (Option Value)} {kV doc pm cdv ct : Value}
    (hb : ∀ (kV doc pm : Value) (an : Option Addr) (cdv ct : Value) (us : List Value), us.length = ps.length → bindArgs (PySem.W.fnOf "__init__" qual (L2.defArgs st) (L2.defBody st) (L2.defScope st) .none kV doc pm an cdv ct) ⟨us, []⟩ = pure (ps.zip us))
    (aC : PySem.W.nsIn K mainGlobals x = some (some (.ref C))) (mk : PySem.W.makesIn K C = true) (kc : PySem.W.keepIn K (.ref C) = true)
    (a : PySem.W.findIn K (.ref C) "__init__" = some (some (.ref f))) (i : PySem.W.isFn K (.ref f) = true) (l : K.lookup f = some ⟨oc, od, .func (PySem.W.fnOf "__init__" qual (L2.defArgs st) (L2.defBody st) (L2.defScope st) .none kV doc pm an cdv ct), osl⟩)
    (c : PySem.W.codeIn K cdv qual = true) (k : PySem.W.keepIn K (.ref f) = true) : InitAt K mg x C qual st ps := ⟨⟨f, _, fun_mk l c k, ⟨mk, a, i, kc⟩, (fun_mk l c k).binds hb⟩, PySem.W.mg_of X G aC⟩
end
/-! ### how the arguments bind -/
theorem b_sMarks : ∀ (kV doc pm : Value) (an : Option Addr) (cdv ct : Value) (us : List Value), us.length = (["many", "some"] : List Str).length → bindArgs (PySem.W.fnOf "marks" "marks" (L2.defArgs sMarks) (L2.defBody sMarks) (L2.defScope sMarks) .none kV doc pm an cdv ct) ⟨us, []⟩ = pure ((["many", "some"] : List Str).zip us) := fun _ _ _ _ _ _ us hl => match us, hl with | [_, _], _ => rfl
theorem b_sNumbers : ∀ (kV doc pm : Value) (an : Option Addr) (cdv ct : Value) (us : List Value), us.length = (["truths"] : List Str).length → bindArgs (PySem.W.fnOf "numbers" "numbers" (L2.defArgs sNumbers) (L2.defBody sNumbers) (L2.defScope sNumbers) .none kV doc pm an cdv ct) ⟨us, []⟩ = pure ((["truths"] : List Str).zip us) := fun _ _ _ _ _ _ us hl => match us, hl with | [_], _ => rfl
theorem b_sWorth : ∀ (kV doc pm : Value) (an : Option Addr) (cdv ct : Value) (us : List Value), us.length = (["items", "told"] : List Str).length → bindArgs (PySem.W.fnOf "worth_of" "worth_of" (L2.defArgs sWorth) (L2.defBody sWorth) (L2.defScope sWorth) .none kV doc pm an cdv ct) ⟨us, []⟩ = pure ((["items", "told"] : List Str).zip us) := fun _ _ _ _ _ _ us hl => match us, hl with | [_, _], _ => rfl
theorem b_sPart : ∀ (kV doc pm : Value) (an : Option Addr) (cdv ct : Value) (us : List Value), us.length = (["told"] : List Str).length → bindArgs (PySem.W.fnOf "part_of" "part_of" (L2.defArgs sPart) (L2.defBody sPart) (L2.defScope sPart) .none kV doc pm an cdv ct) ⟨us, []⟩ = pure ((["told"] : List Str).zip us) := fun _ _ _ _ _ _ us hl => match us, hl with | [_], _ => rfl
theorem b_sBody : ∀ (kV doc pm : Value) (an : Option Addr) (cdv ct : Value) (us : List Value), us.length = (["rule", "rising", "world"] : List Str).length → bindArgs (PySem.W.fnOf "body_holds" "body_holds" (L2.defArgs sBody) (L2.defBody sBody) (L2.defScope sBody) .none kV doc pm an cdv ct) ⟨us, []⟩ = pure ((["rule", "rising", "world"] : List Str).zip us) := fun _ _ _ _ _ _ us hl => match us, hl with | [_, _, _], _ => rfl
theorem b_sBreaks : ∀ (kV doc pm : Value) (an : Option Addr) (cdv ct : Value) (us : List Value), us.length = (["rule", "world"] : List Str).length → bindArgs (PySem.W.fnOf "breaks" "breaks" (L2.defArgs sBreaks) (L2.defBody sBreaks) (L2.defScope sBreaks) .none kV doc pm an cdv ct) ⟨us, []⟩ = pure ((["rule", "world"] : List Str).zip us) := fun _ _ _ _ _ _ us hl => match us, hl with | [_, _], _ => rfl
theorem b_sLean : ∀ (kV doc pm : Value) (an : Option Addr) (cdv ct : Value) (us : List Value), us.length = (["plain"] : List Str).length → bindArgs (PySem.W.fnOf "leanings" "leanings" (L2.defArgs sLean) (L2.defBody sLean) (L2.defScope sLean) .none kV doc pm an cdv ct) ⟨us, []⟩ = pure ((["plain"] : List Str).zip us) := fun _ _ _ _ _ _ us hl => match us, hl with | [_], _ => rfl
theorem b_sLevels : ∀ (kV doc pm : Value) (an : Option Addr) (cdv ct : Value) (us : List Value), us.length = (["plain"] : List Str).length → bindArgs (PySem.W.fnOf "levels" "levels" (L2.defArgs sLevels) (L2.defBody sLevels) (L2.defScope sLevels) .none kV doc pm an cdv ct) ⟨us, []⟩ = pure ((["plain"] : List Str).zip us) := fun _ _ _ _ _ _ us hl => match us, hl with | [_], _ => rfl
theorem b_sGrown : ∀ (kV doc pm : Value) (an : Option Addr) (cdv ct : Value) (us : List Value), us.length = (["plain"] : List Str).length → bindArgs (PySem.W.fnOf "grown" "grown" (L2.defArgs sGrown) (L2.defBody sGrown) (L2.defScope sGrown) .none kV doc pm an cdv ct) ⟨us, []⟩ = pure ((["plain"] : List Str).zip us) := fun _ _ _ _ _ _ us hl => match us, hl with | [_], _ => rfl
theorem b_sFirst : ∀ (kV doc pm : Value) (an : Option Addr) (cdv ct : Value) (us : List Value), us.length = (["plain", "some"] : List Str).length → bindArgs (PySem.W.fnOf "first_broken" "first_broken" (L2.defArgs sFirst) (L2.defBody sFirst) (L2.defScope sFirst) .none kV doc pm an cdv ct) ⟨us, []⟩ = pure ((["plain", "some"] : List Str).zip us) := fun _ _ _ _ _ _ us hl => match us, hl with | [_, _], _ => rfl
theorem b_sNext : ∀ (kV doc pm : Value) (an : Option Addr) (cdv ct : Value) (us : List Value), us.length = (["plain", "rising", "world"] : List Str).length → bindArgs (PySem.W.fnOf "next_link" "next_link" (L2.defArgs sNext) (L2.defBody sNext) (L2.defScope sNext) .none kV doc pm an cdv ct) ⟨us, []⟩ = pure ((["plain", "rising", "world"] : List Str).zip us) := fun _ _ _ _ _ _ us hl => match us, hl with | [_, _, _], _ => rfl
theorem b_sChain : ∀ (kV doc pm : Value) (an : Option Addr) (cdv ct : Value) (us : List Value), us.length = (["plain", "some"] : List Str).length → bindArgs (PySem.W.fnOf "chain" "chain" (L2.defArgs sChain) (L2.defBody sChain) (L2.defScope sChain) .none kV doc pm an cdv ct) ⟨us, []⟩ = pure ((["plain", "some"] : List Str).zip us) := fun _ _ _ _ _ _ us hl => match us, hl with | [_, _], _ => rfl
theorem b_sBuilt : ∀ (kV doc pm : Value) (an : Option Addr) (cdv ct : Value) (us : List Value), us.length = (["plain", "some"] : List Str).length → bindArgs (PySem.W.fnOf "built" "built" (L2.defArgs sBuilt) (L2.defBody sBuilt) (L2.defScope sBuilt) .none kV doc pm an cdv ct) ⟨us, []⟩ = pure ((["plain", "some"] : List Str).zip us) := fun _ _ _ _ _ _ us hl => match us, hl with | [_, _], _ => rfl
theorem b_sGroup : ∀ (kV doc pm : Value) (an : Option Addr) (cdv ct : Value) (us : List Value), us.length = (["plain", "some"] : List Str).length → bindArgs (PySem.W.fnOf "group" "group" (L2.defArgs sGroup) (L2.defBody sGroup) (L2.defScope sGroup) .none kV doc pm an cdv ct) ⟨us, []⟩ = pure ((["plain", "some"] : List Str).zip us) := fun _ _ _ _ _ _ us hl => match us, hl with | [_, _], _ => rfl
theorem b_sJudged : ∀ (kV doc pm : Value) (an : Option Addr) (cdv ct : Value) (us : List Value), us.length = (["plain", "some"] : List Str).length → bindArgs (PySem.W.fnOf "judged" "judged" (L2.defArgs sJudged) (L2.defBody sJudged) (L2.defScope sJudged) .none kV doc pm an cdv ct) ⟨us, []⟩ = pure ((["plain", "some"] : List Str).zip us) := fun _ _ _ _ _ _ us hl => match us, hl with | [_, _], _ => rfl
theorem b_sCell : ∀ (kV doc pm : Value) (an : Option Addr) (cdv ct : Value) (us : List Value), us.length = (["_law_script", "_law_k"] : List Str).length → bindArgs (PySem.W.fnOf "_law_cell_at" "_law_cell_at" (L2.defArgs sCell) (L2.defBody sCell) (L2.defScope sCell) .none kV doc pm an cdv ct) ⟨us, []⟩ = pure ((["_law_script", "_law_k"] : List Str).zip us) := fun _ _ _ _ _ _ us hl => match us, hl with | [_, _], _ => rfl
theorem b_sWhole : ∀ (kV doc pm : Value) (an : Option Addr) (cdv ct : Value) (us : List Value), us.length = (["_law_found"] : List Str).length → bindArgs (PySem.W.fnOf "_law_whole" "_law_whole" (L2.defArgs sWhole) (L2.defBody sWhole) (L2.defScope sWhole) .none kV doc pm an cdv ct) ⟨us, []⟩ = pure ((["_law_found"] : List Str).zip us) := fun _ _ _ _ _ _ us hl => match us, hl with | [_], _ => rfl
theorem b_sMixed : ∀ (kV doc pm : Value) (an : Option Addr) (cdv ct : Value) (us : List Value), us.length = (["_law_cell", "_law_k"] : List Str).length → bindArgs (PySem.W.fnOf "_law_mixed" "_law_mixed" (L2.defArgs sMixed) (L2.defBody sMixed) (L2.defScope sMixed) .none kV doc pm an cdv ct) ⟨us, []⟩ = pure ((["_law_cell", "_law_k"] : List Str).zip us) := fun _ _ _ _ _ _ us hl => match us, hl with | [_, _], _ => rfl
theorem b_sTruths : ∀ (kV doc pm : Value) (an : Option Addr) (cdv ct : Value) (us : List Value), us.length = (["_law_cell", "_law_many", "_law_k"] : List Str).length → bindArgs (PySem.W.fnOf "_law_truths" "_law_truths" (L2.defArgs sTruths) (L2.defBody sTruths) (L2.defScope sTruths) .none kV doc pm an cdv ct) ⟨us, []⟩ = pure ((["_law_cell", "_law_many", "_law_k"] : List Str).zip us) := fun _ _ _ _ _ _ us hl => match us, hl with | [_, _, _], _ => rfl
theorem b_sLPart : ∀ (kV doc pm : Value) (an : Option Addr) (cdv ct : Value) (us : List Value), us.length = (["_law_number", "_law_many", "_law_great"] : List Str).length → bindArgs (PySem.W.fnOf "_law_part" "_law_part" (L2.defArgs sLPart) (L2.defBody sLPart) (L2.defScope sLPart) .none kV doc pm an cdv ct) ⟨us, []⟩ = pure ((["_law_number", "_law_many", "_law_great"] : List Str).zip us) := fun _ _ _ _ _ _ us hl => match us, hl with | [_, _, _], _ => rfl
theorem b_sLRule : ∀ (kV doc pm : Value) (an : Option Addr) (cdv ct : Value) (us : List Value), us.length = (["_law_cell", "_law_many", "_law_words"] : List Str).length → bindArgs (PySem.W.fnOf "_law_rule" "_law_rule" (L2.defArgs sLRule) (L2.defBody sLRule) (L2.defScope sLRule) .none kV doc pm an cdv ct) ⟨us, []⟩ = pure ((["_law_cell", "_law_many", "_law_words"] : List Str).zip us) := fun _ _ _ _ _ _ us hl => match us, hl with | [_, _, _], _ => rfl
theorem b_sTamed : ∀ (kV doc pm : Value) (an : Option Addr) (cdv ct : Value) (us : List Value), us.length = (["_law_rule_here", "_law_many"] : List Str).length → bindArgs (PySem.W.fnOf "_law_tamed" "_law_tamed" (L2.defArgs sTamed) (L2.defBody sTamed) (L2.defScope sTamed) .none kV doc pm an cdv ct) ⟨us, []⟩ = pure ((["_law_rule_here", "_law_many"] : List Str).zip us) := fun _ _ _ _ _ _ us hl => match us, hl with | [_, _], _ => rfl
theorem b_sPlain : ∀ (kV doc pm : Value) (an : Option Addr) (cdv ct : Value) (us : List Value), us.length = (["_law_script"] : List Str).length → bindArgs (PySem.W.fnOf "_law_plain" "_law_plain" (L2.defArgs sPlain) (L2.defBody sPlain) (L2.defScope sPlain) .none kV doc pm an cdv ct) ⟨us, []⟩ = pure ((["_law_script"] : List Str).zip us) := fun _ _ _ _ _ _ us hl => match us, hl with | [_], _ => rfl
theorem b_sHoldsL : ∀ (kV doc pm : Value) (an : Option Addr) (cdv ct : Value) (us : List Value), us.length = (["_law_row", "_law_rising", "_law_world"] : List Str).length → bindArgs (PySem.W.fnOf "_law_holds" "_law_holds" (L2.defArgs sHoldsL) (L2.defBody sHoldsL) (L2.defScope sHoldsL) .none kV doc pm an cdv ct) ⟨us, []⟩ = pure ((["_law_row", "_law_rising", "_law_world"] : List Str).zip us) := fun _ _ _ _ _ _ us hl => match us, hl with | [_, _, _], _ => rfl
theorem b_sBodyL : ∀ (kV doc pm : Value) (an : Option Addr) (cdv ct : Value) (us : List Value), us.length = (["_law_rule_here", "_law_rising", "_law_world"] : List Str).length → bindArgs (PySem.W.fnOf "_law_body" "_law_body" (L2.defArgs sBodyL) (L2.defBody sBodyL) (L2.defScope sBodyL) .none kV doc pm an cdv ct) ⟨us, []⟩ = pure ((["_law_rule_here", "_law_rising", "_law_world"] : List Str).zip us) := fun _ _ _ _ _ _ us hl => match us, hl with | [_, _, _], _ => rfl
theorem b_sFalls : ∀ (kV doc pm : Value) (an : Option Addr) (cdv ct : Value) (us : List Value), us.length = (["_law_plain_here", "_law_some", "_law_answer"] : List Str).length → bindArgs (PySem.W.fnOf "_law_falls" "_law_falls" (L2.defArgs sFalls) (L2.defBody sFalls) (L2.defScope sFalls) .none kV doc pm an cdv ct) ⟨us, []⟩ = pure ((["_law_plain_here", "_law_some", "_law_answer"] : List Str).zip us) := fun _ _ _ _ _ _ us hl => match us, hl with | [_, _, _], _ => rfl
theorem b_sOthers : ∀ (kV doc pm : Value) (an : Option Addr) (cdv ct : Value) (us : List Value), us.length = (["_law_script", "_law_many", "_law_some"] : List Str).length → bindArgs (PySem.W.fnOf "_law_others" "_law_others" (L2.defArgs sOthers) (L2.defBody sOthers) (L2.defScope sOthers) .none kV doc pm an cdv ct) ⟨us, []⟩ = pure ((["_law_script", "_law_many", "_law_some"] : List Str).zip us) := fun _ _ _ _ _ _ us hl => match us, hl with | [_, _, _], _ => rfl
theorem b_sInI : ∀ (kV doc pm : Value) (an : Option Addr) (cdv ct : Value) (us : List Value), us.length = (["self", "thing"] : List Str).length → bindArgs (PySem.W.fnOf "__init__" "In.__init__" (L2.defArgs sInI) (L2.defBody sInI) (L2.defScope sInI) .none kV doc pm an cdv ct) ⟨us, []⟩ = pure ((["self", "thing"] : List Str).zip us) := fun _ _ _ _ _ _ us hl => match us, hl with | [_, _], _ => rfl
theorem b_sInN : ∀ (kV doc pm : Value) (an : Option Addr) (cdv ct : Value) (us : List Value), us.length = (["self"] : List Str).length → bindArgs (PySem.W.fnOf "named" "In.named" (L2.defArgs sInN) (L2.defBody sInN) (L2.defScope sInN) .none kV doc pm an cdv ct) ⟨us, []⟩ = pure ((["self"] : List Str).zip us) := fun _ _ _ _ _ _ us hl => match us, hl with | [_], _ => rfl
theorem b_sInH : ∀ (kV doc pm : Value) (an : Option Addr) (cdv ct : Value) (us : List Value), us.length = (["self", "rising", "world"] : List Str).length → bindArgs (PySem.W.fnOf "holds" "In.holds" (L2.defArgs sInH) (L2.defBody sInH) (L2.defScope sInH) .none kV doc pm an cdv ct) ⟨us, []⟩ = pure ((["self", "rising", "world"] : List Str).zip us) := fun _ _ _ _ _ _ us hl => match us, hl with | [_, _, _], _ => rfl
theorem b_sOutI : ∀ (kV doc pm : Value) (an : Option Addr) (cdv ct : Value) (us : List Value), us.length = (["self", "thing"] : List Str).length → bindArgs (PySem.W.fnOf "__init__" "Out.__init__" (L2.defArgs sOutI) (L2.defBody sOutI) (L2.defScope sOutI) .none kV doc pm an cdv ct) ⟨us, []⟩ = pure ((["self", "thing"] : List Str).zip us) := fun _ _ _ _ _ _ us hl => match us, hl with | [_, _], _ => rfl
theorem b_sOutN : ∀ (kV doc pm : Value) (an : Option Addr) (cdv ct : Value) (us : List Value), us.length = (["self"] : List Str).length → bindArgs (PySem.W.fnOf "named" "Out.named" (L2.defArgs sOutN) (L2.defBody sOutN) (L2.defScope sOutN) .none kV doc pm an cdv ct) ⟨us, []⟩ = pure ((["self"] : List Str).zip us) := fun _ _ _ _ _ _ us hl => match us, hl with | [_], _ => rfl
theorem b_sOutH : ∀ (kV doc pm : Value) (an : Option Addr) (cdv ct : Value) (us : List Value), us.length = (["self", "rising", "world"] : List Str).length → bindArgs (PySem.W.fnOf "holds" "Out.holds" (L2.defArgs sOutH) (L2.defBody sOutH) (L2.defScope sOutH) .none kV doc pm an cdv ct) ⟨us, []⟩ = pure ((["self", "rising", "world"] : List Str).zip us) := fun _ _ _ _ _ _ us hl => match us, hl with | [_, _, _], _ => rfl
theorem b_sLeI : ∀ (kV doc pm : Value) (an : Option Addr) (cdv ct : Value) (us : List Value), us.length = (["self", "bound", "items"] : List Str).length → bindArgs (PySem.W.fnOf "__init__" "Least.__init__" (L2.defArgs sLeI) (L2.defBody sLeI) (L2.defScope sLeI) .none kV doc pm an cdv ct) ⟨us, []⟩ = pure ((["self", "bound", "items"] : List Str).zip us) := fun _ _ _ _ _ _ us hl => match us, hl with | [_, _, _], _ => rfl
theorem b_sLeN : ∀ (kV doc pm : Value) (an : Option Addr) (cdv ct : Value) (us : List Value), us.length = (["self"] : List Str).length → bindArgs (PySem.W.fnOf "named" "Least.named" (L2.defArgs sLeN) (L2.defBody sLeN) (L2.defScope sLeN) .none kV doc pm an cdv ct) ⟨us, []⟩ = pure ((["self"] : List Str).zip us) := fun _ _ _ _ _ _ us hl => match us, hl with | [_], _ => rfl
theorem b_sLeH : ∀ (kV doc pm : Value) (an : Option Addr) (cdv ct : Value) (us : List Value), us.length = (["self", "rising", "world"] : List Str).length → bindArgs (PySem.W.fnOf "holds" "Least.holds" (L2.defArgs sLeH) (L2.defBody sLeH) (L2.defScope sLeH) .none kV doc pm an cdv ct) ⟨us, []⟩ = pure ((["self", "rising", "world"] : List Str).zip us) := fun _ _ _ _ _ _ us hl => match us, hl with | [_, _, _], _ => rfl
theorem b_sMoI : ∀ (kV doc pm : Value) (an : Option Addr) (cdv ct : Value) (us : List Value), us.length = (["self", "bound", "items"] : List Str).length → bindArgs (PySem.W.fnOf "__init__" "Most.__init__" (L2.defArgs sMoI) (L2.defBody sMoI) (L2.defScope sMoI) .none kV doc pm an cdv ct) ⟨us, []⟩ = pure ((["self", "bound", "items"] : List Str).zip us) := fun _ _ _ _ _ _ us hl => match us, hl with | [_, _, _], _ => rfl
theorem b_sMoN : ∀ (kV doc pm : Value) (an : Option Addr) (cdv ct : Value) (us : List Value), us.length = (["self"] : List Str).length → bindArgs (PySem.W.fnOf "named" "Most.named" (L2.defArgs sMoN) (L2.defBody sMoN) (L2.defScope sMoN) .none kV doc pm an cdv ct) ⟨us, []⟩ = pure ((["self"] : List Str).zip us) := fun _ _ _ _ _ _ us hl => match us, hl with | [_], _ => rfl
theorem b_sMoH : ∀ (kV doc pm : Value) (an : Option Addr) (cdv ct : Value) (us : List Value), us.length = (["self", "rising", "world"] : List Str).length → bindArgs (PySem.W.fnOf "holds" "Most.holds" (L2.defArgs sMoH) (L2.defBody sMoH) (L2.defScope sMoH) .none kV doc pm an cdv ct) ⟨us, []⟩ = pure ((["self", "rising", "world"] : List Str).zip us) := fun _ _ _ _ _ _ us hl => match us, hl with | [_, _, _], _ => rfl
/-! ### all joined -/
section
variable {P : Program} {w : World} {K : Fg} {mg : Str → Option Value} {base : Heap}
theorem ok_all {c : Clss} {f : Addr} {fd : FuncData} (F : L2.Fun K "law" "law" sLaw f fd) (B : Blt mg) (T : CTx K mg c)
    (d_sMarks : DefAt K mg "marks" sMarks ["many", "some"])
    (d_sNumbers : DefAt K mg "numbers" sNumbers ["truths"])
    (d_sWorth : DefAt K mg "worth_of" sWorth ["items", "told"])
    (d_sPart : DefAt K mg "part_of" sPart ["told"])
    (d_sBody : DefAt K mg "body_holds" sBody ["rule", "rising", "world"])
    (d_sBreaks : DefAt K mg "breaks" sBreaks ["rule", "world"])
    (d_sLean : DefAt K mg "leanings" sLean ["plain"])
    (d_sLevels : DefAt K mg "levels" sLevels ["plain"])
    (d_sGrown : DefAt K mg "grown" sGrown ["plain"])
    (d_sFirst : DefAt K mg "first_broken" sFirst ["plain", "some"])
    (d_sNext : DefAt K mg "next_link" sNext ["plain", "rising", "world"])
    (d_sChain : DefAt K mg "chain" sChain ["plain", "some"])
    (d_sBuilt : DefAt K mg "built" sBuilt ["plain", "some"])
    (d_sGroup : DefAt K mg "group" sGroup ["plain", "some"])
    (d_sJudged : DefAt K mg "judged" sJudged ["plain", "some"])
    (d_sCell : DefAt K mg "_law_cell_at" sCell ["_law_script", "_law_k"])
    (d_sWhole : DefAt K mg "_law_whole" sWhole ["_law_found"])
    (d_sMixed : DefAt K mg "_law_mixed" sMixed ["_law_cell", "_law_k"])
    (d_sTruths : DefAt K mg "_law_truths" sTruths ["_law_cell", "_law_many", "_law_k"])
    (d_sLPart : DefAt K mg "_law_part" sLPart ["_law_number", "_law_many", "_law_great"])
    (d_sLRule : DefAt K mg "_law_rule" sLRule ["_law_cell", "_law_many", "_law_words"])
    (d_sTamed : DefAt K mg "_law_tamed" sTamed ["_law_rule_here", "_law_many"])
    (d_sPlain : DefAt K mg "_law_plain" sPlain ["_law_script"])
    (d_sHoldsL : DefAt K mg "_law_holds" sHoldsL ["_law_row", "_law_rising", "_law_world"])
    (d_sBodyL : DefAt K mg "_law_body" sBodyL ["_law_rule_here", "_law_rising", "_law_world"])
    (d_sFalls : DefAt K mg "_law_falls" sFalls ["_law_plain_here", "_law_some", "_law_answer"])
    (d_sOthers : DefAt K mg "_law_others" sOthers ["_law_script", "_law_many", "_law_some"])
    : FnOk P w K mg base CX0 10 f fd ["_law_script"] (spLaw K) := by
  have cM : C8.Cal P w K mg base 1 "marks" (spMarks K) [] := cal_marks d_sMarks B
  have cN : C8.Cal P w K mg base 1 "numbers" (spNumbers K) [] := cal_numbers d_sNumbers B
  have cW : C8.Cal P w K mg base 1 "worth_of" (spWorth K) [] := cal_worth d_sWorth B
  have cP : C8.Cal P w K mg base 3 "part_of" (spPart K c) [] := cal_part d_sPart (mak_in T) (mak_out T) (mak_least T B) (mak_most T B)
  have mH : ∀ p : Part, C8.Met P w K mg base 2 (c.of p) "holds" (spHolds K c (kindP p)) [] := fun p => match p with
    | .inn _ => met_inH T
    | .out _ => met_outH T
    | .least _ _ => met_leH T cW
    | .most _ _ => met_moH T cW
  have mN : ∀ p : Part, C8.Met P w K mg base 1 (c.of p) "named" (spNamed K c (kindP p)) [] := fun p => match p with
    | .inn _ => met_inN T
    | .out _ => met_outN T
    | .least _ _ => met_leN T B
    | .most _ _ => met_moN T B
  have cB : C8.Cal P w K mg base 4 "body_holds" (spBody K) [] := cal_body d_sBody B cP mH
  have cK : C8.Cal P w K mg base 5 "breaks" (spBreaks K) [] := cal_breaks d_sBreaks cB
  have cL : C8.Cal P w K mg base 4 "leanings" (spLean K) [] := cal_lean d_sLean cP mN
  have cLe : C8.Cal P w K mg base 5 "levels" (spLevels K) [] := cal_levels d_sLevels B cL
  have cGr : C8.Cal P w K mg base 6 "grown" (spGrown K) [] := by
    refine cal_grown d_sGrown B ?_ ?_ ?_ ?_ <;> assumption
  have cF : C8.Cal P w K mg base 6 "first_broken" (spFirst K) [] := cal_first d_sFirst B cM cK
  have cX : C8.Cal P w K mg base 5 "next_link" (spNext K) [] := cal_next d_sNext B cB
  have cC : C8.Cal P w K mg base 6 "chain" (spChain K) [] := cal_chain d_sChain cM cX
  have cU : C8.Cal P w K mg base 7 "built" (spBuilt K) [] := cal_built d_sBuilt B cC
  have cG : C8.Cal P w K mg base 8 "group" (spGroup K) [] := cal_group d_sGroup cM cN cU
  have cJ : C8.Cal P w K mg base 9 "judged" (spJudged K) [] := cal_judged d_sJudged B cF cG cC
  have cCe : C8.Cal P w K mg base 1 "_law_cell_at" (spLCell K) [] := cal_lcell d_sCell B
  have cWh : C8.Cal P w K mg base 1 "_law_whole" spWhole [] := cal_whole d_sWhole B
  have cMx : C8.Cal P w K mg base 1 "_law_mixed" spMixed [] := cal_mixed d_sMixed
  have cTr : C8.Cal P w K mg base 1 "_law_truths" (spTruths K) [] := cal_truths d_sTruths B
  have cPt : C8.Cal P w K mg base 1 "_law_part" (spLPart K) [] := cal_lpart d_sLPart B
  have cRu : C8.Cal P w K mg base 2 "_law_rule" (spLRule K) [] := cal_lrule d_sLRule B cMx cPt
  have cTa : C8.Cal P w K mg base 1 "_law_tamed" (spTamed K) [] := cal_tamed d_sTamed B
  have cPl : C8.Cal P w K mg base 3 "_law_plain" (spPlain K) [] := cal_plain d_sPlain B cMx cCe cRu cTa
  have cHo : C8.Cal P w K mg base 1 "_law_holds" (spHoldsL K) [] := cal_holdsL d_sHoldsL B
  have cBo : C8.Cal P w K mg base 2 "_law_body" (spBodyL K) [] := cal_bodyL d_sBodyL cHo
  have cFa : C8.Cal P w K mg base 3 "_law_falls" (spFalls K) [] := cal_falls d_sFalls B cWh cBo
  have cOt : C8.Cal P w K mg base 2 "_law_others" (spOthers K) [] := cal_others d_sOthers B cTr
  exact ok_law F B cPl cLe cGr cJ cOt cFa
end
theorem all_mk {l : PySem.W.OpenLaw} {w : World} {K : PySem.W.Frag} {h : Heap} {mg : Str → Option Value} {fa f5 C O L M : Addr} (X : K.In h) (G : h.Ns mainGlobals mg) (hfa : mg "law" = some (.ref fa))
    {od5 an5 : Option Addr} {sl5 : Array (Option Value)} {oc5 kV5 dc5 pm5 cd5 ct5 : Value}
    (a5 : PySem.W.nsIn K mainGlobals "law" = some (some (.ref f5))) (l5 : K.lookup f5 = some ⟨oc5, od5, .func (PySem.W.fnOf "law" "law" (L2.defArgs sLaw) (L2.defBody sLaw) (L2.defScope sLaw) .none kV5 dc5 pm5 an5 cd5 ct5), sl5⟩) (c5 : PySem.W.codeIn K cd5 "law" = true) (k5 : PySem.W.keepIn K (.ref f5) = true)
    (t_range : PySem.W.nsIn K mainGlobals "range" = some none)
    (t_enum : PySem.W.nsIn K mainGlobals "enumerate" = some none)
    (t_sum : PySem.W.nsIn K mainGlobals "sum" = some none)
    (t_list : PySem.W.nsIn K mainGlobals "list" = some none)
    (t_sorted : PySem.W.nsIn K mainGlobals "sorted" = some none)
    (t_set : PySem.W.nsIn K mainGlobals "set" = some none)
    (t_all : PySem.W.nsIn K mainGlobals "all" = some none)
    (t_max : PySem.W.nsIn K mainGlobals "max" = some none)
    (t_min : PySem.W.nsIn K mainGlobals "min" = some none)
    (t_len : PySem.W.nsIn K mainGlobals "len" = some none)
    (t_isi : PySem.W.nsIn K mainGlobals "isinstance" = some none)
    (t_int : PySem.W.nsIn K mainGlobals "int" = some none)
    (t_bool : PySem.W.nsIn K mainGlobals "bool" = some none)
    (aC_In : PySem.W.nsIn K mainGlobals "In" = some (some (.ref C)))
    (pg_In : PySem.W.plainGet K C Str.empty = true)
    (hd_In : PySem.W.hasDictIn K C = true)
    (po_In : PySem.W.plainOver K C = true)
    (sa_In : PySem.W.findIn K (.ref C) "__setattr__" = some (some (.builtin "object.__setattr__")))
    (i_In : InitAt K mg "In" C "In.__init__" sInI ["self", "thing"]) (n_In : MethAt K C "named" "In.named" sInN ["self"]) (h_In : MethAt K C "holds" "In.holds" sInH ["self", "rising", "world"])
    (no_In_thing : PySem.W.findIn K (.ref C) "thing" = some none)
    (aC_Out : PySem.W.nsIn K mainGlobals "Out" = some (some (.ref O)))
    (pg_Out : PySem.W.plainGet K O Str.empty = true)
    (hd_Out : PySem.W.hasDictIn K O = true)
    (po_Out : PySem.W.plainOver K O = true)
    (sa_Out : PySem.W.findIn K (.ref O) "__setattr__" = some (some (.builtin "object.__setattr__")))
    (i_Out : InitAt K mg "Out" O "Out.__init__" sOutI ["self", "thing"]) (n_Out : MethAt K O "named" "Out.named" sOutN ["self"]) (h_Out : MethAt K O "holds" "Out.holds" sOutH ["self", "rising", "world"])
    (no_Out_thing : PySem.W.findIn K (.ref O) "thing" = some none)
    (aC_Least : PySem.W.nsIn K mainGlobals "Least" = some (some (.ref L)))
    (pg_Least : PySem.W.plainGet K L Str.empty = true)
    (hd_Least : PySem.W.hasDictIn K L = true)
    (po_Least : PySem.W.plainOver K L = true)
    (sa_Least : PySem.W.findIn K (.ref L) "__setattr__" = some (some (.builtin "object.__setattr__")))
    (i_Least : InitAt K mg "Least" L "Least.__init__" sLeI ["self", "bound", "items"]) (n_Least : MethAt K L "named" "Least.named" sLeN ["self"]) (h_Least : MethAt K L "holds" "Least.holds" sLeH ["self", "rising", "world"])
    (no_Least_bound : PySem.W.findIn K (.ref L) "bound" = some none)
    (no_Least_weighed : PySem.W.findIn K (.ref L) "weighed" = some none)
    (aC_Most : PySem.W.nsIn K mainGlobals "Most" = some (some (.ref M)))
    (pg_Most : PySem.W.plainGet K M Str.empty = true)
    (hd_Most : PySem.W.hasDictIn K M = true)
    (po_Most : PySem.W.plainOver K M = true)
    (sa_Most : PySem.W.findIn K (.ref M) "__setattr__" = some (some (.builtin "object.__setattr__")))
    (i_Most : InitAt K mg "Most" M "Most.__init__" sMoI ["self", "bound", "items"]) (n_Most : MethAt K M "named" "Most.named" sMoN ["self"]) (h_Most : MethAt K M "holds" "Most.holds" sMoH ["self", "rising", "world"])
    (no_Most_bound : PySem.W.findIn K (.ref M) "bound" = some none)
    (no_Most_weighed : PySem.W.findIn K (.ref M) "weighed" = some none)
    (d_sMarks : DefAt K mg "marks" sMarks ["many", "some"])
    (d_sNumbers : DefAt K mg "numbers" sNumbers ["truths"])
    (d_sWorth : DefAt K mg "worth_of" sWorth ["items", "told"])
    (d_sPart : DefAt K mg "part_of" sPart ["told"])
    (d_sBody : DefAt K mg "body_holds" sBody ["rule", "rising", "world"])
    (d_sBreaks : DefAt K mg "breaks" sBreaks ["rule", "world"])
    (d_sLean : DefAt K mg "leanings" sLean ["plain"])
    (d_sLevels : DefAt K mg "levels" sLevels ["plain"])
    (d_sGrown : DefAt K mg "grown" sGrown ["plain"])
    (d_sFirst : DefAt K mg "first_broken" sFirst ["plain", "some"])
    (d_sNext : DefAt K mg "next_link" sNext ["plain", "rising", "world"])
    (d_sChain : DefAt K mg "chain" sChain ["plain", "some"])
    (d_sBuilt : DefAt K mg "built" sBuilt ["plain", "some"])
    (d_sGroup : DefAt K mg "group" sGroup ["plain", "some"])
    (d_sJudged : DefAt K mg "judged" sJudged ["plain", "some"])
    (d_sCell : DefAt K mg "_law_cell_at" sCell ["_law_script", "_law_k"])
    (d_sWhole : DefAt K mg "_law_whole" sWhole ["_law_found"])
    (d_sMixed : DefAt K mg "_law_mixed" sMixed ["_law_cell", "_law_k"])
    (d_sTruths : DefAt K mg "_law_truths" sTruths ["_law_cell", "_law_many", "_law_k"])
    (d_sLPart : DefAt K mg "_law_part" sLPart ["_law_number", "_law_many", "_law_great"])
    (d_sLRule : DefAt K mg "_law_rule" sLRule ["_law_cell", "_law_many", "_law_words"])
    (d_sTamed : DefAt K mg "_law_tamed" sTamed ["_law_rule_here", "_law_many"])
    (d_sPlain : DefAt K mg "_law_plain" sPlain ["_law_script"])
    (d_sHoldsL : DefAt K mg "_law_holds" sHoldsL ["_law_row", "_law_rising", "_law_world"])
    (d_sBodyL : DefAt K mg "_law_body" sBodyL ["_law_rule_here", "_law_rising", "_law_world"])
    (d_sFalls : DefAt K mg "_law_falls" sFalls ["_law_plain_here", "_law_some", "_law_answer"])
    (d_sOthers : DefAt K mg "_law_others" sOthers ["_law_script", "_law_many", "_law_some"])
    : ∃ fd : FuncData, (∀ (s : Shared) (v : Value), BindsTo s fd ⟨[v], []⟩ [("_law_script", v)]) ∧ ∀ base : Heap, K.In base → base.Ns mainGlobals mg → FnOk l.prog w K mg base CX0 10 fa fd ["_law_script"] (spLaw K) := by
  have e := hfa.symm.trans (PySem.W.mg_of X G a5)
  cases e
  have B : Blt mg := ⟨PySem.W.mg_none_of X G t_range, PySem.W.mg_none_of X G t_enum, PySem.W.mg_none_of X G t_sum, PySem.W.mg_none_of X G t_list, PySem.W.mg_none_of X G t_sorted, PySem.W.mg_none_of X G t_set, PySem.W.mg_none_of X G t_all, PySem.W.mg_none_of X G t_max, PySem.W.mg_none_of X G t_min, PySem.W.mg_none_of X G t_len, PySem.W.mg_none_of X G t_isi, PySem.W.mg_none_of X G t_int, PySem.W.mg_none_of X G t_bool⟩
  have T : CTx K mg ⟨C, O, L, M⟩ := ⟨⟨pg_In, hd_In, po_In, sa_In⟩, ⟨pg_Out, hd_Out, po_Out, sa_Out⟩, ⟨pg_Least, hd_Least, po_Least, sa_Least⟩, ⟨pg_Most, hd_Most, po_Most, sa_Most⟩, no_In_thing, no_Out_thing, no_Least_bound, no_Least_weighed, no_Most_bound, no_Most_weighed, i_In, i_Out, i_Least, i_Most, n_In, n_Out, n_Least, n_Most, h_In, h_Out, h_Least, h_Most⟩
  have F5 := fun_mk (st := sLaw) l5 c5 k5
  exact ⟨PySem.W.fnOf "law" "law" (L2.defArgs sLaw) (L2.defBody sLaw) (L2.defScope sLaw) .none kV5 dc5 pm5 an5 cd5 ct5, fun s v => .of_eq rfl, fun base _ _ => ok_all F5 B T d_sMarks d_sNumbers d_sWorth d_sPart d_sBody d_sBreaks d_sLean d_sLevels d_sGrown d_sFirst d_sNext d_sChain d_sBuilt d_sGroup d_sJudged d_sCell d_sWhole d_sMixed d_sTruths d_sLPart d_sLRule d_sTamed d_sPlain d_sHoldsL d_sBodyL d_sFalls d_sOthers⟩
theorem walk {l : PySem.W.OpenLaw} {q : Program} {loose : List Str} {XP : (Str → Option Value) → Heap → Prop} {YP : World → Heap → Prop} {d : DefRec} {K : Params → PySem.W.Frag} (hn : l.most = some 63) (hdf : d.params.defaults = [])
    (hY : ∀ (w : World) (h : Heap), YP w h → (K w.params).In h)
    (F : ∀ (w : World) (mg : Str → Option Value) (fa : Addr) (h : Heap), (K w.params).In h → h.Ns mainGlobals mg → mg d.name = some (.ref fa) →
      ∃ fd : FuncData, (∀ (s : Shared) (u : Value), BindsTo s fd ⟨[u], []⟩ [("_law_script", u)]) ∧ ∀ base : Heap, (K w.params).In base → base.Ns mainGlobals mg → FnOk l.prog w (K w.params) mg base CX0 10 fa fd ["_law_script"] (spLaw (K w.params))) :
    PySem.W.WalkO q loose XP YP l.row.toRowW d [] (fun f vs => PySem.call f vs) :=
  L2.walk_of (n := 63) (k := 10) (x := "_law_script") (CX := fun _ => CX0) (sp := fun w => spLaw (K w.params)) hn (by decide) hdf ⟨rfl, by decide, by decide⟩ hY F (fun _ _ a ns hl _ hS => ⟨a, ns, rfl, hS, hl, fun _ => rfl⟩) fun _ _ _ _ _ z => z
end KW
open PySem PySem.W PyProof.Rows
set_option maxRecDepth 100000 in
set_option maxHeartbeats 0 in
theorem PySem.Challenge.cw_standstill_k24_whole_only_what_grows_holds : PySem.Challenge.rw_standstill_k24_whole_only_what_grows.Holds := by
  w_on; o_law; k_head; (case hw => w_witness2)
  k_fill
  refine KW.walk (l := PySem.Challenge.rw_standstill_k24_whole_only_what_grows) rfl rfl (fun w h Y => PySem.W.kIn_of Y) ?F
  case F =>
    intro w mg fa h KX G hmg
    refine' KW.all_mk KX G hmg ?a5 ?l5 ?c5 ?k5 ?t_range ?t_enum ?t_sum ?t_list ?t_sorted ?t_set ?t_all ?t_max ?t_min ?t_len ?t_isi ?t_int ?t_bool ?aC_In ?pg_In ?hd_In ?po_In ?sa_In ?i_In ?n_In ?h_In ?no_In_thing ?aC_Out ?pg_Out ?hd_Out ?po_Out ?sa_Out ?i_Out ?n_Out ?h_Out ?no_Out_thing ?aC_Least ?pg_Least ?hd_Least ?po_Least ?sa_Least ?i_Least ?n_Least ?h_Least ?no_Least_bound ?no_Least_weighed ?aC_Most ?pg_Most ?hd_Most ?po_Most ?sa_Most ?i_Most ?n_Most ?h_Most ?no_Most_bound ?no_Most_weighed ?d_sMarks ?d_sNumbers ?d_sWorth ?d_sPart ?d_sBody ?d_sBreaks ?d_sLean ?d_sLevels ?d_sGrown ?d_sFirst ?d_sNext ?d_sChain ?d_sBuilt ?d_sGroup ?d_sJudged ?d_sCell ?d_sWhole ?d_sMixed ?d_sTruths ?d_sLPart ?d_sLRule ?d_sTamed ?d_sPlain ?d_sHoldsL ?d_sBodyL ?d_sFalls ?d_sOthers
    (case a5 => k_is)
    (case l5 => k_is)
    (case c5 => k_is)
    (case k5 => k_is)
    (case t_range => k_is)
    (case t_enum => k_is)
    (case t_sum => k_is)
    (case t_list => k_is)
    (case t_sorted => k_is)
    (case t_set => k_is)
    (case t_all => k_is)
    (case t_max => k_is)
    (case t_min => k_is)
    (case t_len => k_is)
    (case t_isi => k_is)
    (case t_int => k_is)
    (case t_bool => k_is)
    (case aC_In => k_is)
    (case pg_In => k_is)
    (case hd_In => k_is)
    (case po_In => k_is)
    (case sa_In => k_is)
    (case i_In => refine' KW.init_mk KX G KW.b_sInI ?aC ?mk ?kc ?a ?i ?l ?c ?k; (case aC => k_is); (case mk => k_is); (case kc => k_is); (case a => k_is); (case i => k_is); (case l => k_is); (case c => k_is); (case k => k_is))
    (case n_In => refine' KW.meth_mk KW.b_sInN ?a ?i ?l ?c ?k; (case a => k_is); (case i => k_is); (case l => k_is); (case c => k_is); (case k => k_is))
    (case h_In => refine' KW.meth_mk KW.b_sInH ?a ?i ?l ?c ?k; (case a => k_is); (case i => k_is); (case l => k_is); (case c => k_is); (case k => k_is))
    (case no_In_thing => k_is)
    (case aC_Out => k_is)
    (case pg_Out => k_is)
    (case hd_Out => k_is)
    (case po_Out => k_is)
    (case sa_Out => k_is)
    (case i_Out => refine' KW.init_mk KX G KW.b_sOutI ?aC ?mk ?kc ?a ?i ?l ?c ?k; (case aC => k_is); (case mk => k_is); (case kc => k_is); (case a => k_is); (case i => k_is); (case l => k_is); (case c => k_is); (case k => k_is))
    (case n_Out => refine' KW.meth_mk KW.b_sOutN ?a ?i ?l ?c ?k; (case a => k_is); (case i => k_is); (case l => k_is); (case c => k_is); (case k => k_is))
    (case h_Out => refine' KW.meth_mk KW.b_sOutH ?a ?i ?l ?c ?k; (case a => k_is); (case i => k_is); (case l => k_is); (case c => k_is); (case k => k_is))
    (case no_Out_thing => k_is)
    (case aC_Least => k_is)
    (case pg_Least => k_is)
    (case hd_Least => k_is)
    (case po_Least => k_is)
    (case sa_Least => k_is)
    (case i_Least => refine' KW.init_mk KX G KW.b_sLeI ?aC ?mk ?kc ?a ?i ?l ?c ?k; (case aC => k_is); (case mk => k_is); (case kc => k_is); (case a => k_is); (case i => k_is); (case l => k_is); (case c => k_is); (case k => k_is))
    (case n_Least => refine' KW.meth_mk KW.b_sLeN ?a ?i ?l ?c ?k; (case a => k_is); (case i => k_is); (case l => k_is); (case c => k_is); (case k => k_is))
    (case h_Least => refine' KW.meth_mk KW.b_sLeH ?a ?i ?l ?c ?k; (case a => k_is); (case i => k_is); (case l => k_is); (case c => k_is); (case k => k_is))
    (case no_Least_bound => k_is)
    (case no_Least_weighed => k_is)
    (case aC_Most => k_is)
    (case pg_Most => k_is)
    (case hd_Most => k_is)
    (case po_Most => k_is)
    (case sa_Most => k_is)
    (case i_Most => refine' KW.init_mk KX G KW.b_sMoI ?aC ?mk ?kc ?a ?i ?l ?c ?k; (case aC => k_is); (case mk => k_is); (case kc => k_is); (case a => k_is); (case i => k_is); (case l => k_is); (case c => k_is); (case k => k_is))
    (case n_Most => refine' KW.meth_mk KW.b_sMoN ?a ?i ?l ?c ?k; (case a => k_is); (case i => k_is); (case l => k_is); (case c => k_is); (case k => k_is))
    (case h_Most => refine' KW.meth_mk KW.b_sMoH ?a ?i ?l ?c ?k; (case a => k_is); (case i => k_is); (case l => k_is); (case c => k_is); (case k => k_is))
    (case no_Most_bound => k_is)
    (case no_Most_weighed => k_is)
    (case d_sMarks => refine' KW.def_mk KX G KW.b_sMarks ?a ?l ?c ?k; (case a => k_is); (case l => k_is); (case c => k_is); (case k => k_is))
    (case d_sNumbers => refine' KW.def_mk KX G KW.b_sNumbers ?a ?l ?c ?k; (case a => k_is); (case l => k_is); (case c => k_is); (case k => k_is))
    (case d_sWorth => refine' KW.def_mk KX G KW.b_sWorth ?a ?l ?c ?k; (case a => k_is); (case l => k_is); (case c => k_is); (case k => k_is))
    (case d_sPart => refine' KW.def_mk KX G KW.b_sPart ?a ?l ?c ?k; (case a => k_is); (case l => k_is); (case c => k_is); (case k => k_is))
    (case d_sBody => refine' KW.def_mk KX G KW.b_sBody ?a ?l ?c ?k; (case a => k_is); (case l => k_is); (case c => k_is); (case k => k_is))
    (case d_sBreaks => refine' KW.def_mk KX G KW.b_sBreaks ?a ?l ?c ?k; (case a => k_is); (case l => k_is); (case c => k_is); (case k => k_is))
    (case d_sLean => refine' KW.def_mk KX G KW.b_sLean ?a ?l ?c ?k; (case a => k_is); (case l => k_is); (case c => k_is); (case k => k_is))
    (case d_sLevels => refine' KW.def_mk KX G KW.b_sLevels ?a ?l ?c ?k; (case a => k_is); (case l => k_is); (case c => k_is); (case k => k_is))
    (case d_sGrown => refine' KW.def_mk KX G KW.b_sGrown ?a ?l ?c ?k; (case a => k_is); (case l => k_is); (case c => k_is); (case k => k_is))
    (case d_sFirst => refine' KW.def_mk KX G KW.b_sFirst ?a ?l ?c ?k; (case a => k_is); (case l => k_is); (case c => k_is); (case k => k_is))
    (case d_sNext => refine' KW.def_mk KX G KW.b_sNext ?a ?l ?c ?k; (case a => k_is); (case l => k_is); (case c => k_is); (case k => k_is))
    (case d_sChain => refine' KW.def_mk KX G KW.b_sChain ?a ?l ?c ?k; (case a => k_is); (case l => k_is); (case c => k_is); (case k => k_is))
    (case d_sBuilt => refine' KW.def_mk KX G KW.b_sBuilt ?a ?l ?c ?k; (case a => k_is); (case l => k_is); (case c => k_is); (case k => k_is))
    (case d_sGroup => refine' KW.def_mk KX G KW.b_sGroup ?a ?l ?c ?k; (case a => k_is); (case l => k_is); (case c => k_is); (case k => k_is))
    (case d_sJudged => refine' KW.def_mk KX G KW.b_sJudged ?a ?l ?c ?k; (case a => k_is); (case l => k_is); (case c => k_is); (case k => k_is))
    (case d_sCell => refine' KW.def_mk KX G KW.b_sCell ?a ?l ?c ?k; (case a => k_is); (case l => k_is); (case c => k_is); (case k => k_is))
    (case d_sWhole => refine' KW.def_mk KX G KW.b_sWhole ?a ?l ?c ?k; (case a => k_is); (case l => k_is); (case c => k_is); (case k => k_is))
    (case d_sMixed => refine' KW.def_mk KX G KW.b_sMixed ?a ?l ?c ?k; (case a => k_is); (case l => k_is); (case c => k_is); (case k => k_is))
    (case d_sTruths => refine' KW.def_mk KX G KW.b_sTruths ?a ?l ?c ?k; (case a => k_is); (case l => k_is); (case c => k_is); (case k => k_is))
    (case d_sLPart => refine' KW.def_mk KX G KW.b_sLPart ?a ?l ?c ?k; (case a => k_is); (case l => k_is); (case c => k_is); (case k => k_is))
    (case d_sLRule => refine' KW.def_mk KX G KW.b_sLRule ?a ?l ?c ?k; (case a => k_is); (case l => k_is); (case c => k_is); (case k => k_is))
    (case d_sTamed => refine' KW.def_mk KX G KW.b_sTamed ?a ?l ?c ?k; (case a => k_is); (case l => k_is); (case c => k_is); (case k => k_is))
    (case d_sPlain => refine' KW.def_mk KX G KW.b_sPlain ?a ?l ?c ?k; (case a => k_is); (case l => k_is); (case c => k_is); (case k => k_is))
    (case d_sHoldsL => refine' KW.def_mk KX G KW.b_sHoldsL ?a ?l ?c ?k; (case a => k_is); (case l => k_is); (case c => k_is); (case k => k_is))
    (case d_sBodyL => refine' KW.def_mk KX G KW.b_sBodyL ?a ?l ?c ?k; (case a => k_is); (case l => k_is); (case c => k_is); (case k => k_is))
    (case d_sFalls => refine' KW.def_mk KX G KW.b_sFalls ?a ?l ?c ?k; (case a => k_is); (case l => k_is); (case c => k_is); (case k => k_is))
    (case d_sOthers => refine' KW.def_mk KX G KW.b_sOthers ?a ?l ?c ?k; (case a => k_is); (case l => k_is); (case c => k_is); (case k => k_is))
