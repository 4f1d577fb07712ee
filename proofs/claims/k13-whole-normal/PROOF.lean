import PyProof.Rows.All
import Wide.All
import OpenK.AllK
import Wide.FinOn
import KE.KStateDown
import HandS.Walk
import HandS.SortInts
import HandS.WideBits
import HandS.WideMore
import HandS.ForMost
import HandS.ForExc
import HandS.More
import HandS.Defaults
import HandS.Conv
import HandS.Deep
import HandS.DictComp
import HandS.IsInst
import HandS.Style
import HandS.NoneIn
import HandS.Rev
import HandS.Wide
import HandS.SortKw
import HandS.TupMul
import HandS.TupLen
import HandS.TupAny
import HandS.Small
import HandS.Nested
import HandS.Head0
import HandS.Head1
import HandS.Head2
import HandS.HeadHook1
import HandS.HeadHook2
import HandS.HeadHook3
import HandS.HeadHook4
import HandS.HeadWalk
import KE.SortData
import KE.SortKeyHeap
import KE.DataMinMax
import KE.KDictDisplayH
import KE.KDictKeyed
import HandS.TryOnly
import PySem.Challenge.RW_asmany_k13_whole_normal_formulas_by_thei
/-! ## NfA -/
set_option linter.all false
/-! The plain mathematics of formulas: names by places, ways as functions. -/
namespace Nf
inductive F where
  | kind (i : Nat)
  | many (n : Nat) (f : F)
  | node (b : Bool) (ps : List F)

theorem F.ind {P : F → Prop} (hk : ∀ i, P (.kind i)) (hm : ∀ n f, P f → P (.many n f)) (hn : ∀ b ps, (∀ p ∈ ps, P p) → P (.node b ps)) : ∀ f, P f
  | .kind i => hk i
  | .many n f => hm n f (F.ind hk hm hn f)
  | .node b ps => hn b ps (fun p hp => F.ind hk hm hn p)

mutual
def F.names : F → List Nat
  | .kind i => [i]
  | .many _ f => f.names
  | .node _ ps => namesL ps
def namesL : List F → List Nat
  | [] => []
  | p :: ps => p.names ++ namesL ps
end

abbrev W := Nat → Nat
def wz : W := fun _ => 0
def wadd (a b : W) : W := fun i => a i + b i
def single (i : Nat) : W := fun j => if j = i then 1 else 0
theorem wadd_comm (a b : W) : wadd a b = wadd b a := by funext i; exact Nat.add_comm _ _
theorem wadd_assoc (a b c : W) : wadd (wadd a b) c = wadd a (wadd b c) := by funext i; exact Nat.add_assoc _ _ _
theorem wadd_zero (a : W) : wadd a wz = a := by funext i; rfl
theorem zero_wadd (a : W) : wadd wz a = a := by funext i; exact Nat.zero_add _

/-- sums of n members -/
def SumN : Nat → (W → Prop) → W → Prop
  | 0, _, w => w = wz
  | n + 1, S, w => ∃ a b, SumN n S a ∧ S b ∧ w = wadd a b
/-- sums of one member each -/
def SumS : List (W → Prop) → W → Prop
  | [], w => w = wz
  | S :: r, w => ∃ a b, S a ∧ SumS r b ∧ w = wadd a b

mutual
def Way : F → W → Prop
  | .kind i, w => w = single i
  | .many n f, w => SumN n (Way f) w
  | .node b ps, w => match b with
    | true => WayA ps w
    | false => WayO ps w
def WayA : List F → W → Prop
  | [], w => w = wz
  | p :: ps, w => ∃ a b, Way p a ∧ WayA ps b ∧ w = wadd a b
def WayO : List F → W → Prop
  | [], _ => False
  | p :: ps, w => Way p w ∨ WayO ps w
end

mutual
def size : F → Nat → Nat
  | .kind i, j => if j = i then 1 else 0
  | .many n f, j => n * size f j
  | .node _ ps, j => sizeL ps j
def sizeL : List F → Nat → Nat
  | [], _ => 0
  | p :: ps, j => if j ∈ p.names then size p j else sizeL ps j
end
mutual
def meet : F → Nat → Nat → Nat
  | .kind _, _, _ => 0
  | .many n f, i, j => n * meet f i j
  | .node b ps, i, j => meetL b ps i j
def meetL : Bool → List F → Nat → Nat → Nat
  | b, [], _, _ => if b then 0 else 1
  | b, p :: ps, i, j => if i ∈ p.names ∧ j ∈ p.names then meet p i j else meetL b ps i j
end
mutual
def Wf : F → Prop
  | .kind _ => True
  | .many n f => 2 ≤ n ∧ Wf f
  | .node _ ps => 2 ≤ ps.length ∧ WfL ps
def WfL : List F → Prop
  | [] => True
  | p :: ps => Wf p ∧ WfL ps
end
theorem wfL_iff : ∀ {ps : List F}, WfL ps ↔ ∀ p ∈ ps, Wf p
  | [] => by simp [WfL]
  | p :: ps => by simp [WfL, wfL_iff]
theorem namesL_mem {x : Nat} : ∀ {ps : List F}, x ∈ namesL ps ↔ ∃ p ∈ ps, x ∈ p.names
  | [] => by simp [namesL]
  | p :: ps => by simp [namesL, namesL_mem]
theorem wayO_iff {w : W} : ∀ {ps : List F}, WayO ps w ↔ ∃ p ∈ ps, Way p w
  | [] => by simp [WayO]
  | p :: ps => by simp [WayO, wayO_iff]
theorem wayA_iff {w : W} : ∀ {ps : List F}, WayA ps w ↔ SumS (ps.map Way) w
  | [] => by simp [WayA, SumS]
  | p :: ps => by
    simp only [WayA, SumS, List.map_cons]
    constructor
    · rintro ⟨a, b, h1, h2, h3⟩; exact ⟨a, b, h1, wayA_iff.mp h2, h3⟩
    · rintro ⟨a, b, h1, h2, h3⟩; exact ⟨a, b, h1, wayA_iff.mpr h2, h3⟩

/-! ### sums of sets -/
theorem sumN_one {S : W → Prop} {w : W} : SumN 1 S w ↔ S w := by
  constructor
  · rintro ⟨a, b, rfl, h, rfl⟩; rw [zero_wadd]; exact h
  · intro h; exact ⟨wz, w, rfl, h, (zero_wadd w).symm⟩
theorem sumN_add {S : W → Prop} {m : Nat} : ∀ {n : Nat} {w : W}, SumN (m + n) S w ↔ ∃ a b, SumN m S a ∧ SumN n S b ∧ w = wadd a b
  | 0, w => by
    constructor
    · intro h; exact ⟨w, wz, h, rfl, (wadd_zero w).symm⟩
    · rintro ⟨a, b, h, rfl, rfl⟩; rw [wadd_zero]; exact h
  | n + 1, w => by
    constructor
    · rintro ⟨a, b, h1, h2, rfl⟩
      obtain ⟨c, d, h3, h4, rfl⟩ := sumN_add.mp h1
      exact ⟨c, wadd d b, h3, ⟨d, b, h4, h2, rfl⟩, wadd_assoc _ _ _⟩
    · rintro ⟨a, b, h1, ⟨c, d, h2, h3, rfl⟩, rfl⟩
      exact ⟨wadd a c, d, sumN_add.mpr ⟨a, c, h1, h2, rfl⟩, h3, (wadd_assoc _ _ _).symm⟩
theorem sumN_mul {S : W → Prop} {m : Nat} : ∀ {n : Nat} {w : W}, SumN n (SumN m S) w ↔ SumN (n * m) S w
  | 0, w => by rw [Nat.zero_mul]; exact Iff.rfl
  | n + 1, w => by
    rw [Nat.succ_mul]
    constructor
    · rintro ⟨a, b, h1, h2, rfl⟩
      exact sumN_add.mpr ⟨a, b, sumN_mul.mp h1, h2, rfl⟩
    · intro h
      obtain ⟨a, b, h1, h2, e⟩ := sumN_add.mp h
      exact ⟨a, b, sumN_mul.mpr h1, h2, e⟩
theorem sumN_congr {S T : W → Prop} (h : ∀ w, S w ↔ T w) {n : Nat} {w : W} : SumN n S w ↔ SumN n T w := by
  have e : S = T := by funext w; exact propext (h w)
  rw [e]
theorem sumN_dist {S T : W → Prop} : ∀ {n : Nat} {w : W}, SumN n (fun w => ∃ a b, S a ∧ T b ∧ w = wadd a b) w ↔ ∃ a b, SumN n S a ∧ SumN n T b ∧ w = wadd a b
  | 0, w => by
    constructor
    · intro h; exact ⟨wz, wz, rfl, rfl, h⟩
    · rintro ⟨a, b, rfl, rfl, h⟩; exact h
  | n + 1, w => by
    constructor
    · rintro ⟨a, b, h1, ⟨c, d, h2, h3, rfl⟩, rfl⟩
      obtain ⟨e, f, h4, h5, rfl⟩ := sumN_dist.mp h1
      refine ⟨wadd e c, wadd f d, ⟨e, c, h4, h2, rfl⟩, ⟨f, d, h5, h3, rfl⟩, ?_⟩
      funext i; simp only [wadd]; omega
    · rintro ⟨a, b, ⟨c, d, h1, h2, rfl⟩, ⟨e, f, h3, h4, rfl⟩, rfl⟩
      refine ⟨wadd c e, wadd d f, sumN_dist.mpr ⟨c, e, h1, h3, rfl⟩, ⟨d, f, h2, h4, rfl⟩, ?_⟩
      funext i; simp only [wadd]; omega
theorem sumN_zero : ∀ {n : Nat} {w : W}, SumN n (fun w => w = wz) w ↔ w = wz
  | 0, w => Iff.rfl
  | n + 1, w => by
    constructor
    · rintro ⟨a, b, h1, rfl, rfl⟩; rw [wadd_zero]; exact sumN_zero.mp h1
    · rintro rfl; exact ⟨wz, wz, sumN_zero.mpr rfl, rfl, rfl⟩
theorem sumN_sumS {n : Nat} : ∀ {l : List (W → Prop)} {w : W}, SumN n (SumS l) w ↔ SumS (l.map (SumN n)) w
  | [], w => sumN_zero
  | S :: r, w => by
    refine sumN_dist.trans ?_
    constructor
    · rintro ⟨a, b, h1, h2, h3⟩; exact ⟨a, b, h1, sumN_sumS.mp h2, h3⟩
    · rintro ⟨a, b, h1, h2, h3⟩; exact ⟨a, b, h1, sumN_sumS.mpr h2, h3⟩
theorem sumS_append {r : List (W → Prop)} : ∀ {l : List (W → Prop)} {w : W}, SumS (l ++ r) w ↔ ∃ a b, SumS l a ∧ SumS r b ∧ w = wadd a b
  | [], w => by
    constructor
    · intro h; exact ⟨wz, w, rfl, h, (zero_wadd w).symm⟩
    · rintro ⟨a, b, rfl, h, rfl⟩; rw [zero_wadd]; exact h
  | S :: l, w => by
    constructor
    · rintro ⟨a, b, h1, h2, rfl⟩
      obtain ⟨c, d, h3, h4, rfl⟩ := sumS_append.mp h2
      exact ⟨wadd a c, d, ⟨a, c, h1, h3, rfl⟩, h4, (wadd_assoc _ _ _).symm⟩
    · rintro ⟨a, b, ⟨c, d, h1, h2, rfl⟩, h3, rfl⟩
      exact ⟨c, wadd d b, h1, sumS_append.mpr ⟨d, b, h2, h3, rfl⟩, wadd_assoc _ _ _⟩
theorem sumS_perm {l r : List (W → Prop)} (h : l.Perm r) : ∀ {w : W}, SumS l w ↔ SumS r w := by
  induction h with
  | nil => intro w; exact Iff.rfl
  | cons S h ih =>
    intro w
    constructor
    · rintro ⟨a, b, h1, h2, h3⟩; exact ⟨a, b, h1, ih.mp h2, h3⟩
    · rintro ⟨a, b, h1, h2, h3⟩; exact ⟨a, b, h1, ih.mpr h2, h3⟩
  | swap S T l =>
    intro w
    constructor
    · rintro ⟨a, b, h1, ⟨c, d, h2, h3, rfl⟩, rfl⟩
      exact ⟨c, wadd a d, h2, ⟨a, d, h1, h3, rfl⟩, by funext i; simp only [wadd]; omega⟩
    · rintro ⟨a, b, h1, ⟨c, d, h2, h3, rfl⟩, rfl⟩
      exact ⟨c, wadd a d, h2, ⟨a, d, h1, h3, rfl⟩, by funext i; simp only [wadd]; omega⟩
  | trans _ _ ih1 ih2 => intro w; exact ih1.trans ih2
end Nf

/-! ## NfB -/
set_option linter.all false
namespace Nf
/-! ### sizes -/
theorem size_zero {j : Nat} : ∀ f : F, j ∉ f.names → size f j = 0 := by
  refine F.ind (fun i h => ?_) (fun n f ih h => ?_) (fun b ps ih h => ?_)
  · simp only [F.names, List.mem_singleton] at h; simp only [size]; rw [if_neg h]
  · simp only [F.names] at h; simp only [size, ih h, Nat.mul_zero]
  · simp only [F.names] at h
    have : ∀ qs : List F, (∀ p ∈ qs, p ∈ ps) → j ∉ namesL qs → sizeL qs j = 0 := by
      intro qs
      induction qs with
      | nil => intro _ _; rfl
      | cons p r ihr =>
        intro hs hj
        simp only [namesL, List.mem_append, not_or] at hj
        simp only [sizeL]
        rw [if_neg hj.1]
        exact ihr (fun q hq => hs q (List.mem_cons_of_mem _ hq)) hj.2
    simp only [size]
    exact this ps (fun _ h => h) h
theorem sizeL_at {j : Nat} {p : F} : ∀ {ps : List F}, (namesL ps).Nodup → p ∈ ps → j ∈ p.names → sizeL ps j = size p j
  | q :: ps, hn, hp, hj => by
    simp only [namesL] at hn
    obtain ⟨n1, n2, n3⟩ := List.nodup_append.mp hn
    simp only [sizeL]
    rcases List.mem_cons.mp hp with rfl | hp
    · rw [if_pos hj]
    · have hq : j ∉ q.names := fun h => n3 j h j (namesL_mem.mpr ⟨p, hp, hj⟩) rfl
      rw [if_neg hq]
      exact sizeL_at n2 hp hj
theorem size_pos {j : Nat} : ∀ f : F, Wf f → f.names.Nodup → j ∈ f.names → 0 < size f j := by
  refine F.ind (fun i _ _ h => ?_) (fun n f ih hw hn h => ?_) (fun b ps ih hw hn h => ?_)
  · simp only [F.names, List.mem_singleton] at h; subst h; simp [size]
  · simp only [F.names] at h hn; simp only [size]; simp only [Wf] at hw
    exact Nat.mul_pos (by omega) (ih hw.2 hn h)
  · simp only [F.names] at h hn
    simp only [Wf] at hw
    obtain ⟨p, hp, hj⟩ := namesL_mem.mp h
    simp only [size]
    rw [sizeL_at hn hp hj]
    have pn : p.names.Nodup := by
      clear ih hw h
      induction ps with
      | nil => cases hp
      | cons q r ihr =>
        simp only [namesL] at hn
        obtain ⟨n1, n2, n3⟩ := List.nodup_append.mp hn
        rcases List.mem_cons.mp hp with rfl | hp
        · exact n1
        · exact ihr n2 hp
    exact ih p hp (wfL_iff.mp hw.2 p hp) pn hj
theorem nodup_part {p : F} : ∀ {ps : List F}, (namesL ps).Nodup → p ∈ ps → p.names.Nodup
  | q :: ps, hn, hp => by
    simp only [namesL] at hn
    obtain ⟨n1, n2, n3⟩ := List.nodup_append.mp hn
    rcases List.mem_cons.mp hp with rfl | hp
    · exact n1
    · exact nodup_part n2 hp
theorem part_unique {p q : F} {j : Nat} : ∀ {ps : List F}, (namesL ps).Nodup → p ∈ ps → q ∈ ps → j ∈ p.names → j ∈ q.names → p = q
  | r :: ps, hn, hp, hq, jp, jq => by
    simp only [namesL] at hn
    obtain ⟨n1, n2, n3⟩ := List.nodup_append.mp hn
    rcases List.mem_cons.mp hp with hp | hp
    · rcases List.mem_cons.mp hq with hq | hq
      · rw [hp, hq]
      · exact absurd rfl (n3 j (hp ▸ jp) j (namesL_mem.mpr ⟨q, hq, jq⟩))
    · rcases List.mem_cons.mp hq with hq | hq
      · exact absurd rfl (n3 j (hq ▸ jq) j (namesL_mem.mpr ⟨p, hp, jp⟩))
      · exact part_unique n2 hp hq jp jq
theorem meetL_same {b : Bool} {p : F} {i j : Nat} : ∀ {ps : List F}, (namesL ps).Nodup → p ∈ ps → i ∈ p.names → j ∈ p.names → meetL b ps i j = meet p i j
  | r :: ps, hn, hp, hi, hj => by
    have hn0 := hn
    simp only [namesL] at hn
    obtain ⟨n1, n2, n3⟩ := List.nodup_append.mp hn
    simp only [meetL]
    rcases List.mem_cons.mp hp with rfl | hp
    · rw [if_pos ⟨hi, hj⟩]
    · have hr : i ∉ r.names := fun h => n3 i h i (namesL_mem.mpr ⟨p, hp, hi⟩) rfl
      rw [if_neg (fun z => hr z.1)]
      exact meetL_same n2 hp hi hj
theorem meetL_apart {b : Bool} {i j : Nat} : ∀ {ps : List F}, (∀ p ∈ ps, ¬ (i ∈ p.names ∧ j ∈ p.names)) → meetL b ps i j = if b then 0 else 1
  | [], _ => by simp only [meetL]
  | r :: ps, h => by
    simp only [meetL]
    rw [if_neg (h r List.mem_cons_self)]
    exact meetL_apart fun p hp => h p (List.mem_cons_of_mem _ hp)

/-! ### ways and sizes -/
theorem sumN_le {S : W → Prop} {j m : Nat} (h : ∀ w, S w → w j ≤ m) : ∀ {n : Nat} {w : W}, SumN n S w → w j ≤ n * m
  | 0, w, e => by rw [show w = wz from e]; exact Nat.zero_le _
  | n + 1, w, e => by
    obtain ⟨a, b, h1, h2, rfl⟩ := e
    have := sumN_le h h1
    have := h b h2
    simp only [wadd]; rw [Nat.succ_mul]; omega
theorem way_out {j : Nat} : ∀ f : F, j ∉ f.names → ∀ w, Way f w → w j = 0 := by
  refine F.ind (fun i h w hw => ?_) (fun n f ih h w hw => ?_) (fun b ps ih h w hw => ?_)
  · simp only [F.names, List.mem_singleton] at h
    simp only [Way] at hw; subst hw; simp only [single]; rw [if_neg h]
  · simp only [F.names] at h; simp only [Way] at hw
    have := sumN_le (m := 0) (fun w hw => by rw [ih h w hw]; exact Nat.le_refl _) hw
    rw [Nat.mul_zero] at this; omega
  · simp only [F.names] at h
    have hp : ∀ p ∈ ps, j ∉ p.names := fun p hp hj => h (namesL_mem.mpr ⟨p, hp, hj⟩)
    cases b with
    | true =>
      simp only [Way] at hw
      have : ∀ qs : List F, (∀ p ∈ qs, p ∈ ps) → ∀ w, WayA qs w → w j = 0 := by
        intro qs
        induction qs with
        | nil => intro _ w hw; rw [show w = wz from hw]; rfl
        | cons p r ihr =>
          intro hs w hw
          obtain ⟨a, b, h1, h2, rfl⟩ := hw
          have e1 := ih p (hs p List.mem_cons_self) (hp p (hs p List.mem_cons_self)) a h1
          have e2 := ihr (fun q hq => hs q (List.mem_cons_of_mem _ hq)) b h2
          simp only [wadd]; omega
      exact this ps (fun _ h => h) w hw
    | false =>
      simp only [Way] at hw
      obtain ⟨p, h1, h2⟩ := wayO_iff.mp hw
      exact ih p h1 (hp p h1) w h2
/-- the ways of an "and" seen at a part -/
theorem wayA_at {p : F} {ps : List F} {w : W} (hn : (namesL ps).Nodup) (hp : p ∈ ps) (h : WayA ps w) : ∃ a, Way p a ∧ ∀ j ∈ p.names, w j = a j := by
  induction ps generalizing w with
  | nil => cases hp
  | cons q r ih =>
    simp only [namesL] at hn
    obtain ⟨n1, n2, n3⟩ := List.nodup_append.mp hn
    obtain ⟨a, b, h1, h2, rfl⟩ := h
    by_cases hpq : p ∈ r
    · obtain ⟨c, h3, h4⟩ := ih n2 hpq h2
      refine ⟨c, h3, fun j hj => ?_⟩
      have : a j = 0 := way_out q (fun hq => n3 j hq j (namesL_mem.mpr ⟨p, hpq, hj⟩) rfl) a h1
      simp only [wadd, this, Nat.zero_add]
      exact h4 j hj
    · rcases List.mem_cons.mp hp with rfl | hp
      · refine ⟨a, h1, fun j hj => ?_⟩
        have hb : ∀ qs : List F, (∀ q ∈ qs, j ∉ q.names) → ∀ w, WayA qs w → w j = 0 := by
          intro qs
          induction qs with
          | nil => intro _ w hw; rw [show w = wz from hw]; rfl
          | cons p r ihr =>
            intro hs w hw
            obtain ⟨a, b, h1, h2, rfl⟩ := hw
            have e1 := way_out p (hs p List.mem_cons_self) a h1
            have e2 := ihr (fun q hq => hs q (List.mem_cons_of_mem _ hq)) b h2
            simp only [wadd]; omega
        have : b j = 0 := hb r (fun q hq hj2 => n3 j hj j (namesL_mem.mpr ⟨q, hq, hj2⟩) rfl) b h2
        simp only [wadd, this, Nat.add_zero]
      · exact absurd hp hpq
/-- ways of the parts, put together -/
theorem wayA_make {ps : List F} (hn : (namesL ps).Nodup) (g : F → W) (h : ∀ p ∈ ps, Way p (g p)) : ∃ w, WayA ps w ∧ ∀ p ∈ ps, ∀ j ∈ p.names, w j = g p j := by
  induction ps with
  | nil => exact ⟨wz, rfl, fun p hp => nomatch hp⟩
  | cons q r ih =>
    simp only [namesL] at hn
    obtain ⟨n1, n2, n3⟩ := List.nodup_append.mp hn
    obtain ⟨w, h1, h2⟩ := ih n2 fun p hp => h p (List.mem_cons_of_mem _ hp)
    have hw : WayA (q :: r) (wadd (g q) w) := ⟨g q, w, h q List.mem_cons_self, h1, rfl⟩
    refine ⟨_, hw, fun p hp j hj => ?_⟩
    rcases List.mem_cons.mp hp with rfl | hp
    · have e : w j = 0 := by
        have hb : ∀ qs : List F, (∀ q ∈ qs, j ∉ q.names) → ∀ w, WayA qs w → w j = 0 := by
          intro qs
          induction qs with
          | nil => intro _ w hw; rw [show w = wz from hw]; rfl
          | cons p r ihr =>
            intro hs w hw
            obtain ⟨a, b, h1, h2, rfl⟩ := hw
            have e1 := way_out p (hs p List.mem_cons_self) a h1
            have e2 := ihr (fun q hq => hs q (List.mem_cons_of_mem _ hq)) b h2
            simp only [wadd]; omega
        exact hb r (fun q hq hj2 => n3 j hj j (namesL_mem.mpr ⟨q, hq, hj2⟩) rfl) w h1
      simp only [wadd, e, Nat.add_zero]
    · have e : g q j = 0 := way_out q (fun hq => n3 j hq j (namesL_mem.mpr ⟨p, hp, hj⟩) rfl) _ (h q List.mem_cons_self)
      simp only [wadd, e, Nat.zero_add]
      exact h2 p hp j hj
theorem sumN_const {S : W → Prop} {a : W} (h : S a) : ∀ n : Nat, ∃ w, SumN n S w ∧ ∀ j, w j = n * a j
  | 0 => ⟨wz, rfl, fun j => (Nat.zero_mul _).symm⟩
  | n + 1 => by
    obtain ⟨w, h1, h2⟩ := sumN_const h n
    exact ⟨wadd w a, ⟨w, a, h1, h, rfl⟩, fun j => by simp only [wadd, h2 j]; rw [Nat.succ_mul]⟩
theorem way_some : ∀ f : F, Wf f → f.names.Nodup → ∃ w, Way f w := by
  refine F.ind (fun i _ _ => ⟨single i, by simp only [Way]⟩) (fun n f ih hw hn => ?_) (fun b ps ih hw hn => ?_)
  · simp only [Wf] at hw; simp only [F.names] at hn
    obtain ⟨a, ha⟩ := ih hw.2 hn
    obtain ⟨w, h1, _⟩ := sumN_const ha n
    exact ⟨w, by simp only [Way]; exact h1⟩
  · simp only [Wf] at hw; simp only [F.names] at hn
    have hs : ∀ p ∈ ps, ∃ w, Way p w := fun p hp => ih p hp (wfL_iff.mp hw.2 p hp) (nodup_part hn hp)
    cases b with
    | true =>
      obtain ⟨w, h1, _⟩ := wayA_make hn (fun p => (Classical.epsilon fun w => Way p w)) (fun p hp => Classical.epsilon_spec (hs p hp))
      exact ⟨w, by simp only [Way]; exact h1⟩
    | false =>
      obtain ⟨p, hp⟩ : ∃ p, p ∈ ps := by
        cases ps with
        | nil => simp at hw
        | cons p r => exact ⟨p, List.mem_cons_self⟩
      obtain ⟨w, h⟩ := hs p hp
      exact ⟨w, by simp only [Way]; exact wayO_iff.mpr ⟨p, hp, h⟩⟩
/-- no amount is above the size -/
theorem way_le {j : Nat} : ∀ f : F, f.names.Nodup → ∀ w, Way f w → w j ≤ size f j := by
  refine F.ind (fun i _ w hw => ?_) (fun n f ih hn w hw => ?_) (fun b ps ih hn w hw => ?_)
  · simp only [Way] at hw; subst hw; simp only [single, size]; exact Nat.le_refl _
  · simp only [F.names] at hn; simp only [Way] at hw; simp only [size]
    exact sumN_le (ih hn) hw
  · by_cases hj : j ∈ (F.node b ps).names
    · simp only [F.names] at hj hn
      obtain ⟨p, hp, hjp⟩ := namesL_mem.mp hj
      simp only [size]
      rw [sizeL_at hn hp hjp]
      cases b with
      | true =>
        simp only [Way] at hw
        obtain ⟨a, h1, h2⟩ := wayA_at hn hp hw
        rw [h2 j hjp]
        exact ih p hp (nodup_part hn hp) a h1
      | false =>
        simp only [Way] at hw
        obtain ⟨q, hq, h2⟩ := wayO_iff.mp hw
        by_cases hjq : j ∈ q.names
        · have e := part_unique hn hp hq hjp hjq
          subst e
          exact ih p hp (nodup_part hn hp) w h2
        · rw [way_out q hjq w h2]; exact Nat.zero_le _
    · rw [way_out _ hj w hw]; exact Nat.zero_le _
/-- the size is reached -/
theorem way_max {j : Nat} : ∀ f : F, Wf f → f.names.Nodup → j ∈ f.names → ∃ w, Way f w ∧ w j = size f j := by
  refine F.ind (fun i _ _ h => ?_) (fun n f ih hw hn h => ?_) (fun b ps ih hw hn h => ?_)
  · exact ⟨single i, by simp only [Way], by simp only [single, size]⟩
  · simp only [Wf] at hw; simp only [F.names] at hn h
    obtain ⟨a, ha, e⟩ := ih hw.2 hn h
    obtain ⟨w, h1, h2⟩ := sumN_const ha n
    exact ⟨w, by simp only [Way]; exact h1, by simp only [size]; rw [h2 j, e]⟩
  · simp only [Wf] at hw; simp only [F.names] at hn h
    obtain ⟨p, hp, hj⟩ := namesL_mem.mp h
    obtain ⟨a, ha, e⟩ := ih p hp (wfL_iff.mp hw.2 p hp) (nodup_part hn hp) hj
    simp only [size]
    rw [sizeL_at hn hp hj]
    have hs : ∀ p ∈ ps, ∃ w, Way p w := fun p hp => way_some p (wfL_iff.mp hw.2 p hp) (nodup_part hn hp)
    cases b with
    | true =>
      classical
      obtain ⟨w, h1, h2⟩ := wayA_make hn (fun q => if j ∈ q.names then a else (Classical.epsilon fun w => Way q w)) (fun q hq => by
        by_cases hjq : j ∈ q.names
        · have e := part_unique hn hp hq hj hjq
          subst e
          simp only [if_pos hjq]; exact ha
        · simp only [if_neg hjq]; exact Classical.epsilon_spec (hs q hq))
      refine ⟨w, by simp only [Way]; exact h1, ?_⟩
      have := h2 p hp j hj
      rw [if_pos hj] at this
      rw [this, e]
    | false => exact ⟨a, by simp only [Way]; exact wayO_iff.mpr ⟨p, hp, ha⟩, e⟩
end Nf

/-! ## NfC -/
set_option linter.all false
namespace Nf
/-! ### meetings -/
/-- what the ways tell of two places, p and q the sizes: m = 0 both sizes in one way; m above 0 the line x/p + y/q = 1 -/
structure Line (S : W → Prop) (i j p q m : Nat) : Prop where
  dp : m ∣ p
  dq : m ∣ q
  le : ∀ w, S w → w i * q + w j * p ≤ p * q
  on : ∀ w, S w → w i * q + w j * p = p * q → ∃ t, t ≤ m ∧ w i * m = t * p ∧ w j * m = (m - t) * q
  all : ∀ t, t ≤ m → ∃ w, S w ∧ w i * m = t * p ∧ w j * m = (m - t) * q
theorem sumN_line {S : W → Prop} {i j p q m : Nat} (hp : 0 < p) (hq : 0 < q) (L : Line S i j p q m) (n : Nat) (hn : 0 < n) (hm : 0 < m) : Line (SumN n S) i j (n * p) (n * q) (n * m) := by
  have le : ∀ n w, SumN n S w → w i * q + w j * p ≤ n * (p * q) := by
    intro n
    induction n with
    | zero => intro w h; rw [show w = wz from h]; simp [wz]
    | succ n ih =>
      intro w h
      obtain ⟨a, b, h1, h2, rfl⟩ := h
      have := ih a h1
      have := L.le b h2
      simp only [wadd, Nat.add_mul, Nat.succ_mul]
      omega
  have on : ∀ n w, SumN n S w → w i * q + w j * p = n * (p * q) → ∃ t, t ≤ n * m ∧ w i * m = t * p ∧ w j * m = (n * m - t) * q := by
    intro n
    induction n with
    | zero => intro w h _; rw [show w = wz from h]; exact ⟨0, by simp, by simp [wz], by simp [wz]⟩
    | succ n ih =>
      intro w h e
      obtain ⟨a, b, h1, h2, rfl⟩ := h
      have l1 := le n a h1
      have l2 := L.le b h2
      simp only [wadd, Nat.add_mul, Nat.succ_mul] at e
      obtain ⟨t, t1, t2, t3⟩ := ih a h1 (by omega)
      obtain ⟨u, u1, u2, u3⟩ := L.on b h2 (by omega)
      refine ⟨t + u, by rw [Nat.succ_mul]; omega, ?_, ?_⟩
      · simp only [wadd, Nat.add_mul, t2, u2]
      · simp only [wadd, Nat.add_mul, t3, u3, Nat.succ_mul]
        have : (n * m + m - (t + u)) = (n * m - t) + (m - u) := by omega
        rw [this, Nat.add_mul]
  have all : ∀ n t, t ≤ n * m → ∃ w, SumN n S w ∧ w i * m = t * p ∧ w j * m = (n * m - t) * q := by
    intro n
    induction n with
    | zero => intro t h; exact ⟨wz, rfl, by have : t = 0 := by omega
                                            simp [wz, this], by simp [wz]⟩
    | succ n ih =>
      intro t h
      rw [Nat.succ_mul] at h
      obtain ⟨t1, t2, e, h1, h2⟩ : ∃ t1 t2, t = t1 + t2 ∧ t1 ≤ n * m ∧ t2 ≤ m := ⟨t - min t m, min t m, by omega, by omega, by omega⟩
      obtain ⟨a, a1, a2, a3⟩ := ih t1 h1
      obtain ⟨b, b1, b2, b3⟩ := L.all t2 h2
      refine ⟨wadd a b, ⟨a, b, a1, b1, rfl⟩, ?_, ?_⟩
      · simp only [wadd, Nat.add_mul, a2, b2, e]
      · simp only [wadd, Nat.add_mul, a3, b3, Nat.succ_mul]
        have : (n * m + m - t) = (n * m - t1) + (m - t2) := by omega
        rw [this, Nat.add_mul]
  have key : ∀ x y : Nat, x * (n * q) + y * (n * p) = n * (x * q + y * p) := fun x y => by
    rw [Nat.mul_left_comm x n q, Nat.mul_left_comm y n p, Nat.mul_add]
  have key2 : n * p * (n * q) = n * (n * (p * q)) := by
    rw [Nat.mul_assoc, Nat.mul_left_comm p n q]
  refine ⟨Nat.mul_dvd_mul_left n L.dp, Nat.mul_dvd_mul_left n L.dq, fun w h => ?_, fun w h e => ?_, fun t ht => ?_⟩
  · rw [key, key2]; exact Nat.mul_le_mul_left n (le n w h)
  · rw [key, key2] at e
    obtain ⟨t, t1, t2, t3⟩ := on n w h (Nat.eq_of_mul_eq_mul_left hn e)
    refine ⟨t, t1, ?_, ?_⟩
    · rw [Nat.mul_left_comm, t2, Nat.mul_left_comm]
    · rw [Nat.mul_left_comm, t3, Nat.mul_left_comm]
  · obtain ⟨w, h1, h2, h3⟩ := all n t ht
    refine ⟨w, h1, ?_, ?_⟩
    · rw [Nat.mul_left_comm, h2, Nat.mul_left_comm]
    · rw [Nat.mul_left_comm, h3, Nat.mul_left_comm]
/-- the sets of pairs at i, j are told by another set -/
theorem Line.of {S T : W → Prop} {i j p q m : Nat} (L : Line S i j p q m) (h1 : ∀ w, T w → w i * q + w j * p < p * q ∨ ∃ v, S v ∧ v i = w i ∧ v j = w j) (h2 : ∀ v, S v → ∃ w, T w ∧ w i = v i ∧ w j = v j) : Line T i j p q m := by
  refine ⟨L.dp, L.dq, fun w h => ?_, fun w h e => ?_, fun t ht => ?_⟩
  · rcases h1 w h with l | ⟨v, hv, e1, e2⟩
    · omega
    · rw [← e1, ← e2]; exact L.le v hv
  · rcases h1 w h with l | ⟨v, hv, e1, e2⟩
    · omega
    · rw [← e1, ← e2] at e ⊢; exact L.on v hv e
  · obtain ⟨v, hv, e1, e2⟩ := L.all t ht
    obtain ⟨w, hw, f1, f2⟩ := h2 v hv
    exact ⟨w, hw, by rw [f1]; exact e1, by rw [f2]; exact e2⟩
theorem sumN_max2 {S : W → Prop} {a : W} (h : S a) (n i j : Nat) : ∃ w, SumN n S w ∧ w i = n * a i ∧ w j = n * a j := by
  obtain ⟨w, h1, h2⟩ := sumN_const h n
  exact ⟨w, h1, h2 i, h2 j⟩
/-- the ways tell the meeting -/
theorem way_meet {i j : Nat} (hij : i ≠ j) : ∀ f : F, Wf f → f.names.Nodup → i ∈ f.names → j ∈ f.names →
    (meet f i j = 0 → ∃ w, Way f w ∧ w i = size f i ∧ w j = size f j) ∧ (0 < meet f i j → Line (Way f) i j (size f i) (size f j) (meet f i j)) := by
  refine F.ind (fun k hw hn hi hj => ?_) (fun n f ih hw hn hi hj => ?_) (fun b ps ih hw hn hi hj => ?_)
  · simp only [F.names, List.mem_singleton] at hi hj; exact absurd (hi.trans hj.symm) hij
  · simp only [Wf] at hw; simp only [F.names] at hn hi hj
    obtain ⟨h0, h1⟩ := ih hw.2 hn hi hj
    simp only [meet, size]
    have eW : Way (.many n f) = SumN n (Way f) := by funext w; simp only [Way]
    rw [eW]
    constructor
    · intro e
      rcases Nat.mul_eq_zero.mp e with e | e
      · omega
      · obtain ⟨a, a1, a2, a3⟩ := h0 e
        obtain ⟨w, w1, w2, w3⟩ := sumN_max2 a1 n i j
        exact ⟨w, w1, by rw [w2, a2], by rw [w3, a3]⟩
    · intro e
      have hm : 0 < meet f i j := Nat.pos_of_ne_zero fun z => by rw [z, Nat.mul_zero] at e; exact Nat.lt_irrefl _ e
      exact sumN_line (size_pos f hw.2 hn hi) (size_pos f hw.2 hn hj) (h1 hm) n (by omega) hm
  · have hw0 := hw
    have hi0 := hi
    have hj0 := hj
    have hn0 := hn
    simp only [Wf] at hw; simp only [F.names] at hn hi hj
    obtain ⟨p, hp, hip⟩ := namesL_mem.mp hi
    obtain ⟨q, hq, hjq⟩ := namesL_mem.mp hj
    have hs : ∀ p ∈ ps, ∃ w, Way p w := fun p hp => way_some p (wfL_iff.mp hw.2 p hp) (nodup_part hn hp)
    have wp := wfL_iff.mp hw.2 p hp
    have wq := wfL_iff.mp hw.2 q hq
    have np := nodup_part hn hp
    have nq := nodup_part hn hq
    simp only [meet, size]
    rw [sizeL_at hn hp hip, sizeL_at hn hq hjq]
    by_cases hjp : j ∈ p.names
    · -- one part
      have epq := part_unique hn hp hq hjp hjq
      subst epq
      rw [meetL_same hn hp hip hjp]
      obtain ⟨h0, h1⟩ := ih p hp wp np hip hjp
      cases b with
      | true =>
        have eW : Way (.node true ps) = WayA ps := by funext w; simp only [Way]
        rw [eW]
        have down : ∀ w, WayA ps w → ∃ v, Way p v ∧ v i = w i ∧ v j = w j := fun w hw => by
          obtain ⟨a, a1, a2⟩ := wayA_at hn hp hw
          exact ⟨a, a1, (a2 i hip).symm, (a2 j hjp).symm⟩
        have up : ∀ v, Way p v → ∃ w, WayA ps w ∧ w i = v i ∧ w j = v j := fun v hv => by
          classical
          obtain ⟨w, w1, w2⟩ := wayA_make hn (fun r => if i ∈ r.names then v else (Classical.epsilon fun w => Way r w)) (fun r hr => by
            by_cases hir : i ∈ r.names
            · have e := part_unique hn hp hr hip hir
              subst e
              simp only [if_pos hir]; exact hv
            · simp only [if_neg hir]; exact Classical.epsilon_spec (hs r hr))
          have e1 := w2 p hp i hip
          have e2 := w2 p hp j hjp
          rw [if_pos hip] at e1 e2
          exact ⟨w, w1, e1, e2⟩
        constructor
        · intro e
          obtain ⟨a, a1, a2, a3⟩ := h0 e
          obtain ⟨w, w1, w2, w3⟩ := up a a1
          exact ⟨w, w1, by rw [w2, a2], by rw [w3, a3]⟩
        · intro e
          exact (h1 e).of (fun w hw => .inr (down w hw)) up
      | false =>
        have eW : Way (.node false ps) = WayO ps := by funext w; simp only [Way]
        rw [eW]
        have pi := size_pos p wp np hip
        have pj := size_pos p wp np hjp
        have down : ∀ w, WayO ps w → w i * size p j + w j * size p i < size p i * size p j ∨ ∃ v, Way p v ∧ v i = w i ∧ v j = w j := fun w hw => by
          obtain ⟨r, hr, h2⟩ := wayO_iff.mp hw
          by_cases hir : i ∈ r.names
          · have e := part_unique hn hp hr hip hir
            subst e
            exact .inr ⟨w, h2, rfl, rfl⟩
          · have hjr : j ∉ r.names := fun h => by
              have e := part_unique hn hp hr hjp h
              subst e
              exact hir hip
            left
            rw [way_out r hir w h2, way_out r hjr w h2]
            simp only [Nat.zero_mul, Nat.add_zero]
            exact Nat.mul_pos pi pj
        have up : ∀ v, Way p v → ∃ w, WayO ps w ∧ w i = v i ∧ w j = v j := fun v hv => ⟨v, wayO_iff.mpr ⟨p, hp, hv⟩, rfl, rfl⟩
        constructor
        · intro e
          obtain ⟨a, a1, a2, a3⟩ := h0 e
          exact ⟨a, wayO_iff.mpr ⟨p, hp, a1⟩, a2, a3⟩
        · intro e
          exact (h1 e).of down up
    · -- two parts
      have hiq : i ∉ q.names := fun h => by
        have e := part_unique hn hp hq hip h
        subst e
        exact hjp hjq
      have apart : ∀ r ∈ ps, ¬ (i ∈ r.names ∧ j ∈ r.names) := fun r hr z => by
        have e := part_unique hn hp hr hip z.1
        subst e
        exact hjp z.2
      rw [meetL_apart apart]
      have pi := size_pos p wp np hip
      have pj := size_pos q wq nq hjq
      cases b with
      | true =>
        have eW : Way (.node true ps) = WayA ps := by funext w; simp only [Way]
        rw [eW]
        refine ⟨fun _ => ?_, fun h => by simp at h⟩
        obtain ⟨a, a1, a2⟩ := way_max p wp np hip
        obtain ⟨c, c1, c2⟩ := way_max q wq nq hjq
        classical
        obtain ⟨w, w1, w2⟩ := wayA_make hn (fun r => if i ∈ r.names then a else if j ∈ r.names then c else (Classical.epsilon fun w => Way r w)) (fun r hr => by
          by_cases hir : i ∈ r.names
          · have e := part_unique hn hp hr hip hir
            subst e
            simp only [if_pos hir]; exact a1
          · simp only [if_neg hir]
            by_cases hjr : j ∈ r.names
            · have e := part_unique hn hq hr hjq hjr
              subst e
              simp only [if_pos hjr]; exact c1
            · simp only [if_neg hjr]; exact Classical.epsilon_spec (hs r hr))
        have e1 := w2 p hp i hip
        have e2 := w2 q hq j hjq
        simp only [if_pos hip] at e1
        simp only [if_neg hiq, if_pos hjq] at e2
        exact ⟨w, w1, by rw [e1, a2], by rw [e2, c2]⟩
      | false =>
        have eW : Way (.node false ps) = WayO ps := by funext w; simp only [Way]
        rw [eW]
        refine ⟨fun h => by simp at h, fun _ => ?_⟩
        simp only [Bool.false_eq_true, if_false]
        refine ⟨Nat.one_dvd _, Nat.one_dvd _, fun w hw => ?_, fun w hw e => ?_, fun t ht => ?_⟩
        · obtain ⟨r, hr, h2⟩ := wayO_iff.mp hw
          by_cases hir : i ∈ r.names
          · have hjr : j ∉ r.names := fun h => apart r hr ⟨hir, h⟩
            have e := part_unique hn hp hr hip hir
            subst e
            rw [way_out p hjr w h2]
            have := way_le (j := i) p np w h2
            simp only [Nat.zero_mul, Nat.add_zero]
            exact Nat.mul_le_mul_right _ this
          · rw [way_out r hir w h2]
            simp only [Nat.zero_mul, Nat.zero_add]
            by_cases hjr : j ∈ r.names
            · have e := part_unique hn hq hr hjq hjr
              subst e
              have := way_le (j := j) q nq w h2
              rw [Nat.mul_comm (size p i)]
              exact Nat.mul_le_mul_right _ this
            · rw [way_out r hjr w h2]; simp
        · obtain ⟨r, hr, h2⟩ := wayO_iff.mp hw
          by_cases hir : i ∈ r.names
          · have hjr : j ∉ r.names := fun h => apart r hr ⟨hir, h⟩
            rw [way_out r hjr w h2] at e ⊢
            simp only [Nat.zero_mul, Nat.add_zero] at e
            have := Nat.eq_of_mul_eq_mul_right pj e
            exact ⟨1, Nat.le_refl _, by omega, by simp⟩
          · rw [way_out r hir w h2] at e ⊢
            simp only [Nat.zero_mul, Nat.zero_add] at e
            rw [Nat.mul_comm (size p i)] at e
            have := Nat.eq_of_mul_eq_mul_right pi e
            exact ⟨0, Nat.zero_le _, by simp, by omega⟩
        · rcases (by omega : t = 0 ∨ t = 1) with rfl | rfl
          · obtain ⟨c, c1, c2⟩ := way_max q wq nq hjq
            exact ⟨c, wayO_iff.mpr ⟨q, hq, c1⟩, by rw [way_out q hiq c c1]; simp, by rw [c2]; simp⟩
          · obtain ⟨a, a1, a2⟩ := way_max p wp np hip
            exact ⟨a, wayO_iff.mpr ⟨p, hp, a1⟩, by rw [a2]; simp, by rw [way_out p hjp a a1]; simp⟩
/-- equal ways: equal sizes -/
theorem size_of_ways {f g : F} (wf : Wf f) (wg : Wf g) (nf : f.names.Nodup) (ng : g.names.Nodup) (hs : ∀ i, i ∈ f.names ↔ i ∈ g.names) (h : ∀ w, Way f w ↔ Way g w) (i : Nat) : size f i = size g i := by
  by_cases hi : i ∈ f.names
  · obtain ⟨a, a1, a2⟩ := way_max f wf nf hi
    obtain ⟨c, c1, c2⟩ := way_max g wg ng ((hs i).mp hi)
    have l1 := way_le (j := i) g ng a ((h a).mp a1)
    have l2 := way_le (j := i) f nf c ((h c).mpr c1)
    omega
  · rw [size_zero f hi, size_zero g (fun z => hi ((hs i).mpr z))]
theorem meet_half {f g : F} {i j : Nat} (hij : i ≠ j) (wf : Wf f) (wg : Wf g) (nf : f.names.Nodup) (ng : g.names.Nodup) (h : ∀ w, Way f w ↔ Way g w) (es : ∀ k, size f k = size g k) (hi : i ∈ f.names) (hj : j ∈ f.names) (hi' : i ∈ g.names) (hj' : j ∈ g.names) : meet f i j ∣ meet g i j := by
  obtain ⟨f0, f1⟩ := way_meet hij f wf nf hi hj
  obtain ⟨g0, g1⟩ := way_meet hij g wg ng hi' hj'
  have pi := size_pos f wf nf hi
  have pj := size_pos f wf nf hj
  rcases Nat.eq_zero_or_pos (meet g i j) with e | e
  · rw [e]; exact Nat.dvd_zero _
  · rcases Nat.eq_zero_or_pos (meet f i j) with e' | e'
    · obtain ⟨w, w1, w2, w3⟩ := f0 e'
      have := (g1 e).le w ((h w).mp w1)
      rw [w2, w3, ← es, ← es, Nat.mul_comm (size f j)] at this
      have := Nat.mul_pos pi pj
      omega
    · obtain ⟨w, w1, w2, w3⟩ := (f1 e').all 1 (by omega)
      have eq : w i * size f j + w j * size f i = size f i * size f j := by
        have e2 : (w i * size f j + w j * size f i) * meet f i j = size f i * size f j * meet f i j := by
          rw [Nat.add_mul, Nat.mul_right_comm, w2, Nat.mul_right_comm (w j), w3, Nat.one_mul]
          have : meet f i j = (meet f i j - 1) + 1 := by omega
          generalize meet f i j - 1 = x at this ⊢
          rw [this, Nat.mul_succ, Nat.mul_comm (size f i * size f j) x, Nat.mul_assoc, Nat.mul_comm (size f j) (size f i)]
          omega
        exact Nat.eq_of_mul_eq_mul_right e' e2
      obtain ⟨t, t1, t2, t3⟩ := (g1 e).on w ((h w).mp w1) (by rw [← es, ← es]; exact eq)
      refine ⟨t, ?_⟩
      rw [← es] at t2
      have e3 : size f i * meet g i j = size f i * (meet f i j * t) := by
        have : w i * meet f i j * meet g i j = w i * meet g i j * meet f i j := Nat.mul_right_comm _ _ _
        rw [w2, t2, Nat.one_mul] at this
        rw [this, Nat.mul_comm t, Nat.mul_assoc, Nat.mul_comm t]
      exact Nat.eq_of_mul_eq_mul_left pi e3
theorem meet_of_ways {f g : F} {i j : Nat} (hij : i ≠ j) (wf : Wf f) (wg : Wf g) (nf : f.names.Nodup) (ng : g.names.Nodup) (hs : ∀ i, i ∈ f.names ↔ i ∈ g.names) (h : ∀ w, Way f w ↔ Way g w) (hi : i ∈ f.names) (hj : j ∈ f.names) : meet f i j = meet g i j := by
  have es := size_of_ways wf wg nf ng hs h
  exact Nat.dvd_antisymm (meet_half hij wf wg nf ng h es hi hj ((hs i).mp hi) ((hs j).mp hj)) (meet_half hij wg wf ng nf (fun w => (h w).symm) (fun k => (es k).symm) ((hs i).mp hi) ((hs j).mp hj) hi hj)
end Nf

/-! ## NfD -/
set_option linter.all false
namespace Nf
/-! ### normal formulas -/
/-- the least of some places -/
def lmin : List Nat → Nat
  | [] => 0
  | [x] => x
  | x :: y :: r => min x (lmin (y :: r))
theorem lmin_mem : ∀ {l : List Nat}, l ≠ [] → lmin l ∈ l
  | [], h => absurd rfl h
  | [x], _ => List.mem_cons_self
  | x :: y :: r, _ => by
    have ih := lmin_mem (l := y :: r) (by simp)
    simp only [lmin]
    rcases Nat.le_total x (lmin (y :: r)) with h | h
    · rw [Nat.min_eq_left h]; exact List.mem_cons_self
    · rw [Nat.min_eq_right h]; exact List.mem_cons_of_mem _ ih
theorem lmin_le : ∀ {l : List Nat} {x : Nat}, x ∈ l → lmin l ≤ x
  | [y], x, h => by simp only [List.mem_singleton] at h; subst h; exact Nat.le_refl _
  | a :: y :: r, x, h => by
    simp only [lmin]
    rcases List.mem_cons.mp h with rfl | h
    · exact Nat.min_le_left _ _
    · exact Nat.le_trans (Nat.min_le_right _ _) (lmin_le h)
theorem lmin_eq {l : List Nat} {x : Nat} (h : x ∈ l) (hl : ∀ y ∈ l, x ≤ y) : lmin l = x :=
  Nat.le_antisymm (lmin_le h) (hl _ (lmin_mem (fun z => by rw [z] at h; cases h)))
theorem lmin_congr {l r : List Nat} (hl : l ≠ []) (h : ∀ x, x ∈ l ↔ x ∈ r) : lmin l = lmin r := by
  have h1 := lmin_mem hl
  exact (lmin_eq ((h _).mp h1) fun y hy => lmin_le ((h y).mpr hy)).symm
abbrev least (f : F) : Nat := lmin f.names

/-- is it an "and" (b true), an "or"? -/
def isNode (b : Bool) : F → Bool
  | .node c _ => c == b
  | _ => false
mutual
def Norm : F → Prop
  | .kind _ => True
  | .many n f => 2 ≤ n ∧ isNode true f = false ∧ (match f with
    | .many _ _ => False
    | _ => True) ∧ Norm f
  | .node b ps => 2 ≤ ps.length ∧ (ps.map least).Pairwise (· < ·) ∧ NormL b ps
def NormL : Bool → List F → Prop
  | _, [] => True
  | b, p :: ps => (isNode b p = false ∧ Norm p) ∧ NormL b ps
end
theorem normL_iff {b : Bool} : ∀ {ps : List F}, NormL b ps ↔ ∀ p ∈ ps, isNode b p = false ∧ Norm p
  | [] => by simp [NormL]
  | p :: ps => by simp [NormL, normL_iff]
theorem Norm.wf : ∀ f : F, Norm f → Wf f := by
  refine F.ind (fun i _ => by simp only [Wf]) (fun n f ih h => ?_) (fun b ps ih h => ?_)
  · simp only [Norm] at h; simp only [Wf]; exact ⟨h.1, ih h.2.2.2⟩
  · simp only [Norm] at h; simp only [Wf]; exact ⟨h.1, wfL_iff.mpr fun p hp => ih p hp (normL_iff.mp h.2.2 p hp).2⟩
theorem names_ne : ∀ f : F, Wf f → f.names ≠ [] := by
  refine F.ind (fun i _ => by simp [F.names]) (fun n f ih h => ?_) (fun b ps ih h => ?_)
  · simp only [Wf] at h; simp only [F.names]; exact ih h.2
  · simp only [Wf] at h; simp only [F.names]
    cases ps with
    | nil => simp at h
    | cons p r =>
      intro e
      simp only [namesL, List.append_eq_nil_iff] at e
      exact ih p List.mem_cons_self (wfL_iff.mp h.2 p List.mem_cons_self) e.1
theorem name_of {f : F} (h : Wf f) : ∃ i, i ∈ f.names := List.exists_mem_of_ne_nil _ (names_ne f h)

/-! ### what the table tells of the top -/
section
variable {ps : List F} {i j : Nat}
/-- another part -/
theorem other_part {p : F} (h2 : 2 ≤ ps.length) (hn : (namesL ps).Nodup) (hw : ∀ p ∈ ps, Wf p) (hp : p ∈ ps) : ∃ q ∈ ps, ∃ z ∈ q.names, z ∉ p.names := by
  match ps, h2 with
  | a :: b :: r, _ =>
    have da : ∀ x ∈ a.names, x ∉ b.names := fun x h1 h2 => by
      simp only [namesL] at hn
      obtain ⟨_, _, n3⟩ := List.nodup_append.mp hn
      exact n3 x h1 x (List.mem_append_left _ h2) rfl
    by_cases e : p = a
    · subst e
      obtain ⟨z, hz⟩ := name_of (hw b (by simp))
      exact ⟨b, by simp, z, hz, fun h => da z h hz⟩
    · obtain ⟨z, hz⟩ := name_of (hw a (by simp))
      refine ⟨a, by simp, z, hz, fun h => e (part_unique hn hp (by simp) h hz)⟩
/-- the table within a part, across the parts -/
theorem meet_in {b : Bool} {p : F} (hn : (namesL ps).Nodup) (hp : p ∈ ps) (hi : i ∈ p.names) (hj : j ∈ p.names) : meet (.node b ps) i j = meet p i j := by
  simp only [meet]; exact meetL_same hn hp hi hj
theorem meet_across {b : Bool} {p : F} (hn : (namesL ps).Nodup) (hp : p ∈ ps) (hi : i ∈ p.names) (hj : j ∉ p.names) : meet (.node b ps) i j = if b then 0 else 1 := by
  simp only [meet]
  refine meetL_apart fun q hq z => ?_
  have e := part_unique hn hp hq hi z.1
  subst e
  exact hj z.2
theorem meet_across' {b : Bool} {p : F} (hn : (namesL ps).Nodup) (hp : p ∈ ps) (hi : i ∉ p.names) (hj : j ∈ p.names) : meet (.node b ps) i j = if b then 0 else 1 := by
  simp only [meet]
  refine meetL_apart fun q hq z => ?_
  have e := part_unique hn hp hq hj z.2
  subst e
  exact hi z.1
end
/-- the top is an "and", by the table -/
def AndTop (f : F) : Prop := ∃ i ∈ f.names, ∃ j ∈ f.names, i ≠ j ∧ meet f i j = 0 ∧ ∀ z ∈ f.names, z ≠ i → z ≠ j → meet f i z = 0 ∨ meet f z j = 0
theorem andTop_and {ps : List F} (h : Norm (.node true ps)) (hn : (F.node true ps).names.Nodup) : AndTop (.node true ps) := by
  have hw := Norm.wf _ h
  simp only [Wf] at hw; simp only [F.names] at hn
  have hws := wfL_iff.mp hw.2
  obtain ⟨p, hp⟩ : ∃ p, p ∈ ps := by
    cases ps with
    | nil => simp at hw
    | cons p r => exact ⟨p, List.mem_cons_self⟩
  obtain ⟨i, hi⟩ := name_of (hws p hp)
  obtain ⟨q, hq, j, hj, hjp⟩ := other_part hw.1 hn hws hp
  refine ⟨i, by simp only [F.names]; exact namesL_mem.mpr ⟨p, hp, hi⟩, j, by simp only [F.names]; exact namesL_mem.mpr ⟨q, hq, hj⟩, fun e => hjp (e ▸ hi), ?_, fun z hz _ _ => ?_⟩
  · rw [meet_across hn hp hi hjp]; rfl
  · by_cases hzp : z ∈ p.names
    · right; rw [meet_across hn hp hzp hjp]; rfl
    · left; rw [meet_across hn hp hi hzp]; rfl
theorem andTop_or {ps : List F} (h : Norm (.node false ps)) (hn : (F.node false ps).names.Nodup) : ¬ AndTop (.node false ps) := by
  have hw := Norm.wf _ h
  simp only [Wf] at hw; simp only [F.names] at hn
  have hws := wfL_iff.mp hw.2
  rintro ⟨i, hi, j, hj, hij, h0, hz⟩
  simp only [F.names] at hi hj
  obtain ⟨p, hp, hip⟩ := namesL_mem.mp hi
  by_cases hjp : j ∈ p.names
  · obtain ⟨q, hq, z, hzq, hzp⟩ := other_part hw.1 hn hws hp
    rcases hz z (by simp only [F.names]; exact namesL_mem.mpr ⟨q, hq, hzq⟩) (fun e => hzp (e ▸ hip)) (fun e => hzp (e ▸ hjp)) with e | e
    · rw [meet_across hn hp hip hzp] at e; simp at e
    · rw [meet_across' hn hp hzp hjp] at e; simp at e
  · rw [meet_across hn hp hip hjp] at h0; simp at h0
theorem andTop_many {n : Nat} {f : F} (h : 0 < n) : AndTop (.many n f) ↔ AndTop f := by
  have e : ∀ a b, meet (.many n f) a b = 0 ↔ meet f a b = 0 := fun a b => by
    simp only [meet]
    constructor
    · intro q; rcases Nat.mul_eq_zero.mp q with q | q
      · omega
      · exact q
    · intro q; rw [q, Nat.mul_zero]
  unfold AndTop
  simp only [e, F.names]
theorem single_name {f : F} {k : Nat} (hn : f.names = [k]) (hN : Norm f) : f = .kind k ∨ ∃ n, 2 ≤ n ∧ f = .many n (.kind k) := by
  have nonode : ∀ b ps, Norm (.node b ps) → (F.node b ps).names = [k] → False := fun b ps h e => by
    have hw := Norm.wf _ h
    simp only [Wf] at hw; simp only [F.names] at e
    match ps, hw with
    | a :: c :: r, hw =>
      have w := wfL_iff.mp hw.2
      have h1 := names_ne a (w a (by simp))
      have h2 := names_ne c (w c (by simp))
      simp only [namesL] at e
      have l := congrArg List.length e
      simp only [List.length_append, List.length_singleton] at l
      have := List.length_pos_iff.mpr h1
      have := List.length_pos_iff.mpr h2
      omega
  cases f with
  | kind i => simp only [F.names, List.cons.injEq, and_true] at hn; left; rw [hn]
  | many n f =>
    right
    simp only [Norm] at hN
    cases f with
    | kind i => simp only [F.names, List.cons.injEq, and_true] at hn; exact ⟨n, hN.1, by rw [hn]⟩
    | many m g => exact hN.2.2.1.elim
    | node b ps => exact (nonode b ps hN.2.2.2 (by simpa only [F.names] using hn)).elim
  | node b ps => exact (nonode b ps hN hn).elim

/-! ### the parts by the table -/
inductive All2 {α β : Type} (R : α → β → Prop) : List α → List β → Prop where
  | nil : All2 R [] []
  | cons {a : α} {b : β} {as : List α} {bs : List β} : R a b → All2 R as bs → All2 R (a :: as) (b :: bs)
def SamePart (ps : List F) (i j : Nat) : Prop := ∃ p ∈ ps, i ∈ p.names ∧ j ∈ p.names
theorem parts_match : ∀ {ps qs : List F}, (namesL ps).Nodup → (namesL qs).Nodup → (∀ p ∈ ps, Wf p) → (∀ q ∈ qs, Wf q) → (ps.map least).Pairwise (· < ·) → (qs.map least).Pairwise (· < ·) →
    (∀ i, i ∈ namesL ps ↔ i ∈ namesL qs) → (∀ i j, SamePart ps i j ↔ SamePart qs i j) → All2 (fun p q => ∀ i, i ∈ p.names ↔ i ∈ q.names) ps qs
  | [], [], _, _, _, _, _, _, _, _ => .nil
  | [], q :: qs, _, _, _, hw, _, _, hm, _ => by
    obtain ⟨i, hi⟩ := name_of (hw q List.mem_cons_self)
    have := (hm i).mpr (namesL_mem.mpr ⟨q, List.mem_cons_self, hi⟩)
    simp [namesL] at this
  | p :: ps, [], _, _, hw, _, _, _, hm, _ => by
    obtain ⟨i, hi⟩ := name_of (hw p List.mem_cons_self)
    have := (hm i).mp (namesL_mem.mpr ⟨p, List.mem_cons_self, hi⟩)
    simp [namesL] at this
  | p :: ps, q :: qs, np, nq, wp, wq, sp, sq, hm, hs => by
    have ne_p := names_ne p (wp p List.mem_cons_self)
    have ne_q := names_ne q (wq q List.mem_cons_self)
    have low : ∀ {r : F} {rs : List F}, Wf r → (∀ s ∈ rs, Wf s) → ((r :: rs).map least).Pairwise (· < ·) → ∀ i ∈ namesL (r :: rs), least r ≤ i := fun {r rs} wr ws sr i hi => by
      rw [List.map_cons, List.pairwise_cons] at sr
      simp only [namesL] at hi
      rcases List.mem_append.mp hi with h | h
      · exact lmin_le h
      · obtain ⟨s, hs, his⟩ := namesL_mem.mp h
        exact Nat.le_trans (Nat.le_of_lt (sr.1 _ (List.mem_map.mpr ⟨s, hs, rfl⟩))) (lmin_le his)
    have mp : least p ∈ p.names := lmin_mem ne_p
    have mq : least q ∈ q.names := lmin_mem ne_q
    have e : least p = least q := by
      have a1 := low (wp p List.mem_cons_self) (fun s hs => wp s (List.mem_cons_of_mem _ hs)) sp (least q) ((hm _).mpr (namesL_mem.mpr ⟨q, List.mem_cons_self, mq⟩))
      have a2 := low (wq q List.mem_cons_self) (fun s hs => wq s (List.mem_cons_of_mem _ hs)) sq (least p) ((hm _).mp (namesL_mem.mpr ⟨p, List.mem_cons_self, mp⟩))
      omega
    have head : ∀ i, i ∈ p.names ↔ i ∈ q.names := fun i => by
      constructor
      · intro hi
        obtain ⟨r, hr, h1, h2⟩ := (hs (least p) i).mp ⟨p, List.mem_cons_self, mp, hi⟩
        rw [e] at h1
        have e2 := part_unique nq hr List.mem_cons_self h1 mq
        rw [← e2]; exact h2
      · intro hi
        obtain ⟨r, hr, h1, h2⟩ := (hs (least q) i).mpr ⟨q, List.mem_cons_self, mq, hi⟩
        rw [← e] at h1
        have e2 := part_unique np hr List.mem_cons_self h1 mp
        rw [← e2]; exact h2
    have np0 := np
    have nq0 := nq
    simp only [namesL] at np nq
    obtain ⟨p1, p2, p3⟩ := List.nodup_append.mp np
    obtain ⟨q1, q2, q3⟩ := List.nodup_append.mp nq
    have tail : ∀ i, i ∈ namesL ps ↔ i ∈ namesL qs := fun i => by
      have := hm i
      simp only [namesL, List.mem_append] at this
      constructor
      · intro hi
        rcases this.mp (.inr hi) with h | h
        · exact absurd rfl (p3 i ((head i).mpr h) i hi)
        · exact h
      · intro hi
        rcases this.mpr (.inr hi) with h | h
        · exact absurd rfl (q3 i ((head i).mp h) i hi)
        · exact h
    have sub : ∀ i j, SamePart ps i j ↔ SamePart qs i j := fun i j => by
      constructor
      · rintro ⟨r, hr, h1, h2⟩
        obtain ⟨s, hs1, h3, h4⟩ := (hs i j).mp ⟨r, List.mem_cons_of_mem _ hr, h1, h2⟩
        rcases List.mem_cons.mp hs1 with rfl | hs1
        · exact absurd rfl (p3 i ((head i).mpr h3) i (namesL_mem.mpr ⟨r, hr, h1⟩))
        · exact ⟨s, hs1, h3, h4⟩
      · rintro ⟨r, hr, h1, h2⟩
        obtain ⟨s, hs1, h3, h4⟩ := (hs i j).mpr ⟨r, List.mem_cons_of_mem _ hr, h1, h2⟩
        rcases List.mem_cons.mp hs1 with rfl | hs1
        · exact absurd rfl (q3 i ((head i).mp h3) i (namesL_mem.mpr ⟨r, hr, h1⟩))
        · exact ⟨s, hs1, h3, h4⟩
    rw [List.map_cons, List.pairwise_cons] at sp sq
    exact .cons head (parts_match p2 q2 (fun s hs => wp s (List.mem_cons_of_mem _ hs)) (fun s hs => wq s (List.mem_cons_of_mem _ hs)) sp.2 sq.2 tail sub)
/-- one part, by the table: u is the meeting of different parts -/
def Tied (N : List Nat) (M : Nat → Nat → Nat) (u i j : Nat) : Prop := i ∈ N ∧ j ∈ N ∧ (i = j ∨ M i j ≠ u ∨ ∃ z ∈ N, z ≠ i ∧ z ≠ j ∧ M i z ≠ u ∧ M z j ≠ u)
theorem tied_iff {b : Bool} {ps : List F} (h : Norm (.node b ps)) (hn : (F.node b ps).names.Nodup) (i j : Nat) :
    SamePart ps i j ↔ Tied (namesL ps) (meet (.node b ps)) (if b then 0 else 1) i j := by
  have hw := Norm.wf _ h
  simp only [Wf] at hw
  simp only [Norm] at h; simp only [F.names] at hn
  have hws := wfL_iff.mp hw.2
  have hns := normL_iff.mp h.2.2
  constructor
  · rintro ⟨p, hp, hi, hj⟩
    refine ⟨namesL_mem.mpr ⟨p, hp, hi⟩, namesL_mem.mpr ⟨p, hp, hj⟩, ?_⟩
    by_cases hij : i = j
    · exact .inl hij
    right
    have np := nodup_part hn hp
    obtain ⟨h1, h2⟩ := hns p hp
    rw [meet_in hn hp hi hj]
    -- the part's own parts
    have inner : ∀ (c : Nat) (b' : Bool) (rs : List F), 0 < c → p.names = namesL rs → (∀ x y, meet p x y = c * meet (.node b' rs) x y) → Norm (.node b' rs) → (c * (if b' then 0 else 1) ≠ (if b then 0 else 1)) →
        meet p i j ≠ (if b then 0 else 1) ∨ ∃ z ∈ namesL ps, z ≠ i ∧ z ≠ j ∧ meet (.node b ps) i z ≠ (if b then 0 else 1) ∧ meet (.node b ps) z j ≠ (if b then 0 else 1) := by
      intro c b' rs hc en em hr hu
      have wr := Norm.wf _ hr
      simp only [Wf] at wr
      have wrs := wfL_iff.mp wr.2
      have nr : (namesL rs).Nodup := by rw [← en]; exact np
      obtain ⟨q, hq, hiq⟩ := namesL_mem.mp (show i ∈ namesL rs by rw [← en]; exact hi)
      by_cases hjq : j ∈ q.names
      · right
        obtain ⟨s, hs, z, hzs, hzq⟩ := other_part wr.1 nr wrs hq
        have hzp : z ∈ p.names := by rw [en]; exact namesL_mem.mpr ⟨s, hs, hzs⟩
        refine ⟨z, namesL_mem.mpr ⟨p, hp, hzp⟩, fun e => hzq (e ▸ hiq), fun e => hzq (e ▸ hjq), ?_, ?_⟩
        · rw [meet_in hn hp hi hzp, em, meet_across nr hq hiq hzq]; exact hu
        · rw [meet_in hn hp hzp hj, em, meet_across' nr hq hzq hjq]; exact hu
      · left
        rw [em, meet_across nr hq hiq hjq]; exact hu
    cases p with
    | kind k => simp only [F.names, List.mem_singleton] at hi hj; exact absurd (hi.trans hj.symm) hij
    | many n f =>
      simp only [Norm] at h2
      cases f with
      | kind k => simp only [F.names, List.mem_singleton] at hi hj; exact absurd (hi.trans hj.symm) hij
      | many m g => exact h2.2.2.1.elim
      | node b' rs =>
        have hb' : b' = false := by
          have := h2.2.1
          cases b' with
          | false => rfl
          | true => simp [isNode] at this
        subst hb'
        refine inner n false rs (by omega) (by simp only [F.names]) (fun x y => by rw [meet]) h2.2.2.2 ?_
        cases b with
        | true => simp; omega
        | false => simp; omega
    | node b' rs =>
      have hb' : b' ≠ b := by
        rintro rfl
        simp [isNode] at h1
      refine inner 1 b' rs (by omega) (by simp only [F.names]) (fun x y => (Nat.one_mul _).symm) h2 ?_
      cases b <;> cases b' <;> simp_all
  · rintro ⟨hi, hj, h3⟩
    obtain ⟨p, hp, hip⟩ := namesL_mem.mp hi
    refine ⟨p, hp, hip, ?_⟩
    rcases h3 with rfl | h3 | ⟨z, hz, _, _, h4, h5⟩
    · exact hip
    · refine Classical.byContradiction fun hjp => h3 (meet_across hn hp hip hjp)
    · have hzp : z ∈ p.names := Classical.byContradiction fun q => h4 (meet_across hn hp hip q)
      exact Classical.byContradiction fun q => h5 (meet_across hn hp hzp q)
/-- the meetings of an "or" have the greatest common divisor 1 -/
theorem or_one {ps : List F} (h : Norm (.node false ps)) (hn : (F.node false ps).names.Nodup) : ∃ i ∈ namesL ps, ∃ j ∈ namesL ps, i ≠ j ∧ meet (.node false ps) i j = 1 := by
  have hw := Norm.wf _ h
  simp only [Wf] at hw; simp only [F.names] at hn
  have hws := wfL_iff.mp hw.2
  obtain ⟨p, hp⟩ : ∃ p, p ∈ ps := by
    cases ps with
    | nil => simp at hw
    | cons p r => exact ⟨p, List.mem_cons_self⟩
  obtain ⟨i, hi⟩ := name_of (hws p hp)
  obtain ⟨q, hq, j, hj, hjp⟩ := other_part hw.1 hn hws hp
  exact ⟨i, namesL_mem.mpr ⟨p, hp, hi⟩, j, namesL_mem.mpr ⟨q, hq, hj⟩, fun e => hjp (e ▸ hi), by rw [meet_across hn hp hi hjp]; rfl⟩
/-- a table: equal sizes and meetings -/
structure SameTable (f g : F) : Prop where
  names : ∀ i, i ∈ f.names ↔ i ∈ g.names
  sizes : ∀ i ∈ f.names, size f i = size g i
  meets : ∀ i ∈ f.names, ∀ j ∈ f.names, i ≠ j → meet f i j = meet g i j
theorem SameTable.andTop {f g : F} (t : SameTable f g) (h : AndTop f) : AndTop g := by
  obtain ⟨i, hi, j, hj, hij, h0, hz⟩ := h
  refine ⟨i, (t.names i).mp hi, j, (t.names j).mp hj, hij, by rw [← t.meets i hi j hj hij]; exact h0, fun z hz' e1 e2 => ?_⟩
  have hzf := (t.names z).mpr hz'
  rw [← t.meets i hi z hzf (Ne.symm e1), ← t.meets z hzf j hj e2]
  exact hz z hzf e1 e2
theorem SameTable.symm {f g : F} (t : SameTable f g) : SameTable g f :=
  ⟨fun i => (t.names i).symm, fun i hi => (t.sizes i ((t.names i).mpr hi)).symm, fun i hi j hj hij => (t.meets i ((t.names i).mpr hi) j ((t.names j).mpr hj) hij).symm⟩
theorem same_parts {b : Bool} {ps qs : List F} (ih : ∀ p ∈ ps, ∀ g, Norm p → Norm g → p.names.Nodup → g.names.Nodup → SameTable p g → p = g)
    (hf : Norm (.node b ps)) (hg : Norm (.node b qs)) (nf : (F.node b ps).names.Nodup) (ng : (F.node b qs).names.Nodup) (t : SameTable (.node b ps) (.node b qs)) : ps = qs := by
  have wf := Norm.wf _ hf
  have wg := Norm.wf _ hg
  have tn : ∀ i, i ∈ namesL ps ↔ i ∈ namesL qs := fun i => by have := t.names i; simpa only [F.names] using this
  have hsp : ∀ i j, SamePart ps i j ↔ SamePart qs i j := fun i j => by
    rw [tied_iff hf nf, tied_iff hg ng]
    unfold Tied
    constructor
    · rintro ⟨hi, hj, h⟩
      refine ⟨(tn i).mp hi, (tn j).mp hj, ?_⟩
      by_cases hij : i = j
      · exact .inl hij
      rw [← t.meets i (by simpa only [F.names] using hi) j (by simpa only [F.names] using hj) hij]
      rcases h with h | h | ⟨z, hz, e1, e2, h4, h5⟩
      · exact .inl h
      · exact .inr (.inl h)
      · refine .inr (.inr ⟨z, (tn z).mp hz, e1, e2, ?_, ?_⟩)
        · rw [← t.meets i (by simpa only [F.names] using hi) z (by simpa only [F.names] using hz) (Ne.symm e1)]; exact h4
        · rw [← t.meets z (by simpa only [F.names] using hz) j (by simpa only [F.names] using hj) e2]; exact h5
    · rintro ⟨hi, hj, h⟩
      have hi := (tn i).mpr hi
      have hj := (tn j).mpr hj
      refine ⟨hi, hj, ?_⟩
      by_cases hij : i = j
      · exact .inl hij
      rw [t.meets i (by simpa only [F.names] using hi) j (by simpa only [F.names] using hj) hij]
      rcases h with h | h | ⟨z, hz, e1, e2, h4, h5⟩
      · exact .inl h
      · exact .inr (.inl h)
      · have hz := (tn z).mpr hz
        refine .inr (.inr ⟨z, hz, e1, e2, ?_, ?_⟩)
        · rw [t.meets i (by simpa only [F.names] using hi) z (by simpa only [F.names] using hz) (Ne.symm e1)]; exact h4
        · rw [t.meets z (by simpa only [F.names] using hz) j (by simpa only [F.names] using hj) e2]; exact h5
  simp only [Wf] at wf wg
  simp only [F.names] at nf ng
  have hf0 := hf
  have hg0 := hg
  simp only [Norm] at hf hg
  have hm := parts_match nf ng (wfL_iff.mp wf.2) (wfL_iff.mp wg.2) hf.2.1 hg.2.1 tn hsp
  have key : ∀ p ∈ ps, ∀ q ∈ qs, (∀ i, i ∈ p.names ↔ i ∈ q.names) → p = q := fun p hp q hq e => by
    refine ih p hp q (normL_iff.mp hf.2.2 p hp).2 (normL_iff.mp hg.2.2 q hq).2 (nodup_part nf hp) (nodup_part ng hq) ⟨e, fun i hi => ?_, fun i hi j hj hij => ?_⟩
    · have := t.sizes i (by simp only [F.names]; exact namesL_mem.mpr ⟨p, hp, hi⟩)
      simp only [size] at this
      rw [sizeL_at nf hp hi, sizeL_at ng hq ((e i).mp hi)] at this
      exact this
    · have := t.meets i (by simp only [F.names]; exact namesL_mem.mpr ⟨p, hp, hi⟩) j (by simp only [F.names]; exact namesL_mem.mpr ⟨p, hp, hj⟩) hij
      rw [meet_in nf hp hi hj, meet_in ng hq ((e i).mp hi) ((e j).mp hj)] at this
      exact this
  have all2 : ∀ {as bs : List F}, All2 (fun p q => ∀ i, i ∈ p.names ↔ i ∈ q.names) as bs → (∀ a ∈ as, a ∈ ps) → (∀ b ∈ bs, b ∈ qs) → as = bs := by
    intro as bs h
    induction h with
    | nil => intro _ _; rfl
    | cons e _ ih2 =>
      intro h1 h2
      rw [key _ (h1 _ List.mem_cons_self) _ (h2 _ List.mem_cons_self) e, ih2 (fun a ha => h1 a (List.mem_cons_of_mem _ ha)) (fun b hb => h2 b (List.mem_cons_of_mem _ hb))]
  exact all2 hm (fun _ h => h) (fun _ h => h)
theorem only_name {l : List Nat} {k : Nat} (hn : l.Nodup) (h : ∀ i, i ∈ l ↔ i = k) : l = [k] := by
  match l, hn with
  | [], _ => have := (h k).mpr rfl; cases this
  | [a], _ => rw [(h a).mp List.mem_cons_self]
  | a :: b :: r, hn =>
    have e1 := (h a).mp (by simp)
    have e2 := (h b).mp (by simp)
    rw [e1, e2] at hn
    simp at hn
/-- THE NORMAL FORMULA IS TOLD BY ITS TABLE -/
theorem norm_unique : ∀ f : F, ∀ g, Norm f → Norm g → f.names.Nodup → g.names.Nodup → SameTable f g → f = g := by
  have kinds : ∀ (k : Nat) (f g : F), f.names = [k] → Norm f → Norm g → g.names.Nodup → SameTable f g → f = g := fun k f g hk hf hg ng t => by
    have gk : g.names = [k] := only_name ng fun i => by rw [← t.names i, hk]; simp
    have ts := t.sizes k (by rw [hk]; simp)
    rcases single_name hk hf with rfl | ⟨n, hn, rfl⟩ <;> rcases single_name gk hg with rfl | ⟨m, hm, rfl⟩
    · rfl
    · simp only [size, if_true, Nat.mul_one] at ts; omega
    · simp only [size, if_true, Nat.mul_one] at ts; omega
    · simp only [size, if_true, Nat.mul_one] at ts; rw [ts]
  -- numbers in front of an "or"
  have fronts : ∀ (n m : Nat) (ps qs : List F) (f g : F), Norm (.node false ps) → Norm (.node false qs) → (namesL ps).Nodup → (namesL qs).Nodup → f.names = namesL ps → g.names = namesL qs →
      (∀ i j, meet f i j = n * meet (.node false ps) i j) → (∀ i j, meet g i j = m * meet (.node false qs) i j) → SameTable f g → n ∣ m := by
    intro n m ps qs f g hp hq np nq ef eg mf mg t
    obtain ⟨i, hi, j, hj, hij, h1⟩ := or_one hq (by simpa only [F.names] using nq)
    have hi' : i ∈ f.names := (t.names i).mpr (by rw [eg]; exact hi)
    have hj' : j ∈ f.names := (t.names j).mpr (by rw [eg]; exact hj)
    have := t.meets i hi' j hj' hij
    rw [mf, mg, h1, Nat.mul_one] at this
    exact ⟨_, this.symm⟩
  refine F.ind (fun k g hf hg nf ng t => kinds k _ g (by simp only [F.names]) hf hg ng t) (fun n f ih g hf hg nf ng t => ?_) (fun b ps ih g hf hg nf ng t => ?_)
  · have hf0 := hf
    simp only [Norm] at hf
    cases f with
    | kind k => exact kinds k _ g (by simp only [F.names]) hf0 hg ng t
    | many m h => exact hf.2.2.1.elim
    | node b ps =>
      have hb : b = false := by
        have := hf.2.1
        cases b with
        | false => rfl
        | true => simp [isNode] at this
      subst hb
      have nps : (namesL ps).Nodup := by simpa only [F.names] using nf
      have na : ¬ AndTop (.many n (.node false ps)) := fun z => andTop_or hf.2.2.2 (by simpa only [F.names] using nps) ((andTop_many (by omega)).mp z)
      have hg0 := hg
      cases g with
      | kind k => exact (kinds k _ _ (by simp only [F.names]) hg hf0 nf t.symm).symm
      | node c qs =>
        cases c with
        | true => exact absurd (t.symm.andTop (andTop_and hg ng)) na
        | false =>
          have d := fronts n 1 ps qs _ _ hf.2.2.2 hg nps (by simpa only [F.names] using ng) (by simp only [F.names]) (by simp only [F.names]) (fun i j => by rw [meet]) (fun i j => (Nat.one_mul _).symm) t
          have := Nat.le_of_dvd (by omega) d
          omega
      | many m h =>
        simp only [Norm] at hg
        cases h with
        | kind k => exact (kinds k _ _ (by simp only [F.names]) hg0 hf0 nf t.symm).symm
        | many a b => exact hg.2.2.1.elim
        | node c qs =>
          have hc : c = false := by
            have := hg.2.1
            cases c with
            | false => rfl
            | true => simp [isNode] at this
          subst hc
          have nqs : (namesL qs).Nodup := by simpa only [F.names] using ng
          have d1 := fronts n m ps qs _ _ hf.2.2.2 hg.2.2.2 nps nqs (by simp only [F.names]) (by simp only [F.names]) (fun i j => by rw [meet]) (fun i j => by rw [meet]) t
          have d2 := fronts m n qs ps _ _ hg.2.2.2 hf.2.2.2 nqs nps (by simp only [F.names]) (by simp only [F.names]) (fun i j => by rw [meet]) (fun i j => by rw [meet]) t.symm
          have e := Nat.dvd_antisymm d1 d2
          subst e
          have n0 : 0 < n := by omega
          have e2 := ih (.node false qs) hf.2.2.2 hg.2.2.2 (by simpa only [F.names] using nps) (by simpa only [F.names] using nqs) ⟨fun i => by have := t.names i; simpa only [F.names] using this, fun i hi => by
              have := t.sizes i (by simpa only [F.names] using hi)
              rw [size, size] at this
              exact Nat.eq_of_mul_eq_mul_left n0 this, fun i hi j hj hij => by
              have := t.meets i (by simpa only [F.names] using hi) j (by simpa only [F.names] using hj) hij
              rw [meet, meet] at this
              exact Nat.eq_of_mul_eq_mul_left n0 this⟩
          rw [e2]
  · have hg0 := hg
    cases g with
    | kind k => exact (kinds k _ _ (by simp only [F.names]) hg hf nf t.symm).symm
    | many m h =>
      simp only [Norm] at hg
      cases h with
      | kind k => exact (kinds k _ _ (by simp only [F.names]) hg0 hf nf t.symm).symm
      | many a b => exact hg.2.2.1.elim
      | node c qs =>
        have hc : c = false := by
          have := hg.2.1
          cases c with
          | false => rfl
          | true => simp [isNode] at this
        subst hc
        have nqs : (namesL qs).Nodup := by simpa only [F.names] using ng
        have na : ¬ AndTop (.many m (.node false qs)) := fun z => andTop_or hg.2.2.2 (by simpa only [F.names] using nqs) ((andTop_many (by omega)).mp z)
        cases b with
        | true => exact absurd (t.andTop (andTop_and hf nf)) na
        | false =>
          have d := fronts m 1 qs ps _ _ hg.2.2.2 hf nqs (by simpa only [F.names] using nf) (by simp only [F.names]) (by simp only [F.names]) (fun i j => by rw [meet]) (fun i j => (Nat.one_mul _).symm) t.symm
          have := Nat.le_of_dvd (by omega) d
          omega
    | node c qs =>
      have e : b = c := by
        cases b <;> cases c
        · rfl
        · exact absurd (t.symm.andTop (andTop_and hg ng)) (andTop_or hf nf)
        · exact absurd (t.andTop (andTop_and hf nf)) (andTop_or hg ng)
        · rfl
      subst e
      rw [same_parts ih hf hg nf ng t]
end Nf

/-! ## NfE -/
set_option linter.all false
namespace Nf
/-! ### the normal formula, as it is computed -/
def flat1 (b : Bool) : F → List F
  | .node c qs => if c == b then qs else [.node c qs]
  | f => [f]
def flat (b : Bool) (ps : List F) : List F := ps.flatMap (flat1 b)
def sortP (ps : List F) : List F := ps.mergeSort fun a b => decide (least a ≤ least b)
def joinF (b : Bool) (ps : List F) : F := .node b (sortP (flat b ps))
def wrap (n : Nat) (f : F) : F := if n > 1 then .many n f else f
mutual
def normT : F → Nat → F
  | .kind i, n => wrap n (.kind i)
  | .many m f, n => normT f (n * m)
  | .node b ps, n => match b with
    | true => joinF true (normTL ps n)
    | false => wrap n (joinF false (normTL ps 1))
def normTL : List F → Nat → List F
  | [], _ => []
  | p :: ps, n => normT p n :: normTL ps n
end
def normF (f : F) : F := normT f 1
theorem normTL_map {n : Nat} : ∀ ps : List F, normTL ps n = ps.map (normT · n)
  | [] => rfl
  | p :: ps => by simp only [normTL, List.map_cons, normTL_map ps]
theorem namesL_flatMap : ∀ ps : List F, namesL ps = ps.flatMap F.names
  | [] => rfl
  | p :: ps => by simp only [namesL, List.flatMap_cons, namesL_flatMap ps]
theorem namesL_perm {ps qs : List F} (h : ps.Perm qs) : (namesL ps).Perm (namesL qs) := by
  rw [namesL_flatMap, namesL_flatMap]; exact h.flatMap_right _
theorem namesL_append (ps qs : List F) : namesL (ps ++ qs) = namesL ps ++ namesL qs := by
  rw [namesL_flatMap, namesL_flatMap, namesL_flatMap, List.flatMap_append]
theorem names_flat1 (b : Bool) : ∀ f : F, namesL (flat1 b f) = f.names
  | .kind i => by simp [flat1, namesL]
  | .many n f => by simp [flat1, namesL]
  | .node c qs => by
    simp only [flat1]
    split
    · simp only [F.names]
    · simp [namesL]
theorem names_flat (b : Bool) : ∀ ps : List F, namesL (flat b ps) = namesL ps
  | [] => rfl
  | p :: ps => by
    show namesL (flat1 b p ++ flat b ps) = _
    rw [namesL_append, names_flat1, names_flat b ps, namesL]
theorem sortP_perm (ps : List F) : (sortP ps).Perm ps := List.mergeSort_perm _ _
theorem names_joinF (b : Bool) (ps : List F) : (joinF b ps).names.Perm (namesL ps) := by
  simp only [joinF, F.names]
  rw [← names_flat b ps]
  exact namesL_perm (sortP_perm _)
theorem names_wrap (n : Nat) (f : F) : (wrap n f).names = f.names := by
  unfold wrap; split <;> simp only [F.names]
theorem names_normTL {n : Nat} : ∀ {ps : List F}, (∀ p ∈ ps, (normT p n).names.Perm p.names) → (namesL (normTL ps n)).Perm (namesL ps)
  | [], _ => List.Perm.refl _
  | p :: ps, h => by
    simp only [normTL, namesL]
    exact (h p List.mem_cons_self).append (names_normTL fun q hq => h q (List.mem_cons_of_mem _ hq))
theorem names_normT : ∀ f : F, ∀ n, (normT f n).names.Perm f.names := by
  refine F.ind (fun i n => ?_) (fun m f ih n => ?_) (fun b ps ih n => ?_)
  · simp only [normT, names_wrap]; exact List.Perm.refl _
  · simp only [normT, F.names]; exact ih _
  · cases b with
    | true =>
      simp only [normT, F.names]
      exact (names_joinF _ _).trans (names_normTL fun p hp => ih p hp n)
    | false =>
      simp only [normT, F.names, names_wrap]
      exact (names_joinF _ _).trans (names_normTL fun p hp => ih p hp 1)

/-! ### its ways -/
theorem sumS_flat : ∀ (ps : List F) (w : W), SumS ((flat true ps).map Way) w ↔ SumS (ps.map Way) w
  | [], w => Iff.rfl
  | p :: ps, w => by
    show SumS ((flat1 true p ++ flat true ps).map Way) w ↔ _
    rw [List.map_append, sumS_append]
    have h1 : ∀ a, SumS ((flat1 true p).map Way) a ↔ Way p a := fun a => by
      cases p with
      | kind i => simp only [flat1, List.map_cons, List.map_nil, SumS]; exact ⟨fun ⟨x, y, h, e, e2⟩ => by rw [e2, e, wadd_zero]; exact h, fun h => ⟨a, wz, h, rfl, (wadd_zero a).symm⟩⟩
      | many n f => simp only [flat1, List.map_cons, List.map_nil, SumS]; exact ⟨fun ⟨x, y, h, e, e2⟩ => by rw [e2, e, wadd_zero]; exact h, fun h => ⟨a, wz, h, rfl, (wadd_zero a).symm⟩⟩
      | node c qs =>
        cases c with
        | true =>
          simp only [flat1, beq_self_eq_true, if_true]
          simp only [Way]
          exact wayA_iff.symm
        | false => simp only [flat1, List.map_cons, List.map_nil, SumS, show (false == true) = false from rfl, Bool.false_eq_true, if_false]; exact ⟨fun ⟨x, y, h, e, e2⟩ => by rw [e2, e, wadd_zero]; exact h, fun h => ⟨a, wz, h, rfl, (wadd_zero a).symm⟩⟩
    constructor
    · rintro ⟨a, b, h2, h3, rfl⟩; exact ⟨a, b, (h1 a).mp h2, (sumS_flat ps b).mp h3, rfl⟩
    · rintro ⟨a, b, h2, h3, rfl⟩; exact ⟨a, b, (h1 a).mpr h2, (sumS_flat ps b).mpr h3, rfl⟩
theorem orS_flat (ps : List F) (w : W) : (∃ p ∈ flat false ps, Way p w) ↔ ∃ p ∈ ps, Way p w := by
  constructor
  · rintro ⟨p, hp, h⟩
    obtain ⟨q, hq, hp⟩ := List.mem_flatMap.mp hp
    cases q with
    | kind i => simp only [flat1, List.mem_singleton] at hp; subst hp; exact ⟨_, hq, h⟩
    | many n f => simp only [flat1, List.mem_singleton] at hp; subst hp; exact ⟨_, hq, h⟩
    | node c qs =>
      cases c with
      | true => simp only [flat1, show (true == false) = false from rfl, Bool.false_eq_true, if_false, List.mem_singleton] at hp; subst hp; exact ⟨_, hq, h⟩
      | false =>
        simp only [flat1, beq_self_eq_true, if_true] at hp
        exact ⟨_, hq, by simp only [Way]; exact wayO_iff.mpr ⟨p, hp, h⟩⟩
  · rintro ⟨q, hq, h⟩
    cases q with
    | kind i => exact ⟨_, List.mem_flatMap.mpr ⟨_, hq, by simp only [flat1, List.mem_singleton]⟩, h⟩
    | many n f => exact ⟨_, List.mem_flatMap.mpr ⟨_, hq, by simp only [flat1, List.mem_singleton]⟩, h⟩
    | node c qs =>
      cases c with
      | true => exact ⟨_, List.mem_flatMap.mpr ⟨_, hq, by simp only [flat1, show (true == false) = false from rfl, Bool.false_eq_true, if_false, List.mem_singleton]⟩, h⟩
      | false =>
        simp only [Way] at h
        obtain ⟨p, hp, h⟩ := wayO_iff.mp h
        exact ⟨p, List.mem_flatMap.mpr ⟨_, hq, by simp only [flat1, beq_self_eq_true, if_true]; exact hp⟩, h⟩
theorem way_joinA (ps : List F) (w : W) : Way (joinF true ps) w ↔ SumS (ps.map Way) w := by
  simp only [joinF, Way]
  rw [wayA_iff, sumS_perm ((sortP_perm (flat true ps)).map Way)]
  exact sumS_flat ps w
theorem way_joinO (ps : List F) (w : W) : Way (joinF false ps) w ↔ ∃ p ∈ ps, Way p w := by
  simp only [joinF, Way]
  rw [wayO_iff]
  refine Iff.trans ?_ (orS_flat ps w)
  exact ⟨fun ⟨p, hp, h⟩ => ⟨p, (sortP_perm _).mem_iff.mp hp, h⟩, fun ⟨p, hp, h⟩ => ⟨p, (sortP_perm _).mem_iff.mpr hp, h⟩⟩
theorem way_wrap {n : Nat} (hn : 1 ≤ n) (f : F) (w : W) : Way (wrap n f) w ↔ SumN n (Way f) w := by
  unfold wrap
  split
  · simp only [Way]
  · have : n = 1 := by omega
    subst this
    exact sumN_one.symm
theorem way_normT : ∀ f : F, Wf f → ∀ n, 1 ≤ n → ∀ w, Way (normT f n) w ↔ SumN n (Way f) w := by
  refine F.ind (fun i _ n hn w => ?_) (fun m f ih hw n hn w => ?_) (fun b ps ih hw n hn w => ?_)
  · simp only [normT]; exact way_wrap hn _ _
  · simp only [Wf] at hw; simp only [normT]
    have h1 : 1 ≤ n * m := Nat.mul_pos hn (by omega)
    rw [ih hw.2 _ h1 w, ← sumN_mul]
    exact sumN_congr fun w => by simp only [Way]
  · simp only [Wf] at hw
    have hws := wfL_iff.mp hw.2
    cases b with
    | true =>
      simp only [normT]
      rw [way_joinA, normTL_map, List.map_map]
      have e : ps.map (Way ∘ (normT · n)) = (ps.map Way).map (SumN n) := by
        rw [List.map_map]
        refine List.map_congr_left fun p hp => ?_
        funext v
        exact propext (ih p hp (hws p hp) n hn v)
      rw [e, ← sumN_sumS]
      exact sumN_congr fun v => by simp only [Way]; exact wayA_iff.symm
    | false =>
      simp only [normT]
      rw [way_wrap hn]
      refine sumN_congr fun v => ?_
      rw [way_joinO, normTL_map]
      simp only [Way]
      rw [wayO_iff]
      constructor
      · rintro ⟨p, hp, h⟩
        obtain ⟨q, hq, rfl⟩ := List.mem_map.mp hp
        exact ⟨q, hq, sumN_one.mp ((ih q hq (hws q hq) 1 (Nat.le_refl _) v).mp h)⟩
      · rintro ⟨q, hq, h⟩
        exact ⟨_, List.mem_map.mpr ⟨q, hq, rfl⟩, (ih q hq (hws q hq) 1 (Nat.le_refl _) v).mpr (sumN_one.mpr h)⟩
theorem way_normF {f : F} (h : Wf f) (w : W) : Way (normF f) w ↔ Way f w := (way_normT f h 1 (Nat.le_refl _) w).trans sumN_one

/-! ### it is normal -/
/-- parts whose places are apart have unlike least places -/
theorem least_nodup : ∀ {ps : List F}, (namesL ps).Nodup → (∀ p ∈ ps, p.names ≠ []) → (ps.map least).Nodup
  | [], _, _ => by simp
  | p :: ps, hn, hw => by
    simp only [namesL] at hn
    obtain ⟨n1, n2, n3⟩ := List.nodup_append.mp hn
    rw [List.map_cons, List.nodup_cons]
    refine ⟨fun h => ?_, least_nodup n2 fun q hq => hw q (List.mem_cons_of_mem _ hq)⟩
    obtain ⟨q, hq, e⟩ := List.mem_map.mp h
    have h1 := lmin_mem (hw p List.mem_cons_self)
    have h2 := lmin_mem (hw q (List.mem_cons_of_mem _ hq))
    exact n3 _ h1 _ (namesL_mem.mpr ⟨q, hq, h2⟩) e.symm
theorem strict_of {l : List Nat} (hn : l.Nodup) (hs : l.Pairwise (· ≤ ·)) : l.Pairwise (· < ·) := by
  induction l with
  | nil => exact .nil
  | cons x r ih =>
    rw [List.nodup_cons] at hn
    rw [List.pairwise_cons] at hs ⊢
    exact ⟨fun y hy => Nat.lt_of_le_of_ne (hs.1 y hy) fun e => hn.1 (e ▸ hy), ih hn.2 hs.2⟩
theorem sortP_sorted (ps : List F) : ((sortP ps).map least).Pairwise (· ≤ ·) := by
  rw [List.pairwise_map]
  have h := List.pairwise_mergeSort (le := fun a b : F => decide (least a ≤ least b)) (fun a b c h1 h2 => by simp only [decide_eq_true_eq] at *; omega) (fun a b => by simp only [Bool.or_eq_true, decide_eq_true_eq]; omega) ps
  exact h.imp fun h => by simpa using h
theorem sortP_strict {ps : List F} (hn : (namesL ps).Nodup) (hw : ∀ p ∈ ps, p.names ≠ []) : ((sortP ps).map least).Pairwise (· < ·) := by
  refine strict_of ?_ (sortP_sorted ps)
  exact ((sortP_perm ps).map least).nodup_iff.mpr (least_nodup hn hw)
/-- any sorting by the least places gives this list -/
theorem sortP_eq {ps qs : List F} (hn : (namesL ps).Nodup) (hw : ∀ p ∈ ps, p.names ≠ []) (hp : qs.Perm ps) (hs : (qs.map least).Pairwise (· ≤ ·)) : qs = sortP ps := by
  have nq : (namesL qs).Nodup := (namesL_perm hp).nodup_iff.mpr hn
  have wq : ∀ q ∈ qs, q.names ≠ [] := fun q hq => hw q (hp.mem_iff.mp hq)
  have s1 : (qs.map least).Pairwise (· < ·) := strict_of (least_nodup nq wq) hs
  have s2 := sortP_strict hn hw
  have hpp : qs.Perm (sortP ps) := hp.trans (sortP_perm ps).symm
  have key : ∀ {as bs : List F}, as.Perm bs → (as.map least).Pairwise (· < ·) → (bs.map least).Pairwise (· < ·) → as = bs := by
    intro as
    induction as with
    | nil => intro bs h _ _; exact (List.nil_perm.mp h).symm
    | cons a as ih =>
      intro bs h ha hb
      cases bs with
      | nil => exact absurd h.length_eq (by simp)
      | cons b bs =>
        rw [List.map_cons, List.pairwise_cons] at ha hb
        have e : a = b := by
          rcases List.mem_cons.mp (h.mem_iff.mp (List.mem_cons_self (a := a))) with e | hm
          · exact e
          · rcases List.mem_cons.mp (h.mem_iff.mpr (List.mem_cons_self (a := b))) with e | hm2
            · exact e.symm
            · have h1 := hb.1 _ (List.mem_map.mpr ⟨a, hm, rfl⟩)
              have h2 := ha.1 _ (List.mem_map.mpr ⟨b, hm2, rfl⟩)
              omega
        subst e
        rw [ih (List.perm_cons a |>.mp h) ha.2 hb.2]
  exact key hpp s1 s2
theorem norm_joinF {b : Bool} {ps : List F} (h2 : 2 ≤ ps.length) (hn : (namesL ps).Nodup) (hp : ∀ p ∈ ps, Norm p) : Norm (joinF b ps) := by
  have hne : ∀ p ∈ ps, p.names ≠ [] := fun p h => names_ne p (Norm.wf p (hp p h))
  have hf : ∀ q ∈ flat b ps, isNode b q = false ∧ Norm q := fun q hq => by
    obtain ⟨p, hm, hq2⟩ := List.mem_flatMap.mp hq
    have hN := hp p hm
    cases p with
    | kind i => simp only [flat1, List.mem_singleton] at hq2; subst hq2; exact ⟨rfl, hN⟩
    | many n f => simp only [flat1, List.mem_singleton] at hq2; subst hq2; exact ⟨rfl, hN⟩
    | node c qs =>
      simp only [flat1] at hq2
      split at hq2
      · rename_i e
        have e := eq_of_beq e
        subst e
        simp only [Norm] at hN
        exact normL_iff.mp hN.2.2 q hq2
      · rename_i e
        simp only [List.mem_singleton] at hq2; subst hq2
        exact ⟨by simpa [isNode] using e, hN⟩
  have hl : 2 ≤ (flat b ps).length := by
    have : ∀ qs : List F, (∀ q ∈ qs, q.names ≠ []) → qs.length ≤ (flat b qs).length := by
      intro qs
      induction qs with
      | nil => intro _; exact Nat.zero_le _
      | cons q r ih =>
        intro h
        show r.length + 1 ≤ (flat1 b q ++ flat b r).length
        rw [List.length_append]
        have h1 := ih fun s hs => h s (List.mem_cons_of_mem _ hs)
        have h2 : 1 ≤ (flat1 b q).length := by
          have e := names_flat1 b q
          cases hfl : flat1 b q with
          | nil => rw [hfl] at e; exact absurd e.symm (h q List.mem_cons_self)
          | cons x y => simp
        omega
    exact Nat.le_trans h2 (this ps hne)
  have hnf : (namesL (flat b ps)).Nodup := by rw [names_flat]; exact hn
  have hwf : ∀ q ∈ flat b ps, q.names ≠ [] := fun q hq => names_ne q (Norm.wf q (hf q hq).2)
  simp only [joinF, Norm]
  exact ⟨by rw [(sortP_perm _).length_eq]; exact hl, sortP_strict hnf hwf, normL_iff.mpr fun q hq => hf q ((sortP_perm _).mem_iff.mp hq)⟩
theorem norm_wrap {n : Nat} {f : F} (hf : Norm f) (h1 : isNode true f = false) (h2 : ∀ m g, f ≠ .many m g) : Norm (wrap n f) := by
  unfold wrap
  split
  · simp only [Norm]
    refine ⟨by omega, h1, ?_, hf⟩
    cases f with
    | many m g => exact absurd rfl (h2 m g)
    | _ => trivial
  · exact hf
theorem norm_normT : ∀ f : F, Wf f → f.names.Nodup → ∀ n, 1 ≤ n → Norm (normT f n) := by
  have lst : ∀ {ps : List F} {n : Nat}, (∀ p ∈ ps, Wf p → p.names.Nodup → ∀ n, 1 ≤ n → Norm (normT p n)) → (∀ p ∈ ps, Wf p) → (namesL ps).Nodup → 1 ≤ n → (namesL (normTL ps n)).Nodup ∧ ∀ q ∈ normTL ps n, Norm q := by
    intro ps n ih hw hn h1
    refine ⟨(names_normTL fun p _ => names_normT p n).nodup_iff.mpr hn, fun q hq => ?_⟩
    rw [normTL_map] at hq
    obtain ⟨p, hp, rfl⟩ := List.mem_map.mp hq
    exact ih p hp (hw p hp) (nodup_part hn hp) n h1
  refine F.ind (fun i _ _ n _ => ?_) (fun m f ih hw hn n h1 => ?_) (fun b ps ih hw hn n h1 => ?_)
  · simp only [normT]; exact norm_wrap (by simp only [Norm]) rfl (fun m g e => by cases e)
  · simp only [Wf] at hw; simp only [F.names] at hn; simp only [normT]
    exact ih hw.2 hn _ (Nat.mul_pos h1 (by omega))
  · simp only [Wf] at hw; simp only [F.names] at hn
    have hws := wfL_iff.mp hw.2
    cases b with
    | true =>
      obtain ⟨a1, a2⟩ := lst (n := n) ih hws hn h1
      simp only [normT]
      exact norm_joinF (by rw [normTL_map, List.length_map]; exact hw.1) a1 a2
    | false =>
      obtain ⟨a1, a2⟩ := lst (n := 1) ih hws hn (Nat.le_refl _)
      simp only [normT]
      exact norm_wrap (norm_joinF (by rw [normTL_map, List.length_map]; exact hw.1) a1 a2) rfl (fun m g e => by simp [joinF] at e)
theorem names_normF (f : F) : (normF f).names.Perm f.names := names_normT f 1
theorem norm_normF {f : F} (h : Wf f) (hn : f.names.Nodup) : Norm (normF f) := norm_normT f h hn 1 (Nat.le_refl _)

/-! ### the laws -/
theorem table_of_ways {f g : F} (wf : Wf f) (wg : Wf g) (nf : f.names.Nodup) (ng : g.names.Nodup) (hs : ∀ i, i ∈ f.names ↔ i ∈ g.names) (h : ∀ w, Way f w ↔ Way g w) : SameTable f g :=
  ⟨hs, fun i _ => size_of_ways wf wg nf ng hs h i, fun i hi j hj hij => meet_of_ways hij wf wg nf ng hs h hi hj⟩
theorem table_normF {f : F} (wf : Wf f) (nf : f.names.Nodup) : SameTable (normF f) f := by
  have nn := norm_normF wf nf
  exact table_of_ways (Norm.wf _ nn) wf ((names_normF f).nodup_iff.mpr nf) nf (fun i => (names_normF f).mem_iff) (way_normF wf)
theorem SameTable.trans {f g h : F} (a : SameTable f g) (b : SameTable g h) : SameTable f h :=
  ⟨fun i => (a.names i).trans (b.names i), fun i hi => (a.sizes i hi).trans (b.sizes i ((a.names i).mp hi)), fun i hi j hj hij => (a.meets i hi j hj hij).trans (b.meets i ((a.names i).mp hi) j ((a.names j).mp hj) hij)⟩
theorem normF_eq_of_table {f g : F} (wf : Wf f) (wg : Wf g) (nf : f.names.Nodup) (ng : g.names.Nodup) (t : SameTable f g) : normF f = normF g :=
  norm_unique _ _ (norm_normF wf nf) (norm_normF wg ng) ((names_normF f).nodup_iff.mpr nf) ((names_normF g).nodup_iff.mpr ng) (((table_normF wf nf).trans t).trans (table_normF wg ng).symm)
/-- equal normal formulas, equal ways, equal tables: the same -/
theorem law_core {f g : F} (wf : Wf f) (wg : Wf g) (nf : f.names.Nodup) (ng : g.names.Nodup) (hs : ∀ i, i ∈ f.names ↔ i ∈ g.names) :
    (normF f = normF g ↔ ∀ w, Way f w ↔ Way g w) ∧ (SameTable f g ↔ ∀ w, Way f w ↔ Way g w) := by
  have h1 : normF f = normF g → ∀ w, Way f w ↔ Way g w := fun e w => by rw [← way_normF wf w, e, way_normF wg w]
  have h2 : (∀ w, Way f w ↔ Way g w) → SameTable f g := table_of_ways wf wg nf ng hs
  exact ⟨⟨h1, fun h => normF_eq_of_table wf wg nf ng (h2 h)⟩, ⟨fun t => h1 (normF_eq_of_table wf wg nf ng t), h2⟩⟩
theorem normF_idem {f : F} (wf : Wf f) (nf : f.names.Nodup) : normF (normF f) = normF f := by
  have nn := norm_normF wf nf
  have n2 := (names_normF f).nodup_iff.mpr nf
  exact norm_unique _ _ (norm_normF (Norm.wf _ nn) n2) nn ((names_normF _).nodup_iff.mpr n2) n2 (table_normF (Norm.wf _ nn) n2)
end Nf

/-! ## KBase -/
set_option Elab.async false
set_option linter.all false
set_option maxRecDepth 100000
set_option maxHeartbeats 4000000
namespace Nf
open PySem PySem.Spec PyProof.Rows L2
def topS (i : Nat) : Stmt := PySem.Challenge.pw_asmany_k13_whole_normal_formulas_by_thei.main.body.getD i (.Pass ⟨0, 0, 0, 0⟩)
abbrev s_is_integer : Stmt := topS 7
abbrev s_is_number : Stmt := topS 8
abbrev s_is_name : Stmt := topS 9
abbrev s_parts_of : Stmt := topS 12
abbrev s_check_formula : Stmt := topS 13
abbrev s_names_in : Stmt := topS 14
abbrev s_kinds_of : Stmt := topS 15
abbrev s_sizes_of : Stmt := topS 16
abbrev s_meeting : Stmt := topS 17
abbrev s_joined : Stmt := topS 18
abbrev s_normal_times : Stmt := topS 19
abbrev s_normal : Stmt := topS 20
abbrev s_law_heap : Stmt := topS 22
abbrev s_law_draw : Stmt := topS 23
abbrev s_law_pick : Stmt := topS 24
abbrev s_law_names : Stmt := topS 25
abbrev s_law_mixed : Stmt := topS 26
abbrev s_law_formula : Stmt := topS 27
abbrev s_law_sums : Stmt := topS 28
abbrev s_law_laid : Stmt := topS 29
abbrev s_law_parts : Stmt := topS 30
abbrev s_law_replaced : Stmt := topS 31
abbrev s_law_grouped : Stmt := topS 32
abbrev s_law_so_many : Stmt := topS 33
abbrev s_law_other : Stmt := topS 34
abbrev s_law_changed : Stmt := topS 35
abbrev s_law_deep : Stmt := topS 36
abbrev s_law_least : Stmt := topS 37
abbrev s_law_met : Stmt := topS 38
abbrev s_law_table : Stmt := topS 39
abbrev s_law_one_right : Stmt := topS 40
abbrev s_law : Stmt := topS 41
/-- what the top has left: each def, built-in names, constants -/
structure Txt (K : PySem.W.Frag) (mg : Str → Option Value) : Prop where
  m_is_integer : mg "is_integer" = some (.ref (He.ga K "is_integer"))
  f_is_integer : ∃ fd, FunD K "is_integer" "is_integer" (defArgs s_is_integer) (defBody s_is_integer) (defScope s_is_integer) [] [] (He.ga K "is_integer") fd
  m_is_number : mg "is_number" = some (.ref (He.ga K "is_number"))
  f_is_number : ∃ fd, FunD K "is_number" "is_number" (defArgs s_is_number) (defBody s_is_number) (defScope s_is_number) [] [] (He.ga K "is_number") fd
  m_is_name : mg "is_name" = some (.ref (He.ga K "is_name"))
  f_is_name : ∃ fd, FunD K "is_name" "is_name" (defArgs s_is_name) (defBody s_is_name) (defScope s_is_name) [] [] (He.ga K "is_name") fd
  m_parts_of : mg "parts_of" = some (.ref (He.ga K "parts_of"))
  f_parts_of : ∃ fd, FunD K "parts_of" "parts_of" (defArgs s_parts_of) (defBody s_parts_of) (defScope s_parts_of) [] [] (He.ga K "parts_of") fd
  m_check_formula : mg "check_formula" = some (.ref (He.ga K "check_formula"))
  f_check_formula : ∃ fd, FunD K "check_formula" "check_formula" (defArgs s_check_formula) (defBody s_check_formula) (defScope s_check_formula) [] [] (He.ga K "check_formula") fd
  m_names_in : mg "names_in" = some (.ref (He.ga K "names_in"))
  f_names_in : ∃ fd, FunD K "names_in" "names_in" (defArgs s_names_in) (defBody s_names_in) (defScope s_names_in) [] [] (He.ga K "names_in") fd
  m_kinds_of : mg "kinds_of" = some (.ref (He.ga K "kinds_of"))
  f_kinds_of : ∃ fd, FunD K "kinds_of" "kinds_of" (defArgs s_kinds_of) (defBody s_kinds_of) (defScope s_kinds_of) [] [] (He.ga K "kinds_of") fd
  m_sizes_of : mg "sizes_of" = some (.ref (He.ga K "sizes_of"))
  f_sizes_of : ∃ fd, FunD K "sizes_of" "sizes_of" (defArgs s_sizes_of) (defBody s_sizes_of) (defScope s_sizes_of) [] [] (He.ga K "sizes_of") fd
  m_meeting : mg "meeting" = some (.ref (He.ga K "meeting"))
  f_meeting : ∃ fd, FunD K "meeting" "meeting" (defArgs s_meeting) (defBody s_meeting) (defScope s_meeting) [] [] (He.ga K "meeting") fd
  m_joined : mg "joined" = some (.ref (He.ga K "joined"))
  f_joined : ∃ fd, FunD K "joined" "joined" (defArgs s_joined) (defBody s_joined) (defScope s_joined) [] [] (He.ga K "joined") fd ∧ fd.code = .ref (He.cT K ("joined", none)).1
  m_normal_times : mg "normal_times" = some (.ref (He.ga K "normal_times"))
  f_normal_times : ∃ fd, FunD K "normal_times" "normal_times" (defArgs s_normal_times) (defBody s_normal_times) (defScope s_normal_times) [] [] (He.ga K "normal_times") fd
  m_normal : mg "normal" = some (.ref (He.ga K "normal"))
  f_normal : ∃ fd, FunD K "normal" "normal" (defArgs s_normal) (defBody s_normal) (defScope s_normal) [] [] (He.ga K "normal") fd
  m_law_heap : mg "_law_heap" = some (.ref (He.ga K "_law_heap"))
  f_law_heap : ∃ fd, FunD K "_law_heap" "_law_heap" (defArgs s_law_heap) (defBody s_law_heap) (defScope s_law_heap) [] [] (He.ga K "_law_heap") fd
  m_law_draw : mg "_law_draw" = some (.ref (He.ga K "_law_draw"))
  f_law_draw : ∃ fd, FunD K "_law_draw" "_law_draw" (defArgs s_law_draw) (defBody s_law_draw) (defScope s_law_draw) [] [] (He.ga K "_law_draw") fd
  m_law_pick : mg "_law_pick" = some (.ref (He.ga K "_law_pick"))
  f_law_pick : ∃ fd, FunD K "_law_pick" "_law_pick" (defArgs s_law_pick) (defBody s_law_pick) (defScope s_law_pick) [] [] (He.ga K "_law_pick") fd
  m_law_names : mg "_law_names" = some (.ref (He.ga K "_law_names"))
  f_law_names : ∃ fd, FunD K "_law_names" "_law_names" (defArgs s_law_names) (defBody s_law_names) (defScope s_law_names) [] [] (He.ga K "_law_names") fd
  m_law_mixed : mg "_law_mixed" = some (.ref (He.ga K "_law_mixed"))
  f_law_mixed : ∃ fd, FunD K "_law_mixed" "_law_mixed" (defArgs s_law_mixed) (defBody s_law_mixed) (defScope s_law_mixed) [] [] (He.ga K "_law_mixed") fd
  m_law_formula : mg "_law_formula" = some (.ref (He.ga K "_law_formula"))
  f_law_formula : ∃ fd, FunD K "_law_formula" "_law_formula" (defArgs s_law_formula) (defBody s_law_formula) (defScope s_law_formula) [] [] (He.ga K "_law_formula") fd
  m_law_sums : mg "_law_sums" = some (.ref (He.ga K "_law_sums"))
  f_law_sums : ∃ fd, FunD K "_law_sums" "_law_sums" (defArgs s_law_sums) (defBody s_law_sums) (defScope s_law_sums) [] [] (He.ga K "_law_sums") fd
  m_law_laid : mg "_law_laid" = some (.ref (He.ga K "_law_laid"))
  f_law_laid : ∃ fd, FunD K "_law_laid" "_law_laid" (defArgs s_law_laid) (defBody s_law_laid) (defScope s_law_laid) [] [] (He.ga K "_law_laid") fd
  m_law_parts : mg "_law_parts" = some (.ref (He.ga K "_law_parts"))
  f_law_parts : ∃ fd, FunD K "_law_parts" "_law_parts" (defArgs s_law_parts) (defBody s_law_parts) (defScope s_law_parts) [] [] (He.ga K "_law_parts") fd
  m_law_replaced : mg "_law_replaced" = some (.ref (He.ga K "_law_replaced"))
  f_law_replaced : ∃ fd, FunD K "_law_replaced" "_law_replaced" (defArgs s_law_replaced) (defBody s_law_replaced) (defScope s_law_replaced) [] [] (He.ga K "_law_replaced") fd
  m_law_grouped : mg "_law_grouped" = some (.ref (He.ga K "_law_grouped"))
  f_law_grouped : ∃ fd, FunD K "_law_grouped" "_law_grouped" (defArgs s_law_grouped) (defBody s_law_grouped) (defScope s_law_grouped) [] [] (He.ga K "_law_grouped") fd
  m_law_so_many : mg "_law_so_many" = some (.ref (He.ga K "_law_so_many"))
  f_law_so_many : ∃ fd, FunD K "_law_so_many" "_law_so_many" (defArgs s_law_so_many) (defBody s_law_so_many) (defScope s_law_so_many) [] [] (He.ga K "_law_so_many") fd
  m_law_other : mg "_law_other" = some (.ref (He.ga K "_law_other"))
  f_law_other : ∃ fd, FunD K "_law_other" "_law_other" (defArgs s_law_other) (defBody s_law_other) (defScope s_law_other) [] [] (He.ga K "_law_other") fd
  m_law_changed : mg "_law_changed" = some (.ref (He.ga K "_law_changed"))
  f_law_changed : ∃ fd, FunD K "_law_changed" "_law_changed" (defArgs s_law_changed) (defBody s_law_changed) (defScope s_law_changed) [] [] (He.ga K "_law_changed") fd
  m_law_deep : mg "_law_deep" = some (.ref (He.ga K "_law_deep"))
  f_law_deep : ∃ fd, FunD K "_law_deep" "_law_deep" (defArgs s_law_deep) (defBody s_law_deep) (defScope s_law_deep) [] [] (He.ga K "_law_deep") fd
  m_law_least : mg "_law_least" = some (.ref (He.ga K "_law_least"))
  f_law_least : ∃ fd, FunD K "_law_least" "_law_least" (defArgs s_law_least) (defBody s_law_least) (defScope s_law_least) [] [] (He.ga K "_law_least") fd
  m_law_met : mg "_law_met" = some (.ref (He.ga K "_law_met"))
  f_law_met : ∃ fd, FunD K "_law_met" "_law_met" (defArgs s_law_met) (defBody s_law_met) (defScope s_law_met) [] [] (He.ga K "_law_met") fd
  m_law_table : mg "_law_table" = some (.ref (He.ga K "_law_table"))
  f_law_table : ∃ fd, FunD K "_law_table" "_law_table" (defArgs s_law_table) (defBody s_law_table) (defScope s_law_table) [] [] (He.ga K "_law_table") fd
  m_law_one_right : mg "_law_one_right" = some (.ref (He.ga K "_law_one_right"))
  f_law_one_right : ∃ fd, FunD K "_law_one_right" "_law_one_right" (defArgs s_law_one_right) (defBody s_law_one_right) (defScope s_law_one_right) [] [] (He.ga K "_law_one_right") fd
  m_law : mg "law" = some (.ref (He.ga K "law"))
  f_law : ∃ fd, FunD K "law" "law" (defArgs s_law) (defBody s_law) (defScope s_law) [] [] (He.ga K "law") fd
  z_isinstance : mg "isinstance" = none
  z_int : mg "int" = none
  z_bool : mg "bool" = none
  z_str : mg "str" = none
  z_len : mg "len" = none
  z_all : mg "all" = none
  z_tuple : mg "tuple" = none
  z_reversed : mg "reversed" = none
  z_sorted : mg "sorted" = none
  z_min : mg "min" = none
  z_max : mg "max" = none
  z_abs : mg "abs" = none
  z_range : mg "range" = none
  z_list : mg "list" = none
  z_dict : mg "dict" = none
  c_LN : ∃ t, mg "LONGEST_NAME" = some (.int 5 t)
  c_MA : ∃ t, mg "MOST_AMOUNT" = some (.int 60 t)
  c_MK : ∃ t, mg "MOST_KINDS" = some (.int 8 t)
  c_LE : ∃ t, mg "LETTERS" = some (.str "abcdefghijklmnopqrstuvwxyz" t)
/-- a def of the module keeps a promise at the level k -/
def Kept (P : Program) (w : World) (K : PySem.W.Frag) (mg : Str → Option Value) (base : Heap) (k : Nat) (x : Str) (ps : List Str) (sp : Sp) : Prop :=
  ∃ (f : Addr) (fd : FuncData), mg x = some (.ref f) ∧ PySem.W.keepIn K (.ref f) = true ∧ Binds K fd ps [] ∧ (∃ oc od osl, K.lookup f = some ⟨oc, od, .func fd, osl⟩) ∧ FnOk P w K mg base CX0 k f fd ps sp
section
variable {P : Program} {w : World} {K : PySem.W.Frag} {mg : Str → Option Value} {base : Heap} {k j : Nat} {x : Str} {ps : List Str} {sp sp' : Sp}
theorem Kept.mono (h : Kept P w K mg base j x ps sp) (l : j ≤ k) : Kept P w K mg base k x ps sp := by
  obtain ⟨f, fd, a, b, c, e, d⟩ := h
  exact ⟨f, fd, a, b, c, e, d.mono l⟩
theorem Kept.imp (h : Kept P w K mg base k x ps sp) (l : ∀ vs H Q E, sp' vs H Q E → sp vs H Q E) : Kept P w K mg base k x ps sp' := by
  obtain ⟨f, fd, a, b, c, e, d⟩ := h
  exact ⟨f, fd, a, b, c, e, d.imp l⟩
end
section
variable {X : Cx} {k : Nat} {x : Str} {ps : List Str} {sp : Sp} {e : Expr} {es : List Expr} {p pos : Pos} {t : TA}
/-- x(e, ..) -/
theorem pe_kc (F : Kept X.prog X.w X.K X.mg X.base k x ps sp) (hr : Room k X.A) (hg : Gl X x) (ha : PA X (e :: es) t)
    (hdb : (x == ("__debug__" : Str)) = false := by decide) (he : starEach (e :: es) X.env = (false, eval e X.env) :: starEach es X.env := by rfl) (hpl : (backTo pos (starEach es X.env)).any (·.1) = false := by rfl) :
    PE X (.Call (.Name x p) (e :: es) [] pos) (tCall sp [] E0 t) := by
  obtain ⟨f, fd, hm, hk, hb, _, F⟩ := F
  exact pe_call F hr hg hm hk hb .nil pass0 ha hdb he hpl
end
theorem look_of {K : PySem.W.Frag} {x qual : Str} {params : Arguments} {body : List Stmt} {scope : Scope} {dvs : List V} {kws : List (Str × V)} {f : Addr} {fd : FuncData} (F : FunD K x qual params body scope dvs kws f fd) : ∃ oc od osl, K.lookup f = some ⟨oc, od, .func fd, osl⟩ :=
  let ⟨oc, od, _, _, _, _, _, _, _, osl, _, lk, _⟩ := F.ex
  ⟨oc, od, osl, lk⟩
/-! ### formulas on the heap -/
def word (b : Bool) : Str := if b then "and" else "or"
mutual
def FV (nm : Nat → Str) (H : Hp) : F → V → Prop
  | .kind i, v => ∃ a, v = .ref a ∧ H a = some (.tup [.str "kind", .str (nm i)])
  | .many n f, v => ∃ a u, v = .ref a ∧ H a = some (.tup [.str "many", .int (n : Int), u]) ∧ FV nm H f u
  | .node b ps, v => ∃ a c us, v = .ref a ∧ H a = some (.tup [.str (word b), .ref c]) ∧ H c = some (.tup us) ∧ FVs nm H ps us
def FVs (nm : Nat → Str) (H : Hp) : List F → List V → Prop
  | [], us => us = []
  | p :: ps, us => ∃ u r, us = u :: r ∧ FV nm H p u ∧ FVs nm H ps r
end
/-- the tuples stay -/
def TK (H H' : Hp) : Prop := ∀ a xs, H a = some (.tup xs) → H' a = some (.tup xs)
theorem TK.refl (H : Hp) : TK H H := fun _ _ h => h
theorem TK.trans {H H1 H2 : Hp} (a : TK H H1) (b : TK H1 H2) : TK H H2 := fun c o h => b c o (a c o h)
theorem TK.of {H H' : Hp} (e : Same H H') : TK H H' := fun _ _ h => e _ _ h
theorem TK.ext {H H' : Hp} (e : LamX.ExtN H H') : TK H H' := fun _ _ h => e _ _ h fun _ z => by cases z
theorem FV.keep {nm : Nat → Str} {H H' : Hp} (t : TK H H') : ∀ f : F, ∀ v, FV nm H f v → FV nm H' f v := by
  refine F.ind (fun i v h => ?_) (fun n f ih v h => ?_) (fun b ps ih v h => ?_)
  · simp only [FV] at h ⊢; obtain ⟨a, e, h⟩ := h; exact ⟨a, e, t _ _ h⟩
  · simp only [FV] at h ⊢; obtain ⟨a, u, e, h, hf⟩ := h; exact ⟨a, u, e, t _ _ h, ih u hf⟩
  · simp only [FV] at h ⊢; obtain ⟨a, c, us, e, h1, h2, hf⟩ := h
    refine ⟨a, c, us, e, t _ _ h1, t _ _ h2, ?_⟩
    have : ∀ (qs : List F) (us : List V), (∀ q ∈ qs, q ∈ ps) → FVs nm H qs us → FVs nm H' qs us := by
      intro qs
      induction qs with
      | nil => intro us _ h; simp only [FVs] at h ⊢; exact h
      | cons q r ihr =>
        intro us hs h
        simp only [FVs] at h ⊢
        obtain ⟨u, r', e, h1, h2⟩ := h
        exact ⟨u, r', e, ih q (hs q List.mem_cons_self) u h1, ihr r' (fun s hs' => hs s (List.mem_cons_of_mem _ hs')) h2⟩
    exact this ps us (fun _ h => h) hf
section
variable {nm : Nat → Str} {H H' : Hp}
theorem FVs.keep (t : TK H H') : ∀ {ps : List F} {us : List V}, FVs nm H ps us → FVs nm H' ps us
  | [], _, h => by simp only [FVs] at h ⊢; exact h
  | p :: ps, _, h => by
    simp only [FVs] at h ⊢
    obtain ⟨u, r, e, h1, h2⟩ := h
    exact ⟨u, r, e, FV.keep t p u h1, FVs.keep t h2⟩
theorem FVs.nil : FVs nm H [] [] := by simp only [FVs]
theorem FVs.cons {p : F} {ps : List F} {u : V} {us : List V} (h : FV nm H p u) (t : FVs nm H ps us) : FVs nm H (p :: ps) (u :: us) := by
  simp only [FVs]; exact ⟨u, us, rfl, h, t⟩
theorem FVs.length : ∀ {ps : List F} {us : List V}, FVs nm H ps us → us.length = ps.length
  | [], _, h => by simp only [FVs] at h; subst h; rfl
  | p :: ps, _, h => by
    simp only [FVs] at h
    obtain ⟨u, r, rfl, h1, h2⟩ := h
    simp only [List.length_cons, FVs.length h2]
theorem FVs.get : ∀ {ps : List F} {us : List V} {i : Nat} {p : F}, FVs nm H ps us → ps[i]? = some p → ∃ u, us[i]? = some u ∧ FV nm H p u
  | [], _, _, _, _, e => by simp at e
  | q :: ps, _, 0, p, h, e => by
    simp only [FVs] at h
    obtain ⟨u, r, rfl, h1, h2⟩ := h
    have e : q = p := by simpa using e
    subst e
    exact ⟨u, rfl, h1⟩
  | q :: ps, _, i + 1, p, h, e => by
    simp only [FVs] at h
    obtain ⟨u, r, rfl, h1, h2⟩ := h
    obtain ⟨v, a, b⟩ := FVs.get (i := i) h2 (by simpa using e)
    exact ⟨v, by simpa using a, b⟩
theorem FVs.append : ∀ {ps qs : List F} {us vs : List V}, FVs nm H ps us → FVs nm H qs vs → FVs nm H (ps ++ qs) (us ++ vs)
  | [], _, _, _, h, t => by simp only [FVs] at h; subst h; exact t
  | p :: ps, _, _, _, h, t => by
    simp only [FVs] at h
    obtain ⟨u, r, rfl, h1, h2⟩ := h
    exact FVs.cons h1 (FVs.append h2 t)
theorem FVs.take : ∀ {ps : List F} {us : List V} (n : Nat), FVs nm H ps us → FVs nm H (ps.take n) (us.take n)
  | _, _, 0, _ => FVs.nil
  | [], _, _ + 1, h => by simp only [FVs] at h; subst h; exact FVs.nil
  | p :: ps, _, n + 1, h => by
    simp only [FVs] at h
    obtain ⟨u, r, rfl, h1, h2⟩ := h
    exact FVs.cons h1 (FVs.take n h2)
theorem FVs.drop : ∀ {ps : List F} {us : List V} (n : Nat), FVs nm H ps us → FVs nm H (ps.drop n) (us.drop n)
  | _, _, 0, h => h
  | [], _, _ + 1, h => by simp only [FVs] at h; subst h; exact FVs.nil
  | p :: ps, _, n + 1, h => by
    simp only [FVs] at h
    obtain ⟨u, r, rfl, h1, h2⟩ := h
    exact FVs.drop n h2
theorem FVs.lt {ps : List F} {us : List V} {i : Nat} {u : V} (h : FVs nm H ps us) (e : us[i]? = some u) : ∃ p, ps[i]? = some p ∧ FV nm H p u := by
  have l := (List.getElem?_eq_some_iff.mp e).1
  rw [h.length] at l
  obtain ⟨v, a, b⟩ := FVs.get (i := i) h (List.getElem?_eq_getElem l)
  rw [e] at a
  cases a
  exact ⟨_, List.getElem?_eq_getElem l, b⟩
/-- a formula's value is a tuple of two or three items -/
theorem FV.tup : ∀ {f : F} {v : V}, FV nm H f v → ∃ a xs, v = .ref a ∧ H a = some (.tup xs) ∧ 2 ≤ xs.length
  | .kind i, v, h => by simp only [FV] at h; obtain ⟨a, e, h⟩ := h; exact ⟨a, _, e, h, by simp⟩
  | .many n f, v, h => by simp only [FV] at h; obtain ⟨a, u, e, h, _⟩ := h; exact ⟨a, _, e, h, by simp⟩
  | .node b ps, v, h => by simp only [FV] at h; obtain ⟨a, c, us, e, h, _⟩ := h; exact ⟨a, _, e, h, by simp⟩
end
theorem same_upd {H : Hp} {p : Addr} {o : HO} (h : H p = none) : Same H (upd H p o) := fun b x e => by
  rw [upd_ne (ne_of_none e h)]
  exact e
theorem TK.upd {H : Hp} {p : Addr} {o : HO} (h : H p = none) : TK H (upd H p o) := TK.of (same_upd h)
/-! depth of nesting -/
mutual
def dep : F → Nat
  | .kind _ => 0
  | .many _ f => dep f + 1
  | .node _ ps => depL ps + 1
def depL : List F → Nat
  | [] => 0
  | p :: ps => max (dep p) (depL ps)
end
theorem dep_part {p : F} : ∀ {ps : List F}, p ∈ ps → dep p ≤ depL ps
  | q :: ps, h => by
    simp only [depL]
    rcases List.mem_cons.mp h with rfl | h
    · exact Nat.le_max_left _ _
    · exact Nat.le_trans (dep_part h) (Nat.le_max_right _ _)
end Nf

/-! ## K1 -/
set_option Elab.async false
set_option linter.all false
set_option maxRecDepth 100000
set_option maxHeartbeats 4000000
namespace Nf
open PySem PySem.Spec PyProof.Rows L2
section
variable {P : Program} {w : World} {K : PySem.W.Frag} {mg : Str → Option Value} {base : Heap} {k : Nat} {x : Str} {N ps : List Str} {st : Stmt} {f : Addr} {fd : FuncData} {sp : Sp}
/-- a def keeps its promise, by its body -/
theorem kept_of (F : FunD K x x (defArgs st) (defBody st) (defScope st) [] [] f fd) (m : mg x = some (.ref f)) (S : FnScope N ps (defScope st))
    (b : ∀ (kV doc pm : Value) (an : Option Addr) (cdv ct : Value) (us : List Value), us.length = ps.length → bindArgs (PySem.W.fnOf x x (defArgs st) (defBody st) (defScope st) .none kV doc pm an cdv ct) ⟨us, []⟩ = pure (ps.zip us))
    (len : ∀ vs H Q E, sp vs H Q E → vs.length = ps.length)
    (hbody : ∀ (cdv : Value) (A : Around) (outer : List Env) (s : Shared) (H : Hp) (vs : List V) (Q : VK) (E : XK), Room k (A.deeper (envOfC x (defScope st) s.heap.objs.size f cdv)) → sp vs H Q E →
      ∃ t, PSs (cxOf CX0 P w K mg base N x (defScope st) f cdv A outer s H E).nox (defBody st) t ∧ t { nx := fun _ H' => Q .non H', rt := Q } (start N vs) H) : Kept P w K mg base (k + 1) x ps sp :=
  ⟨f, fd, m, F.kp, F.bindsN b, look_of F, F.ok S len fun cdv A outer s H vs Q E hr h =>
    let ⟨t, a, b⟩ := hbody cdv A outer s H vs Q E hr h
    ⟨t, PSs.nox a, b⟩⟩
/-- a promise that nothing asks for -/
theorem kept_zero (F : FunD K x x (defArgs st) (defBody st) (defScope st) [] [] f fd) (m : mg x = some (.ref f))
    (b : ∀ (kV doc pm : Value) (an : Option Addr) (cdv ct : Value) (us : List Value), us.length = ps.length → bindArgs (PySem.W.fnOf x x (defArgs st) (defBody st) (defScope st) .none kV doc pm an cdv ct) ⟨us, []⟩ = pure (ps.zip us))
    (no : ∀ vs H Q E, ¬ sp vs H Q E) : Kept P w K mg base 0 x ps sp :=
  ⟨f, fd, m, F.kp, F.bindsN b, look_of F, ⟨fun vs H Q E h => absurd h (no vs H Q E), fun A outer s H args us vs Q E _ _ _ _ h => absurd h (no vs H Q E)⟩⟩
end
/-! ### small facts -/
theorem kk : decide (V.str "kind" = V.str "kind") = true := by decide +kernel
theorem mk_ : decide (V.str "many" = V.str "kind") = false := by decide +kernel
theorem mm : decide (V.str "many" = V.str "many") = true := by decide +kernel
theorem wk (b : Bool) : decide (V.str (word b) = V.str "kind") = false := by cases b <;> decide +kernel
theorem wm (b : Bool) : decide (V.str (word b) = V.str "many") = false := by cases b <;> decide +kernel
theorem wa (b : Bool) : decide (V.str (word b) = V.str "and") = b := by cases b <;> decide +kernel
theorem wo (b : Bool) : decide (V.str (word b) = V.str "or") = !b := by cases b <;> decide +kernel
theorem ifT {c : Prop} [Decidable c] {A B : Prop} (e : c) (h : A) : if c then A else B := by rw [if_pos e]; exact h
theorem ifF {c : Prop} [Decidable c] {A B : Prop} (e : ¬ c) (h : B) : if c then A else B := by rw [if_neg e]; exact h
theorem ifDT {c : Bool} {A B : Prop} (e : c = true) (h : A) : if c = true then A else B := by rw [if_pos e]; exact h
theorem ifDF {c : Bool} {A B : Prop} (e : c = false) (h : B) : if c = true then A else B := by rw [e]; exact iteF h
theorem yesT {σ : L2.St} {H : Hp} {f g : Hp → Prop} (h : f H) : tYes σ H (fun b H3 => if b = true then f H3 else g H3) := iteT (A := f H) (B := g H) h
theorem lt_line {n : Nat} (h : n ≤ 1000) : n < sizeLine := small1000 h
theorem le_line {n : Nat} (h : n ≤ 1000) : n ≤ sizeLine := Nat.le_of_lt (small1000 h)
/-- the value list of names -/
abbrev nv (nm : Nat → Str) (l : List Nat) : List V := l.map fun i => V.str (nm i)

/-! ### two clauses: over a tuple, then over what is made -/
theorem lc_tup2 {K : PySem.W.Frag} {a : Addr} {xs : List V} {g g1 : TG} {tt tt1 : TT} {wi1 : TI} {te : TE} {vs vs1 : List Nat} {σ : L2.St} {H1 : Hp} {D : Addr} {Qd : Hp → Prop} (Pv : Nat → Hp → Prop) (h0 : Pv 0 (upd H1 D (.lst []))) (hl : ∀ i H, i ≤ xs.length → Pv i H → SqT K H a xs)
    (hs : ∀ i x H, xs[i]? = some x → Pv i H → g x (wipe σ vs) H fun σ2 H2 => wipe σ2 vs = wipe σ vs ∧ tt σ2 H2 fun b H3 =>
      if b = true then wi1 σ2 H3 fun J1 H4 => ∃ W1 : Nat → Nat → Hp → Prop, (∃ m, W1 0 m H4) ∧ ∀ j k H, W1 j k H →
        (J1.stop j H ∧ Pv (i + 1) H) ∨ (J1.go j H ∧ ∃ Nx1 : Hp → Prop, (∀ H', Nx1 H' → ∃ k', k' < k ∧ W1 (j + 1) k' H') ∧ ∀ x H', J1.yld j H x H' → g1 x (wipe σ2 vs1) H' fun σ3 H5 => wipe σ3 vs1 = wipe σ2 vs1 ∧ tt1 σ3 H5 fun b H6 =>
          if b = true then te σ3 H6 fun y H7 => ∃ acc, H7 D = some (.lst acc) ∧ acc.length < sizeLine ∧ Nx1 (upd H7 D (.lst (acc ++ [y]))) else Nx1 H6)
      else Pv (i + 1) H3) (hd : ∀ H, Pv xs.length H → Qd H) :
    ∃ W : Nat → Nat → Hp → Prop, (∃ m, W 0 m (upd H1 D (.lst []))) ∧ ∀ i m H, W i m H →
      ((Itt K a).stop i H ∧ Qd H) ∨ ((Itt K a).go i H ∧ ∃ Nx : Hp → Prop, (∀ H', Nx H' → ∃ m', m' < m ∧ W (i + 1) m' H') ∧ ∀ x H', (Itt K a).yld i H x H' → g x (wipe σ vs) H' fun σ2 H2 => wipe σ2 vs = wipe σ vs ∧ tt σ2 H2 fun b H3 =>
        if b = true then wi1 σ2 H3 fun J1 H4 => ∃ W1 : Nat → Nat → Hp → Prop, (∃ m, W1 0 m H4) ∧ ∀ j k H, W1 j k H →
          (J1.stop j H ∧ Nx H) ∨ (J1.go j H ∧ ∃ Nx1 : Hp → Prop, (∀ H', Nx1 H' → ∃ k', k' < k ∧ W1 (j + 1) k' H') ∧ ∀ x H', J1.yld j H x H' → g1 x (wipe σ2 vs1) H' fun σ3 H5 => wipe σ3 vs1 = wipe σ2 vs1 ∧ tt1 σ3 H5 fun b H6 =>
            if b = true then te σ3 H6 fun y H7 => ∃ acc, H7 D = some (.lst acc) ∧ acc.length < sizeLine ∧ Nx1 (upd H7 D (.lst (acc ++ [y]))) else Nx1 H6)
        else Nx H3) := by
  refine ⟨fun i m H => m = xs.length - i ∧ i ≤ xs.length ∧ Pv i H, ⟨xs.length, by simp, Nat.zero_le _, h0⟩, ?_⟩
  rintro i m H ⟨rfl, hi, p⟩
  have q := hl i H hi p
  by_cases hlt : i < xs.length
  · refine .inr ⟨⟨xs, xs[i], q, by simp [hlt]⟩, Pv (i + 1), fun H' p' => ⟨xs.length - (i + 1), by omega, rfl, hlt, p'⟩, fun x H' y => ?_⟩
    obtain ⟨e, y⟩ := y
    subst e
    exact hs i x _ (y xs q) p
  · have e : i = xs.length := by omega
    subst e
    exact .inl ⟨⟨xs, q, Nat.le_refl _⟩, hd H p⟩
theorem lc_inl {K : PySem.W.Frag} {b : Addr} {ys : List V} {g1 : TG} {tt1 : TT} {te : TE} {vs1 : List Nat} {σ : L2.St} {H4 : Hp} {D : Addr} {Nx : Hp → Prop} (Pv : Nat → Hp → Prop) (h0 : Pv 0 H4) (hl : ∀ i H, i ≤ ys.length → Pv i H → SqL K H b ys)
    (hs : ∀ i x H, ys[i]? = some x → Pv i H → g1 x (wipe σ vs1) H fun σ3 H5 => wipe σ3 vs1 = wipe σ vs1 ∧ tt1 σ3 H5 fun b H6 =>
      if b = true then te σ3 H6 fun y H7 => ∃ acc, H7 D = some (.lst acc) ∧ acc.length < sizeLine ∧ Pv (i + 1) (upd H7 D (.lst (acc ++ [y]))) else Pv (i + 1) H6) (hd : ∀ H, Pv ys.length H → Nx H) :
    ∃ W1 : Nat → Nat → Hp → Prop, (∃ m, W1 0 m H4) ∧ ∀ j k H, W1 j k H →
      ((Itl K b).stop j H ∧ Nx H) ∨ ((Itl K b).go j H ∧ ∃ Nx1 : Hp → Prop, (∀ H', Nx1 H' → ∃ k', k' < k ∧ W1 (j + 1) k' H') ∧ ∀ x H', (Itl K b).yld j H x H' → g1 x (wipe σ vs1) H' fun σ3 H5 => wipe σ3 vs1 = wipe σ vs1 ∧ tt1 σ3 H5 fun b H6 =>
        if b = true then te σ3 H6 fun y H7 => ∃ acc, H7 D = some (.lst acc) ∧ acc.length < sizeLine ∧ Nx1 (upd H7 D (.lst (acc ++ [y]))) else Nx1 H6) := by
  refine ⟨fun i m H => m = ys.length - i ∧ i ≤ ys.length ∧ Pv i H, ⟨ys.length, by simp, Nat.zero_le _, h0⟩, ?_⟩
  rintro i m H ⟨rfl, hi, p⟩
  have q := hl i H hi p
  by_cases hlt : i < ys.length
  · refine .inr ⟨⟨ys, ys[i], q, by simp [hlt]⟩, Pv (i + 1), fun H' p' => ⟨ys.length - (i + 1), by omega, rfl, hlt, p'⟩, fun x H' y => ?_⟩
    obtain ⟨e, y⟩ := y
    subst e
    exact hs i x _ (y ys q) p
  · have e : i = ys.length := by omega
    subst e
    exact .inl ⟨⟨ys, q, Nat.le_refl _⟩, hd H p⟩

/-! ### names_in -/
theorem sc_names_in : FnScope ["formula", "part", "name"] ["formula"] (defScope s_names_in) := ⟨rfl, rfl, rfl, by decide +kernel, rfl, by decide +kernel, by decide +kernel⟩
def spNames (nm : Nat → Str) (n : Nat) : Sp := fun vs H Q _ => ∃ (v : V) (f : F), vs = [v] ∧ FV nm H f v ∧ dep f < n ∧ f.names.length ≤ 1000 ∧
  ∀ (p : Addr) (H' : Hp), Same H H' → H p = none → H' p = some (.lst (nv nm f.names)) → Q (.ref p) H'
section
variable {P : Program} {w : World} {K : PySem.W.Frag} {mg : Str → Option Value} {base : Heap} {nm : Nat → Str}
theorem ok_names_in (T : Txt K mg) : ∀ n, Kept P w K mg base n "names_in" ["formula"] (spNames nm n)
  | 0 => by
    obtain ⟨fd, FD⟩ := T.f_names_in
    exact kept_zero FD T.m_names_in (fun _ _ _ _ _ _ us hl => match us, hl with | [_], _ => rfl) fun vs H Q E h => by obtain ⟨_, _, _, _, h, _⟩ := h; omega
  | n + 1 => by
    have G := ok_names_in T n
    obtain ⟨fd, FD⟩ := T.f_names_in
    refine kept_of FD T.m_names_in sc_names_in (fun _ _ _ _ _ _ us hl => match us, hl with | [_], _ => rfl) (fun vs H Q E h => ?_) (fun cdv A outer s H vs Q E hr h => ?_)
    · obtain ⟨v, f, rfl, _⟩ := h
      rfl
    obtain ⟨v, f, rfl, hf, hd, hl, q⟩ := h
    refine ⟨_, pss_cons (ps_if (pt_cmpR op_eq (pe_ix ix_tup (pv 0) pe_int (fun _ _ => rfl)) pe_str (nomark _)) (pss_one (ps_ret (pe_lst (pa_cons (pe_ix ix_tup (pv 0) pe_int (fun _ _ => rfl)) pa_nil)))) pss_nil)
      (pss_cons (ps_if (pt_cmpR op_eq (pe_ix ix_tup (pv 0) pe_int (fun _ _ => rfl)) pe_str (nomark _)) (pss_one (ps_ret (pe_kc G hr rfl (pa_cons (pe_ix ix_tup (pv 0) pe_int (fun _ _ => rfl)) pa_nil)))) pss_nil)
      (pss_one (ps_ret (pe_lc2 (own := [("part", 1), ("name", 2)]) (vs1 := [2]) (g := gName 1) (tt := tYes) (g1 := gName 2) (tt1 := tYes) (wi1 := iList K (tCall (spNames nm n) [] E0 (tCons (tVar 1) tNil))) rfl sc_names_in.nd (pi_tup (pe_ix ix_tup (pv 0) pe_int (fun _ _ => rfl)))
        (blkOk_by (N := ["formula", "part", "name"]) (sc := defScope s_names_in) (by decide +kernel)) (by decide)
        (fun _ _ _ _ _ => pg_name (i := 1) sc_names_in.nd rfl (Or.inl rfl)) (fun _ _ _ _ _ => pts_nil)
        (fun _ _ _ _ _ => pi_list (pe_kc G hr rfl (pa_cons (pv 1) pa_nil)))
        (fun _ _ _ _ _ => pg_name (i := 2) sc_names_in.nd rfl (Or.inl rfl)) (fun _ _ _ _ _ => pts_nil)
        (fun _ _ _ _ _ => pv 2))))), ?_⟩
    cases f with
    | kind i =>
      simp only [FV] at hf
      obtain ⟨a, rfl, ha⟩ := hf
      refine ⟨_, rfl, a, _, 0, _, rfl, rfl, SqT.of ha, atI_nat (j := 0) rfl, rfl, _, rfl, ifDT kk ?_⟩
      refine ⟨_, rfl, a, _, 1, _, rfl, rfl, SqT.of ha, atI_nat (j := 1) rfl, (by show 1 ≤ sizeLine; decide), fun p hp => ?_⟩
      exact q p _ (same_upd hp) hp (by rw [upd_same]; simp only [F.names, nv, List.map_cons, List.map_nil])
    | many m f =>
      simp only [FV] at hf
      obtain ⟨a, u, rfl, ha, hu⟩ := hf
      refine ⟨_, rfl, a, _, 0, _, rfl, rfl, SqT.of ha, atI_nat (j := 0) rfl, rfl, _, rfl, ifDF mk_ ?_⟩
      refine ⟨_, rfl, a, _, 0, _, rfl, rfl, SqT.of ha, atI_nat (j := 0) rfl, rfl, _, rfl, ifDT mm ?_⟩
      refine ⟨_, rfl, a, _, 2, _, rfl, rfl, SqT.of ha, atI_nat (j := 2) rfl, u, f, rfl, hu, ?_, ?_, ?_⟩
      · simp only [dep] at hd; omega
      · simpa only [F.names] using hl
      · intro p H' e n hp; exact q p H' e n (by simpa only [F.names] using hp)
    | node b ps =>
      simp only [FV] at hf
      obtain ⟨a, c, us, rfl, ha, hc, hus⟩ := hf
      simp only [F.names] at hl q
      simp only [dep] at hd
      refine ⟨_, rfl, a, _, 0, _, rfl, rfl, SqT.of ha, atI_nat (j := 0) rfl, rfl, _, rfl, ifDF (wk b) ?_⟩
      refine ⟨_, rfl, a, _, 0, _, rfl, rfl, SqT.of ha, atI_nat (j := 0) rfl, rfl, _, rfl, ifDF (wm b) ?_⟩
      refine ⟨_, rfl, a, _, 1, _, rfl, rfl, SqT.of ha, atI_nat (j := 1) rfl, c, rfl, ⟨_, SqT.of hc⟩, fun D hD => ?_⟩
      have s0 : Same H (upd H D (.lst [])) := same_upd hD
      -- after i parts D holds the names of the first i
      refine lc_tup2 (K := K) (a := c) (xs := us) (fun i H' => Same H H' ∧ H' D = some (.lst (nv nm (namesL (ps.take i))))) ⟨s0, by rw [upd_same]; rfl⟩ (fun i H' _ h => SqT.of (h.1 _ _ hc)) ?_ ?_
      · intro i u H1 hi ⟨e1, hD1⟩
        obtain ⟨p, hp, hu⟩ := hus.lt hi
        have ep : namesL (ps.take (i + 1)) = namesL (ps.take i) ++ p.names := by
          rw [List.take_add_one, hp, namesL_append]; simp [namesL]
        have hlen : (namesL (ps.take (i + 1))).length ≤ 1000 := by
          have : (namesL (ps.take (i + 1) ++ ps.drop (i + 1))).length ≤ 1000 := by rw [List.take_append_drop]; exact hl
          rw [namesL_append, List.length_append] at this
          omega
        have hlp : p.names.length ≤ 1000 := by rw [ep, List.length_append] at hlen; omega
        refine ⟨rfl, yesT ?_⟩
        refine ⟨u, rfl, u, p, rfl, hu.keep (TK.of e1), ?_, hlp, fun b H2 e2 nb hb => ?_⟩
        · have := dep_part (List.mem_of_getElem? hp); omega
        have hD2 : H2 D = some (.lst (nv nm (namesL (ps.take i)))) := e2 _ _ hD1
        have nbD : b ≠ D := (ne_of_none hD1 nb).symm
        refine ⟨b, rfl, ⟨_, SqL.of hb⟩, ?_⟩
        refine lc_inl (K := K) (b := b) (ys := nv nm p.names) (fun j H3 => Same H H3 ∧ H3 b = some (.lst (nv nm p.names)) ∧ H3 D = some (.lst (nv nm (namesL (ps.take i) ++ p.names.take j)))) ⟨e1.trans e2, hb, by rw [List.take_zero, List.append_nil]; exact hD2⟩ (fun j H3 _ h => SqL.of h.2.1) ?_ ?_
        · intro j y H3 hj ⟨e3, hb3, hD3⟩
          refine ⟨rfl, yesT ⟨y, rfl, _, hD3, ?_, ?_, ?_, ?_⟩⟩
          · rw [ep, List.length_append] at hlen
            refine lt_line ?_
            rw [List.length_map, List.length_append, List.length_take]
            omega
          · intro d o ed
            rw [upd_ne (ne_of_none ed hD)]
            exact e3 _ _ ed
          · rw [upd_ne nbD]; exact hb3
          · rw [upd_same]
            rw [List.getElem?_map] at hj
            cases hz : p.names[j]? with
            | none => rw [hz] at hj; cases hj
            | some z =>
              rw [hz] at hj
              cases hj
              rw [List.take_add_one, hz, ← List.append_assoc]
              simp only [nv, List.map_append, Option.toList, List.map_cons, List.map_nil]
        · intro H3 ⟨e3, hb3, hD3⟩
          refine ⟨e3, ?_⟩
          rw [hD3, ep]
          simp only [nv, List.length_map, List.take_length]
      · intro H1 ⟨e1, hD1⟩
        refine q D H1 e1 hD ?_
        rw [hD1, hus.length, List.take_length]
end
end Nf

/-! ## KLam -/
set_option Elab.async false
set_option linter.all false
set_option maxRecDepth 100000
set_option maxHeartbeats 4000000
/-! a lambda with parameters; sorted(xs, key=lambda ..) -/
namespace Nf
open PySem PySem.Spec PyProof.Rows L2
open NdefX (NF ncx inv_startN startF NScope CellsAt envF codeO_at)
open LamX (CodeO TabS TabB ExtN)
/-- the object at f is the lambda F with the body e -/
def LamO (f : Addr) (F : NF) (e : Expr) : HO := .ext fun h => ∃ pm ctv : Value, h.get? f = some (PySem.W.kla_obj "<lambda>" F.qual F.params e F.scope F.cl pm F.c ctv)
theorem lamO_at {P : Program} {w : World} {H : Hp} {h : Heap} {f : Addr} {F : NF} {e : Expr} (hok : HOk P w H h) (x : H f = some (LamO f F e)) : ∃ pm ctv : Value, h.get? f = some (PySem.W.kla_obj "<lambda>" F.qual F.params e F.scope F.cl pm F.c ctv) := by
  obtain ⟨z, _, _⟩ := hok f _ x
  exact z
/-- a lambda keeps a promise (its captured names: none) -/
structure LOk (P : Program) (w : World) (K : PySem.W.Frag) (mg : Str → Option Value) (base : Heap) (k : Nat) (f : Addr) (F : NF) (e : Expr) (sp : Sp) : Prop where
  run : ∀ (A : Around) (outer : List Env) (s : Shared) (H : Hp) (us : List Value) (vs : List V) (Q : VK) (E : XK), Room k A → Env0 P w K mg base A outer s H → H f = some (LamO f F e) → H F.c = some (CodeO F.c F.qual) →
    Vals vs us → sp vs H Q E → codeAny (model P w) A (.call (.ref f) ⟨us, []⟩) (CR CX0 outer P w H s Q E) s
section
variable {P : Program} {w : World} {K : PySem.W.Frag} {mg : Str → Option Value} {base : Heap} {N ps : List Str} {F : NF} {f : Addr} {k : Nat} {sp : Sp} {e : Expr}
theorem lok_of (S : NScope N ps [] F.scope) (hcl : F.cl = []) (hb : ∀ (pm ctv : Value) (us : List Value), us.length = ps.length → bindArgs (PySem.W.kla_fn "<lambda>" F.qual F.params e F.scope F.cl pm (.ref F.c) ctv) ⟨us, []⟩ = pure (ps.zip us))
    (len : ∀ vs H Q E, sp vs H Q E → vs.length = ps.length)
    (hbody : ∀ (A : Around) (outer : List Env) (s : Shared) (H : Hp) (vs : List V) (Q : VK) (E : XK), Room k (A.deeper (envF F f s.heap.objs.size)) → sp vs H Q E →
      ∃ t, PE (ncx CX0 P w K mg base N F f A outer s H E) e t ∧ t (startF N vs []) H Q) : LOk P w K mg base (k + 1) f F e sp := by
  refine ⟨fun A outer s H us vs Q E hr e0 hf hc r hsp => ?_⟩
  have hl := len _ _ _ _ hsp
  have lim : s.heap.NoLimit := e0.mod.nolimit.keeps fun b o e => (e0.bs b o e).1
  obtain ⟨pm, ctv, ho⟩ := lamO_at e0.hok hf
  refine PySem.W.kla_callFunE hr.depth ho rfl S.co S.gen rfl (codeO_at e0.hok hc) ?_
  rw [hb pm ctv us (by rw [← r.length]; exact hl)]
  refine wpAny_pure (wpAny_newFunctionEnv S.nocell (fun ⟨n, _⟩ hy => S.par n (List.of_mem_zip hy).1) (fun h₁ hns hsb => ⟨lim.fresh _ hsb, ?_⟩) S.kind)
  show codeAny _ _ (.expr e (envF F f s.heap.objs.size)) _ _
  have kp : ∀ b o, s.heap.get? b = some o → h₁.get? b = some o := fun b o e => hsb.extBut b o (Nat.ne_of_lt (Heap.lt_size e)) (Heap.get?_push_of_some _ e)
  obtain ⟨t, ht, hq⟩ := hbody A outer s H vs Q E (hr.deeper _) hsp
  have C : CellsAt F.cl [] [] s.heap H := by
    rw [hcl]
    exact ⟨rfl, (fun y c z => nomatch (show (none : Option Addr) = some c from z)), (fun x y c z _ => nomatch (show (none : Option Addr) = some c from z)), (fun i y z => by simp at z)⟩
  have I : Inv (ncx CX0 P w K mg base N F f A outer s H E) [] (startF N vs []) H { s with heap := h₁, toks := s.toks + (ps.zip us).length } := inv_startN S hr.hd e0 hl r C hns kp
  refine PySem.W.kla_codeExpr (wpAny_mono (ht.run [] _ (startF N vs []) H Q I hq) (fun v s' hs => ?_) fun e s' hs => hs)
  obtain ⟨x, H', J, rv, q⟩ := hs
  exact ⟨x, H', J.os, J.bare, J.base, J.hok, rv, q⟩
end
section
variable {X : Cx} {pins : List (Addr × Obj)} {σ : L2.St} {H : Hp} {s : Shared}
/-- the object at a, not tracked so far, is tracked from now on -/
theorem HOk.track {P : Program} {w : World} {H : Hp} {h : Heap} {a : Addr} {o : HO} (x : HOk P w H h) (hn : H a = none) (new : ObjOk P w (upd H a o) h a o) : HOk P w (upd H a o) h := fun b u e => by
  by_cases hb : b = a
  · subst hb; rw [upd_same] at e; cases e; exact new
  · rw [upd_ne hb] at e
    exact (x b u e).stay (fun c v _ q => q) (fun c q => by rw [upd_ne (ne_of_none q hn)]; exact q) fun c xs q => by rw [upd_ne (ne_of_none q hn)]; exact q
/-- a lambda's object just made is known from now on -/
theorem inv_lam {F : NF} {e : Expr} {t' : Nat} {pm ctv : Value} {h' : Heap} (I : Inv X pins σ H { s with heap := h', toks := t' }) :
    Inv X pins σ (upd H h'.objs.size (LamO h'.objs.size F e)) { s with heap := h'.push (PySem.W.kla_obj "<lambda>" F.qual F.params e F.scope F.cl pm F.c ctv), toks := t' } := by
  have g : (h'.push (PySem.W.kla_obj "<lambda>" F.qual F.params e F.scope F.cl pm F.c ctv)).get? h'.objs.size = some (PySem.W.kla_obj "<lambda>" F.qual F.params e F.scope F.cl pm F.c ctv) := Heap.get?_push_size _ rfl
  exact I.laid (a := h'.objs.size) (t' := t') (fun b u e => Heap.get?_push_of_some _ e) (Nat.le_refl _) ⟨⟨pm, ctv, g⟩, ⟨_, g⟩, fun h1 h2 ⟨p, t, z⟩ st => ⟨p, t, st _ z⟩⟩
end
/-! ### the lambda as a value -/
/-- the reading of «lambda ..: ..»: a new function, its code object, the table -/
def tLamV (Pt : Addr) (q : Str) (mk : Addr → NF) (e : Expr) : TE := fun σ H Q => TabS H Pt q ∧ ∀ (f c' : Addr) (H1 : Hp), ExtN H H1 → TabS H1 Pt q → H f = none → H1 f = some (LamO f (mk c') e) → H1 c' = some (CodeO c' q) → Q (.ref f) H1
section
variable {X : Cx}
theorem pe_lam {c Pt : Addr} {params : Arguments} {body : Expr} {scope : Scope} {pos : Pos} (TB : TabB X.base X.mg c Pt) (hcode : X.env.code = .ref c)
    (hdef : defaultsOf params X.env = ([], [])) (hfree : ∀ y ∈ scope.names, y.2 ≠ .free) :
    PE X (.Lambda params body scope pos) (tLamV Pt (X.env.qual ++ "<lambda>") (fun c' => ⟨"<lambda>", X.env.qual ++ "<lambda>", params, [], scope, cloFrom X.env.cells scope.names [], c'⟩) body) := by
  refine ⟨fun pins s σ H Q I h => ?_⟩
  obtain ⟨⟨ps, hP, ht, ha⟩, h⟩ := h
  refine PySem.W.kla_eval hdef ?_
  have hfr : ∀ y ∈ scope.names, y.2 = .free → ∃ c, X.env.cells.lookup y.1 = some c := fun y hy e => absurd e (hfree y hy)
  have bP : s.heap.BuiltinsAt X.mg Pt := TB.bm.keeps I.bk
  have oP : s.heap.get? Pt = some { cls := .none, data := .fields ps } := I.hok Pt _ hP
  cases hc : codeAmong pos ps.toList with
  | none =>
    refine PySem.W.kla_makeFunction (mg := X.mg) (c := c) (P := Pt) (ps := ps) (closure_ok hfr) I.ok.glob (I.mod.glob.keeps I.bk) hcode (TB.code.keeps I.bk) oP ht hc TB.gP bP fun c' ctv h' tk hx hge hlt hrec htb => ?_
    obtain ⟨c2, oc, vs, t, e2, hoc, hd, hv⟩ := hrec
    cases e2
    have nC : H c' = none := I.hok.fresh hge
    -- the table told one more, the new code object
    have I1 := LamX.inv_table (t' := tk) (more := #[rawInt pos.line, rawInt pos.col, .ref c']) (h' := h') I hP hx htb hge ⟨oc, vs, t, hoc, hd, hv⟩
    have hE : ExtN H (upd (upd H Pt (.tbl (ps ++ #[rawInt pos.line, rawInt pos.col, .ref c']))) c' (CodeO c' (X.env.qual ++ "<lambda>"))) := fun b o e n => by
      have nb : b ≠ Pt := fun z => by rw [z, hP] at e; exact n ps (Option.some.inj e).symm
      rw [upd_ne (ne_of_none e nC), upd_ne nb]
      exact e
    have T1 : TabS (upd (upd H Pt (.tbl (ps ++ #[rawInt pos.line, rawInt pos.col, .ref c']))) c' (CodeO c' (X.env.qual ++ "<lambda>"))) Pt (X.env.qual ++ "<lambda>") := by
      have eL : (ps ++ #[rawInt pos.line, rawInt pos.col, .ref c']).toList = ps.toList ++ [rawInt pos.line, rawInt pos.col, .ref c'] := by simp
      refine ⟨_, by rw [upd_ne (ne_of_none hP nC), upd_same], by rw [eL]; exact PySem.TriplesOk_snoc _ _ _ _ ht, fun p' cv hcv => ?_⟩
      rw [eL] at hcv
      rcases LamX.among_app _ ht hcv with z | z
      · obtain ⟨c0, e1, e2⟩ := ha p' cv z
        exact ⟨c0, e1, hE _ _ e2 LamX.codeO_ne⟩
      · exact ⟨c', z, upd_same⟩
    have nF := I1.hok.fresh (Nat.le_refl _)
    have I2 := inv_lam (F := ⟨"<lambda>", X.env.qual ++ "<lambda>", params, [], scope, cloFrom X.env.cells scope.names [], c'⟩) (e := body) (pm := (X.mg "__name__").getD .none) (ctv := ctv) I1
    refine ⟨.ref h'.objs.size, _, I2, rfl, ?_⟩
    have hEf : ∀ b o, (upd (upd H Pt (.tbl (ps ++ #[rawInt pos.line, rawInt pos.col, .ref c']))) c' (CodeO c' (X.env.qual ++ "<lambda>"))) b = some o → upd (upd (upd H Pt (.tbl (ps ++ #[rawInt pos.line, rawInt pos.col, .ref c']))) c' (CodeO c' (X.env.qual ++ "<lambda>"))) h'.objs.size (LamO h'.objs.size ⟨"<lambda>", X.env.qual ++ "<lambda>", params, [], scope, cloFrom X.env.cells scope.names [], c'⟩ body) b = some o := fun b o e => by
      rw [upd_ne (ne_of_none e nF)]; exact e
    exact h h'.objs.size c' _ (fun b o e n => hEf b o (hE b o e n)) (T1.ext hEf) (I.hok.fresh (Nat.le_trans hge (Nat.le_of_lt hlt))) upd_same (hEf _ _ upd_same)
  | some cv =>
    obtain ⟨c', e, hco⟩ := ha pos cv hc
    subst e
    refine PySem.W.kla_makeFunctionHit (mg := X.mg) (c := c) (P := Pt) (ps := ps) (closure_ok hfr) I.ok.glob (I.mod.glob.keeps I.bk) hcode (TB.code.keeps I.bk) oP ht hc bP fun ctv h' tk hx hsz => ?_
    have I1 : Inv X pins σ H { s with heap := h', toks := tk } := I.kept hx
    have nF : H h'.objs.size = none := I1.hok.fresh (Nat.le_refl _)
    have I2 := inv_lam (F := ⟨"<lambda>", X.env.qual ++ "<lambda>", params, [], scope, cloFrom X.env.cells scope.names [], c'⟩) (e := body) (pm := (X.mg "__name__").getD .none) (ctv := ctv) I1
    have hS : Same H (upd H h'.objs.size (LamO h'.objs.size ⟨"<lambda>", X.env.qual ++ "<lambda>", params, [], scope, cloFrom X.env.cells scope.names [], c'⟩ body)) := same_upd nF
    exact ⟨.ref h'.objs.size, _, I2, rfl, h h'.objs.size c' _ (ExtN.of hS) (TabS.ext ⟨ps, hP, ht, ha⟩ hS) nF upd_same (hS _ _ hco)⟩
end
end Nf

/-! ## KSortF -/
set_option Elab.async false
set_option linter.all false
set_option maxRecDepth 100000
set_option maxHeartbeats 4000000
/-! sorted(xs, key=f), f a lambda that keeps a promise and hands back texts -/
namespace Nf
open PySem PySem.Spec PyProof.Rows L2
open NdefX (NF)
open LamX (CodeO TabS TabB ExtN)
def leS (x y : Str) : Bool := decide (x.cps.toList ≤ y.cps.toList)
def rSortF (K : PySem.W.Frag) (mk : Addr → NF) (e : Expr) (sp : Sp) : List V → List V → Hp → VK → Prop := fun vs zs H Q => ∃ (a f c' : Addr) (xs : List V) (key : V → Str), vs = [.ref a] ∧ zs = [.ref f] ∧ SqL K H a xs ∧ H f = some (LamO f (mk c') e) ∧ H c' = some (CodeO c' (mk c').qual) ∧ (mk c').c = c' ∧
  (∀ x ∈ xs, ∀ H', Same H H' → sp [x] H' (fun v H'' => v = .str (key x) ∧ Same H' H'') E0) ∧
  ∀ (p : Addr) (H' : Hp), Same H H' → H p = none → H' p = some (.lst (xs.mergeSort fun x y => leS (key x) (key y))) → Q (.ref p) H'
section
variable {X : Cx}
theorem each_vals : ∀ {xs : List V} {us : List Value}, Vals xs us → PySem.W.EachIs (fun u x => RelV x u) us xs
  | _, _, .nil => .nil
  | _, _, .cons r t => .cons r (each_vals t)
theorem vals_each : ∀ {xs : List V} {us : List Value}, PySem.W.EachIs (fun u x => RelV x u) us xs → Vals xs us
  | _, _, .nil => .nil
  | _, _, .cons r t => .cons r (vals_each t)
theorem Un.new {fs : List Addr} {H0 H' : Hp} {h0 h h' : Heap} {kS : Addr} (u : Un fs [] H0 H' h0 h) (hx : ∀ b o, h0.get? b = some o → b ≠ kS) (sb : ∀ b, b ≠ kS → h'.get? b = h.get? b) : Un fs [] H0 H' h0 h' where
  keep := fun b o q n hb hc => (sb b (hx b o q)).trans (u.keep b o q n hb hc)
  slot := fun b o q n hb hc => by
    obtain ⟨sl, e⟩ := u.slot b o q n hb hc
    exact ⟨sl, (sb b (hx b o q)).trans e⟩
  free := u.free
  there := fun b o q hc => by
    obtain ⟨o', e⟩ := u.there b o q hc
    exact ⟨o', (sb b (hx b o q)).trans e⟩
  tups := u.tups
  frzs := u.frzs
  tbls := u.tbls
/-- the loop's state: behind i calls -/
structure KeyAt (X : Cx) (pins : List (Addr × Obj)) (σ : L2.St) (H0 : Hp) (s0 : Shared) (a kS : Addr) (e1 : Nat) (key : V → Str) (xs : List V) (i : Nat) (s' : Shared) (H' : Hp) (kA : Array Value) : Prop where
  inv : Inv X pins σ H' s'
  un : Un (frs X.stack) [] H0 H' s0.heap s'.heap
  os : s'.os = s0.os
  same : Same H0 H'
  na : H' a = none
  nk : H' kS = none
  oa : s'.heap.get? a = some (seqObj "list" #[] e1)
  ok : ∃ e, s'.heap.get? kS = some (seqObj "list" kA e)
  keys : PySem.W.EachIs (fun v k => ∃ t, v = Value.str (key k) t) kA.toList (xs.take i)
theorem sortF_rest {k : Nat} {f : Addr} {F : NF} {e : Expr} {sp : Sp} {pins : List (Addr × Obj)} {σ : L2.St} {H : Hp} {s : Shared} {xs : List V} {vs : List Value} {key : V → Str} {Q : VK} {E : Value → Shared → Prop} {hS : Heap} {a kS : Addr} {e1 : Nat}
    (Fn : LOk X.prog X.w X.K X.mg X.base k f F e sp) (hr : Room (k + 2) X.A) (I : Inv X pins σ H s) (rv : Vals xs vs) (hz : xs.length ≤ sizeLine) (hf : H f = some (LamO f F e)) (hc : H F.c = some (CodeO F.c F.qual))
    (hsp : ∀ x ∈ xs, ∀ H', Same H H' → sp [x] H' (fun v H'' => v = .str (key x) ∧ Same H' H'') E0)
    (q : ∀ (p : Addr) (H' : Hp), Same H H' → H p = none → H' p = some (.lst (xs.mergeSort fun x y => leS (key x) (key y))) → Q (.ref p) H')
    (ha : s.heap.objs.size + 1 ≤ a) (hak : @LT.lt Nat _ a kS) (nk0 : hS.get? kS = some (seqObj "list" #[] 0)) (na0 : hS.get? a = some (seqObj "list" #[] e1)) (old2 : ∀ b o, s.heap.get? b = some o → hS.get? b = some o) :
    wpAny (model X.prog X.w) X.A.in1.in1 (ksk_rest a (.ref f) false vs.toArray e1 (.ref kS)) (fun r s' => r = PySem.Fin.done (.ret .none) ∧ EP X pins σ Q (.ref a) s') E { s with heap := hS } := by
  have ge_a : s.heap.objs.size ≤ a := by omega
  have ge_k : s.heap.objs.size ≤ kS := by omega
  have hka : kS ≠ a := Nat.ne_of_gt hak
  have newA : ∀ b o, s.heap.get? b = some o → b ≠ a := fun b o g => Nat.ne_of_lt (Nat.lt_of_lt_of_le (Heap.lt_size g) ge_a)
  have newK : ∀ b o, s.heap.get? b = some o → b ≠ kS := fun b o g => Nat.ne_of_lt (Nat.lt_of_lt_of_le (Heap.lt_size g) ge_k)
  have frA : a ∉ frs X.stack := fun z => by
    rcases List.mem_cons.mp (I.stkSub _ z) with g | g
    · exact Nat.ne_of_gt (Nat.lt_of_lt_of_le I.lt ge_a) g
    · exact I.nofs ge_a g
  have frK : kS ∉ frs X.stack := fun z => by
    rcases List.mem_cons.mp (I.stkSub _ z) with g | g
    · exact Nat.ne_of_gt (Nat.lt_of_lt_of_le I.lt ge_k) g
    · exact I.nofs ge_k g
  have J0 : KeyAt X pins σ H s a kS e1 key xs 0 { s with heap := hS } H #[] :=
    ⟨I.kept (t' := s.toks) old2, Un.kept old2, rfl, Same.refl H, I.hok.fresh ge_a, I.hok.fresh ge_k, na0, ⟨0, nk0⟩, by rw [List.take_zero]; exact .nil⟩
  have hlen : vs.length = xs.length := rv.length.symm
  unfold ksk_rest
  refine wpAny_bind (wpAny_rule ?_)
  rw [List.forIn_toArray]
  refine wpAny_bind (ksk_fold (fun i s' => ∃ H' kA, KeyAt X pins σ H s a kS e1 key xs i s' H' kA) vs 0 _ ⟨H, #[], J0⟩ ?step ?done)
  case step =>
    rintro j x s' hx ⟨H', kA, J⟩
    simp only [Nat.zero_add] at J ⊢
    have hj : j < vs.length := (List.getElem?_eq_some_iff.mp hx).1
    obtain ⟨y, hy⟩ : ∃ y, xs[j]? = some y := ⟨_, List.getElem?_eq_getElem (by omega)⟩
    obtain ⟨u0, hu0, ry⟩ := rv.get hy
    rw [hx] at hu0
    cases hu0
    obtain ⟨ek, nk'⟩ := J.ok
    have hz1 : kA.size ≤ vs.length := by
      have h1 := J.keys.length
      rw [Array.length_toList, List.length_take] at h1
      omega
    have hr2 : Room k X.A.in1.in1 := (hr.in1 (k := k + 1)).in1
    refine wpAny_bind (wpAny_attempt (wpAny_call (codeAny_mono (Fn.run X.A.in1.in1 X.stack s' H' [x] [y] _ E0 hr2 J.inv.env0.in1.in1 (J.same _ _ hf) (J.same _ _ hc) (.cons ry .nil) (hsp y (List.mem_of_getElem? hy) H' J.same)) fun r s'' hq => ?_)))
    cases r with
    | error e => exact (show False from hq).elim
    | ok fl =>
      cases fl with
      | next => exact False.elim hq
      | brk => exact False.elim hq
      | cont => exact False.elim hq
      | ret u =>
        obtain ⟨v, H'', os, bare, un, hok, rr, rfl, sm⟩ := hq
        obtain ⟨t, rfl⟩ := rr
        have na2 : H'' a = none := un.free a _ J.oa J.na (by simp)
        have nk2 : H'' kS = none := un.free kS _ nk' J.nk (by simp)
        have oa2 : s''.heap.get? a = some (seqObj "list" #[] e1) := un.keep a _ J.oa J.na frA (by simp)
        have ok2 : s''.heap.get? kS = some (seqObj "list" kA ek) := un.keep kS _ nk' J.nk frK (by simp)
        have I2 : Inv X pins σ H'' s'' := J.inv.call' os un hok bare fun b z => absurd z (by simp)
        have s1 := Heap.SameBut.update s''.heap kS (Obj.mapSeq (·.push (Value.str (key y) t)))
        obtain ⟨c2, hc2⟩ : ∃ c2, (s''.heap.update kS (Obj.mapSeq (·.push (Value.str (key y) t)))).get? kS = some (seqObj "list" (kA.push (Value.str (key y) t)) c2) := ⟨_, get?_update_seq ok2 (·.push (Value.str (key y) t))⟩
        obtain ⟨f0, f1, f2, f3, f4, f5⟩ := I.fpOk (H' := H'') ge_k nk2
        have I3 : Inv X pins σ H'' { s'' with heap := s''.heap.update kS (Obj.mapSeq (·.push (Value.str (key y) t))) } := I2.turned (t' := s''.toks) (it := kS) (fun b o hb g => (s1.2 b hb).trans g) f0 f1 f3 f4 f5
        refine wpAny_bind (listUpdate_at ok2 rfl ?_ (by omega) (by rw [Array.size_push]; omega))
        refine wpAny_pure ⟨rfl, H'', kA.push (Value.str (key y) t), I3, Un.new (J.un.trans un) newK (fun b hb => s1.2 b hb), os.trans J.os, J.same.trans sm, na2, nk2, (s1.2 a hka.symm).trans oa2, ⟨c2, hc2⟩, ?_⟩
        have et : xs.take (j + 1) = xs.take j ++ [y] := by rw [List.take_add_one, hy]; rfl
        have ea : (kA.push (Value.str (key y) t)).toList = kA.toList ++ [Value.str (key y) t] := by simp
        rw [et, ea]
        exact PySem.W.each_snoc (R := fun (v : Value) (k : V) => ∃ t, v = Value.str (key k) t) ⟨t, rfl⟩ J.keys
  case done =>
    rintro s' ⟨H', kA, J⟩
    obtain ⟨ek, nk'⟩ := J.ok
    have kx : PySem.W.EachIs (fun v k => ∃ t, v = Value.str (key k) t) kA.toList xs := by
      have h1 := J.keys
      rw [List.take_of_length_le (by omega)] at h1
      exact h1
    have hsz : kA.size = vs.length := by
      have h1 := kx.length
      rw [Array.length_toList] at h1
      omega
    have hk' : PySem.W.EachIs (fun v k => ∃ as, Reads s'.heap v k as) kA.toList (xs.map fun x => PyData.str (key x)) := by
      refine PySem.W.each_map (fun x => PyData.str (key x)) (kx.mono fun v x h => ?_)
      obtain ⟨t, rfl⟩ := h
      exact ⟨[], .str _ _⟩
    have hal : PySem.W.AllAlike (xs.map fun x => PyData.str (key x)) := PySem.W.AllAlike.of fun b b' => by simp [PySem.W.alike]
    have hsk : PySem.W.Sortable (xs.map fun x => PyData.str (key x)) := PySem.W.Sortable.others fun b => ⟨(fun z => by cases z), (fun xs z => by cases z)⟩
    have hu : ∀ d, d ∈ xs.map (fun x => PyData.str (key x)) → X.A.in1.in1.units + d.depth < cLine := fun d hd => by
      obtain ⟨x, _, rfl⟩ := List.mem_map.mp hd
      have := hr.un
      show X.A.units + 1 + 1 + (PyData.str (key x)).depth < cLine
      simp only [PyData.depth]
      omega
    have kp : PySem.W.KeepsBut a (PySem.W.hideAll s'.heap [kS]) s'.heap := fun b o _ g => PySem.W.of_hideAll [kS] g
    have hkN : (PySem.W.hideAll s'.heap [kS]).get? kS = none := PySem.W.hideAll_none [kS] (by simp)
    refine wpAny_bind (listItems_at nk' rfl ?_)
    refine PySem.W.keyH_end (κ := PySem.W.dataKind s'.heap (xs.map fun x => PyData.str (key x))) (h₁ := PySem.W.hideAll s'.heap [kS]) kp hkN nk' J.oa hka (PySem.W.SortsAt.data (s := s') hk' hal hsk hu) hsz (by omega) fun h3 tk3 c3 k3 n3 => ⟨rfl, ?_⟩
    have stay : ∀ b o, b ≠ a → b ≠ kS → s'.heap.get? b = some o → h3.get? b = some o := fun b o n1 n2 g => k3 b o n1 (PySem.W.hideAll_get [kS] g (by simpa using n2))
    have out := PySem.W.keyedOut_each (rev := false) (R := fun (u : Value) (x : V) => RelV x u) (fun x => PyData.str (key x)) (bs := xs) (vs := vs) ⟨s'.heap, kA.toList, hal, rfl, hk'⟩ (each_vals rv)
    rw [PySem.W.dataLe_str] at out
    have rout := vals_each out
    have hl3 : (xs.mergeSort fun x y => leS (key x) (key y)).length ≤ sizeLine := by rw [List.length_mergeSort]; exact hz
    have hokT : HOk X.prog X.w H' h3 := fun b u g => (J.inv.hok b u g).stay (fun c v hcv g2 => by
      have hcn : ∃ o, H' c = some o := hcv.elim (fun z => ⟨u, z ▸ g⟩) fun z => ⟨_, z⟩
      obtain ⟨o, ho⟩ := hcn
      exact stay c v (ne_of_none ho J.na) (ne_of_none ho J.nk) g2) (fun _ z => z) fun _ _ z => z
    have hokF : HOk X.prog X.w (upd H' a (.lst (xs.mergeSort fun x y => leS (key x) (key y)))) h3 := HOk.track hokT J.na ⟨hl3, _, c3, rout, n3⟩
    have keepN : ∀ b, H' b = none → b ≠ a → upd H' a (.lst (xs.mergeSort fun x y => leS (key x) (key y))) b = none := fun b z n => by rw [upd_ne n]; exact z
    have keepS : ∀ b o, H' b = some o → upd H' a (.lst (xs.mergeSort fun x y => leS (key x) (key y))) b = some o := fun b o z => by rw [upd_ne (ne_of_none z J.na)]; exact z
    have unF : Un (frs X.stack) [] H (upd H' a (.lst (xs.mergeSort fun x y => leS (key x) (key y)))) s.heap h3 := ⟨fun b o g n h1 h2 => stay b o (newA b o g) (newK b o g) (J.un.keep b o g n h1 h2), fun b o g n h1 h2 => by
        obtain ⟨sl, z⟩ := J.un.slot b o g n h1 h2
        exact ⟨sl, stay b _ (newA b o g) (newK b o g) z⟩, fun b o g n h2 => keepN b (J.un.free b o g n h2) (newA b o g), fun b o g h2 => by
        obtain ⟨o', z⟩ := J.un.there b o g h2
        exact ⟨o', stay b o' (newA b o g) (newK b o g) z⟩, fun b xs z => keepS _ _ (J.un.tups b xs z), fun b o u z => keepS _ _ (J.un.frzs b o u z), fun b ps z => by
        obtain ⟨m, z2⟩ := J.un.tbls b ps z
        exact ⟨m, keepS _ _ z2⟩⟩
    exact ⟨.ref a, _, I.call' (s' := { s' with heap := h3, toks := tk3 }) J.os unF hokF J.inv.bare (fun b z => absurd z (by simp)), rfl, q a _ (fun b o z => keepS b o (J.same b o z)) (I.hok.fresh ge_a) upd_same⟩
theorem sortF_body {k : Nat} {f : Addr} {F : NF} {e : Expr} {sp : Sp} {pins : List (Addr × Obj)} {σ : L2.St} {H : Hp} {s : Shared} {xs : List V} {vs : List Value} {key : V → Str} {Q : VK} {E : Value → Shared → Prop}
    (Fn : LOk X.prog X.w X.K X.mg X.base k f F e sp) (hr : Room (k + 2) X.A) (I : Inv X pins σ H s) (rv : Vals xs vs) (hz : xs.length ≤ sizeLine) (hf : H f = some (LamO f F e)) (hc : H F.c = some (CodeO F.c F.qual))
    (hsp : ∀ x ∈ xs, ∀ H', Same H H' → sp [x] H' (fun v H'' => v = .str (key x) ∧ Same H' H'') E0)
    (q : ∀ (p : Addr) (H' : Hp), Same H H' → H p = none → H' p = some (.lst (xs.mergeSort fun x y => leS (key x) (key y))) → Q (.ref p) H') :
    wpAny (model X.prog X.w) X.A.in1.in1 (ksk_tree (s.heap.objs.size + 1) (.ref f) false) (fun r s' => r = PySem.Fin.done (.ret .none) ∧ EP X pins σ Q (.ref (s.heap.objs.size + 1)) s') E { s with heap := PySem.W.copyHeap s.heap vs } := by
  have ho := PySem.W.copyHeap_at s.heap vs
  have hlt : s.heap.objs.size + 1 < (PySem.W.copyHeap s.heap vs).objs.size := Heap.lt_size ho
  obtain ⟨e1, ho1⟩ : ∃ e1, ((PySem.W.copyHeap s.heap vs).update (s.heap.objs.size + 1) (Obj.mapSeq fun _ => (#[] : Array Value))).get? (s.heap.objs.size + 1) = some (seqObj "list" #[] e1) := ⟨_, get?_update_seq ho fun _ => #[]⟩
  have hkS : (((PySem.W.copyHeap s.heap vs).update (s.heap.objs.size + 1) (Obj.mapSeq fun _ => (#[] : Array Value))).push (seqObj "tuple" vs.toArray 0)).objs.size = (PySem.W.copyHeap s.heap vs).objs.size + 1 := by rw [size_push', Heap.size_update]
  have h2 : s.heap.objs.size + 1 + 1 ≤ (((PySem.W.copyHeap s.heap vs).update (s.heap.objs.size + 1) (Obj.mapSeq fun _ => (#[] : Array Value))).push (seqObj "tuple" vs.toArray 0)).objs.size := by rw [hkS]; omega
  unfold ksk_tree
  refine wpAny_bind (listItems_at ho rfl ?_)
  refine wpAny_bind (listUpdate_at ho rfl ?_ (by rw [List.size_toArray, ← rv.length]; exact hz) (Nat.zero_le _))
  refine wpAny_bind (seqEpoch_at ho1 rfl ?_)
  refine wpAny_bind (wpAny_newTuple ?_ (by show vs.length ≤ _; rw [← rv.length]; exact hz))
  refine wpAny_bind (wpAny_newList ?_ (Nat.zero_le _))
  refine wpAny_holding ?_
  refine sortF_rest (s := s) (hS := (((PySem.W.copyHeap s.heap vs).update (s.heap.objs.size + 1) (Obj.mapSeq fun _ => (#[] : Array Value))).push (seqObj "tuple" vs.toArray 0)).push (seqObj "list" #[] 0))
    (kS := (((PySem.W.copyHeap s.heap vs).update (s.heap.objs.size + 1) (Obj.mapSeq fun _ => (#[] : Array Value))).push (seqObj "tuple" vs.toArray 0)).objs.size) Fn hr I rv hz hf hc hsp q (Nat.le_refl _) h2
    (Heap.get?_push_size _ rfl) (Heap.get?_push_of_some _ (Heap.get?_push_of_some _ ho1)) (fun b o g => ?_)
  have nb : b ≠ s.heap.objs.size + 1 := Nat.ne_of_lt (Nat.lt_of_lt_of_le (Heap.lt_size g) (Nat.le_succ _))
  exact Heap.get?_push_of_some _ (Heap.get?_push_of_some _ ((Heap.get?_update_ne _ _ _ _ nb).trans (PySem.W.copyHeap_old g)))
/-- sorted(xs, key=f) -/
theorem cr_sortedF {k : Nat} {mk : Addr → NF} {e : Expr} {sp : Sp} (Fn : ∀ f c', LOk X.prog X.w X.K X.mg X.base k f (mk c') e sp) (hr : Room (k + 2) X.A) : CallRK X (.builtin "sorted") [Str.ofString "key"] (rSortF X.K mk e sp) := by
  intro pins s σ H vs zs us ws Q I r rz h
  obtain ⟨a, f, c', xs, key, rfl, rfl, hs, hf, hc, ec, hsp, q⟩ := h
  obtain rfl := Vals.ref1 r
  obtain rfl := Vals.ref1 rz
  obtain ⟨its, rv, hl, hz⟩ := I.list hs
  refine PySem.W.sorted_of_sort hl.isList (by rw [← rv.length]; exact hz) (PyProof.Rows.ksk_s1 _ _) (fun _ => PyProof.Rows.ksk_l1 _ _) fun E' => ?_
  show wpAny _ _ (Builtin.«list.sort» ⟨[.ref (s.heap.objs.size + 1)], [(Str.ofString "key", .ref f)]⟩) _ _ _
  rw [ksk_t1]
  exact sortF_body (Fn f c') hr I rv hz hf (by rw [ec]; exact hc) hsp q
end
end Nf

/-! ## KRules -/
set_option Elab.async false
set_option linter.all false
set_option maxRecDepth 100000
set_option maxHeartbeats 4000000
/-! rules that the layer lacks -/
namespace Nf
open PySem PySem.Spec PyProof.Rows L2
section
variable {X : Cx}
/-! ### xs.extend(t), t a list or a tuple -/
def rExt (K : PySem.W.Frag) : V → List V → Hp → VK → Prop := fun x vs H Q => ∃ l b xs zs, x = .ref l ∧ vs = [.ref b] ∧ H l = some (.lst xs) ∧ (SqT K H b zs ∨ (SqL K H b zs ∧ l ≠ b)) ∧ xs.length + zs.length ≤ sizeLine ∧ Q .non (upd H l (.lst (xs ++ zs)))
theorem extend_any {A : Around} {s : Shared} {prog : Program} {w : World} {S it : Addr} {c₀ n : Nat} {T : String} {o : Obj} {mine items : Array Value} {Q : PySem.Fin → Shared → Prop} {E : Value → Shared → Prop} (hT : T = "list" ∨ T = "tuple")
    (hS : s.heap.get? S = some { cls := .type "list", data := .seq mine c₀ }) (ho : s.heap.get? it = some o) (hc : o.cls = .type T) (hd : o.data = .seq items n) (hz : mine.size + items.size ≤ sizeLine)
    (hQ : Q (.done (.ret .none)) { s with heap := s.heap.update S (Obj.mapSeq (· ++ items)) }) : wpAny (model prog w) A (Builtin.List.listExtendWith (.ref S) (.ref it) .none) Q E s := by
  unfold Builtin.List.listExtendWith
  refine wpAny_bind (wpAny_typeOf ⟨o, ho, hc⟩ ?_)
  have h1 : (Builtin.List.listSameRef (.ref S) (.ref it) || Value.type T == Value.type "list" || Value.type T == Value.type "tuple") = true := by
    rcases hT with rfl | rfl <;> simp
  simp only [h1, if_true]
  have h2 : (!mine.isEmpty && Builtin.List.listTooLong (mine.size + items.size)) = false := by
    rw [notLongL hz, Bool.and_false]
  refine wpAny_bind (listItems_at ho hd ?_)
  refine wpAny_bind (listItems_at hS rfl ?_)
  simp only [h2, Bool.false_eq_true, if_false]
  refine wpAny_bind (listUpdate_at hS rfl ?_ (by omega) (by rw [Array.size_append]; omega))
  exact wpAny_pure hQ
theorem mt_ext : MtR X "list.extend" (rExt X.K) := by
  intro pins s σ H x vs v us Q I rx rv h
  obtain ⟨l, b, xs, zs, rfl, rfl, hH, hB, hz, q⟩ := h
  cases rx
  obtain ⟨u, rfl, ru⟩ := rv.one
  cases ru
  obtain ⟨z, its, n, r, hl, e⟩ := I.lstM hH
  have fin : ∀ {T : String} {o : Obj} {n2 : Nat} {its2 : List Value}, T = "list" ∨ T = "tuple" → s.heap.get? b = some o → o.cls = .type T → o.data = .seq its2.toArray n2 → Vals zs its2 →
      wpAny (model X.prog X.w) X.A (call (.builtin "list.extend") [.ref l, .ref b]) (EP X pins σ Q) X.xe s := fun {T o n2 its2} hT ho hc hd r2 => by
    have l2 := r2.length
    refine wpAny_call_entry F.slot_list_extend ⟨_, e, rfl⟩ F.entry_list_extend ?_ (F.args_list_extend_2 _ _)
    refine extend_any hT e ho hc hd (by rw [List.size_toArray, List.size_toArray]; omega) ⟨.none, rfl, ?_⟩
    exact ⟨.non, _, I.lset (its' := its ++ its2) (t' := s.toks) hH e (by simp) (r.append r2) (by rw [List.length_append]; omega), rfl, q⟩
  rcases hB with hB | ⟨hB, _⟩
  · obtain ⟨its2, r2, ⟨o, ho, hc, n2, hd⟩, _⟩ := I.tuple hB
    exact fin (.inr rfl) ho hc hd r2
  · obtain ⟨its2, r2, ⟨o, n2, ho, hc, hdi, hd⟩, _⟩ := I.list hB
    exact fin (.inl rfl) ho hc hd r2

/-! ### sorted(xs), xs a list of tuples of whole numbers -/
def IsT (K : PySem.W.Frag) (H : Hp) (x : V) (ns : List Int) : Prop := ∃ t, x = .ref t ∧ SqT K H t (ns.map V.int)
def leI (ns ms : List Int) : Bool := decide (ns ≤ ms)
def rSortT (K : PySem.W.Frag) : List V → Hp → VK → Prop := fun vs H Q => ∃ (a : Addr) (xs : List V) (ks : List (List Int)), vs = [.ref a] ∧ SqL K H a xs ∧ All2 (IsT K H) xs ks ∧ (∀ ns ∈ ks, ns ≠ []) ∧
  ∀ (ys : List V) (p : Addr), All2 (IsT K H) ys (ks.mergeSort leI) → H p = none → Q (.ref p) (upd H p (.lst ys))
theorem dataLe_tups : PySem.W.dataLe false (fun ns : List Int => PyData.tuple (ns.map .int)) = leI := by
  funext p q
  show (!PySem.W.dataLt (.tuple (q.map .int)) (.tuple (p.map .int))) = _
  rw [PySem.W.dataLt_tuple]
  show (!PySem.W.rowLt (q.map .int) (p.map .int)) = _
  rw [PySem.W.dataLt_ints]
  unfold leI
  by_cases h : q < p
  · have h' : ¬ p ≤ q := fun r => List.not_lt.mpr r h
    simp [h, h']
  · have h' : p ≤ q := List.not_lt.mp h
    simp [h, h']
theorem All2.length {α β : Type} {R : α → β → Prop} : ∀ {as : List α} {bs : List β}, All2 R as bs → as.length = bs.length
  | _, _, .nil => rfl
  | _, _, .cons _ t => by simp only [List.length_cons, t.length]
theorem dpAll_ints (K : PySem.W.Frag) (H : Hp) : ∀ ns : List Int, DpAll K H (ns.map V.int) (ns.map PyData.int)
  | [] => .nil
  | n :: r => .cons (.int n) (dpAll_ints K H r)
theorem dpAll_strs (K : PySem.W.Frag) (H : Hp) : ∀ zs : List Str, DpAll K H (zs.map V.str) (zs.map PyData.str)
  | [] => .nil
  | n :: r => .cons (.str n) (dpAll_strs K H r)
theorem cr_sortT (hu : X.A.units + 64 < cLine) : CallR X (.builtin "sorted") (rSortT X.K) := by
  intro pins s σ H vs us Q I r h
  obtain ⟨a, xs, ks, rfl, hs, hk, hne, q⟩ := h
  obtain ⟨its, rv, hl, hz⟩ := I.list hs
  rw [Vals.ref1 r]
  -- the items as data, the items as what they are
  have er : ∀ {xs : List V} {ks : List (List Int)} {its : List Value}, All2 (IsT X.K H) xs ks → Vals xs its → PySem.W.EachIs (fun v ns => ∃ as, Reads s.heap v (PyData.tuple (ns.map .int)) as) its ks := by
    intro xs ks its h rv
    induction h generalizing its with
    | nil => cases rv; exact .nil
    | cons hx _ ih =>
      cases rv with
      | cons r1 r2 =>
        obtain ⟨t, rfl, ht⟩ := hx
        obtain ⟨as, e⟩ := Dp.reads I _ _ _ (Dp.tup ht (dpAll_ints _ _ _)) r1
        exact .cons ⟨as, e⟩ (ih r2)
  have ei : ∀ {xs : List V} {ks : List (List Int)} {its : List Value}, All2 (IsT X.K H) xs ks → Vals xs its → PySem.W.EachIs (fun v ns => ∃ t, v = Value.ref t ∧ SqT X.K H t (ns.map V.int)) its ks := by
    intro xs ks its h rv
    induction h generalizing its with
    | nil => cases rv; exact .nil
    | cons hx _ ih =>
      cases rv with
      | cons r1 r2 =>
        obtain ⟨t, rfl, ht⟩ := hx
        cases r1
        exact .cons ⟨t, rfl, ht⟩ (ih r2)
  have back : ∀ {out : List Value} {ls : List (List Int)}, PySem.W.EachIs (fun v ns => ∃ t, v = Value.ref t ∧ SqT X.K H t (ns.map V.int)) out ls → ∃ ys : List V, Vals ys out ∧ All2 (IsT X.K H) ys ls := by
    intro out ls h
    induction h with
    | nil => exact ⟨[], .nil, .nil⟩
    | cons hx _ ih =>
      obtain ⟨ys, a, b⟩ := ih
      obtain ⟨t, rfl, ht⟩ := hx
      exact ⟨.ref t :: ys, .cons rfl a, .cons ⟨t, rfl, ht⟩ b⟩
  have hln : ks.length ≤ sizeLine := by rw [← hk.length]; exact hz
  have hd : ∀ ns ∈ ks, X.A.units + 2 + (PyData.tuple (ns.map PyData.int)).depth < cLine := fun ns _ => by
    simp only [PyData.depth, PySem.W.depth_ints]
    omega
  refine PySem.W.sorted_data (enc := fun ns : List Int => PyData.tuple (ns.map .int)) hl.isList (ei hk rv) (er hk rv) (PySem.W.AllAlike.of fun a b => ?_) (.inl fun d hd => ?_) hln hd fun out ho eo => ?_
  · simp only [PySem.W.alike]; exact PySem.W.alike_ints a b
  · obtain ⟨ns, hn, rfl⟩ := List.mem_map.mp hd
    cases ns with
    | nil => exact absurd rfl (hne _ hn)
    | cons n r => exact ⟨_, _, rfl⟩
  · rw [dataLe_tups] at eo
    obtain ⟨ys, v1, v2⟩ := back eo
    obtain ⟨ep, he'⟩ := PyProof.Rows.sortedAll_at s.heap its out.toArray
    have hly : ys.length ≤ sizeLine := by rw [v2.length, List.length_mergeSort]; exact hln
    exact ⟨.ref _, upd H (s.heap.objs.size + 1) (.lst ys), I.laid (t' := s.toks) (fun _ _ => PyProof.Rows.sortedAll_old) (Nat.le_succ _) ⟨hly, out, ep, v1, he'⟩, rfl, q ys _ v2 (I.hok.fresh (Nat.le_succ _))⟩

/-! ### min(xs), xs a list of texts -/
def rMinS (K : PySem.W.Frag) : List V → Hp → VK → Prop := fun vs H Q => ∃ (a : Addr) (zs : List Str), vs = [.ref a] ∧ SqL K H a (zs.map V.str) ∧ zs ≠ [] ∧ ∀ m ∈ zs, (∀ z ∈ zs, ¬ z.cps.toList < m.cps.toList) → Q (.str m) H
theorem minD_strs : ∀ (zs : List Str) (x : Str), ∃ m ∈ x :: zs, PySem.W.minD (.str x) (zs.map .str) = .str m ∧ ∀ z ∈ x :: zs, ¬ z.cps.toList < m.cps.toList
  | [], x => ⟨x, List.mem_cons_self, rfl, fun z hz => by simp only [List.mem_singleton] at hz; subst hz; exact List.lt_irrefl _⟩
  | y :: zs, x => by
    have e : PySem.W.minD (.str x) ((y :: zs).map .str) = PySem.W.minD (if PySem.W.dataLt (.str y) (.str x) then .str y else .str x) (zs.map .str) := rfl
    rw [e, PySem.W.dataLt_str]
    by_cases h : y.cps.toList < x.cps.toList
    · simp only [h, decide_true, if_true]
      obtain ⟨m, hm, e1, e2⟩ := minD_strs zs y
      refine ⟨m, List.mem_cons_of_mem _ hm, e1, fun z hz => ?_⟩
      rcases List.mem_cons.mp hz with rfl | hz
      · intro h2
        exact e2 y List.mem_cons_self (List.lt_trans h h2)
      · exact e2 z hz
    · simp only [h, decide_false, Bool.false_eq_true, if_false]
      obtain ⟨m, hm, e1, e2⟩ := minD_strs zs x
      refine ⟨m, ?_, e1, fun z hz => ?_⟩
      · rcases List.mem_cons.mp hm with rfl | hm
        · exact List.mem_cons_self
        · exact List.mem_cons_of_mem _ (List.mem_cons_of_mem _ hm)
      · rcases List.mem_cons.mp hz with rfl | hz
        · exact e2 _ List.mem_cons_self
        · rcases List.mem_cons.mp hz with rfl | hz
          · intro h2
            have h3 := e2 x List.mem_cons_self
            have h4 := List.not_lt.mp h
            have h5 := List.not_lt.mp h3
            exact List.not_lt.mpr (List.le_trans h5 h4) h2
          · exact e2 z (List.mem_cons_of_mem _ hz)
theorem cr_minS (hc : X.calm = true) (hu : X.A.units + 64 < cLine) : CallR X (.builtin "min") (rMinS X.K) := by
  intro pins s σ H vs us Q I r h
  obtain ⟨a, zs, rfl, hs, hne, q⟩ := h
  obtain ⟨its, rv, hl, hz⟩ := I.list hs
  rw [Vals.ref1 r]
  cases zs with
  | nil => exact absurd rfl hne
  | cons x zs =>
    obtain ⟨as, ra⟩ := Dp.readsAll I _ _ _ (dpAll_strs X.K H (x :: zs)) rv
    obtain ⟨m, hm, e1, e2⟩ := minD_strs zs x
    have dep : ∀ ys : List Str, PyData.depthAll (ys.map .str) = 0 := fun ys => by
      induction ys with
      | nil => rfl
      | cons y r ih => simp only [List.map_cons, PyData.depthAll, PyData.depth, ih]; rfl
    refine PySem.W.min_list_data (x := .str x) (xs := zs.map .str) (I.ok.hd hc) hl.isList ra ⟨fun d hd e he => ?_, fun d hd => ?_⟩ ?_ fun i v h' tk bs hi hr hk => ?_
    · have hd' : d ∈ (x :: zs).map PyData.str := hd
      have he' : e ∈ (x :: zs).map PyData.str := he
      obtain ⟨_, _, rfl⟩ := List.mem_map.mp hd'
      obtain ⟨_, _, rfl⟩ := List.mem_map.mp he'
      simp [PySem.W.alike]
    · have hd' : d ∈ (x :: zs).map PyData.str := hd
      obtain ⟨_, _, rfl⟩ := List.mem_map.mp hd'
      intro z
      cases z
    · show X.A.units + 1 + PyData.depthAll ((x :: zs).map .str) < cLine
      rw [dep]
      omega
    · rw [e1] at hr
      cases hr with
      | str _ t => exact ⟨.str m, H, I.kept hk, ⟨t, rfl⟩, q m hm e2⟩
end
end Nf

/-! ## KDict -/
set_option Elab.async false
set_option linter.all false
set_option maxRecDepth 100000
set_option maxHeartbeats 4000000
/-! dicts: displays with a tuple as their key, update -/
namespace Nf
open PySem PySem.Spec PyProof.Rows L2
section
variable {X : Cx}
/-- {t: v}, t a tuple of ints and texts -/
def tDispT (tk tv : TE) : TE := fun σ H Q => ∀ p, H p = none → tk σ (upd H p (.dT [])) fun x H1 => tv σ H1 fun y H2 => H2 p = some (.dT []) ∧ ∃ (b : Addr) (k : List Key), x = .ref b ∧ H2 b = some (.tup (k.map kV)) ∧ Q (.ref p) (upd H2 p (.dT [(k, y)]))
theorem pe_dispT {k v : Expr} {pos : Pos} {tk tv : TE} (hu : X.A.units + 1 < cLine) (hk : PE X k tk) (hv : PE X v tv) : PE X (.Dict [some k] [v] pos) (tDispT tk tv) := by
  refine ⟨fun pins s σ H Q I q => ?_⟩
  have hn := I.hok.fresh (Nat.le_refl s.heap.objs.size)
  have I1 := I.laid (a := s.heap.objs.size) (o := .dT []) (h' := s.heap.push { cls := .type "dict", data := .dict #[] }) (t' := s.toks) (fun _ _ q => Heap.get?_push_of_some _ q) (Nat.le_refl _) (dt_empty s.heap I.big)
  have q0 := q _ hn
  have hsh := zip_pairTrees [some k] [v] X.env pos rfl rfl
  have hne : pairTrees [some k] [v] X.env pos ≠ [] := fun z => by
    have := pairTrees_length [some k] [v] X.env pos rfl rfl
    rw [z] at this
    cases this
  have hl : (pairTrees [some k] [v] X.env pos).length = 1 := pairTrees_length [some k] [v] X.env pos rfl rfl
  rw [arm_eval_Dict, hsh, dictDisplay_pairs _ hne (by omega)]
  refine wpAny_bind (wpAny_standAt (wpAny_bind (wpAny_subDictH (knd := tupleKind (mixKind X.prog X.w)) (Q := fun d s' => wpAny (model X.prog X.w) X.A (pure (Value.ref d)) (EP X pins σ Q) X.xe s') (show X.A.units < cLine by omega) (by omega) ?_)))
  refine pairTrees_cons_walk (thn (hk.run pins _ σ _ _ I1 q0) fun u s1 ⟨x, H1, I1, rx, q1⟩ => thn (hv.run pins s1 σ H1 _ I1 q1) fun w2 s2 ⟨y, H2, I2, ry, q2⟩ => pairTrees_nil_walk ?_)
  obtain ⟨e0, b, ks, rfl, eb, q3⟩ := q2
  cases rx
  obtain ⟨z, hd, xs, rel, dd⟩ := dt_of I2.hok e0
  cases rel
  refine ⟨[(ks, b, w2)], ⟨rfl, rfl, key_of I2.hok eb, trivial⟩, dd, fun h' tk dd' hs => wpAny_pure ?_⟩
  obtain ⟨ob, es, ep, hq, h2, h3, h4, _, h5⟩ := dd'
  refine ⟨.ref s.heap.objs.size, _, d_write (t' := tk) (ob := .dT [(ks, y)]) I2 (by rw [e0]; exact True.intro) hs ⟨ob, hq⟩ ⟨by show 1 ≤ sizeLine; decide, hd, _, (KT.put (H := H2) (kvs := []) (xs := []) .nil ks eb ry).keeps fun c ys ec => ?_, ob, es, ep, hq, h2, h3, h4, h5⟩, rfl, q3⟩
  rw [upd_ne (ne_of ec e0 (fun z => nomatch z))]
  exact ec
/-! ### d.update(e) -/
def rUpdK : V → List V → Hp → VK → Prop := fun x vs H Q => ∃ (d o : Addr) (kvs more : List (Key × V)), x = .ref d ∧ vs = [.ref o] ∧ d ≠ o ∧ H d = some (.dK kvs) ∧ H o = some (.dK more) ∧ kvs.length + more.length ≤ sizeLine ∧ Q .non (upd H d (.dK (mergeK kvs more)))
theorem mt_updK : MtR X "dict.update" rUpdK := by
  intro pins s σ H x vs v us Q I rx rv h
  obtain ⟨d, o, kvs, more, rfl, rfl, hdo, hD, hO, hz, q⟩ := h
  cases rx
  obtain ⟨u, rfl, ru⟩ := rv.one
  cases ru
  obtain ⟨z1, hd1, vs1, rel1, dd1⟩ := dk_of I.hok hD
  obtain ⟨z2, hd2, vs2, rel2, dd2⟩ := dk_of I.hok hO
  refine call_meetsIn PySem.F.slot_dict_update dd1.typeIs PySem.F.entry_dict_update (PySem.F.args_dict_update_2 _ _) (meets_dict_update (mixKind X.prog X.w) d o hdo hd2) ⟨vs1, vs2, dd1, dd2, by rw [← rel1.length, ← rel2.length]; exact hz, fun h' dd' _ hs => ?_⟩
  have he : ∃ q, h'.get? d = some q := let ⟨q, _, _, hq, _⟩ := dd'; ⟨q, hq⟩
  have hl : (mergeK kvs more).length ≤ sizeLine := Nat.le_trans (length_mergeK more kvs) hz
  exact ⟨.non, _, d_write (t' := s.toks) I (by rw [hD]; exact True.intro) hs he (dk_new hl hd1 (KV.merge rel2 rel1) dd'), rfl, q⟩
def mergeT (kvs more : List (List Key × V)) : List (List Key × V) := more.foldl (fun acc kv => putK acc kv.1 kv.2) kvs
theorem length_mergeT : ∀ (more kvs : List (List Key × V)), (mergeT kvs more).length ≤ kvs.length + more.length
  | [], kvs => by show kvs.length ≤ kvs.length + 0; omega
  | p :: r, kvs => by
    have h1 := length_mergeT r (putK kvs p.1 p.2)
    have h2 := length_putK kvs p.1 p.2
    show (mergeT (putK kvs p.1 p.2) r).length ≤ _
    rw [List.length_cons]; omega
theorem KT.merge {H : Hp} : ∀ {more : List (List Key × V)} {ys : List (List Key × Addr × Value)} {kvs : List (List Key × V)} {xs : List (List Key × Addr × Value)}, KT H more ys → KT H kvs xs → KT H (mergeT kvs more) (storedAllH xs ys) := by
  intro more ys kvs xs r
  induction r generalizing kvs xs with
  | nil => intro q; exact q
  | @cons p q ps qs h t ih =>
    intro r0
    have e : KT H (putK kvs p.1 p.2) (storedH xs q.1 q.2.1 q.2.2) := by
      have := KT.put r0 p.1 h.2.1 h.2.2
      rw [← h.1]; exact this
    exact ih e
def rUpdT : V → List V → Hp → VK → Prop := fun x vs H Q => ∃ (d o : Addr) (kvs more : List (List Key × V)), x = .ref d ∧ vs = [.ref o] ∧ d ≠ o ∧ H d = some (.dT kvs) ∧ H o = some (.dT more) ∧ kvs ≠ [] ∧ kvs.length + more.length ≤ sizeLine ∧ Q .non (upd H d (.dT (mergeT kvs more)))
theorem mt_updT (hu : X.A.units + 1 < cLine) : MtR X "dict.update" rUpdT := by
  intro pins s σ H x vs v us Q I rx rv h
  obtain ⟨d, o, kvs, more, rfl, rfl, hdo, hD, hO, hne, hz, q⟩ := h
  cases rx
  obtain ⟨u, rfl, ru⟩ := rv.one
  cases ru
  obtain ⟨z1, hd1, xs1, rel1, dd1⟩ := dt_of I.hok hD
  obtain ⟨z2, hd2, xs2, rel2, dd2⟩ := dt_of I.hok hO
  have l1 : kvs.length = xs1.length := Paired.length rel1
  have l2 : more.length = xs2.length := Paired.length rel2
  refine call_update_dictH (tupleKind_room_in1 hu) hdo hd2 dd1 dd2 (.inl fun z => ?_) (by omega) fun h' dd' _ hs => ?_
  · rw [z] at l1
    exact hne (List.length_eq_zero_iff.mp l1)
  · obtain ⟨ob, es, ep, hq, h2, h3, h4, _, h5⟩ := dd'
    have hl : (mergeT kvs more).length ≤ sizeLine := Nat.le_trans (length_mergeT more kvs) hz
    refine ⟨.non, _, d_write (t' := s.toks) (ob := .dT (mergeT kvs more)) I (by rw [hD]; exact True.intro) hs ⟨ob, hq⟩ ⟨hl, hd1, _, (KT.merge rel2 rel1).keeps fun c ys ec => ?_, ob, es, ep, hq, h2, h3, h4, h5⟩, rfl, q⟩
    rw [upd_ne (ne_of ec hD (fun z => nomatch z))]
    exact ec
end
end Nf

/-! ## KRul2 -/
set_option Elab.async false
set_option linter.all false
set_option maxRecDepth 100000
set_option maxHeartbeats 4000000
/-! text * 2, tuple * n, calls by keywords alone -/
namespace Nf
open PySem PySem.Spec PyProof.Rows L2
section
variable {X : Cx}
/-- c * 2, c one sign -/
theorem op_mulS : OpR X (binaryOp .Mult) (fun x y H Q => ∃ c : Nat, x = .str ⟨#[c]⟩ ∧ y = .int 2 ∧ Q (.str ⟨#[c, c]⟩) H) := by
  intro pins s σ H x y v u Q I rx ry h
  obtain ⟨c, rfl, rfl, q⟩ := h
  obtain ⟨t, rfl⟩ := rx
  obtain ⟨t', rfl⟩ := ry
  refine PySem.P.mul_str (by decide) (fun _ _ => by show ¬ ((1 : Int) > _); decide) (fun _ _ => by show Builtin.Str.tooLong (1 * 2) = false; decide +kernel) ?_
  rw [if_neg (by decide), if_neg (by show ¬ ((2 : Int) == 1 || (1 : Nat) == 0) = true; decide)]
  refine ⟨by show 2 ≤ sizeLine; decide, ⟨.str ⟨#[c, c]⟩, H, I.tok _, ⟨_, rfl⟩, q⟩⟩
/-- t * 1 -/
theorem tuple_mul1 (l : Addr) (items : Array Value) (n : Nat) (dd : Option Addr) (sl : Array (Option Value)) (u : Tok) :
    Meets (Builtin.«tuple.__mul__» ⟨[.ref l, .int 1 u], []⟩) (fun _ R s => s.heap.get? l = some { cls := .type "tuple", dict := dd, data := .seq items n, slots := sl } ∧ R (.ok (.ret (Value.ref l))) s) :=
  .of_wp fun prog w A R s h => by
    obtain ⟨hp, g, d, tk, os⟩ := s
    obtain ⟨hl, h⟩ := h
    have f1 := AutoSeq1.idx_int
    wp_walk using wpAny_loadPart' hl
    exact ⟨_, rfl, h⟩
theorem op_repT1 : OpR X (binaryOp .Mult) (fun x y H Q => ∃ l xs, x = .ref l ∧ y = .int 1 ∧ SqT X.K H l xs ∧ Q (.ref l) H) := by
  intro pins s σ H x y v u Q I rx ry h
  obtain ⟨l, xs, rfl, rfl, hT, q⟩ := h
  cases rx
  obtain ⟨t, rfl⟩ := ry
  obtain ⟨its, r, ⟨⟨cls, dd, data, sl⟩, ho, hc, n, hd⟩, hs⟩ := I.tuple hT
  simp only at hc hd
  subst hc hd
  exact wpAny_binaryOp_repeat_ref (T := "tuple") (U := "int") (by decide) ⟨_, ho, rfl⟩ (fun s' => typeIs_int s' 1 t) noFill_tuple_mul F.fills_int_mul F.slot_int_rmul repeat_tuple F.slot_int_index.lookup
    (call_meets F.slot_int_rmul (typeIs_int s 1 t) F.entry_int_rmul (F.args_int_rmul_2 _ _) (int_rmul_tuple 1 t l its.toArray n dd sl)
      ⟨ho, rfl, ⟨_, ho, rfl⟩, call_meets F.slot_tuple_mul ⟨_, ho, rfl⟩ F.entry_tuple_mul (F.args_tuple_mul_2 _ _) (tuple_mul1 l its.toArray n dd sl t) ⟨ho, ⟨.ref l, H, I, rfl, q⟩⟩⟩)
end
/-! ### f(k = e, ..) -/
/-- a def of the module keeps a promise at the level k and is called by the keywords ks; g puts their values in the parameters' order -/
def KeptK (P : Program) (w : World) (K : PySem.W.Frag) (mg : Str → Option Value) (base : Heap) (k : Nat) (x : Str) (ks ps : List Str) (gV : List V → List V) (sp : Sp) : Prop :=
  ∃ (f : Addr) (fd : FuncData) (g : List Value → List Value), mg x = some (.ref f) ∧ PySem.W.keepIn K (.ref f) = true ∧
    (∀ (s : Shared) (ws : List Value), ws.length = ks.length → BindsTo s fd ⟨[], ks.zip ws⟩ (ps.zip (g ws))) ∧ (∀ {zs : List V} {ws : List Value}, Vals zs ws → Vals (gV zs) (g ws)) ∧ FnOk P w K mg base CX0 k f fd ps sp
section
variable {X : Cx} {k : Nat} {x : Str} {ks ps : List Str} {gV : List V → List V} {sp : Sp} {p pos : Pos} {kws : List Keyword} {tk : TA}
def tCallK0 (n : Nat) (gV : List V → List V) (sp : Sp) (tk : TA) : TE := fun σ H Q => tk σ H fun zs H1 => zs.length = n ∧ sp (gV zs) H1 Q E0
theorem pe_kck (F : KeptK X.prog X.w X.K X.mg X.base k x ks ps gV sp) (hr : Room k X.A) (hg : Gl X x) (hkw : PK X kws tk) (hall : (backToKw pos (keywordEach kws X.env)).all (·.1.isSome) = true := by rfl) (hks : (backToKw pos (keywordEach kws X.env)).filterMap (·.1) = ks := by rfl)
    (hdb : (x == ("__debug__" : Str)) = false := by decide) (hpl : ((backTo pos (starEach [] X.env)).any (·.1) || (backToKw pos (keywordEach kws X.env)).any (·.1.isNone)) = false := by rfl) :
    PE X (.Call (.Name x p) [] kws pos) (tCallK0 ks.length gV sp tk) := by
  obtain ⟨f, fd, g, hm, hk, hb, hrel, F⟩ := F
  refine ⟨fun pins s σ H Q I h => ?_⟩
  refine wpAny_Call_Name_kw (ld_glob I hg hm ?_ hdb)
  refine PySem.W.callWith_KW0 (h₀ := X.base) (first := []) I.ok.mod.kin hk hall (thn (hkw.run pos pins s σ H _ I h) fun ws s1 ⟨zs, H1, I1, rz, l1, q⟩ => ⟨I1.kIn, ?_⟩) hpl
  rw [hks]
  refine wpAny_call (codeAny_mono (F.run X.A X.stack s1 H1 ⟨[], ks.zip ws⟩ (g ws) (gV zs) Q E0 hr I1.env0 (hb s1 ws (rz.length.symm.trans l1)) (hrel rz) q) fun r s' hq => ?_)
  cases r with
  | error e => exact (show False from hq).elim
  | ok fl =>
    cases fl with
    | ret u => exact I1.after hq
    | next => exact False.elim hq
    | brk => exact False.elim hq
    | cont => exact False.elim hq
end
end Nf

/-! ## K2 -/
set_option Elab.async false
set_option linter.all false
set_option maxRecDepth 100000
set_option maxHeartbeats 4000000
/-! is_integer, is_number, is_name, parts_of -/
namespace Nf
open PySem PySem.Spec PyProof.Rows L2
/-- the names: valid, rising -/
structure Nm (nm : Nat → Str) (k : Nat) : Prop where
  ok : ∀ i, i < k → 1 ≤ (nm i).length ∧ (nm i).length ≤ 5 ∧ ∀ c ∈ (nm i).cps.toList, c ∈ ("abcdefghijklmnopqrstuvwxyz" : Str).cps.toList
  inc : ∀ i j, i < j → j < k → (nm i).cps.toList < (nm j).cps.toList
theorem Nm.ne {nm : Nat → Str} {k : Nat} (N : Nm nm k) {i j : Nat} (hi : i < k) (hj : j < k) (e : nm i = nm j) : i = j := by
  rcases Nat.lt_trichotomy i j with h | h | h
  · have := N.inc i j h hj
    rw [e] at this
    exact absurd this (List.lt_irrefl _)
  · exact h
  · have := N.inc j i h hi
    rw [e] at this
    exact absurd this (List.lt_irrefl _)
theorem Nm.mono {nm : Nat → Str} {k j : Nat} (N : Nm nm k) (h : j ≤ k) : Nm nm j := ⟨fun i hi => N.ok i (by omega), fun a b h1 h2 => N.inc a b h1 (by omega)⟩
theorem sc_is_integer : FnScope ["value"] ["value"] (defScope s_is_integer) := ⟨rfl, rfl, rfl, by decide +kernel, rfl, by decide +kernel, by decide +kernel⟩
theorem sc_is_number : FnScope ["value"] ["value"] (defScope s_is_number) := ⟨rfl, rfl, rfl, by decide +kernel, rfl, by decide +kernel, by decide +kernel⟩
theorem sc_is_name : FnScope ["value", "sign"] ["value"] (defScope s_is_name) := ⟨rfl, rfl, rfl, by decide +kernel, rfl, by decide +kernel, by decide +kernel⟩
theorem sc_parts_of : FnScope ["value"] ["value"] (defScope s_parts_of) := ⟨rfl, rfl, rfl, by decide +kernel, rfl, by decide +kernel, by decide +kernel⟩
def spIsInt : Sp := fun vs H Q _ => ∃ n : Int, vs = [.int n] ∧ Q (.bl true) H
def spIsNum : Sp := fun vs H Q _ => ∃ n : Int, vs = [.int n] ∧ 0 ≤ n ∧ Q (.bl true) H
def spIsName : Sp := fun vs H Q _ => ∃ z : Str, vs = [.str z] ∧ (1 ≤ z.length ∧ z.length ≤ 5 ∧ ∀ c ∈ z.cps.toList, c ∈ ("abcdefghijklmnopqrstuvwxyz" : Str).cps.toList) ∧ ∀ H', Same H H' → Q (.bl true) H'
section
variable {P : Program} {w : World} {K : PySem.W.Frag} {mg : Str → Option Value} {base : Heap} {nm : Nat → Str}
theorem ok_is_integer (T : Txt K mg) : Kept P w K mg base 1 "is_integer" ["value"] spIsInt := by
  obtain ⟨fd, FD⟩ := T.f_is_integer
  refine kept_of FD T.m_is_integer sc_is_integer (fun _ _ _ _ _ _ us hl => match us, hl with | [_], _ => rfl) (fun vs H Q E h => ?_) (fun cdv A outer s H vs Q E hr h => ?_)
  · obtain ⟨n, rfl, _⟩ := h; rfl
  obtain ⟨n, rfl, q⟩ := h
  refine ⟨_, pss_one (ps_ret (pe_and (pe_callB call_isi (by rfl) T.z_isinstance (by decide +kernel) (pa_cons (pv 0) (pa_cons (pe_bltn (v := .ty "int") (by rfl) T.z_int (by decide +kernel) rfl) pa_nil)))
    (pe_one (pe_not (pe_callB call_isi (by rfl) T.z_isinstance (by decide +kernel) (pa_cons (pv 0) (pa_cons (pe_bltn (v := .ty "bool") (by rfl) T.z_bool (by decide +kernel) rfl) pa_nil))))))), ?_⟩
  refine ⟨_, rfl, .int n, .ty "int", .type "int", .type "int", true, rfl, .ty _, .base (.int n), kit_ty (by decide +kernel), true, rfl, ifDT rfl ?_⟩
  exact ⟨_, rfl, .int n, .ty "bool", .type "int", .type "bool", false, rfl, .ty _, .base (.int n), kit_ty (by decide +kernel), false, rfl, q⟩
theorem ok_is_number (T : Txt K mg) : Kept P w K mg base 2 "is_number" ["value"] spIsNum := by
  have G := ok_is_integer (P := P) (w := w) (base := base) T
  obtain ⟨fd, FD⟩ := T.f_is_number
  refine kept_of FD T.m_is_number sc_is_number (fun _ _ _ _ _ _ us hl => match us, hl with | [_], _ => rfl) (fun vs H Q E h => ?_) (fun cdv A outer s H vs Q E hr h => ?_)
  · obtain ⟨n, rfl, _⟩ := h; rfl
  obtain ⟨n, rfl, h0, q⟩ := h
  refine ⟨_, pss_one (ps_ret (pe_and (pe_kc G hr rfl (pa_cons (pv 0) pa_nil)) (pe_one (pe_cmpR op_ge (pv 0) pe_int (nomark _))))), ?_⟩
  refine ⟨_, rfl, n, rfl, true, rfl, ifDT rfl ?_⟩
  refine ⟨_, rfl, _, _, rfl, rfl, ?_⟩
  show Q (.bl (decide (0 ≤ n))) H
  rw [decide_eq_true h0]
  exact q
theorem ok_is_name (T : Txt K mg) : Kept P w K mg base 1 "is_name" ["value"] spIsName := by
  obtain ⟨fd, FD⟩ := T.f_is_name
  refine kept_of FD T.m_is_name sc_is_name (fun _ _ _ _ _ _ us hl => match us, hl with | [_], _ => rfl) (fun vs H Q E h => ?_) (fun cdv A outer s H vs Q E hr h => ?_)
  · obtain ⟨n, rfl, _⟩ := h; rfl
  obtain ⟨z, rfl, ⟨h1, h5, hc⟩, q⟩ := h
  obtain ⟨tn, hLN⟩ := T.c_LN
  obtain ⟨tl, hLE⟩ := T.c_LE
  refine ⟨_, pss_cons (ps_if (PW.pt (pw_or (pt_not (pt_val (pe_callB call_isi (by rfl) T.z_isinstance (by decide +kernel) (pa_cons (pv 0) (pa_cons (pe_bltn (v := .ty "str") (by rfl) T.z_str (by decide +kernel) rfl) pa_nil)))))
      (pw_or1 (pt_not (pt_chain op_le op_le pe_int (pe_callB call_len_str (by rfl) T.z_len PySem.boot_len (pa_cons (pv 0) pa_nil)) (pe_glob (v := .int 5) rfl hLN ⟨_, rfl⟩)))))) (pss_one (ps_ret pe_bl)) pss_nil)
    (pss_one (ps_ret (pe_callB (cr_all rfl) (by rfl) T.z_all (by decide +kernel) (pa_cons (pe_lc (own := [("sign", 1)]) (g := gName 1) (tt := tYes) rfl sc_is_name.nd (pi_str (pv 0))
      (blkOk_by (N := ["value", "sign"]) (sc := defScope s_is_name) (by decide +kernel)) (fun _ _ _ _ _ => pg_name (i := 1) sc_is_name.nd rfl (Or.inl rfl)) (fun _ _ _ _ _ => pts_nil)
      (fun _ _ _ _ _ => pe_cmpR op_in_sign (pv 1) (pe_glob (v := .str "abcdefghijklmnopqrstuvwxyz") rfl hLE ⟨_, rfl⟩) rfl)) pa_nil)))), ?_⟩
  refine ⟨_, rfl, .str z, .ty "str", .type "str", .type "str", true, rfl, .ty _, .base (.str z), kit_ty (by decide +kernel), _, rfl, ?_⟩
  refine ifDF rfl ?_
  refine ⟨_, rfl, z, rfl, lt_line (by omega) |> Nat.le_of_lt, _, _, rfl, rfl, true, ?_, ifDT rfl ?_⟩
  · show V.bl (decide ((1 : Int) ≤ (z.length : Int))) = V.bl true
    rw [decide_eq_true (by omega)]
  refine ⟨_, _, rfl, rfl, true, ?_, ifDF rfl ?_⟩
  · show V.bl (decide ((z.length : Int) ≤ (5 : Int))) = V.bl true
    rw [decide_eq_true (by omega)]
  refine ⟨_, rfl, z, rfl, fun D hD => ?_⟩
  refine lc_it walk_str (fun i H' => Same H H' ∧ H' D = some (.lst ((List.replicate i true).map V.bl))) ⟨same_upd hD, by rw [upd_same]; rfl⟩ (fun _ _ _ _ => trivial) ?_ ?_
  · intro i x H1 H2 hi ⟨e1, hD1⟩ hy
    obtain ⟨rfl, c, hcc, rfl⟩ := hy
    refine ⟨rfl, yesT ⟨_, rfl, c, _, rfl, rfl, _, hD1, ?_, ?_, ?_⟩⟩
    · refine lt_line ?_
      rw [List.length_map, List.length_replicate]
      have : z.cps.size = z.length := rfl
      omega
    · intro d o ed
      rw [upd_ne (ne_of_none ed hD)]
      exact e1 _ _ ed
    · rw [upd_same]
      have : c ∈ z.cps.toList := by
        obtain ⟨hlt, e⟩ := Array.getElem?_eq_some_iff.mp hcc
        rw [← e]; simp
      rw [decide_eq_true (hc c this), List.replicate_succ', List.map_append]
      rfl
  · intro H1 ⟨e1, hD1⟩
    refine ⟨D, _, rfl, SqL.of hD1, ?_⟩
    have : (List.replicate z.cps.size true).all id = true := by simp
    rw [this]
    exact q _ e1
/-- what a formula's parts are -/
def kids : F → List F
  | .kind _ => []
  | .many _ f => [f]
  | .node _ ps => ps
/-- a formula that parts_of takes -/
def Good (k : Nat) : F → Prop
  | .kind i => i < k
  | .many n _ => 2 ≤ n ∧ n ≤ 60
  | .node _ ps => 2 ≤ ps.length ∧ ps.length ≤ 1000
def spParts (nm : Nat → Str) (k : Nat) : Sp := fun vs H Q _ => ∃ (v : V) (f : F), vs = [v] ∧ FV nm H f v ∧ Good k f ∧ ∀ (p : Addr) (us : List V) (H' : Hp), Same H H' → H' p = some (.tup us) → FVs nm H' (kids f) us → Q (.ref p) H'
theorem tup_flat2 {K : PySem.W.Frag} {H : Hp} {a : Addr} {xs : List V} (h : H a = some (.tup xs)) : TyX K H (.ref a) (.type "tuple") := .base (.tup h)
theorem ok_parts_of {k : Nat} (T : Txt K mg) (N : Nm nm k) : Kept P w K mg base 3 "parts_of" ["value"] (spParts nm k) := by
  have G1 := ok_is_name (P := P) (w := w) (base := base) T
  have G2 := ok_is_number (P := P) (w := w) (base := base) T
  obtain ⟨fd, FD⟩ := T.f_parts_of
  obtain ⟨ta, hMA⟩ := T.c_MA
  refine kept_of FD T.m_parts_of sc_parts_of (fun _ _ _ _ _ _ us hl => match us, hl with | [_], _ => rfl) (fun vs H Q E h => ?_) (fun cdv A outer s H vs Q E hr h => ?_)
  · obtain ⟨v, f, rfl, _⟩ := h; rfl
  obtain ⟨v, f, rfl, hf, hg, q⟩ := h
  refine ⟨_, pss_cons (ps_if (PW.pt (pw_or (pt_not (pt_val (pe_callB call_isi (by rfl) T.z_isinstance (by decide +kernel) (pa_cons (pv 0) (pa_cons (pe_bltn (v := .ty "tuple") (by rfl) T.z_tuple (by decide +kernel) rfl) pa_nil)))))
      (pw_or (pt_cmpR op_lt (pe_callB call_len_seq (by rfl) T.z_len PySem.boot_len (pa_cons (pv 0) pa_nil)) pe_int (nomark _))
      (pw_or1 (pt_not (pt_val (pe_callB call_isi (by rfl) T.z_isinstance (by decide +kernel) (pa_cons (pe_ix ix_tup (pv 0) pe_int (fun _ _ => rfl)) (pa_cons (pe_bltn (v := .ty "str") (by rfl) T.z_str (by decide +kernel) rfl) pa_nil)))))))))
      (pss_one (ps_ret pe_non)) pss_nil)
    (pss_cons (ps_if (pt_cmpR op_eq (pe_ix ix_tup (pv 0) pe_int (fun _ _ => rfl)) pe_str (nomark _))
      (pss_one (ps_ret (pe_ifExp (PW.pt (pw_and (pt_cmpR op_eq (pe_callB call_len_seq (by rfl) T.z_len PySem.boot_len (pa_cons (pv 0) pa_nil)) pe_int (nomark _))
        (pw_and1 (pt_val (pe_kc (G1.mono (by decide)) hr rfl (pa_cons (pe_ix ix_tup (pv 0) pe_int (fun _ _ => rfl)) pa_nil)))))) (pe_tup pa_nil) pe_non))) pss_nil)
    (pss_cons (ps_if (pt_cmpR op_eq (pe_ix ix_tup (pv 0) pe_int (fun _ _ => rfl)) pe_str (nomark _))
      (pss_one (ps_ret (pe_ifExp (PW.pt (pw_and (pt_cmpR op_eq (pe_callB call_len_seq (by rfl) T.z_len PySem.boot_len (pa_cons (pv 0) pa_nil)) pe_int (nomark _))
        (pw_and (pt_val (pe_kc G2 hr rfl (pa_cons (pe_ix ix_tup (pv 0) pe_int (fun _ _ => rfl)) pa_nil)))
        (pw_and1 (pt_chain op_le op_le pe_int (pe_ix ix_tup (pv 0) pe_int (fun _ _ => rfl)) (pe_glob (v := .int 60) rfl hMA ⟨_, rfl⟩))))))
        (pe_slice sl_tup (pv 0) (po_some pe_int) po_none) pe_non))) pss_nil)
    (pss_cons (ps_if (PW.pt (pw_and (pt_cmpR op_in_seq (pe_ix ix_tup (pv 0) pe_int (fun _ _ => rfl)) (pe_tup (pa_cons pe_str (pa_cons pe_str pa_nil))) rfl)
        (pw_and (pt_cmpR op_eq (pe_callB call_len_seq (by rfl) T.z_len PySem.boot_len (pa_cons (pv 0) pa_nil)) pe_int (nomark _))
        (pw_and (pt_val (pe_callB call_isi (by rfl) T.z_isinstance (by decide +kernel) (pa_cons (pe_ix ix_tup (pv 0) pe_int (fun _ _ => rfl)) (pa_cons (pe_bltn (v := .ty "tuple") (by rfl) T.z_tuple (by decide +kernel) rfl) pa_nil))))
        (pw_and1 (pt_cmpR op_ge (pe_callB call_len_seq (by rfl) T.z_len PySem.boot_len (pa_cons (pe_ix ix_tup (pv 0) pe_int (fun _ _ => rfl)) pa_nil)) pe_int (nomark _)))))))
        (pss_one (ps_ret (pe_ix ix_tup (pv 0) pe_int (fun _ _ => rfl)))) pss_nil)
    (pss_one (ps_ret pe_non))))), ?_⟩
  -- the first test, alike for all
  have first : ∀ (a : Addr) (z : Str) (r : List V), H a = some (.tup (.str z :: r)) → r ≠ [] → v = .ref a → ∀ R : Bool → Hp → Prop, R false H →
      tOr (tNot (tB (tCB (rIsi K) (tCons (tVar 0) (tCons (tC (.ty "tuple")) tNil))))) (tOr (tTest (tOp (rI0 fun i j => .bl (decide (i < j))) (tCB (fun xs H Q => ∃ p ys, xs = [.ref p] ∧ (SqL K H p ys ∨ SqT K H p ys) ∧ Q (.int ys.length) H) (tCons (tVar 0) tNil)) (tC (.int 2))))
        (tNot (tB (tCB (rIsi K) (tCons (tOp (rIxT K) (tVar 0) (tC (.int 0))) (tCons (tC (.ty "str")) tNil)))))) (start ["value"] [v]) H R := by
    intro a z r ha hn e R hR
    subst e
    refine ⟨_, rfl, .ref a, .ty "tuple", .type "tuple", .type "tuple", true, rfl, .ty _, tup_flat2 ha, kit_ty (by decide +kernel), true, rfl, ?_⟩
    refine ifDF rfl ⟨_, rfl, a, _, rfl, .inr (SqT.of ha), _, _, rfl, rfl, false, ?_, ifDF rfl ?_⟩
    · have : 1 ≤ r.length := by cases r with
        | nil => exact absurd rfl hn
        | cons => simp
      show V.bl (decide (((V.str z :: r).length : Int) < 2)) = V.bl false
      rw [decide_eq_false (by simp only [List.length_cons]; omega)]
    refine ⟨_, rfl, a, _, 0, _, rfl, rfl, SqT.of ha, atI_nat (j := 0) rfl, .str z, .ty "str", .type "str", .type "str", true, rfl, .ty _, .base (.str z), kit_ty (by decide +kernel), true, rfl, hR⟩
  cases f with
  | kind i =>
    simp only [FV] at hf
    obtain ⟨a, rfl, ha⟩ := hf
    refine first a _ _ ha (by simp) rfl _ (ifDF rfl ?_)
    refine ⟨_, rfl, a, _, 0, _, rfl, rfl, SqT.of ha, atI_nat (j := 0) rfl, rfl, _, rfl, ifDT kk ?_⟩
    refine ⟨_, rfl, a, _, rfl, .inr (SqT.of ha), rfl, _, rfl, ifDT (decide_eq_true rfl) ?_⟩
    refine ⟨_, rfl, a, _, 1, _, rfl, rfl, SqT.of ha, atI_nat (j := 1) rfl, _, rfl, N.ok i hg, fun H1 e1 => ⟨true, rfl, ifDT rfl ?_⟩⟩
    refine ⟨by show 0 ≤ sizeLine; decide, fun p hp => ?_⟩
    exact q p [] _ (e1.trans (same_upd hp)) upd_same (by simp only [kids]; exact FVs.nil)
  | many m f =>
    simp only [FV] at hf
    obtain ⟨a, u, rfl, ha, hu⟩ := hf
    obtain ⟨g2, g60⟩ := hg
    refine first a _ _ ha (by simp) rfl _ (ifDF rfl ?_)
    refine ⟨_, rfl, a, _, 0, _, rfl, rfl, SqT.of ha, atI_nat (j := 0) rfl, rfl, _, rfl, ifDF mk_ ?_⟩
    refine ⟨_, rfl, a, _, 0, _, rfl, rfl, SqT.of ha, atI_nat (j := 0) rfl, rfl, _, rfl, ifDT mm ?_⟩
    refine ⟨_, rfl, a, _, rfl, .inr (SqT.of ha), rfl, _, rfl, ifDT (decide_eq_true rfl) ?_⟩
    refine ⟨_, rfl, a, _, 1, _, rfl, rfl, SqT.of ha, atI_nat (j := 1) rfl, _, rfl, by omega, true, rfl, ifDT rfl ?_⟩
    refine ⟨_, rfl, a, _, 1, _, rfl, rfl, SqT.of ha, atI_nat (j := 1) rfl, _, _, rfl, rfl, true, ?_, ifDT rfl ⟨_, _, rfl, rfl, true, ?_, ifDT rfl ?_⟩⟩
    · show V.bl (decide ((2 : Int) ≤ (m : Int))) = V.bl true
      rw [decide_eq_true (by omega)]
    · show V.bl (decide ((m : Int) ≤ (60 : Int))) = V.bl true
      rw [decide_eq_true (by omega)]
    refine ⟨_, rfl, 2, rfl, a, _, rfl, SqT.of ha, (fun z => by have := z.1; revert this; show ¬ HT.sIx 3 0 (some 2) = 0; decide), fun p hp => ?_⟩
    refine q p [u] _ (same_upd hp) upd_same ?_
    simp only [kids]
    exact FVs.cons (FV.keep (TK.upd hp) _ _ hu) FVs.nil
  | node b ps =>
    simp only [FV] at hf
    obtain ⟨a, c, us, rfl, ha, hc, hus⟩ := hf
    obtain ⟨g2, g60⟩ := hg
    refine first a _ _ ha (by simp) rfl _ (ifDF rfl ?_)
    refine ⟨_, rfl, a, _, 0, _, rfl, rfl, SqT.of ha, atI_nat (j := 0) rfl, rfl, _, rfl, ifDF (wk b) ?_⟩
    refine ⟨_, rfl, a, _, 0, _, rfl, rfl, SqT.of ha, atI_nat (j := 0) rfl, rfl, _, rfl, ifDF (wm b) ?_⟩
    refine ⟨_, rfl, a, _, 0, _, rfl, rfl, SqT.of ha, atI_nat (j := 0) rfl, by show 2 ≤ sizeLine; decide, fun d hd => ?_⟩
    have e1 : Same H (upd H d (.tup [.str "and", .str "or"])) := same_upd hd
    have ha1 := e1 _ _ ha
    have hc1 := e1 _ _ hc
    refine ⟨d, _, rfl, .inr (SqT.of upd_same), rfl, by decide +kernel, true, by cases b <;> decide +kernel, ifDT rfl ?_⟩
    refine ⟨_, rfl, a, _, rfl, .inr (SqT.of ha1), rfl, _, rfl, ifDT (decide_eq_true rfl) ?_⟩
    refine ⟨_, rfl, a, _, 1, _, rfl, rfl, SqT.of ha1, atI_nat (j := 1) rfl, .ref c, .ty "tuple", .type "tuple", .type "tuple", true, rfl, .ty _, tup_flat2 hc1, kit_ty (by decide +kernel), true, rfl, ifDT rfl ?_⟩
    refine ⟨_, rfl, a, _, 1, _, rfl, rfl, SqT.of ha1, atI_nat (j := 1) rfl, c, _, rfl, .inr (SqT.of hc1), _, _, rfl, rfl, true, ?_, ifDT rfl ?_⟩
    · show V.bl (decide ((2 : Int) ≤ (us.length : Int))) = V.bl true
      rw [decide_eq_true (by rw [hus.length]; omega)]
    refine ⟨_, rfl, a, _, 1, _, rfl, rfl, SqT.of ha1, atI_nat (j := 1) rfl, ?_⟩
    exact q c us _ e1 hc1 (by simp only [kids]; exact hus.keep (TK.of e1))
end
end Nf

/-! ## K3 -/
set_option Elab.async false
set_option linter.all false
set_option maxRecDepth 100000
set_option maxHeartbeats 4000000
/-! check_formula -/
namespace Nf
open PySem PySem.Spec PyProof.Rows L2
/-! ### counts -/
mutual
def joints : F → Nat
  | .kind _ => 0
  | .many _ f => joints f
  | .node _ ps => jointsL ps + 1
def jointsL : List F → Nat
  | [] => 0
  | p :: ps => joints p + jointsL ps
end
mutual
def cnt : F → Nat
  | .kind _ => 1
  | .many _ f => cnt f + 1
  | .node _ ps => cntL ps + 1
def cntL : List F → Nat
  | [] => 0
  | p :: ps => cnt p + cntL ps
end
theorem jointsL_append : ∀ (ps qs : List F), jointsL (ps ++ qs) = jointsL ps + jointsL qs
  | [], qs => by simp [jointsL]
  | p :: ps, qs => by simp only [List.cons_append, jointsL, jointsL_append ps qs]; omega
theorem cntL_append : ∀ (ps qs : List F), cntL (ps ++ qs) = cntL ps + cntL qs
  | [], qs => by simp [cntL]
  | p :: ps, qs => by simp only [List.cons_append, cntL, cntL_append ps qs]; omega
theorem jointsL_rev : ∀ ps : List F, jointsL ps.reverse = jointsL ps
  | [] => rfl
  | p :: ps => by rw [List.reverse_cons, jointsL_append, jointsL_rev ps]; simp only [jointsL]; omega
theorem cntL_rev : ∀ ps : List F, cntL ps.reverse = cntL ps
  | [] => rfl
  | p :: ps => by rw [List.reverse_cons, cntL_append, cntL_rev ps]; simp only [cntL]; omega
theorem names_pos : ∀ f : F, Wf f → 1 ≤ f.names.length := by
  refine F.ind (fun i h => ?_) (fun n f ih h => ?_) (fun b ps ih h => ?_)
  · simp [F.names]
  · simp only [Wf] at h; simpa only [F.names] using ih h.2
  · simp only [Wf] at h
    obtain ⟨h2, hw⟩ := h
    match ps, h2 with
    | p :: r, _ =>
      have := ih p List.mem_cons_self (wfL_iff.mp hw p List.mem_cons_self)
      simp only [F.names, namesL, List.length_append]; omega
theorem joints_lt : ∀ f : F, Wf f → joints f + 1 ≤ f.names.length := by
  refine F.ind (fun i h => ?_) (fun n f ih h => ?_) (fun b ps ih h => ?_)
  · simp [F.names, joints]
  · simp only [Wf] at h; simpa only [F.names, joints] using ih h.2
  · simp only [Wf] at h
    obtain ⟨h2, hw⟩ := h
    have key : ∀ qs : List F, (∀ q ∈ qs, joints q + 1 ≤ q.names.length) → jointsL qs + qs.length ≤ (namesL qs).length := by
      intro qs
      induction qs with
      | nil => intro _; simp [jointsL, namesL]
      | cons q r ihr =>
        intro h
        have h1 := h q List.mem_cons_self
        have h2 := ihr fun s hs => h s (List.mem_cons_of_mem _ hs)
        simp only [jointsL, namesL, List.length_append, List.length_cons]; omega
    have := key ps fun q hq => ih q hq (wfL_iff.mp hw q hq)
    simp only [joints, F.names]; omega
/-- what check_formula asks -/
structure Fit (k : Nat) (m : Nat) (f : F) : Prop where
  wf : Wf f
  nd : f.names.Nodup
  lt : ∀ i ∈ f.names, i < k
  le : ∀ i ∈ f.names, m * size f i ≤ 60
theorem size_one (f : F) (w : Wf f) (nd : f.names.Nodup) (i : Nat) (hi : i ∈ f.names) : 1 ≤ size f i := size_pos f w nd hi
theorem kids_names (f : F) : (∀ i, f ≠ .kind i) → namesL (kids f) = f.names := by
  cases f with
  | kind i => intro h; exact absurd rfl (h i)
  | many n f => intro _; simp [kids, namesL, F.names]
  | node b ps => intro _; simp [kids, F.names]
/-- the number that a part's own are told times -/
def stepM (m : Nat) : F → Nat
  | .many n _ => m * n
  | _ => m
theorem kids_wf {f : F} (h : Wf f) : ∀ g ∈ kids f, Wf g := by
  cases f with
  | kind i => intro g hg; simp [kids] at hg
  | many n f => intro g hg; simp only [kids, List.mem_singleton] at hg; subst hg; simp only [Wf] at h; exact h.2
  | node b ps => intro g hg; simp only [kids] at hg; simp only [Wf] at h; exact wfL_iff.mp h.2 g hg
theorem kids_le {m : Nat} {f : F} (w : Wf f) (nd : f.names.Nodup) (h : ∀ i ∈ f.names, m * size f i ≤ 60) : ∀ g ∈ kids f, ∀ i ∈ g.names, stepM m f * size g i ≤ 60 := by
  cases f with
  | kind i => intro g hg; simp [kids] at hg
  | many n f =>
    intro g hg i hi
    simp only [kids, List.mem_singleton] at hg
    subst hg
    have := h i (by simpa only [F.names] using hi)
    simp only [size] at this
    simp only [stepM, Nat.mul_assoc]
    exact this
  | node b ps =>
    intro g hg i hi
    simp only [kids] at hg
    have hm : i ∈ namesL ps := namesL_mem.mpr ⟨g, hg, hi⟩
    have := h i (by simpa only [F.names] using hm)
    simp only [size] at this
    simp only [stepM]
    simp only [F.names] at nd
    rw [sizeL_at nd hg hi] at this
    exact this

/-! ### heaps where lists and dicts change -/
theorem TK.updL {H : Hp} {a : Addr} {o o' : HO} (h : H a = some o) (n : ∀ xs, o ≠ .tup xs) : TK H (L2.upd H a o') := fun b xs e => by
  rw [upd_ne (fun z => by subst z; rw [h] at e; exact n xs (Option.some.inj e))]
  exact e
/-- new places alone -/
theorem same_updN {H0 H : Hp} {a : Addr} {o : HO} (s : Same H0 H) (h : H0 a = none) : Same H0 (upd H a o) := fun b x e => by
  rw [upd_ne (ne_of_none e h)]
  exact s b x e
theorem u1 {k : Nat} {A : Around} (r : Room k A) : A.units + 1 < cLine := by have := r.units; omega
theorem seq_of {t u : TS} {D : Ends} {σ : L2.St} {H : Hp} (R : L2.St → Hp → Prop) (h2 : ∀ σ' H', R σ' H' → u D σ' H') (h1 : (∀ σ' H', R σ' H' → u D σ' H') → t { D with nx := u D } σ H) : tSeq t u D σ H := h1 h2
theorem none_of {H H' : Hp} {b : Addr} (e : Same H H') (h : H' b = none) : H b = none := by
  cases z : H b with
  | none => rfl
  | some o => rw [e _ _ z] at h; cases h
theorem seq_nx {t u : TS} {D : Ends} {σ : L2.St} {H : Hp} {r : VK} {b c : L2.St → Hp → Prop} (R : L2.St → Hp → Prop) (h2 : ∀ σ' H', R σ' H' → u D σ' H') (h1 : (∀ σ' H', R σ' H' → u D σ' H') → t { D with nx := u D } σ H) :
    tNext { nx := tSeq t u D, rt := r, bk := b, ct := c } σ H := h1 h2
/-- a *= b, within 64 bits -/
theorem in_mul {X : Cx} : PIp X .Mult (fun x y H Q => ∃ n m : Nat, x = .int (n : Int) ∧ y = .int (m : Int) ∧ n ≤ 4294967296 ∧ Q (.int ((n * m : Nat) : Int)) H) := by
  intro pins s σ H x y v u Q I r1 r2 h
  obtain ⟨n, m, e1, e2, hn, q⟩ := h
  subst e1; subst e2
  obtain ⟨t, rfl⟩ := r1
  obtain ⟨t', rfl⟩ := r2
  exact PyProof.Rows.imul_int ⟨.int _, H, I.tok _, ⟨_, rfl⟩, by rw [Int.natCast_mul] at q; exact q⟩ (CMul.ok (.inl ⟨by omega, by omega⟩))
theorem walk_revT {K : PySem.W.Frag} {a : Addr} {xs : List V} : Walk (RT.ItvT K a xs.length) xs.length (fun H => SqT K H a xs) (fun i H x H' => H' = H ∧ xs[xs.length - 1 - i]? = some x) :=
  ⟨fun i _ hi q => ⟨hi, xs, xs[xs.length - 1 - i]'(by omega), q, by simp [show xs.length - 1 - i < xs.length by omega]⟩, fun _ _ => Nat.le_refl _, fun _ _ _ _ _ q y => ⟨y.1, y.2 xs q⟩⟩
/-! ### the stack -/
def SE (nm : Nat → Str) (H : Hp) (p : F × Nat) (u : V) : Prop := ∃ a v, u = .ref a ∧ H a = some (.tup [v, .int (p.2 : Int)]) ∧ FV nm H p.1 v
theorem SE.keep {nm : Nat → Str} {H H' : Hp} (t : TK H H') {p : F × Nat} {u : V} (h : SE nm H p u) : SE nm H' p u := by
  obtain ⟨a, v, e, h1, h2⟩ := h
  exact ⟨a, v, e, t _ _ h1, h2.keep t⟩
theorem All2.imp {α β : Type} {R S : α → β → Prop} (f : ∀ a b, R a b → S a b) : ∀ {as : List α} {bs : List β}, All2 R as bs → All2 S as bs
  | _, _, .nil => .nil
  | _, _, .cons h t => .cons (f _ _ h) (t.imp f)
theorem All2.append {α β : Type} {R : α → β → Prop} : ∀ {as : List α} {bs : List β} {cs : List α} {ds : List β}, All2 R as bs → All2 R cs ds → All2 R (as ++ cs) (bs ++ ds)
  | _, _, _, _, .nil, h => h
  | _, _, _, _, .cons h t, h' => .cons h (t.append h')
theorem All2.snoc_inv {α β : Type} {R : α → β → Prop} : ∀ {as : List α} {a : α} {us : List β}, All2 R (as ++ [a]) us → ∃ vs u, us = vs ++ [u] ∧ All2 R as vs ∧ R a u
  | [], a, _, h => by
    cases h with
    | cons h t => cases t; exact ⟨[], _, rfl, .nil, h⟩
  | b :: as, a, _, h => by
    cases h with
    | @cons _ c _ _ h t =>
      obtain ⟨vs, u, e, h1, h2⟩ := All2.snoc_inv t
      exact ⟨c :: vs, u, by rw [e]; rfl, .cons h h1, h2⟩
theorem kids_len_cnt : ∀ f : F, cntL (kids f) < cnt f
  | .kind _ => by simp [kids, cntL, cnt]
  | .many n f => by simp [kids, cntL, cnt]
  | .node b ps => by simp [kids, cnt]
/-- the loop's state -/
structure ChkP (k : Nat) (st : List (F × Nat)) (sn : List Nat) (j : Nat) : Prop where
  wf : ∀ p ∈ st, Wf p.1
  nd : (sn ++ namesL (st.map (·.1))).Nodup
  lt : ∀ i ∈ sn ++ namesL (st.map (·.1)), i < k
  len : sn.length + (namesL (st.map (·.1))).length ≤ 8
  jn : j + jointsL (st.map (·.1)) ≤ 7
  le : ∀ p ∈ st, ∀ i ∈ p.1.names, p.2 * size p.1 i ≤ 60
  pos : ∀ p ∈ st, 1 ≤ p.2
def nextS (st0 : List (F × Nat)) (m : Nat) (g : F) : List (F × Nat) := st0 ++ (kids g).reverse.map fun x => (x, stepM m g)
theorem nextS_fst (st0 : List (F × Nat)) (m : Nat) (g : F) : (nextS st0 m g).map (·.1) = st0.map (·.1) ++ (kids g).reverse := by
  simp [nextS, List.map_append, List.map_map, Function.comp_def]
theorem namesL_perm_rev (ps : List F) : (namesL ps.reverse).Perm (namesL ps) := namesL_perm (List.reverse_perm ps)
theorem snoc_fst (st0 : List (F × Nat)) (g : F) (m : Nat) : (st0 ++ [(g, m)]).map (·.1) = st0.map (·.1) ++ [g] := by simp
theorem ChkP.part {k : Nat} {st0 : List (F × Nat)} {g : F} {m j : Nat} {sn : List Nat} (c : ChkP k (st0 ++ [(g, m)]) sn j) : Wf g ∧ g.names.Nodup ∧ (∀ i ∈ g.names, i < k) ∧ (∀ i ∈ g.names, m * size g i ≤ 60) ∧ g.names.length ≤ 8 := by
  have nd := c.nd
  have lt := c.lt
  have len := c.len
  rw [snoc_fst, namesL_append] at nd lt len
  have e1 : namesL [g] = g.names := by simp [namesL]
  rw [e1] at nd lt len
  refine ⟨c.wf (g, m) (by simp), ?_, fun i hi => lt i (by simp [hi]), c.le (g, m) (by simp), by rw [List.length_append] at len; omega⟩
  exact (List.nodup_append.mp (List.nodup_append.mp nd).2.1).2.1
theorem len_names : ∀ qs : List F, (∀ q ∈ qs, 1 ≤ q.names.length) → qs.length ≤ (namesL qs).length
  | [], _ => by simp
  | q :: r, h => by
    have h1 := h q List.mem_cons_self
    have h2 := len_names r fun s hs => h s (List.mem_cons_of_mem _ hs)
    simp only [namesL, List.length_append, List.length_cons]; omega
theorem ChkP.short {k : Nat} {st : List (F × Nat)} {j : Nat} {sn : List Nat} (c : ChkP k st sn j) : st.length ≤ 8 := by
  have h := len_names (st.map (·.1)) fun q hq => by
    obtain ⟨p, hp, rfl⟩ := List.mem_map.mp hq
    exact names_pos _ (c.wf p hp)
  have := c.len
  rw [List.length_map] at h
  omega
theorem ChkP.next {k : Nat} {st0 : List (F × Nat)} {g : F} {m j : Nat} {sn : List Nat} (c : ChkP k (st0 ++ [(g, m)]) sn j) :
    (∀ i, g = .kind i → ChkP k (nextS st0 m g) (sn ++ [i]) j ∧ i < k ∧ i ∉ sn ∧ sn.length < 8) ∧
    (∀ n f, g = .many n f → ChkP k (nextS st0 m g) sn j ∧ m * n ≤ 60 ∧ n ≤ 60 ∧ m ≤ 60) ∧
    (∀ b ps, g = .node b ps → ChkP k (nextS st0 m g) sn (j + 1) ∧ j + 1 ≤ 7 ∧ ps.length ≤ 8) := by
  obtain ⟨hw, hnd, hlt, hle, hl8⟩ := c.part
  have nd := c.nd
  have lt := c.lt
  have len := c.len
  have jn := c.jn
  rw [snoc_fst, namesL_append] at nd lt len
  rw [snoc_fst, jointsL_append] at jn
  have e1 : namesL [g] = g.names := by simp [namesL]
  have e2 : jointsL [g] = joints g := by simp [jointsL]
  rw [e1] at nd lt len
  rw [e2] at jn
  have wf2 : ∀ p ∈ nextS st0 m g, Wf p.1 := by
    intro p hp
    simp only [nextS, List.mem_append, List.mem_map, List.mem_reverse] at hp
    rcases hp with hp | ⟨x, hx, rfl⟩
    · exact c.wf p (by simp [hp])
    · exact kids_wf hw x hx
  have le2 : ∀ p ∈ nextS st0 m g, ∀ i ∈ p.1.names, p.2 * size p.1 i ≤ 60 := by
    intro p hp
    simp only [nextS, List.mem_append, List.mem_map, List.mem_reverse] at hp
    rcases hp with hp | ⟨x, hx, rfl⟩
    · exact c.le p (by simp [hp])
    · exact kids_le hw hnd hle x hx
  have hm1 : 1 ≤ m := c.pos (g, m) (by simp)
  have pos2 : ∀ p ∈ nextS st0 m g, 1 ≤ p.2 := by
    intro p hp
    simp only [nextS, List.mem_append, List.mem_map, List.mem_reverse] at hp
    rcases hp with hp | ⟨x, hx, rfl⟩
    · exact c.pos p (by simp [hp])
    · cases g with
      | kind i => exact hm1
      | node b ps => exact hm1
      | many n f => simp only [Wf] at hw; exact Nat.mul_pos hm1 (by omega)
  refine ⟨?_, ?_, ?_⟩
  · intro i hg
    subst hg
    simp only [F.names] at nd lt len
    have en : namesL ((nextS st0 m (.kind i)).map (·.1)) = namesL (st0.map (·.1)) := by rw [nextS_fst]; simp [kids]
    have pm : (sn ++ [i] ++ namesL (st0.map (·.1))).Perm (sn ++ (namesL (st0.map (·.1)) ++ [i])) := by
      rw [List.append_assoc]
      exact List.Perm.append_left _ List.perm_append_comm
    refine ⟨⟨wf2, by rw [en]; exact pm.nodup_iff.mpr nd, fun x hx => ?_, ?_, ?_, le2, pos2⟩, lt i (by simp), ?_, by rw [List.length_append, List.length_singleton] at len; omega⟩
    · rw [en] at hx; exact lt x (pm.mem_iff.mp hx)
    · rw [en]; simp only [List.length_append, List.length_singleton] at len ⊢; omega
    · rw [nextS_fst]; simp only [kids, List.reverse_nil, List.append_nil]; omega
    · intro h
      exact (List.nodup_append.mp nd).2.2 i h i (by simp) rfl
  · intro n f hg
    subst hg
    simp only [F.names] at nd lt len hnd hle hl8
    simp only [joints] at jn
    have en : namesL ((nextS st0 m (.many n f)).map (·.1)) = namesL (st0.map (·.1)) ++ f.names := by rw [nextS_fst, namesL_append]; simp [kids, namesL]
    refine ⟨⟨wf2, by rw [en]; exact nd, by rw [en]; exact lt, by rw [en]; exact len, ?_, le2, pos2⟩, ?_⟩
    · rw [nextS_fst, jointsL_append]; simp only [kids, List.reverse_singleton, jointsL]; omega
    · simp only [Wf] at hw
      have hp := names_pos f hw.2
      obtain ⟨i, hi⟩ : ∃ i, i ∈ f.names := List.exists_mem_of_length_pos hp
      have h1 := hle i hi
      simp only [size] at h1
      have h2 := size_one f hw.2 hnd i hi
      have hm : m * n ≤ 60 := by
        have : m * n * 1 ≤ m * n * size f i := Nat.mul_le_mul_left _ h2
        rw [← Nat.mul_assoc] at h1
        omega
      have h3 : 1 * n ≤ m * n := Nat.mul_le_mul_right _ (by omega)
      have h4 : m * 2 ≤ m * n := Nat.mul_le_mul_left _ hw.1
      exact ⟨hm, by omega, by omega⟩
  · intro b ps hg
    subst hg
    simp only [F.names] at nd lt len hnd hl8
    simp only [joints] at jn
    have en : namesL ((nextS st0 m (.node b ps)).map (·.1)) = namesL (st0.map (·.1)) ++ namesL ps.reverse := by rw [nextS_fst, namesL_append]; simp [kids]
    have pm := List.Perm.append_left sn (List.Perm.append_left (namesL (st0.map (·.1))) (namesL_perm_rev ps))
    refine ⟨⟨wf2, by rw [en]; exact pm.nodup_iff.mpr nd, fun x hx => ?_, ?_, ?_, le2, pos2⟩, by omega, ?_⟩
    · rw [en] at hx; exact lt x (pm.mem_iff.mp hx)
    · rw [en]; have := (namesL_perm_rev ps).length_eq; simp only [List.length_append] at len ⊢; omega
    · rw [nextS_fst, jointsL_append]; simp only [kids, jointsL_rev]; omega
    · simp only [Wf] at hw
      have key : ∀ qs : List F, (∀ q ∈ qs, 1 ≤ q.names.length) → qs.length ≤ (namesL qs).length := by
        intro qs
        induction qs with
        | nil => intro _; simp
        | cons q r ihr =>
          intro h
          have h1 := h q List.mem_cons_self
          have h2 := ihr fun s hs => h s (List.mem_cons_of_mem _ hs)
          simp only [namesL, List.length_append, List.length_cons]; omega
      have := key ps fun q hq => names_pos q (wfL_iff.mp hw.2 q hq)
      omega
theorem next_cnt (st0 : List (F × Nat)) (m : Nat) (g : F) : cntL ((nextS st0 m g).map (·.1)) < cntL ((st0 ++ [(g, m)]).map (·.1)) := by
  rw [nextS_fst, snoc_fst, cntL_append, cntL_append, cntL_rev]
  have := kids_len_cnt g
  simp only [cntL]; omega
theorem sc_check : FnScope ["value", "open_parts", "seen", "joints", "at", "part", "above", "parts", "wrong", "item"] ["value"] (defScope s_check_formula) := ⟨rfl, rfl, rfl, by decide +kernel, rfl, by decide +kernel, by decide +kernel⟩
def spCheck (nm : Nat → Str) (k : Nat) : Sp := fun vs H Q _ => ∃ (v : V) (f : F), vs = [v] ∧ FV nm H f v ∧ Fit k 1 f ∧ f.names.length ≤ 8 ∧ ∀ H', Same H H' → Q .non H'

section
variable {P : Program} {w : World} {K : PySem.W.Frag} {mg : Str → Option Value} {base : Heap} {nm : Nat → Str}
theorem seen_none {nm : Nat → Str} {k : Nat} (N : Nm nm k) {i : Nat} (hi : i < k) : ∀ {sn : List Nat}, (∀ j ∈ sn, j < k) → i ∉ sn → valV (sn.map fun j => ((Sum.inr (nm j) : Key), V.bl true)) (Sum.inr (nm i)) = none
  | [], _, _ => rfl
  | j :: sn, h, hn => by
    rw [List.map_cons, valV_neg (fun z => ?_)]
    · exact seen_none N hi (fun a b => h a (List.mem_cons_of_mem _ b)) (fun a => hn (List.mem_cons_of_mem _ a))
    · have e : nm j = nm i := Sum.inr.inj z
      have := N.ne (h j List.mem_cons_self) hi e
      subst this
      exact hn List.mem_cons_self
theorem ok_check {k : Nat} (T : Txt K mg) (N : Nm nm k) : Kept P w K mg base 4 "check_formula" ["value"] (spCheck nm k) := by
  have G := ok_parts_of (P := P) (w := w) (base := base) T N
  obtain ⟨fd, FD⟩ := T.f_check_formula
  obtain ⟨ta, hMA⟩ := T.c_MA
  obtain ⟨tk, hMK⟩ := T.c_MK
  refine kept_of FD T.m_check_formula sc_check (fun _ _ _ _ _ _ us hl => match us, hl with | [_], _ => rfl) (fun vs H Q E h => ?_) (fun cdv A outer s H vs Q E hr h => ?_)
  · obtain ⟨v, f, rfl, _⟩ := h; rfl
  obtain ⟨v, f, rfl, hf, hfit, hlen, q⟩ := h
  have nd := sc_check.nd
  refine ⟨_, pss_cons (ps_asg (pe_tup (pa_cons (pe_lst (pa_cons (pe_tup (pa_cons (pv 0) (pa_cons pe_int pa_nil))) pa_nil)) (pa_cons pe_dnewK (pa_cons pe_int (pa_cons pe_int pa_nil)))))
      (pg_tup rfl (pgs_cons (pg_name (i := 1) nd rfl (Or.inl rfl)) (pgs_cons (pg_name (i := 2) nd rfl (Or.inl rfl)) (pgs_cons (pg_name (i := 3) nd rfl (Or.inl rfl)) (pgs_cons (pg_name (i := 4) nd rfl (Or.inl rfl)) pgs_nil))))))
    (pss_one (ps_while PassesOwn.never (pt_cmpR op_gt (pe_callB call_len_seq (by rfl) T.z_len PySem.boot_len (pa_cons (pv 1) pa_nil)) pe_int (nomark _))
      (pss_cons (ps_asg (pe_bm0 PySem.F.plainAttrs_list PySem.F.slot_list_pop PySem.F.type_list_pop mt_pop (pv 1)) (pg_tup rfl (pgs_cons (pg_name (i := 5) nd rfl (Or.inl rfl)) (pgs_cons (pg_name (i := 6) nd rfl (Or.inr rfl)) pgs_nil))))
      (pss_cons (ps_set (i := 7) nd rfl (Or.inl rfl) (pe_kc G hr rfl (pa_cons (pv 5) pa_nil)))
      (pss_cons (ps_if (pt_cmpR op_isN (pv 7) pe_non (nomark _)) (pss_one ps_never) pss_nil)
      (pss_cons (ps_if (pt_cmpR op_eq (pe_ix ix_tup (pv 5) pe_int (fun _ _ => rfl)) pe_str (nomark _))
          (pss_cons (ps_set (i := 8) nd rfl (Or.inl rfl) (pe_or (pe_cmp (pc_din (u1 hr) (pe_ix ix_tup (pv 5) pe_int (fun _ _ => rfl)) (pv 2)))
              (pe_one (pe_cmpR op_ge (pe_callB call_lenD (by rfl) T.z_len PySem.boot_len (pa_cons (pv 2) pa_nil)) (pe_glob (v := .int 8) rfl hMK ⟨_, rfl⟩) (nomark _)))))
            (pss_one (ps_dput (u1 hr) (pv 2) (pe_ix ix_tup (pv 5) pe_int (fun _ _ => rfl)) pe_bl rfl)))
          (pss_one (ps_if (pt_cmpR op_eq (pe_ix ix_tup (pv 5) pe_int (fun _ _ => rfl)) pe_str (nomark _))
            (pss_cons (ps_aug (i := 6) nd rfl (Or.inr rfl) (pe_ix ix_tup (pv 5) pe_int (fun _ _ => rfl)) in_mul)
              (pss_one (ps_set (i := 8) nd rfl (Or.inl rfl) (pe_cmpR op_gt (pv 6) (pe_glob (v := .int 60) rfl hMA ⟨_, rfl⟩) (nomark _)))))
            (pss_cons (ps_aug (i := 3) nd rfl (Or.inl rfl) pe_int ip_add)
              (pss_one (ps_set (i := 8) nd rfl (Or.inl rfl) (pe_cmpR op_ge (pv 3) (pe_glob (v := .int 8) rfl hMK ⟨_, rfl⟩) (nomark _))))))))
      (pss_cons (ps_if (pt_val (pv 8)) (pss_one ps_never) pss_nil)
      (pss_cons (ps_expr (pe_bm PySem.F.plainAttrs_list PySem.F.slot_list_extend PySem.F.type_list_extend mt_ext (pv 1) (pa_cons (pe_lc (own := [("item", 9)]) (g := gName 9) (tt := tYes) rfl nd (RT.pi_revA (by rfl) T.z_reversed (pv 7))
          (blkOk_by (N := ["value", "open_parts", "seen", "joints", "at", "part", "above", "parts", "wrong", "item"]) (sc := defScope s_check_formula) (by decide +kernel)) (fun _ _ _ _ _ => pg_name (i := 9) nd rfl (Or.inl rfl)) (fun _ _ _ _ _ => pts_nil)
          (fun _ _ _ _ _ => pe_tup (pa_cons (pv 9) (pa_cons (pv 6) pa_nil)))) pa_nil)))
      (pss_one (ps_aug (i := 4) nd rfl (Or.inl rfl) pe_int ip_add)))))))))), ?_⟩
  -- the start: a stack of one
  refine ⟨_, rfl, by show 2 ≤ sizeLine; decide, fun a ha => ⟨by show 1 ≤ sizeLine; decide, fun op hop => fun sd hsd => ⟨by show 4 ≤ sizeLine; decide, fun t ht => ?_⟩⟩⟩
  refine ⟨t, _, rfl, SqT.of upd_same, rfl, _, _, rfl, _, _, rfl, _, _, rfl, _, _, rfl, rfl, ?_⟩
  have nop : op ≠ a := fun z => by subst z; rw [upd_same] at hop; cases hop
  have Hop : H op = none := by rw [upd_ne nop] at hop; exact hop
  have nsd : sd ≠ op := fun z => by subst z; rw [upd_same] at hsd; cases hsd
  have nsa : sd ≠ a := fun z => by subst z; rw [upd_ne nop.symm, upd_same] at hsd; cases hsd
  have Hsd : H sd = none := by rw [upd_ne nsd, upd_ne nsa] at hsd; exact hsd
  have nt1 : t ≠ sd := fun z => by subst z; rw [upd_same] at ht; cases ht
  have nt2 : t ≠ op := fun z => by subst z; rw [upd_ne nt1, upd_same] at ht; cases ht
  have nt3 : t ≠ a := fun z => by subst z; rw [upd_ne nsa.symm, upd_ne nop.symm, upd_same] at ht; cases ht
  have Ht : H t = none := by rw [upd_ne nt1, upd_ne nt2, upd_ne nt3] at ht; exact ht
  refine ⟨fun μ σ' H' => ∃ (st : List (F × Nat)) (us : List V) (sn : List Nat) (j : Nat) (n : Int) (x5 x6 x7 x8 x9 : Option V), μ = cntL (st.map (·.1)) ∧
    σ' = [some v, some (.ref op), some (.ref sd), some (.int (j : Int)), some (.int n), x5, x6, x7, x8, x9] ∧ Same H H' ∧ H' op = some (.lst us) ∧ All2 (SE nm H') st us ∧ us.length ≤ 1000 ∧
    H' sd = some (.dK (sn.map fun i => (Sum.inr (nm i), V.bl true))) ∧ ChkP k st sn j, ⟨_, [(f, 1)], [.ref a], [], 0, 0, none, none, none, none, none, rfl, rfl, ?_, ?_, ?_, by simp, ?_, ?_⟩, ?_⟩
  · exact same_updN (same_updN (same_updN (same_upd ha) Hop) Hsd) Ht
  · rw [upd_ne nt2.symm, upd_ne nsd.symm, upd_same]
  · have s1 := same_updN (same_updN (same_updN (same_upd (o := .tup [v, .int 1]) ha) Hop (o := .lst [.ref a])) Hsd (o := .dK [])) Ht (o := .tup [.ref op, .ref sd, .int 0, .int 0])
    refine .cons ⟨a, v, rfl, ?_, hf.keep (TK.of s1)⟩ .nil
    rw [upd_ne nt3.symm, upd_ne nsa.symm, upd_ne nop.symm, upd_same]
    rfl
  · rw [upd_ne nt1.symm, upd_same]; rfl
  · refine ⟨?_, ?_, ?_, ?_, ?_, ?_, ?_⟩
    · intro p hp; simp only [List.mem_singleton] at hp; subst hp; exact hfit.wf
    · simpa [namesL] using hfit.nd
    · intro i hi; exact hfit.lt i (by simpa [namesL] using hi)
    · simpa [namesL] using hlen
    · have := joints_lt f hfit.wf
      simp only [List.map_cons, List.map_nil, jointsL]; omega
    · intro p hp; simp only [List.mem_singleton] at hp; subst hp; exact hfit.le
    · intro p hp; simp only [List.mem_singleton] at hp; subst hp; exact Nat.le_refl 1
  rintro μ σ' H1 ⟨st, us, sn, j, n, x5, x6, x7, x8, x9, rfl, rfl, eS, hopL, hst, hl1, hsdD, cp⟩
  refine ⟨_, rfl, op, _, rfl, .inl (SqL.of hopL), _, _, rfl, rfl, _, rfl, ?_⟩
  rcases List.eq_nil_or_concat st with rfl | ⟨st0, ⟨g, m⟩, rfl⟩
  · cases hst
    exact ifDF (by show decide ((0 : Int) < ((([] : List V).length : Nat) : Int)) = false; decide) (q _ eS)
  rw [List.concat_eq_append] at hst cp ⊢
  obtain ⟨us0, u, rfl, hst0, a1, vg, rfl, ha1, hvg⟩ := All2.snoc_inv hst
  refine ifDT (decide_eq_true (by simp only [List.length_append, List.length_singleton]; omega)) ?_
  refine ⟨fun σ2 H2 => ∃ m', m' < cntL ((st0 ++ [(g, m)]).map (·.1)) ∧ ∃ (st : List (F × Nat)) (us : List V) (sn : List Nat) (j : Nat) (n : Int) (x5 x6 x7 x8 x9 : Option V), m' = cntL (st.map (·.1)) ∧
    σ2 = [some v, some (.ref op), some (.ref sd), some (.int (j : Int)), some (.int n), x5, x6, x7, x8, x9] ∧ Same H H2 ∧ H2 op = some (.lst us) ∧ All2 (SE nm H2) st us ∧ us.length ≤ 1000 ∧
    H2 sd = some (.dK (sn.map fun i => (Sum.inr (nm i), V.bl true))) ∧ ChkP k st sn j, fun σ' H' h => h, ?_⟩
  obtain ⟨hwg, hndg, hltg, hleg, hl8⟩ := cp.part
  obtain ⟨nK, nM, nN⟩ := cp.next
  have nsop : op ≠ sd := nsd.symm
  -- pop
  refine ⟨_, rfl, .inl ⟨rfl, _, SqL.of hopL⟩, op, _, .ref a1, rfl, rfl, hopL, by simp, ?_⟩
  have tk2 : TK H1 (upd H1 op (.lst us0)) := TK.updL hopL (fun _ z => by cases z)
  have e2 : Same H (upd H1 op (.lst us0)) := same_updN eS Hop
  rw [show (us0 ++ [V.ref a1]).dropLast = us0 by simp]
  refine ⟨a1, _, rfl, SqT.of (tk2 _ _ ha1), rfl, _, _, rfl, _, _, rfl, rfl, ?_⟩
  have hvg2 := hvg.keep tk2
  have hgood : Good k g := by
    cases g with
    | kind i => exact hltg i (by simp [F.names])
    | many n f => obtain ⟨_, h1, h2, _⟩ := nM n f rfl; simp only [Wf] at hwg; exact ⟨hwg.1, h2⟩
    | node b ps => obtain ⟨_, _, h2⟩ := nN b ps rfl; simp only [Wf] at hwg; exact ⟨hwg.1, by omega⟩
  refine ⟨_, rfl, vg, g, rfl, hvg2, hgood, fun p us' H3 e3 hp hus => ?_⟩
  refine ⟨_, rfl, rfl, _, rfl, ifDF (decide_eq_false (fun z => nomatch z)) ?_⟩
  have hvg3 := hvg2.keep (TK.of e3)
  have hop3 : H3 op = some (.lst us0) := e3 _ _ upd_same
  have hsd3 : H3 sd = some (.dK (sn.map fun i => (Sum.inr (nm i), V.bl true))) := e3 _ _ (by rw [upd_ne nsd]; exact hsdD)
  have hst3 : All2 (SE nm H3) st0 us0 := hst0.imp fun a b h => (h.keep tk2).keep (TK.of e3)
  have eS3 : Same H H3 := e2.trans e3
  have hl0 : us0.length ≤ 8 := by
    have h9 := cp.short
    rw [← hst0.length]
    simp only [List.length_append, List.length_singleton] at h9
    omega
  -- what stands behind the three ways
  refine seq_nx (fun σ4 H4 => ∃ (sn2 : List Nat) (j2 : Nat), σ4 = [some v, some (.ref op), some (.ref sd), some (.int (j2 : Int)), some (.int n), some vg, some (.int (stepM m g : Nat)), some (.ref p), some (.bl false), x9] ∧
      Same H H4 ∧ H4 op = some (.lst us0) ∧ All2 (SE nm H4) st0 us0 ∧ H4 sd = some (.dK (sn2.map fun i => (Sum.inr (nm i), V.bl true))) ∧ H4 p = some (.tup us') ∧ FVs nm H4 (kids g) us' ∧ ChkP k (nextS st0 m g) sn2 j2) ?_ fun tail => ?_
  · rintro σ4 H4 ⟨sn2, j2, rfl, e4, hop4, hst4, hsd4, hp4, hus4, cp4⟩
    refine ⟨_, rfl, _, rfl, ifDF rfl ?_⟩
    refine ⟨_, rfl, .inl ⟨rfl, _, SqL.of hop4⟩, ?_⟩
    refine ⟨_, rfl, p, us', rfl, .inr ⟨SqT.of hp4, fun D hD => ?_⟩⟩
    have hlk : us'.length = (kids g).length := hus4.length
    have hlk8 : (kids g).length ≤ 60 := by
      cases g with
      | kind i => simp [kids]
      | many n f => simp [kids]
      | node b ps => obtain ⟨_, _, h2⟩ := nN b ps rfl; simp only [kids]; omega
    refine lc_it walk_revT (fun i H5 => Same H4 H5 ∧ ∃ ws, H5 D = some (.lst ws) ∧ All2 (SE nm H5) (((kids g).reverse.take i).map fun x => (x, stepM m g)) ws) ⟨same_upd hD, [], upd_same, .nil⟩ (fun i H5 _ h => SqT.of (h.1 _ _ hp4)) ?_ ?_
    · rintro i x H5 H6 hi ⟨e5, ws, hD5, hws⟩ ⟨rfl, hx⟩
      obtain ⟨y, hy, hfy⟩ := hus4.lt hx
      refine ⟨rfl, yesT ⟨_, rfl, _, rfl, by show 2 ≤ sizeLine; decide, fun b hb => ?_⟩⟩
      have nbD : b ≠ D := fun z => by subst z; rw [hD5] at hb; cases hb
      have eD : upd H6 b (.tup [x, .int ((stepM m g : Nat) : Int)]) D = some (.lst ws) := by rw [upd_ne nbD.symm]; exact hD5
      have tkA : TK H6 (upd H6 b (.tup [x, .int ((stepM m g : Nat) : Int)])) := TK.upd hb
      have tkB := TK.updL (o' := .lst (ws ++ [.ref b])) eD (fun _ z => by cases z)
      have hwl : ws.length ≤ 60 := by
        rw [← hws.length, List.length_map, List.length_take]
        omega
      refine ⟨ws, eD, lt_line (by omega), ?_, ws ++ [.ref b], upd_same, ?_⟩
      · exact same_updN (same_updN e5 (none_of e5 hb)) hD
      · have er : (kids g).reverse[i]? = some y := by
          rw [List.getElem?_reverse (by omega)]
          rw [hlk] at hy
          exact hy
        rw [List.take_add_one, er, List.map_append]
        refine All2.append (hws.imp fun a c h => (h.keep tkA).keep tkB) (.cons ?_ .nil)
        exact ⟨b, x, rfl, tkB _ _ upd_same, ((hfy.keep (TK.of e5)).keep tkA).keep tkB⟩
    · rintro H5 ⟨e5, ws, hD5, hws⟩
      rw [hlk, ← List.length_reverse, List.take_length] at hws
      have hop5 : H5 op = some (.lst us0) := e5 _ _ hop4
      have hwl : ws.length ≤ 60 := by
        rw [← hws.length, List.length_map, List.length_reverse]; exact hlk8
      have nopD : op ≠ D := fun z => by subst z; rw [hop4] at hD; cases hD
      have tkB := TK.updL (o' := .lst (us0 ++ ws)) hop5 (fun _ z => by cases z)
      refine ⟨op, D, us0, ws, rfl, rfl, hop5, .inr ⟨SqL.of hD5, nopD⟩, le_line (by omega), ?_⟩
      refine ⟨_, rfl, _, _, rfl, rfl, ?_⟩
      have full : All2 (SE nm H5) (nextS st0 m g) (us0 ++ ws) := (hst4.imp fun a c h => h.keep (TK.of e5)).append hws
      have hcn : (nextS st0 m g).length ≤ 100 := by
        have := cp4.short
        omega
      refine ⟨_, next_cnt st0 m g, nextS st0 m g, us0 ++ ws, sn2, j2, _, _, _, _, _, _, rfl, rfl, same_updN (e4.trans e5) Hop, upd_same, full.imp fun a c h => h.keep tkB, ?_, ?_, cp4⟩
      · rw [← full.length]; omega
      · rw [upd_ne nsd]; exact e5 _ _ hsd4
  · cases g with
    | kind i =>
      simp only [FV] at hvg3
      obtain ⟨a, rfl, ha⟩ := hvg3
      obtain ⟨nc, hik, hns, hn8⟩ := nK i rfl
      refine ⟨_, rfl, a, _, 0, _, rfl, rfl, SqT.of ha, atI_nat (j := 0) rfl, rfl, _, rfl, ifDT kk ?_⟩
      have hsn : ∀ x ∈ sn, x < k := fun x hx => cp.lt x (by simp [hx])
      have hnone := seen_none N hik hsn hns
      refine ⟨_, rfl, a, _, 1, _, rfl, rfl, SqT.of ha, atI_nat (j := 1) rfl, _, rfl, sd, none, rfl, ?_, false, rfl, ifDF rfl ?_⟩
      · have := DGet.k (k := Sum.inr (nm i)) hsd3
        rw [hnone] at this
        exact this
      refine ⟨_, rfl, sd, _, rfl, hsd3, _, _, rfl, rfl, ?_⟩
      refine ⟨_, rfl, _, rfl, a, _, 1, _, rfl, rfl, SqT.of ha, atI_nat (j := 1) rfl, ?_⟩
      refine ⟨sd, _, rfl, DPut.k (k := Sum.inr (nm i)) hsd3 (lt_line (by rw [List.length_map]; omega)), ?_⟩
      rw [putK_new _ hnone]
      have tkB := TK.updL (o' := .dK ((sn.map fun j => ((Sum.inr (nm j) : Key), V.bl true)) ++ [(Sum.inr (nm i), V.bl true)])) hsd3 (fun _ z => by cases z)
      refine tail _ _ ⟨sn ++ [i], j, ?_, same_updN eS3 Hsd, by rw [upd_ne nsop]; exact hop3, hst3.imp fun a c h => h.keep tkB, by rw [upd_same, List.map_append]; rfl, tkB _ _ hp, hus.keep tkB, nc⟩
      have : decide ((8 : Int) ≤ ((sn.map fun j => ((Sum.inr (nm j) : Key), V.bl true)).length : Int)) = false := decide_eq_false (by rw [List.length_map]; omega)
      show [some v, some (V.ref op), some (V.ref sd), some (V.int (j : Int)), some (V.int n), some (V.ref a), some (V.int (m : Int)), some (V.ref p), some (V.bl (decide ((8 : Int) ≤ ((sn.map fun j => ((Sum.inr (nm j) : Key), V.bl true)).length : Int)))), x9] = _
      rw [this]
      rfl
    | many n' f' =>
      simp only [FV] at hvg3
      obtain ⟨a, u', rfl, ha, hu⟩ := hvg3
      obtain ⟨nc, h60, hn60, hm60⟩ := nM n' f' rfl
      refine ⟨_, rfl, a, _, 0, _, rfl, rfl, SqT.of ha, atI_nat (j := 0) rfl, rfl, _, rfl, ifDF mk_ ?_⟩
      refine ⟨_, rfl, a, _, 0, _, rfl, rfl, SqT.of ha, atI_nat (j := 0) rfl, rfl, _, rfl, ifDT mm ?_⟩
      refine ⟨_, rfl, _, rfl, a, _, 1, _, rfl, rfl, SqT.of ha, atI_nat (j := 1) rfl, m, n', rfl, rfl, by omega, ?_⟩
      refine ⟨_, rfl, _, _, rfl, rfl, ?_⟩
      refine tail _ _ ⟨sn, j, ?_, eS3, hop3, hst3, hsd3, hp, hus, nc⟩
      have : decide ((60 : Int) < ((m * n' : Nat) : Int)) = false := decide_eq_false (by omega)
      show [some v, some (V.ref op), some (V.ref sd), some (V.int (j : Int)), some (V.int n), some (V.ref a), some (V.int ((m * n' : Nat) : Int)), some (V.ref p), some (V.bl (decide ((60 : Int) < ((m * n' : Nat) : Int)))), x9] = _
      rw [this]
      rfl
    | node b ps =>
      simp only [FV] at hvg3
      obtain ⟨a, c, us2, rfl, ha, hc, hus2⟩ := hvg3
      obtain ⟨nc, h7, _⟩ := nN b ps rfl
      refine ⟨_, rfl, a, _, 0, _, rfl, rfl, SqT.of ha, atI_nat (j := 0) rfl, rfl, _, rfl, ifDF (wk b) ?_⟩
      refine ⟨_, rfl, a, _, 0, _, rfl, rfl, SqT.of ha, atI_nat (j := 0) rfl, rfl, _, rfl, ifDF (wm b) ?_⟩
      refine ⟨_, rfl, _, _, rfl, rfl, ?_⟩
      refine ⟨_, rfl, _, _, rfl, rfl, ?_⟩
      refine tail _ _ ⟨sn, j + 1, ?_, eS3, hop3, hst3, hsd3, hp, hus, nc⟩
      have : decide ((8 : Int) ≤ (j : Int) + 1) = false := decide_eq_false (by omega)
      show [some v, some (V.ref op), some (V.ref sd), some (V.int ((j : Int) + 1)), some (V.int n), some (V.ref a), some (V.int (m : Int)), some (V.ref p), some (V.bl (decide ((8 : Int) ≤ (j : Int) + 1))), x9] = _
      rw [this]
      rfl
end
end Nf

/-! ## K4 -/
set_option Elab.async false
set_option linter.all false
set_option maxRecDepth 100000
set_option maxHeartbeats 4000000
/-! kinds_of, sizes_of, meeting -/
namespace Nf
open PySem PySem.Spec PyProof.Rows L2
theorem perm_sorted_eq {α : Type} {r : α → α → Prop} (anti : ∀ a b, r a b → r b a → a = b) : ∀ {l m : List α}, l.Perm m → l.Pairwise r → m.Pairwise r → l = m
  | [], m, p, _, _ => by simpa using p.symm.eq_nil.symm
  | a :: l, [], p, _, _ => by simpa using p.eq_nil
  | a :: l, b :: m, p, hl, hm => by
    rw [List.pairwise_cons] at hl hm
    have e : a = b := by
      have h1 : a ∈ b :: m := p.mem_iff.mp List.mem_cons_self
      have h2 : b ∈ a :: l := p.mem_iff.mpr List.mem_cons_self
      rcases List.mem_cons.mp h1 with h1 | h1
      · exact h1
      · rcases List.mem_cons.mp h2 with h2 | h2
        · exact h2.symm
        · exact anti a b (hl.1 b h2) (hm.1 a h1)
    subst e
    rw [perm_sorted_eq anti (List.Perm.cons_inv p) hl.2 hm.2]
theorem sortedS_le : ∀ {ys : List Str}, sortedS ys = true → ys.Pairwise fun a b => ¬ b.cps.toList < a.cps.toList
  | [], _ => .nil
  | x :: r, h => by
    have key : ∀ (r : List Str) (x : Str), risingS x r = true → (x :: r).Pairwise fun a b => ¬ b.cps.toList < a.cps.toList := by
      intro r
      induction r with
      | nil => intro x _; simp
      | cons y r ih =>
        intro x h
        have h : (!ltCps y.cps.toList x.cps.toList && risingS y r) = true := h
        rw [Bool.and_eq_true, ltCps_eq] at h
        have h1 : ¬ y.cps.toList < x.cps.toList := by simpa using h.1
        have h2 := ih y h.2
        refine List.pairwise_cons.mpr ⟨fun z hz => ?_, h2⟩
        rcases List.mem_cons.mp hz with rfl | hz
        · exact h1
        · have h3 := (List.pairwise_cons.mp h2).1 z hz
          have h4 := List.not_lt.mp h1
          have h5 := List.not_lt.mp h3
          exact List.not_lt.mpr (List.le_trans h4 h5)
    exact key r x h
theorem str_ext {a b : Str} (h : a.cps.toList = b.cps.toList) : a = b := by
  cases a; cases b
  simp only [Str.mk.injEq]
  exact Array.toList_inj.mp h
/-- names rising, sorted by places -/
theorem nm_sorted {nm : Nat → Str} {k : Nat} (N : Nm nm k) {ys : List Str} {l : List Nat} (p : ys.Perm (l.map nm)) (s : sortedS ys = true) {m : List Nat} (pm : m.Perm l) (hm : m.Pairwise (· < ·)) (hk : ∀ i ∈ m, i < k) : ys = m.map nm := by
  refine perm_sorted_eq (r := fun a b : Str => ¬ b.cps.toList < a.cps.toList) (fun a b h1 h2 => str_ext (List.le_antisymm (List.not_lt.mp h1) (List.not_lt.mp h2))) (p.trans (pm.map nm).symm) (sortedS_le s) ?_
  rw [List.pairwise_map]
  refine hm.imp_of_mem fun {a b} ha hb h => ?_
  have := N.inc a b h (hk b hb)
  exact fun z => List.lt_irrefl _ (List.lt_trans z this)
theorem nv_str (nm : Nat → Str) (l : List Nat) : nv nm l = (l.map nm).map V.str := by simp [nv, List.map_map, Function.comp_def]
theorem range_pair (k : Nat) : (List.range k).Pairwise (· < ·) := List.pairwise_lt_range
theorem inV_nv {nm : Nat → Str} {k : Nat} (N : Nm nm k) {i : Nat} (hi : i < k) : ∀ {l : List Nat}, (∀ x ∈ l, x < k) → inV (.str (nm i)) (nv nm l) = decide (i ∈ l)
  | [], _ => by simp [inV]
  | x :: l, h => by
    have ih := inV_nv N hi (l := l) fun y hy => h y (List.mem_cons_of_mem _ hy)
    have e : inV (.str (nm i)) (nv nm (x :: l)) = (eqV (.str (nm x)) (.str (nm i)) || inV (.str (nm i)) (nv nm l)) := by simp [inV, nv]
    rw [e, ih]
    have e2 : eqV (.str (nm x)) (.str (nm i)) = (nm x == nm i) := rfl
    rw [e2]
    by_cases hx : i = x
    · subst hx; simp
    · have : ¬ nm x = nm i := fun z => hx (N.ne hi (h x List.mem_cons_self) z.symm)
      simp [this, hx]
theorem nv_flat (nm : Nat → Str) (l : List Nat) : (nv nm l).all flatV = true := by
  rw [List.all_eq_true]
  intro x hx
  simp only [nv, List.mem_map] at hx
  obtain ⟨i, _, rfl⟩ := hx
  rfl
/-! ### kinds_of -/
theorem sc_kinds_of : FnScope ["formula"] ["formula"] (defScope s_kinds_of) := ⟨rfl, rfl, rfl, by decide +kernel, rfl, by decide +kernel, by decide +kernel⟩
def spKinds (nm : Nat → Str) (k n : Nat) : Sp := fun vs H Q _ => ∃ (v : V) (f : F), vs = [v] ∧ FV nm H f v ∧ dep f < n ∧ k < 64 ∧ f.names.Perm (List.range k) ∧
  ∀ (p : Addr) (H' : Hp), Same H H' → H p = none → H' p = some (.tup (nv nm (List.range k))) → Q (.ref p) H'
section
variable {P : Program} {w : World} {K : PySem.W.Frag} {mg : Str → Option Value} {base : Heap} {nm : Nat → Str}
theorem ok_kinds_of {k : Nat} (T : Txt K mg) (N : Nm nm k) (n : Nat) : Kept P w K mg base (n + 1) "kinds_of" ["formula"] (spKinds nm k n) := by
  have G := ok_names_in (P := P) (w := w) (base := base) (nm := nm) T n
  obtain ⟨fd, FD⟩ := T.f_kinds_of
  refine kept_of FD T.m_kinds_of sc_kinds_of (fun _ _ _ _ _ _ us hl => match us, hl with | [_], _ => rfl) (fun vs H Q E h => ?_) (fun cdv A outer s H vs Q E hr h => ?_)
  · obtain ⟨v, f, rfl, _⟩ := h; rfl
  obtain ⟨v, f, rfl, hf, hd, hk, hp, q⟩ := h
  refine ⟨_, pss_one (ps_ret (pe_callTy call_tuple_of (by rfl) T.z_tuple (by decide +kernel) (pa_cons (pe_callB cr_sortedS (by rfl) T.z_sorted (by decide +kernel) (pa_cons (pe_kc G hr rfl (pa_cons (pv 0) pa_nil)) pa_nil)) pa_nil))), ?_⟩
  have hl : f.names.length = k := by rw [hp.length_eq, List.length_range]
  refine ⟨_, rfl, v, f, rfl, hf, hd, by omega, fun p H1 e1 np hp1 => ?_⟩
  rw [nv_str] at hp1
  refine ⟨p, _, rfl, SqL.of hp1, by rw [List.length_map]; omega, fun ys p2 hy hs np2 => ?_⟩
  have ey := nm_sorted N hy hs hp.symm (range_pair k) (fun i hi => by simpa using hi)
  refine ⟨p2, _, rfl, .inl ⟨SqL.of upd_same, fun p3 np3 => ?_⟩⟩
  have s2 : Same H1 (upd H1 p2 (.lst (ys.map V.str))) := same_upd np2
  refine q p3 _ ((e1.trans s2).trans (same_upd np3)) (none_of (e1.trans s2) np3) ?_
  rw [upd_same, ey, ← nv_str]
/-! ### dicts -/
theorem mergeK_new : ∀ (more kvs : List (Key × V)), (more.map (·.1)).Nodup → (∀ p ∈ more, valV kvs p.1 = none) → mergeK kvs more = kvs ++ more
  | [], kvs, _, _ => by simp [mergeK]
  | p :: r, kvs, hn, h => by
    have e : mergeK kvs (p :: r) = mergeK (putK kvs p.1 p.2) r := rfl
    rw [e, putK_new _ (h p List.mem_cons_self)]
    rw [List.map_cons, List.nodup_cons] at hn
    rw [mergeK_new r _ hn.2 fun p' hp' => ?_, List.append_assoc]
    · rfl
    · rw [valV_snoc _ _ _ _ (h p List.mem_cons_self), if_neg (fun z => hn.1 (List.mem_map.mpr ⟨p', hp', z⟩))]
      exact h p' (List.mem_cons_of_mem _ hp')
/-- the dict of sizes -/
def sz (nm : Nat → Str) (f : F) (l : List Nat) : List (Key × V) := l.map fun i => (Sum.inr (nm i), V.int (size f i : Int))
theorem sz_none {k : Nat} (N : Nm nm k) (g : Nat → V) {i : Nat} (hi : i < k) : ∀ {l : List Nat}, (∀ j ∈ l, j < k) → i ∉ l → valV (l.map fun j => ((Sum.inr (nm j) : Key), g j)) (Sum.inr (nm i)) = none
  | [], _, _ => rfl
  | j :: l, h, hn => by
    rw [List.map_cons, valV_neg (fun z => ?_)]
    · exact sz_none N g hi (fun a b => h a (List.mem_cons_of_mem _ b)) (fun a => hn (List.mem_cons_of_mem _ a))
    · have e : nm j = nm i := Sum.inr.inj z
      have := N.ne (h j List.mem_cons_self) hi e
      subst this
      exact hn List.mem_cons_self
theorem sz_some {k : Nat} (N : Nm nm k) (g : Nat → V) {i : Nat} : ∀ {l : List Nat}, (∀ j ∈ l, j < k) → i ∈ l → valV (l.map fun j => ((Sum.inr (nm j) : Key), g j)) (Sum.inr (nm i)) = some (g i)
  | [], _, h => by simp at h
  | j :: l, h, hn => by
    rw [List.map_cons]
    by_cases e : j = i
    · subst e
      exact valV_pos rfl
    · have hm : i ∈ l := (List.mem_cons.mp hn).resolve_left (fun z => e z.symm)
      rw [valV_neg (fun z => e (N.ne (h j List.mem_cons_self) (h i hn) (Sum.inr.inj z)))]
      exact sz_some N g (fun a b => h a (List.mem_cons_of_mem _ b)) hm
theorem sz_keys {k : Nat} (N : Nm nm k) (g : Nat → V) {l : List Nat} (h : ∀ j ∈ l, j < k) (nd : l.Nodup) : ((l.map fun j => ((Sum.inr (nm j) : Key), g j)).map (·.1)).Nodup := by
  rw [List.map_map]
  refine List.pairwise_map.mpr ?_
  refine List.Pairwise.imp_of_mem (fun {a b} ha hb hab => ?_) nd
  intro z
  exact hab (N.ne (h a ha) (h b hb) (Sum.inr.inj z))
end
/-- a dict comprehension over a walk -/
theorem dc_it {J : It} {n : Nat} {G : Hp → Prop} {Y : Nat → Hp → V → Hp → Prop} (w : Walk J n G Y) {g : TG} {tt : TT} {tk tv : TE} {vs : List Nat} {σ : L2.St} {H1 : Hp} {D : Addr} {Qd : Hp → Prop} (Pv : Nat → Hp → Prop) (h0 : Pv 0 (upd H1 D (.dK []))) (hG : ∀ i H, i ≤ n → Pv i H → G H)
    (hs : ∀ i x H H', i < n → Pv i H → Y i H x H' → g x (wipe σ vs) H' fun σ2 H2 => wipe σ2 vs = wipe σ vs ∧ tt σ2 H2 fun b H3 =>
      if b = true then tk σ2 H3 fun y H4 => tv σ2 H4 fun z H5 => ∃ kvs k, y = kV k ∧ H5 D = some (.dK kvs) ∧ kvs.length < sizeLine ∧ Pv (i + 1) (upd H5 D (.dK (putK kvs k z))) else Pv (i + 1) H3) (hd : ∀ H, Pv n H → Qd H) :
    ∃ W : Nat → Nat → Hp → Prop, (∃ m, W 0 m (upd H1 D (.dK []))) ∧ ∀ i m H, W i m H →
      (J.stop i H ∧ Qd H) ∨ (J.go i H ∧ ∃ Nx : Hp → Prop, (∀ H', Nx H' → ∃ m', m' < m ∧ W (i + 1) m' H') ∧ ∀ x H', J.yld i H x H' → g x (wipe σ vs) H' fun σ2 H2 => wipe σ2 vs = wipe σ vs ∧ tt σ2 H2 fun b H3 =>
        if b = true then tk σ2 H3 fun y H4 => tv σ2 H4 fun z H5 => ∃ kvs k, y = kV k ∧ H5 D = some (.dK kvs) ∧ kvs.length < sizeLine ∧ Nx (upd H5 D (.dK (putK kvs k z))) else Nx H3) := by
  refine ⟨fun i m H => m = n - i ∧ i ≤ n ∧ Pv i H, ⟨n, by simp, Nat.zero_le _, h0⟩, ?_⟩
  rintro i m H ⟨rfl, hi, p⟩
  have q := hG i H hi p
  by_cases hlt : i < n
  · refine .inr ⟨w.goes i H hlt q, Pv (i + 1), fun H' p' => ⟨n - (i + 1), by omega, rfl, hlt, p'⟩, fun x H' y => hs i x H H' hlt p (w.yields i H x H' hlt q y)⟩
  · have e : i = n := by omega
    subst e
    exact .inl ⟨w.stops H q, hd H p⟩
end Nf

/-! ## K5 -/
set_option Elab.async false
set_option linter.all false
set_option maxRecDepth 100000
set_option maxHeartbeats 4000000
/-! sizes_of, meeting -/
namespace Nf
open PySem PySem.Spec PyProof.Rows L2
theorem sc_sizes_of : FnScope ["formula", "inner", "sizes", "part", "name"] ["formula"] (defScope s_sizes_of) := ⟨rfl, rfl, rfl, by decide +kernel, rfl, by decide +kernel, by decide +kernel⟩
theorem sc_meeting : FnScope ["formula", "one", "other", "part", "names"] ["formula", "one", "other"] (defScope s_meeting) := ⟨rfl, rfl, rfl, by decide +kernel, rfl, by decide +kernel, by decide +kernel⟩
/-- a formula of moderate sizes -/
structure Mod (k : Nat) (f : F) : Prop where
  wf : Wf f
  nd : f.names.Nodup
  lt : ∀ i ∈ f.names, i < k
  le : ∀ i ∈ f.names, size f i ≤ 4294967296
  len : f.names.length ≤ 1000
theorem Mod.many {k m : Nat} {f : F} (h : Mod k (.many m f)) : Mod k f ∧ m ≤ 4294967296 := by
  obtain ⟨wf, nd, lt, le, len⟩ := h
  simp only [Wf] at wf
  simp only [F.names] at nd lt le len
  have le1 : ∀ i ∈ f.names, size f i ≤ 4294967296 := fun i hi => by
    have := le i hi
    simp only [size] at this
    have h2 : 1 * size f i ≤ m * size f i := Nat.mul_le_mul_right _ (by omega)
    omega
  refine ⟨⟨wf.2, nd, lt, le1, len⟩, ?_⟩
  obtain ⟨i, hi⟩ : ∃ i, i ∈ f.names := List.exists_mem_of_length_pos (names_pos f wf.2)
  have := le i hi
  simp only [size] at this
  have h2 : m * 1 ≤ m * size f i := Nat.mul_le_mul_left _ (size_one f wf.2 nd i hi)
  omega
theorem Mod.part {k : Nat} {b : Bool} {ps : List F} {p : F} (h : Mod k (.node b ps)) (hp : p ∈ ps) : Mod k p ∧ ∀ i ∈ p.names, sizeL ps i = size p i := by
  obtain ⟨wf, nd, lt, le, len⟩ := h
  simp only [Wf] at wf
  simp only [F.names] at nd lt le len
  have hs : ∀ i ∈ p.names, sizeL ps i = size p i := fun i hi => sizeL_at nd hp hi
  refine ⟨⟨wfL_iff.mp wf.2 p hp, nodup_part nd hp, fun i hi => lt i (namesL_mem.mpr ⟨p, hp, hi⟩), fun i hi => ?_, ?_⟩, hs⟩
  · have := le i (namesL_mem.mpr ⟨p, hp, hi⟩)
    simp only [size] at this
    rw [hs i hi] at this
    exact this
  · obtain ⟨a, b, e⟩ := List.append_of_mem hp
    rw [e, namesL_append] at len
    simp only [namesL, List.length_append] at len
    omega
def spSizes (nm : Nat → Str) (k n : Nat) : Sp := fun vs H Q _ => ∃ (v : V) (f : F), vs = [v] ∧ FV nm H f v ∧ dep f < n ∧ Mod k f ∧
  ∀ (p : Addr) (H' : Hp), Same H H' → H p = none → H' p = some (.dK (sz nm f f.names)) → Q (.ref p) H'
section
variable {P : Program} {w : World} {K : PySem.W.Frag} {mg : Str → Option Value} {base : Heap} {nm : Nat → Str}
theorem ok_sizes_of {k : Nat} (T : Txt K mg) (N : Nm nm k) : ∀ n, Kept P w K mg base n "sizes_of" ["formula"] (spSizes nm k n)
  | 0 => by
    obtain ⟨fd, FD⟩ := T.f_sizes_of
    exact kept_zero FD T.m_sizes_of (fun _ _ _ _ _ _ us hl => match us, hl with | [_], _ => rfl) fun vs H Q E h => by obtain ⟨_, _, _, _, h, _⟩ := h; omega
  | n + 1 => by
    have G := ok_sizes_of T N n
    obtain ⟨fd, FD⟩ := T.f_sizes_of
    refine kept_of FD T.m_sizes_of sc_sizes_of (fun _ _ _ _ _ _ us hl => match us, hl with | [_], _ => rfl) (fun vs H Q E h => ?_) (fun cdv A outer s H vs Q E hr h => ?_)
    · obtain ⟨v, f, rfl, _⟩ := h; rfl
    obtain ⟨v, f, rfl, hf, hd, hm, q⟩ := h
    have nd := sc_sizes_of.nd
    refine ⟨_, pss_cons (ps_if (pt_cmpR op_eq (pe_ix ix_tup (pv 0) pe_int (fun _ _ => rfl)) pe_str (nomark _))
        (pss_one (ps_ret (pe_disp (pps_cons (pe_ix ix_tup (pv 0) pe_int (fun _ _ => rfl)) pe_int pps_nil) (by rfl) (by rfl) (fun z => by cases z) (by decide)))) pss_nil)
      (pss_cons (ps_if (pt_cmpR op_eq (pe_ix ix_tup (pv 0) pe_int (fun _ _ => rfl)) pe_str (nomark _))
        (pss_cons (ps_set (i := 1) nd rfl (Or.inr rfl) (pe_kc G hr rfl (pa_cons (pe_ix ix_tup (pv 0) pe_int (fun _ _ => rfl)) pa_nil)))
          (pss_one (ps_ret (pe_lock (pe_dc (own := [("name", 4)]) (g := gName 4) (tt := tYes) rfl nd (pi_keys (pv 1))
            (blkOk_by (N := ["formula", "inner", "sizes", "part", "name"]) (sc := defScope s_sizes_of) (by decide +kernel)) (fun _ _ _ _ _ => pg_name (i := 4) nd rfl (Or.inl rfl)) (fun _ _ _ _ _ => pts_nil)
            (fun _ _ _ _ _ => pv 4) (fun _ _ _ _ _ => pe_op op_mulN (pe_dget (u1 hr) (pv 1) (pv 4) (fun _ _ => rfl)) (pe_ix (r := rIxT K) ix_tup (pv 0) pe_int (fun _ _ => rfl)))))))) pss_nil)
      (pss_cons (ps_set (i := 2) nd rfl (Or.inl rfl) pe_dnewK)
      (pss_cons (ps_for PassesOwn.never rfl (pi_tup (pe_ix ix_tup (pv 0) pe_int (fun _ _ => rfl))) (pg_name (i := 3) nd rfl (Or.inl rfl))
        (pss_one (ps_expr (pe_bm PySem.F.plainAttrs_dict PySem.F.slot_dict_update PySem.F.type_dict_update mt_updK (pv 2) (pa_cons (pe_kc G hr rfl (pa_cons (pv 3) pa_nil)) pa_nil)))))
      (pss_one (ps_ret (pv 2)))))), ?_⟩
    cases f with
    | kind i =>
      simp only [FV] at hf
      obtain ⟨a, rfl, ha⟩ := hf
      refine ⟨_, rfl, a, _, 0, _, rfl, rfl, SqT.of ha, atI_nat (j := 0) rfl, rfl, _, rfl, ifDT kk fun p hp => ?_⟩
      refine ⟨_, rfl, a, _, 1, _, rfl, rfl, SqT.of (same_upd hp _ _ ha), atI_nat (j := 1) rfl, upd_same, [(Sum.inr (nm i), .int 1)], rfl, by show 1 ≤ 15; decide, ?_⟩
      refine q p _ (same_updN (same_upd hp) hp) hp ?_
      rw [upd_same]
      simp [sz, F.names, size, mergeK, putK]
    | many m f =>
      simp only [FV] at hf
      obtain ⟨a, u, rfl, ha, hu⟩ := hf
      simp only [dep] at hd
      obtain ⟨hm1, hmle⟩ := hm.many
      refine ⟨_, rfl, a, _, 0, _, rfl, rfl, SqT.of ha, atI_nat (j := 0) rfl, rfl, _, rfl, ifDF mk_ ?_⟩
      refine ⟨_, rfl, a, _, 0, _, rfl, rfl, SqT.of ha, atI_nat (j := 0) rfl, rfl, _, rfl, ifDT mm ?_⟩
      refine ⟨_, rfl, a, _, 2, _, rfl, rfl, SqT.of ha, atI_nat (j := 2) rfl, u, f, rfl, hu, by omega, hm1, fun d H1 e1 nd1 hd1 => ?_⟩
      refine ⟨d, _, hd1, trivial, fun od => ?_⟩
      refine ⟨_, rfl, d, od, rfl, .inl ⟨_, upd_same, fun D hD => ?_⟩⟩
      have nDd : D ≠ d := fun z => by subst z; rw [upd_same] at hD; cases hD
      have hD1 : H1 D = none := by rw [upd_ne nDd] at hD; exact hD
      have HD : H D = none := none_of e1 hD1
      refine dc_it walk_keys (fun i H2 => (∀ b o, b ≠ d → H1 b = some o → H2 b = some o) ∧ H2 d = some (.frz od (.dK (sz nm f f.names))) ∧ H2 D = some (.dK (sz nm (.many m f) (f.names.take i)))) ⟨?_, ?_, ?_⟩ (fun i H2 _ h => h.2.1) ?_ ?_
      · intro b o nb e
        rw [upd_ne (ne_of_none e hD1), upd_ne nb]; exact e
      · rw [upd_ne nDd.symm, upd_same]
      · rw [upd_same]; rfl
      · rintro i x H2 H3 hi ⟨e2, hd2, hD2⟩ ⟨rfl, key, val, hkv, rfl⟩
        have hi' : i < f.names.length := by simpa [sz] using hi
        have hx : f.names[i]? = some f.names[i] := List.getElem?_eq_getElem hi'
        have hmem : f.names[i] ∈ f.names := List.getElem_mem hi'
        have ek : key = Sum.inr (nm f.names[i]) := by
          simp only [sz, List.getElem?_map, hx, Option.map_some, Option.some.injEq, Prod.mk.injEq] at hkv
          exact hkv.1.symm
        subst ek
        refine ⟨rfl, yesT ⟨_, rfl, _, rfl, _, rfl, d, .int (size f f.names[i] : Int), rfl, .inl ⟨_, _, .inr ⟨od, hd2⟩, rfl, ?_⟩, ?_⟩⟩
        · exact (sz_some N (fun j => V.int (size f j : Int)) hm1.lt hmem).symm
        have hada : a ≠ d := ne_of_none ha nd1
        refine ⟨_, rfl, a, _, 1, _, rfl, rfl, SqT.of (e2 _ _ hada (e1 _ _ ha)), atI_nat (j := 1) rfl, size f f.names[i], m, rfl, rfl, hm1.le _ hmem, ?_⟩
        refine ⟨_, Sum.inr (nm f.names[i]), rfl, hD2, ?_, ?_, ?_, ?_⟩
        · refine lt_line ?_
          simp only [sz, List.length_map, List.length_take]
          have := hm1.len
          omega
        · intro b o nb e
          rw [upd_ne (fun z => by subst z; rw [hD1] at e; cases e)]; exact e2 b o nb e
        · rw [upd_ne nDd.symm]; exact hd2
        · rw [upd_same]
          have hnot : f.names[i] ∉ f.names.take i := by
            intro hmm
            obtain ⟨j, hj, ej⟩ := List.getElem_of_mem hmm
            rw [List.length_take] at hj
            rw [List.getElem_take] at ej
            have := (List.getElem_inj hm1.nd).mp ej
            omega
          rw [putK_new (kvs := sz nm (.many m f) (f.names.take i)) _ (sz_none N (fun j => V.int (size (.many m f) j : Int)) (hm1.lt _ hmem) (fun j hj => hm1.lt j (List.mem_of_mem_take hj)) hnot), List.take_add_one, hx]
          simp only [sz, List.map_append, Option.toList, List.map_cons, List.map_nil, size, Nat.mul_comm]
      · rintro H2 ⟨e2, hd2, hD2⟩
        refine ⟨hd2, ?_⟩
        refine q D _ (fun b o e => ?_) HD ?_
        · have nb : b ≠ d := ne_of_none e nd1
          rw [upd_ne nb]
          exact e2 _ _ nb (e1 _ _ e)
        · rw [upd_ne nDd, hD2]
          simp [sz, F.names]
    | node b ps =>
      simp only [FV] at hf
      obtain ⟨a, c, us, rfl, ha, hc, hus⟩ := hf
      simp only [dep] at hd
      refine ⟨_, rfl, a, _, 0, _, rfl, rfl, SqT.of ha, atI_nat (j := 0) rfl, rfl, _, rfl, ifDF (wk b) ?_⟩
      refine ⟨_, rfl, a, _, 0, _, rfl, rfl, SqT.of ha, atI_nat (j := 0) rfl, rfl, _, rfl, ifDF (wm b) ?_⟩
      intro D hD
      have s0 : Same H (upd H D (.dK [])) := same_upd hD
      refine ⟨_, rfl, a, _, 1, _, rfl, rfl, SqT.of (s0 _ _ ha), atI_nat (j := 1) rfl, c, rfl, ⟨_, SqT.of (s0 _ _ hc)⟩, ?_⟩
      refine for_tup (K := K) (a := c) (xs := us) (fun i σ' H' => (∃ x3, σ' = [some (.ref a), none, some (.ref D), x3, none]) ∧ Same H H' ∧ H' D = some (.dK (sz nm (.node b ps) (namesL (ps.take i))))) ⟨⟨none, rfl⟩, s0, by rw [upd_same]; rfl⟩ (fun i σ' H' _ h => SqT.of (h.2.1 _ _ hc)) ?_ ?_
      · rintro i u σ' H1 hi ⟨⟨x3, rfl⟩, e1, hD1⟩
        obtain ⟨p, hp, hu⟩ := hus.lt hi
        have hpm := List.mem_of_getElem? hp
        obtain ⟨hmp, hsz⟩ := hm.part hpm
        have hlt := hm.lt
        have hnd := hm.nd
        have hlen := hm.len
        simp only [F.names] at hlt hnd hlen
        have ep : namesL (ps.take (i + 1)) = namesL (ps.take i) ++ p.names := by
          rw [List.take_add_one, hp, namesL_append]; simp [namesL]
        have hsub : ∀ x ∈ namesL (ps.take i), x ∈ namesL ps := fun x hx => by
          obtain ⟨g, hg, hgx⟩ := namesL_mem.mp hx
          exact namesL_mem.mpr ⟨g, List.mem_of_mem_take hg, hgx⟩
        have hnd2 : (namesL (ps.take i) ++ p.names).Nodup := by
          rw [← ep]
          rw [← List.take_append_drop (i + 1) ps, namesL_append] at hnd
          exact (List.nodup_append.mp hnd).1
        have hl2 : (namesL (ps.take i) ++ p.names).length ≤ 1000 := by
          rw [← ep]
          rw [← List.take_append_drop (i + 1) ps, namesL_append, List.length_append] at hlen
          omega
        refine ⟨_, rfl, .inr (.inr (.inl ⟨rfl, .inl ⟨_, hD1⟩⟩)), ?_⟩
        refine ⟨_, rfl, u, p, rfl, hu.keep (TK.of e1), ?_, hmp, fun b2 H2 e2 nb hb => ?_⟩
        · have := dep_part hpm; omega
        have hD2 := e2 _ _ hD1
        have nbD : D ≠ b2 := ne_of_none hD1 nb
        refine ⟨D, b2, _, _, rfl, rfl, nbD, hD2, hb, ?_, ?_⟩
        · refine le_line ?_
          simp only [sz, List.length_map]
          rw [List.length_append] at hl2
          exact hl2
        refine ⟨⟨_, rfl⟩, same_updN (e1.trans e2) hD, ?_⟩
        rw [upd_same, mergeK_new (sz nm p p.names) _ (sz_keys N (fun j => V.int (size p j : Int)) hmp.lt hmp.nd) (fun q hq => ?_), ep]
        · simp only [sz, List.map_append]
          have : (p.names.map fun j => ((Sum.inr (nm j) : Key), V.int (size p j : Int))) = p.names.map fun j => (Sum.inr (nm j), V.int (size (.node b ps) j : Int)) := by
            refine List.map_congr_left fun j hj => ?_
            simp only [size, hsz j hj]
          rw [this]
        · simp only [sz, List.mem_map] at hq
          obtain ⟨j, hj, rfl⟩ := hq
          exact sz_none N (fun j => V.int (size (.node b ps) j : Int)) (hmp.lt j hj) (fun x hx => hlt x (hsub x hx)) (fun hx => (List.nodup_append.mp hnd2).2.2 j hx j hj rfl)
      · rintro σ' H1 ⟨⟨x3, rfl⟩, e1, hD1⟩
        refine ⟨_, rfl, ?_⟩
        refine q D _ e1 hD ?_
        rw [hD1, hus.length, List.take_length]
        rfl
/-! ### meeting -/
def spMeet (nm : Nat → Str) (k n : Nat) : Sp := fun vs H Q _ => ∃ (v : V) (f : F) (i j : Nat), vs = [v, .str (nm i), .str (nm j)] ∧ FV nm H f v ∧ dep f < n ∧ Mod k f ∧ i ≠ j ∧ i ∈ f.names ∧ j ∈ f.names ∧
  ∀ (H' : Hp), Same H H' → Q (.int (meet f i j : Int)) H'
theorem ok_meeting {k : Nat} (T : Txt K mg) (N : Nm nm k) : ∀ n, Kept P w K mg base n "meeting" ["formula", "one", "other"] (spMeet nm k n)
  | 0 => by
    obtain ⟨fd, FD⟩ := T.f_meeting
    exact kept_zero FD T.m_meeting (fun _ _ _ _ _ _ us hl => match us, hl with | [_, _, _], _ => rfl) fun vs H Q E h => by obtain ⟨_, _, _, _, _, _, h, _⟩ := h; omega
  | n + 1 => by
    have G := ok_meeting T N n
    have GN := ok_names_in (P := P) (w := w) (base := base) (nm := nm) T n
    obtain ⟨fd, FD⟩ := T.f_meeting
    refine kept_of FD T.m_meeting sc_meeting (fun _ _ _ _ _ _ us hl => match us, hl with | [_, _, _], _ => rfl) (fun vs H Q E h => ?_) (fun cdv A outer s H vs Q E hr h => ?_)
    · obtain ⟨v, f, i, j, rfl, _⟩ := h; rfl
    obtain ⟨v, f, i, j, rfl, hf, hd, hm, hij, hi, hj, q⟩ := h
    have nd := sc_meeting.nd
    refine ⟨_, pss_cons (ps_if (pt_cmpR op_eq (pe_ix ix_tup (pv 0) pe_int (fun _ _ => rfl)) pe_str (nomark _))
        (pss_one (ps_ret (pe_op op_mulN (pe_ix ix_tup (pv 0) pe_int (fun _ _ => rfl)) (pe_kc G hr rfl (pa_cons (pe_ix ix_tup (pv 0) pe_int (fun _ _ => rfl)) (pa_cons (pv 1) (pa_cons (pv 2) pa_nil))))))) pss_nil)
      (pss_cons (ps_for PassesOwn.never rfl (pi_tup (pe_ix ix_tup (pv 0) pe_int (fun _ _ => rfl))) (pg_name (i := 3) nd rfl (Or.inl rfl))
        (pss_cons (ps_set (i := 4) nd rfl (Or.inl rfl) (pe_kc GN hr rfl (pa_cons (pv 3) pa_nil)))
          (pss_one (ps_if (PW.pt (pw_and (pt_cmpR op_in_seq (pv 1) (pv 4) rfl) (pw_and1 (pt_cmpR op_in_seq (pv 2) (pv 4) rfl))))
            (pss_one (ps_ret (pe_kc G hr rfl (pa_cons (pv 3) (pa_cons (pv 1) (pa_cons (pv 2) pa_nil)))))) pss_nil))))
      (pss_one (ps_ret (pe_ifExp (pt_cmpR op_eq (pe_ix ix_tup (pv 0) pe_int (fun _ _ => rfl)) pe_str (nomark _)) pe_int pe_int)))), ?_⟩
    cases f with
    | kind x =>
      simp only [F.names, List.mem_singleton] at hi hj
      exact absurd (hi.trans hj.symm) hij
    | many m f =>
      simp only [FV] at hf
      obtain ⟨a, u, rfl, ha, hu⟩ := hf
      simp only [dep] at hd
      obtain ⟨hm1, hmle⟩ := hm.many
      simp only [F.names] at hi hj
      refine ⟨_, rfl, a, _, 0, _, rfl, rfl, SqT.of ha, atI_nat (j := 0) rfl, rfl, _, rfl, ifDT mm ?_⟩
      refine ⟨_, rfl, a, _, 1, _, rfl, rfl, SqT.of ha, atI_nat (j := 1) rfl, ?_⟩
      refine ⟨_, rfl, a, _, 2, _, rfl, rfl, SqT.of ha, atI_nat (j := 2) rfl, _, rfl, _, rfl, u, f, i, j, rfl, hu, by omega, hm1, hij, hi, hj, fun H1 e1 => ?_⟩
      exact ⟨m, meet f i j, rfl, rfl, hmle, q H1 e1⟩
    | node b ps =>
      simp only [FV] at hf
      obtain ⟨a, c, us, rfl, ha, hc, hus⟩ := hf
      simp only [dep] at hd
      have hlt := hm.lt
      have hnd := hm.nd
      simp only [F.names] at hlt hnd hi hj
      refine ⟨_, rfl, a, _, 0, _, rfl, rfl, SqT.of ha, atI_nat (j := 0) rfl, rfl, _, rfl, ifDF (wm b) ?_⟩
      refine ⟨_, rfl, a, _, 1, _, rfl, rfl, SqT.of ha, atI_nat (j := 1) rfl, c, rfl, ⟨_, SqT.of hc⟩, ?_⟩
      refine for_tup (K := K) (a := c) (xs := us) (fun t σ' H' => (∃ x3 x4, σ' = [some (.ref a), some (.str (nm i)), some (.str (nm j)), x3, x4]) ∧ Same H H' ∧ ∀ p ∈ ps.take t, ¬ (i ∈ p.names ∧ j ∈ p.names)) ⟨⟨none, none, rfl⟩, fun _ _ h => h, by simp⟩ (fun i σ' H' _ h => SqT.of (h.2.1 _ _ hc)) ?_ ?_
      · rintro t u σ' H1 ht ⟨⟨x3, x4, rfl⟩, e1, hno⟩
        obtain ⟨p, hp, hu⟩ := hus.lt ht
        have hpm := List.mem_of_getElem? hp
        obtain ⟨hmp, hsz⟩ := hm.part hpm
        have hdp := dep_part hpm
        refine ⟨_, rfl, u, p, rfl, hu.keep (TK.of e1), by omega, hmp.len, fun l H2 e2 nl hl => ?_⟩
        have ein : ∀ x, x < k → inV (.str (nm x)) (nv nm p.names) = decide (x ∈ p.names) := fun x hx => inV_nv N hx hmp.lt
        refine ⟨_, rfl, _, rfl, l, _, rfl, .inl (SqL.of hl), rfl, nv_flat nm _, decide (i ∈ p.names), ?_, ?_⟩
        · show V.bl (inV (.str (nm i)) (nv nm p.names)) = _
          rw [ein i (hlt i hi)]
        by_cases h1 : i ∈ p.names
        · refine ifDT (decide_eq_true h1) ?_
          refine ⟨_, rfl, _, rfl, l, _, rfl, .inl (SqL.of hl), rfl, nv_flat nm _, decide (j ∈ p.names), ?_, ?_⟩
          · show V.bl (inV (.str (nm j)) (nv nm p.names)) = _
            rw [ein j (hlt j hj)]
          by_cases h2 : j ∈ p.names
          · refine ifDT (decide_eq_true h2) ?_
            refine ⟨_, rfl, _, rfl, _, rfl, u, p, i, j, rfl, (hu.keep (TK.of e1)).keep (TK.of e2), by omega, hmp, hij, h1, h2, fun H3 e3 => ?_⟩
            have := q H3 ((e1.trans e2).trans e3)
            simp only [meet] at this
            rw [meetL_same hnd hpm h1 h2] at this
            exact this
          · refine ifDF (decide_eq_false h2) ⟨⟨_, _, rfl⟩, e1.trans e2, fun g hg => ?_⟩
            rw [List.take_add_one, hp] at hg
            rcases List.mem_append.mp hg with hg | hg
            · exact hno g hg
            · simp at hg; subst hg; exact fun z => h2 z.2
        · refine ifDF (decide_eq_false h1) (ifDF rfl ⟨⟨_, _, rfl⟩, e1.trans e2, fun g hg => ?_⟩)
          rw [List.take_add_one, hp] at hg
          rcases List.mem_append.mp hg with hg | hg
          · exact hno g hg
          · simp at hg; subst hg; exact fun z => h1 z.1
      · rintro σ' H1 ⟨⟨x3, x4, rfl⟩, e1, hno⟩
        rw [hus.length, List.take_length] at hno
        have := q H1 e1
        simp only [meet] at this
        rw [meetL_apart hno] at this
        refine ⟨_, rfl, a, _, 0, _, rfl, rfl, SqT.of (e1 _ _ ha), atI_nat (j := 0) rfl, rfl, _, rfl, ?_⟩
        rw [wa b]
        cases b with
        | true => exact ifDT rfl this
        | false => exact ifDF rfl this
end
end Nf

/-! ## K6 -/
set_option Elab.async false
set_option linter.all false
set_option maxRecDepth 100000
set_option maxHeartbeats 4000000
/-! joined, normal_times, normal -/
namespace Nf
open PySem PySem.Spec PyProof.Rows L2
open NdefX (NF ncx inv_startN startF NScope CellsAt envF codeO_at)
open LamX (CodeO TabS TabB ExtN)
theorem word_inj {a b : Bool} (h : word a = word b) : a = b := by cases a <;> cases b <;> first | rfl | (exact absurd h (by decide +kernel))
theorem word_kind (b : Bool) : word b ≠ "kind" := by cases b <;> decide +kernel
theorem word_many (b : Bool) : word b ≠ "many" := by cases b <;> decide +kernel
theorem many_kind : ("many" : Str) ≠ "kind" := by decide +kernel
theorem FV.inj {nm : Nat → Str} {k : Nat} (N : Nm nm k) {H : Hp} : ∀ (f : F) (v : V) (g : F), FV nm H f v → FV nm H g v → (∀ i ∈ f.names, i < k) → (∀ i ∈ g.names, i < k) → f = g := by
  refine F.ind (fun i v g h h' l l' => ?_) (fun n f ih v g h h' l l' => ?_) (fun b ps ih v g h h' l l' => ?_)
  · cases g with
    | kind j =>
      simp only [FV] at h h'
      obtain ⟨a, rfl, ha⟩ := h
      obtain ⟨a', e, ha'⟩ := h'
      cases e
      rw [ha] at ha'
      simp only [Option.some.injEq, HO.tup.injEq, List.cons.injEq, V.str.injEq, and_true, true_and] at ha'
      rw [N.ne (l i (by simp [F.names])) (l' j (by simp [F.names])) ha']
    | many m g =>
      simp only [FV] at h h'
      obtain ⟨a, rfl, ha⟩ := h
      obtain ⟨a', u, e, ha', _⟩ := h'
      cases e
      rw [ha] at ha'
      simp at ha'
    | node c qs =>
      simp only [FV] at h h'
      obtain ⟨a, rfl, ha⟩ := h
      obtain ⟨a', d, u, e, ha', _⟩ := h'
      cases e
      rw [ha] at ha'
      simp at ha'
  · cases g with
    | kind j =>
      simp only [FV] at h h'
      obtain ⟨a, u, rfl, ha, _⟩ := h
      obtain ⟨a', e, ha'⟩ := h'
      cases e
      rw [ha] at ha'
      simp at ha'
    | many m g =>
      simp only [FV] at h h'
      obtain ⟨a, u, rfl, ha, hu⟩ := h
      obtain ⟨a', u', e, ha', hu'⟩ := h'
      cases e
      rw [ha] at ha'
      simp only [Option.some.injEq, HO.tup.injEq, List.cons.injEq, V.int.injEq, and_true, true_and] at ha'
      obtain ⟨e1, e2⟩ := ha'
      subst e2
      rw [ih _ _ hu hu' (fun i hi => l i (by simpa [F.names] using hi)) (fun i hi => l' i (by simpa [F.names] using hi)), Int.ofNat.inj e1]
    | node c qs =>
      simp only [FV] at h h'
      obtain ⟨a, u, rfl, ha, _⟩ := h
      obtain ⟨a', d, u', e, ha', _⟩ := h'
      cases e
      rw [ha] at ha'
      simp at ha'
  · cases g with
    | kind j =>
      simp only [FV] at h h'
      obtain ⟨a, d, u, rfl, ha, _⟩ := h
      obtain ⟨a', e, ha'⟩ := h'
      cases e
      rw [ha] at ha'
      simp at ha'
    | many m g =>
      simp only [FV] at h h'
      obtain ⟨a, d, u, rfl, ha, _⟩ := h
      obtain ⟨a', u', e, ha', _⟩ := h'
      cases e
      rw [ha] at ha'
      simp at ha'
    | node c qs =>
      simp only [FV] at h h'
      obtain ⟨a, d, us, rfl, ha, hd, hus⟩ := h
      obtain ⟨a', d', us', e, ha', hd', hus'⟩ := h'
      cases e
      rw [ha] at ha'
      simp only [Option.some.injEq, HO.tup.injEq, List.cons.injEq, V.str.injEq, V.ref.injEq, and_true] at ha'
      obtain ⟨e1, e2⟩ := ha'
      subst e2
      rw [hd] at hd'
      cases hd'
      rw [word_inj e1]
      congr 1
      simp only [F.names] at l l'
      have key : ∀ (rs : List F) (qs : List F) (us : List V), (∀ r ∈ rs, r ∈ ps) → FVs nm H rs us → FVs nm H qs us → (∀ i ∈ namesL qs, i < k) → rs = qs := by
        intro rs
        induction rs with
        | nil =>
          intro qs us _ h1 h2 _
          simp only [FVs] at h1
          subst h1
          cases qs with
          | nil => rfl
          | cons q qs => simp only [FVs] at h2; obtain ⟨_, _, e, _⟩ := h2; cases e
        | cons r rs ihr =>
          intro qs us hs h1 h2 hl
          simp only [FVs] at h1
          obtain ⟨u, ur, rfl, h3, h4⟩ := h1
          cases qs with
          | nil => simp only [FVs] at h2; cases h2
          | cons q qs =>
            simp only [FVs] at h2
            obtain ⟨u', ur', e, h5, h6⟩ := h2
            cases e
            simp only [namesL] at hl
            rw [ih r (hs r List.mem_cons_self) u q h3 h5 (fun i hi => l i (namesL_mem.mpr ⟨r, hs r List.mem_cons_self, hi⟩)) (fun i hi => hl i (by simp [hi])),
              ihr qs ur (fun s hs' => hs s (List.mem_cons_of_mem _ hs')) h4 h6 (fun i hi => hl i (by simp [hi]))]
      exact key ps qs us (fun _ h => h) hus hus' l'
theorem FVs.all2 {nm : Nat → Str} {H : Hp} : ∀ {ps : List F} {us : List V}, FVs nm H ps us → All2 (FV nm H) ps us
  | [], _, h => by simp only [FVs] at h; subst h; exact .nil
  | p :: ps, _, h => by
    simp only [FVs] at h
    obtain ⟨u, r, rfl, h1, h2⟩ := h
    exact .cons h1 h2.all2
theorem FVs.of2 {nm : Nat → Str} {H : Hp} : ∀ {ps : List F} {us : List V}, All2 (FV nm H) ps us → FVs nm H ps us
  | _, _, .nil => FVs.nil
  | _, _, .cons h t => FVs.cons h (FVs.of2 t)
theorem All2.perm {α β : Type} {R : α → β → Prop} {bs cs : List β} (p : bs.Perm cs) : ∀ {as : List α}, All2 R as bs → ∃ ds, ds.Perm as ∧ All2 R ds cs := by
  induction p with
  | nil => intro as h; cases h; exact ⟨[], .refl _, .nil⟩
  | cons x _ ih =>
    intro as h
    cases h with
    | @cons a _ _ _ h t =>
      obtain ⟨ds, p, h'⟩ := ih t
      exact ⟨a :: ds, p.cons a, .cons h h'⟩
  | swap x y l =>
    intro as h
    cases h with
    | @cons a _ _ _ h t =>
      cases t with
      | @cons b _ as _ h2 t => exact ⟨b :: a :: as, .swap _ _ _, .cons h2 (.cons h t)⟩
  | trans _ _ ih1 ih2 =>
    intro as h
    obtain ⟨ds, p1, h1⟩ := ih1 h
    obtain ⟨es, p2, h2⟩ := ih2 h1
    exact ⟨es, p2.trans p1, h2⟩
theorem All2.mem_left {α β : Type} {R : α → β → Prop} : ∀ {as : List α} {bs : List β}, All2 R as bs → ∀ b ∈ bs, ∃ a ∈ as, R a b
  | _, _, .nil, b, h => by simp at h
  | _, _, .cons h t, b, hb => by
    rcases List.mem_cons.mp hb with rfl | hb
    · exact ⟨_, List.mem_cons_self, h⟩
    · obtain ⟨a, ha, r⟩ := t.mem_left b hb
      exact ⟨a, List.mem_cons_of_mem _ ha, r⟩
theorem All2.pair {α β : Type} {R : α → β → Prop} {P : α → α → Prop} {Q : β → β → Prop} (f : ∀ a a' b b', R a b → R a' b' → Q b b' → P a a') : ∀ {as : List α} {bs : List β}, All2 R as bs → bs.Pairwise Q → as.Pairwise P
  | _, _, .nil, _ => .nil
  | _, _, .cons h t, q => by
    rw [List.pairwise_cons] at q
    refine List.pairwise_cons.mpr ⟨fun a' ha' => ?_, t.pair f q.2⟩
    have : ∀ {as : List _} {bs : List _}, All2 R as bs → ∀ a ∈ as, ∃ b ∈ bs, R a b := by
      intro as bs h
      induction h with
      | nil => intro a h; simp at h
      | cons h _ ih =>
        intro a ha
        rcases List.mem_cons.mp ha with rfl | ha
        · exact ⟨_, List.mem_cons_self, h⟩
        · obtain ⟨b, hb, r⟩ := ih a ha
          exact ⟨b, List.mem_cons_of_mem _ hb, r⟩
    obtain ⟨b', hb', r'⟩ := this t a' ha'
    exact f _ _ _ _ h r' (q.1 b' hb')
/-! ### the lambda of joined -/
def jLam : Expr := match defBody s_joined with
  | [_, _, .Return (some (.Tuple [_, .Call _ [.Call _ _ [⟨_, l, _⟩] _] _ _] _ _)) _] => l
  | _ => .Constant .none 0 ⟨0, 0, 0, 0⟩
def jP : Arguments := match jLam with | .Lambda p _ _ _ => p | _ => defArgs s_joined
def jB : Expr := match jLam with | .Lambda _ b _ _ => b | _ => .Constant .none 0 ⟨0, 0, 0, 0⟩
def jS : Scope := match jLam with | .Lambda _ _ s _ => s | _ => defScope s_joined
def jQ : Str := ("joined.<locals>." : Str) ++ "<lambda>"
def jF (c' : Addr) : NF := ⟨"<lambda>", jQ, jP, [], jS, [], c'⟩
theorem sc_jL : NScope ["part"] ["part"] [] jS := NdefX.nscope_by (by decide +kernel)
def spMinL (nm : Nat → Str) (k n : Nat) : Sp := fun vs H Q _ => ∃ (v : V) (f : F), vs = [v] ∧ FV nm H f v ∧ dep f < n ∧ f.names ≠ [] ∧ f.names.length ≤ 1000 ∧ (∀ i ∈ f.names, i < k) ∧ ∀ H', Same H H' → Q (.str (nm (least f))) H'
section
variable {P : Program} {w : World} {K : PySem.W.Frag} {mg : Str → Option Value} {base : Heap} {nm : Nat → Str}
theorem lok_joined {k : Nat} (T : Txt K mg) (N : Nm nm k) (n : Nat) (f : Addr) (c' : Addr) : LOk P w K mg base (n + 1) f (jF c') jB (spMinL nm k n) := by
  have G := ok_names_in (P := P) (w := w) (base := base) (nm := nm) T n
  refine lok_of (N := ["part"]) (ps := ["part"]) sc_jL rfl (fun pm ctv us hl => match us, hl with | [_], _ => rfl) (fun vs H Q E h => ?_) (fun A outer s H vs Q E hr h => ?_)
  · obtain ⟨v, f, rfl, _⟩ := h; rfl
  obtain ⟨v, g, rfl, hf, hd, hne, hl, hlt, q⟩ := h
  refine ⟨_, pe_callB (cr_minS rfl hr.units) (by rfl) T.z_min (by decide +kernel) (pa_cons (pe_kc G hr rfl (pa_cons (pv 0) pa_nil)) pa_nil), ?_⟩
  refine ⟨_, rfl, v, g, rfl, hf, hd, hl, fun p H1 e1 np hp => ?_⟩
  rw [nv_str] at hp
  refine ⟨p, _, rfl, SqL.of hp, by simpa using hne, fun m hm hmin => ?_⟩
  obtain ⟨i, hi, rfl⟩ := List.mem_map.mp hm
  have e : i = least g := by
    have h1 : least g ∈ g.names := lmin_mem hne
    have h2 : least g ≤ i := lmin_le hi
    rcases Nat.lt_or_ge (least g) i with h3 | h3
    · exact absurd (N.inc _ _ h3 (hlt i hi)) (hmin _ (List.mem_map_of_mem h1))
    · omega
  subst e
  exact q H1 e1
/-! ### a def whose code object is told -/
theorem kept_ofC {x : Str} {N ps : List Str} {st : Stmt} {f : Addr} {fd : FuncData} {sp : Sp} {k : Nat} {c : Addr} (F : FunD K x x (defArgs st) (defBody st) (defScope st) [] [] f fd) (ec : fd.code = .ref c) (m : mg x = some (.ref f)) (S : FnScope N ps (defScope st))
    (b : ∀ (kV doc pm : Value) (an : Option Addr) (cdv ct : Value) (us : List Value), us.length = ps.length → bindArgs (PySem.W.fnOf x x (defArgs st) (defBody st) (defScope st) .none kV doc pm an cdv ct) ⟨us, []⟩ = pure (ps.zip us))
    (len : ∀ vs H Q E, sp vs H Q E → vs.length = ps.length)
    (hbody : ∀ (A : Around) (outer : List Env) (s : Shared) (H : Hp) (vs : List V) (Q : VK) (E : XK), Room k (A.deeper (envOfC x (defScope st) s.heap.objs.size f (.ref c))) → sp vs H Q E →
      ∃ t, PSs (cxOf CX0 P w K mg base N x (defScope st) f (.ref c) A outer s H E).nox (defBody st) t ∧ t { nx := fun _ H' => Q .non H', rt := Q } (start N vs) H) : Kept P w K mg base (k + 1) x ps sp := by
  refine ⟨f, fd, m, F.kp, F.bindsN b, look_of F, ?_⟩
  obtain ⟨oc, od, dV, kV, doc, pm, an, cdv, ct, osl, rfl, lk, hcd, _, _⟩ := F.ex
  cases (show cdv = .ref c from ec)
  exact fn_of lk hcd S len fun A outer s H vs Q E hr hsp =>
    let ⟨t, a, b⟩ := hbody A outer s H vs Q E hr hsp
    ⟨t, PSs.nox a, b⟩
theorem pe_lamQ {X : Cx} {c Pt : Addr} {params : Arguments} {body : Expr} {scope : Scope} {pos : Pos} {q : Str} {mk : Addr → NF} (TB : TabB X.base X.mg c Pt) (hcode : X.env.code = .ref c)
    (hdef : defaultsOf params X.env = ([], [])) (hfree : ∀ y ∈ scope.names, y.2 ≠ .free) (hq : X.env.qual ++ "<lambda>" = q) (hmk : ∀ c', mk c' = ⟨"<lambda>", q, params, [], scope, cloFrom X.env.cells scope.names [], c'⟩) :
    PE X (.Lambda params body scope pos) (tLamV Pt q mk body) := by
  subst hq
  have e : mk = fun c' => ⟨"<lambda>", X.env.qual ++ "<lambda>", params, [], scope, cloFrom X.env.cells scope.names [], c'⟩ := funext hmk
  subst e
  exact pe_lam TB hcode hdef hfree
/-! ### joined -/
theorem sc_joined : FnScope ["word", "parts", "found", "part"] ["word", "parts"] (defScope s_joined) := ⟨rfl, rfl, rfl, by decide +kernel, rfl, by decide +kernel, by decide +kernel⟩
def spJoined (nm : Nat → Str) (k n : Nat) (Pt : Addr) : Sp := fun vs H Q _ => ∃ (b : Bool) (a : Addr) (us : List V) (ps : List F), vs = [.str (word b), .ref a] ∧ H a = some (.lst us) ∧ FVs nm H ps us ∧ TabS H Pt jQ ∧
  (∀ p ∈ flat b ps, dep p < n ∧ p.names ≠ []) ∧ (namesL ps).Nodup ∧ (∀ i ∈ namesL ps, i < k) ∧ (namesL ps).length ≤ 1000 ∧
  ∀ (v : V) (H' : Hp), ExtN H H' → TabS H' Pt jQ → FV nm H' (joinF b ps) v → Q v H'
open Classical in
noncomputable def keyV (nm : Nat → Str) (H : Hp) (fl : List F) (v : V) : Str := if h : ∃ f ∈ fl, FV nm H f v then nm (least h.choose) else ""
theorem keyV_eq {nm : Nat → Str} {k : Nat} (N : Nm nm k) {H : Hp} {fl : List F} {v : V} {f : F} (hf : f ∈ fl) (h : FV nm H f v) (hl : ∀ p ∈ fl, ∀ i ∈ p.names, i < k) : keyV nm H fl v = nm (least f) := by
  have hx : ∃ f ∈ fl, FV nm H f v := ⟨f, hf, h⟩
  unfold keyV
  rw [dif_pos hx]
  rw [FV.inj N _ v f hx.choose_spec.2 h (hl _ hx.choose_spec.1) (hl f hf)]
theorem word_eq (b c : Bool) : decide (V.str (word c) = V.str (word b)) = (c == b) := by cases b <;> cases c <;> decide +kernel
theorem kind_word (b : Bool) : decide (V.str "kind" = V.str (word b)) = false := by cases b <;> decide +kernel
theorem many_word (b : Bool) : decide (V.str "many" = V.str (word b)) = false := by cases b <;> decide +kernel
theorem ok_joined {k : Nat} {Pt : Addr} (T : Txt K mg) (N : Nm nm k) (n : Nat) (TB : TabB base mg (He.cT K ("joined", none)).1 Pt) : Kept P w K mg base (n + 4) "joined" ["word", "parts"] (spJoined nm k n Pt) := by
  obtain ⟨fd, FD, ec⟩ := T.f_joined
  refine kept_ofC FD ec T.m_joined sc_joined (fun _ _ _ _ _ _ us hl => match us, hl with | [_, _], _ => rfl) (fun vs H Q E h => ?_) (fun A outer s H vs Q E hr h => ?_)
  · obtain ⟨b, a, us, ps, rfl, _⟩ := h; rfl
  obtain ⟨b, a, us, ps, rfl, ha, hus, tab, hfl, hnd, hlt, hlen, q⟩ := h
  have nd := sc_joined.nd
  refine ⟨_, pss_cons (ps_set (i := 2) nd rfl (Or.inl rfl) (pe_lst pa_nil))
    (pss_cons (ps_for PassesOwn.never rfl (pi_list (pv 1)) (pg_name (i := 3) nd rfl (Or.inl rfl))
      (pss_one (ps_expr (pe_bm PySem.F.plainAttrs_list PySem.F.slot_list_extend PySem.F.type_list_extend mt_ext (pv 2)
        (pa_cons (pe_ifExp (pt_cmpR op_eq (pe_ix ix_tup (pv 3) pe_int (fun _ _ => rfl)) (pv 0) (nomark _)) (pe_ix ix_tup (pv 3) pe_int (fun _ _ => rfl)) (pe_tup (pa_cons (pv 3) pa_nil))) pa_nil)))))
    (pss_one (ps_ret (pe_tup (pa_cons (pv 0) (pa_cons (pe_callTy call_tuple_of (by rfl) T.z_tuple (by decide +kernel) (pa_cons
      (pe_callBK (cr_sortedF (mk := jF) (e := jB) (sp := spMinL nm k n) (fun f c' => lok_joined T N n f c') hr) (by rfl) T.z_sorted (by decide +kernel) (pa_cons (pv 2) pa_nil)
        (pk_cons (pe_lamQ (q := jQ) (mk := jF) TB rfl rfl (by decide +kernel) rfl (fun _ => rfl)) pk_nil)) pa_nil)) pa_nil)))))), ?_⟩
  refine ⟨by show 0 ≤ sizeLine; decide, fun D hD => ?_⟩
  have s0 : Same H (upd H D (.lst [])) := same_upd hD
  refine ⟨_, rfl, a, rfl, ⟨_, SqL.of (s0 _ _ ha)⟩, ?_⟩
  have hfll : (flat b ps).length ≤ 1000 := by
    have h1 := len_names (flat b ps) fun p hp => List.length_pos_iff.mpr (hfl p hp).2
    rw [names_flat] at h1
    omega
  have hfk : ∀ p ∈ flat b ps, ∀ i ∈ p.names, i < k := fun p hp i hi => hlt i (by rw [← names_flat b ps]; exact namesL_mem.mpr ⟨p, hp, hi⟩)
  refine for_list (K := K) (a := a) (xs := us) (fun i σ' H' => (∃ x3, σ' = [some (.str (word b)), some (.ref a), some (.ref D), x3]) ∧ Same H H' ∧ ∃ zs, H' D = some (.lst zs) ∧ FVs nm H' (flat b (ps.take i)) zs) ⟨⟨none, rfl⟩, s0, [], upd_same, FVs.nil⟩ (fun i σ' H' _ h => SqL.of (h.2.1 _ _ ha)) ?_ ?_
  · rintro i u σ' H1 hi ⟨⟨x3, rfl⟩, e1, zs, hD1, hzs⟩
    obtain ⟨p, hp, hu⟩ := hus.lt hi
    have hu := hu.keep (TK.of e1)
    have ef : flat b (ps.take (i + 1)) = flat b (ps.take i) ++ flat1 b p := by
      rw [List.take_add_one, hp]
      simp [flat, List.flatMap_append]
    have hle : (flat b (ps.take i) ++ flat1 b p).length ≤ 1000 := by
      rw [← ef]
      have : flat b ps = flat b (ps.take (i + 1)) ++ flat b (ps.drop (i + 1)) := by
        have : flat b (ps.take (i + 1) ++ ps.drop (i + 1)) = flat b (ps.take (i + 1)) ++ flat b (ps.drop (i + 1)) := by simp only [flat, List.flatMap_append]
        rw [List.take_append_drop] at this
        exact this
      rw [this, List.length_append] at hfll
      omega
    have hzl := hzs.length
    rw [List.length_append] at hle
    refine ⟨_, rfl, .inl ⟨rfl, _, SqL.of hD1⟩, ?_⟩
    -- a part that stays whole
    have whole : ∀ (bb : Bool), bb = false → flat1 b p = [p] → (if bb = true then tOp (rIxT K) (tVar 3) (tC (.int 1)) [some (.str (word b)), some (.ref a), some (.ref D), some u] H1 (fun x H2 => rExt K (.ref D) [x] H2 fun v H' => (∃ x3, [some (V.str (word b)), some (V.ref a), some (V.ref D), some u] = [some (V.str (word b)), some (V.ref a), some (V.ref D), x3]) ∧ Same H H' ∧ ∃ zs, H' D = some (.lst zs) ∧ FVs nm H' (flat b (ps.take (i + 1))) zs) else tTup (tCons (tVar 3) tNil) [some (.str (word b)), some (.ref a), some (.ref D), some u] H1 (fun x H2 => rExt K (.ref D) [x] H2 fun v H' => (∃ x3, [some (V.str (word b)), some (V.ref a), some (V.ref D), some u] = [some (V.str (word b)), some (V.ref a), some (V.ref D), x3]) ∧ Same H H' ∧ ∃ zs, H' D = some (.lst zs) ∧ FVs nm H' (flat b (ps.take (i + 1))) zs)) := by
      intro bb hbb hf1
      subst hbb
      refine ifDF rfl ⟨_, rfl, by show 1 ≤ sizeLine; decide, fun t ht => ?_⟩
      have e2 : Same H1 (upd H1 t (.tup [u])) := same_upd ht
      have hD2 := e2 _ _ hD1
      have tk := TK.updL (o' := .lst (zs ++ [u])) hD2 (fun _ z => by cases z)
      refine ⟨D, t, zs, [u], rfl, rfl, hD2, .inl (SqT.of upd_same), le_line (by rw [hzl]; rw [hf1] at hle; simpa using hle), ⟨_, rfl⟩, same_updN (e1.trans e2) hD, _, upd_same, ?_⟩
      rw [ef, hf1]
      exact ((hzs.keep (TK.of e2)).keep tk).append (FVs.cons ((hu.keep (TK.of e2)).keep tk) FVs.nil)
    cases p with
    | kind x =>
      have hu0 := hu
      simp only [FV] at hu0
      obtain ⟨pa, rfl, hpa⟩ := hu0
      refine ⟨_, rfl, pa, _, 0, _, rfl, rfl, SqT.of hpa, atI_nat (j := 0) rfl, _, rfl, rfl, _, rfl, ?_⟩
      exact whole _ (kind_word b) rfl
    | many x f =>
      have hu0 := hu
      simp only [FV] at hu0
      obtain ⟨pa, _, rfl, hpa, _⟩ := hu0
      refine ⟨_, rfl, pa, _, 0, _, rfl, rfl, SqT.of hpa, atI_nat (j := 0) rfl, _, rfl, rfl, _, rfl, ?_⟩
      exact whole _ (many_word b) rfl
    | node c qs =>
      have hu0 := hu
      simp only [FV] at hu0
      obtain ⟨pa, pc, vs, rfl, hpa, hpc, hvs⟩ := hu0
      refine ⟨_, rfl, pa, _, 0, _, rfl, rfl, SqT.of hpa, atI_nat (j := 0) rfl, _, rfl, rfl, _, rfl, ?_⟩
      cases hcb : c == b with
      | false => exact whole _ ((word_eq b c).trans hcb) (by simp only [flat1, hcb, Bool.false_eq_true, if_false])
      | true =>
        have hf1 : flat1 b (.node c qs) = qs := by simp only [flat1, hcb, if_true]
        refine ifDT ((word_eq b c).trans hcb) ⟨_, rfl, pa, _, 1, _, rfl, rfl, SqT.of hpa, atI_nat (j := 1) rfl, ?_⟩
        have tk := TK.updL (o' := .lst (zs ++ vs)) hD1 (fun _ z => by cases z)
        refine ⟨D, pc, zs, vs, rfl, rfl, hD1, .inl (SqT.of hpc), le_line (by rw [hzl, hvs.length]; rw [hf1] at hle; exact hle), ⟨_, rfl⟩, same_updN e1 hD, _, upd_same, ?_⟩
        rw [ef, hf1]
        exact (hzs.keep tk).append (hvs.keep tk)
  · rintro σ' H1 ⟨⟨x3, rfl⟩, e1, zs, hD1, hzs⟩
    rw [hus.length, List.take_length] at hzs
    refine ⟨_, rfl, _, rfl, TabS.ext tab e1, fun lf c' H2 e2 tab2 nlf hlf hc' => ?_⟩
    have hD2 : H2 D = some (.lst zs) := e2 _ _ hD1 (fun _ z => by cases z)
    have hzs2 := hzs.keep (TK.ext e2)
    refine ⟨D, lf, c', zs, keyV nm H2 (flat b ps), rfl, rfl, SqL.of hD2, hlf, hc', rfl, fun x hx H3 e3 => ?_, fun p H3 e3 np hp => ?_⟩
    · obtain ⟨f, hf, hfx⟩ := hzs2.all2.mem_left x hx
      refine ⟨x, f, rfl, hfx.keep (TK.of e3), (hfl f hf).1, (hfl f hf).2, ?_, hfk f hf, fun H4 e4 => ⟨?_, e4⟩⟩
      · have : f.names.length ≤ (namesL (flat b ps)).length := by
          obtain ⟨l, r, e⟩ := List.append_of_mem hf
          rw [e, namesL_append]
          simp only [namesL, List.length_append]; omega
        rw [names_flat] at this
        omega
      · rw [keyV_eq N hf hfx hfk]
    · -- the sorted values stand for the sorted parts
      obtain ⟨gs, pg, hgs⟩ := All2.perm (List.mergeSort_perm zs fun x y => leS (keyV nm H2 (flat b ps) x) (keyV nm H2 (flat b ps) y)).symm hzs2.all2
      have hsort : (zs.mergeSort fun x y => leS (keyV nm H2 (flat b ps) x) (keyV nm H2 (flat b ps) y)).Pairwise fun x y => leS (keyV nm H2 (flat b ps) x) (keyV nm H2 (flat b ps) y) = true := by
        refine List.pairwise_mergeSort (fun a b c h1 h2 => ?_) (fun a b => ?_) zs
        · simp only [leS, decide_eq_true_eq] at *
          exact List.le_trans h1 h2
        · simp only [leS, Bool.or_eq_true, decide_eq_true_eq]
          exact List.le_total _ _
      have hgm : ∀ g ∈ gs, g ∈ flat b ps := fun g hg => pg.mem_iff.mp hg
      have hgs' : All2 (fun g v => FV nm H2 g v ∧ g ∈ flat b ps) gs (zs.mergeSort fun x y => leS (keyV nm H2 (flat b ps) x) (keyV nm H2 (flat b ps) y)) := by
        have : ∀ {as : List F} {bs : List V}, All2 (FV nm H2) as bs → (∀ g ∈ as, g ∈ flat b ps) → All2 (fun g v => FV nm H2 g v ∧ g ∈ flat b ps) as bs := by
          intro as bs h
          induction h with
          | nil => intro _; exact .nil
          | cons h _ ih => intro hm; exact .cons ⟨h, hm _ List.mem_cons_self⟩ (ih fun g hg => hm g (List.mem_cons_of_mem _ hg))
        exact this hgs hgm
      have hle : gs.Pairwise fun g g' => least g ≤ least g' := by
        refine hgs'.pair (fun g g' v v' h h' hl => ?_) hsort
        rw [keyV_eq N h.2 h.1 hfk, keyV_eq N h'.2 h'.1 hfk] at hl
        simp only [leS, decide_eq_true_eq] at hl
        rcases Nat.lt_or_ge (least g') (least g) with h3 | h3
        · exact absurd (N.inc _ _ h3 (hfk g h.2 _ (lmin_mem (hfl g h.2).2))) (List.not_lt.mpr hl)
        · exact h3
      have egs : gs = sortP (flat b ps) := sortP_eq (by rw [names_flat]; exact hnd) (fun p hp => (hfl p hp).2) pg (List.pairwise_map.mpr hle)
      subst egs
      refine ⟨p, _, rfl, .inl ⟨SqL.of hp, fun p2 np2 => ?_⟩⟩
      refine ⟨by show 2 ≤ sizeLine; decide, fun p3 np3 => ?_⟩
      have t3 : Same H3 (upd H3 p2 (.tup (zs.mergeSort fun x y => leS (keyV nm H2 (flat b ps) x) (keyV nm H2 (flat b ps) y)))) := same_upd np2
      have t4 := same_upd np3 (o := .tup [.str (word b), .ref p2])
      refine q _ _ (ExtN.trans (ExtN.of e1) (e2.trans (ExtN.of ((e3.trans t3).trans t4)))) (TabS.ext tab2 ((e3.trans t3).trans t4)) ?_
      simp only [joinF, FV]
      exact ⟨p3, p2, _, rfl, upd_same, t4 _ _ upd_same, FVs.keep (TK.of ((e3.trans t3).trans t4)) (FVs.of2 hgs)⟩
end
end Nf

/-! ## K7 -/
set_option Elab.async false
set_option linter.all false
set_option maxRecDepth 100000
set_option maxHeartbeats 4000000
/-! normal_times, normal -/
namespace Nf
open PySem PySem.Spec PyProof.Rows L2
open LamX (CodeO TabS TabB ExtN)
theorem depL_le {n : Nat} : ∀ {ps : List F}, (∀ p ∈ ps, dep p ≤ n) → depL ps ≤ n
  | [], _ => by simp [depL]
  | p :: ps, h => by
    simp only [depL]
    exact Nat.max_le.mpr ⟨h p List.mem_cons_self, depL_le fun q hq => h q (List.mem_cons_of_mem _ hq)⟩
theorem flat_dep {b : Bool} {n : Nat} {ps : List F} (h : ∀ p ∈ ps, dep p ≤ n) : ∀ p ∈ flat b ps, dep p ≤ n := by
  intro q hq
  simp only [flat, List.mem_flatMap] at hq
  obtain ⟨p, hp, hq⟩ := hq
  have h1 := h p hp
  cases p with
  | kind i => simp only [flat1, List.mem_singleton] at hq; subst hq; exact h1
  | many m f => simp only [flat1, List.mem_singleton] at hq; subst hq; exact h1
  | node c qs =>
    simp only [flat1] at hq
    split at hq
    · simp only [dep] at h1
      have := dep_part hq
      omega
    · simp only [List.mem_singleton] at hq; subst hq; exact h1
theorem dep_joinF {b : Bool} {n : Nat} {ps : List F} (h : ∀ p ∈ ps, dep p ≤ n) : dep (joinF b ps) ≤ n + 1 := by
  simp only [joinF, dep]
  have : depL (sortP (flat b ps)) ≤ n := depL_le fun p hp => flat_dep h p ((sortP_perm _).mem_iff.mp hp)
  omega
theorem dep_wrap (n : Nat) (f : F) : dep (wrap n f) ≤ dep f + 1 := by
  unfold wrap
  split
  · simp [dep]
  · omega
theorem dep_normT : ∀ f : F, ∀ n, dep (normT f n) ≤ dep f + 1 ∧ (n = 1 → dep (normT f n) ≤ dep f) := by
  refine F.ind (fun i n => ?_) (fun m f ih n => ?_) (fun b ps ih n => ?_)
  · simp only [normT]
    exact ⟨dep_wrap _ _, fun e => by subst e; simp [wrap]⟩
  · simp only [normT, dep]
    have := (ih (n * m)).1
    exact ⟨by omega, fun _ => this⟩
  · cases b with
    | true =>
      simp only [normT, dep]
      rw [normTL_map]
      have h1 := dep_joinF (b := true) (n := depL ps + 1) (ps := ps.map (normT · n)) fun p hp => by
        obtain ⟨q, hq, rfl⟩ := List.mem_map.mp hp
        have := (ih q hq n).1
        have := dep_part hq
        omega
      refine ⟨h1, fun e => ?_⟩
      subst e
      exact dep_joinF fun p hp => by
        obtain ⟨q, hq, rfl⟩ := List.mem_map.mp hp
        have := (ih q hq 1).2 rfl
        have := dep_part hq
        omega
    | false =>
      simp only [normT, dep]
      rw [normTL_map]
      have h1 : dep (joinF false (ps.map (normT · 1))) ≤ depL ps + 1 := dep_joinF fun p hp => by
        obtain ⟨q, hq, rfl⟩ := List.mem_map.mp hp
        have := (ih q hq 1).2 rfl
        have := dep_part hq
        omega
      have h2 := dep_wrap n (joinF false (ps.map (normT · 1)))
      refine ⟨by omega, fun e => ?_⟩
      subst e
      simpa [wrap] using h1
theorem TabS.updL {H : Hp} {D Pt : Addr} {q : Str} {xs ys : List V} (h : H D = some (.lst xs)) (t : TabS H Pt q) : TabS (L2.upd H D (.lst ys)) Pt q := by
  obtain ⟨ps, h1, h2, h3⟩ := t
  refine ⟨ps, ?_, h2, fun pos cv hc => ?_⟩
  · rw [upd_ne (ne_of h1 h (fun z => by cases z))]; exact h1
  · obtain ⟨c, e, hcc⟩ := h3 pos cv hc
    refine ⟨c, e, ?_⟩
    rw [upd_ne (ne_of hcc h (fun z => by cases z))]; exact hcc
theorem ExtN.updN {H H' : Hp} {D : Addr} {o : HO} (e : ExtN H H') (h : H D = none) : ExtN H (L2.upd H' D o) := fun b x hx n => by
  rw [upd_ne (ne_of_none hx h)]
  exact e b x hx n
theorem flat_names_ne {b : Bool} {ps : List F} (h : ∀ p ∈ ps, Wf p) : ∀ p ∈ flat b ps, p.names ≠ [] := by
  intro q hq
  simp only [flat, List.mem_flatMap] at hq
  obtain ⟨p, hp, hq⟩ := hq
  have hw := h p hp
  have : Wf q := by
    cases p with
    | kind i => simp only [flat1, List.mem_singleton] at hq; subst hq; exact hw
    | many m f => simp only [flat1, List.mem_singleton] at hq; subst hq; exact hw
    | node c qs =>
      simp only [flat1] at hq
      split at hq
      · simp only [Wf] at hw; exact wfL_iff.mp hw.2 q hq
      · simp only [List.mem_singleton] at hq; subst hq; exact hw
  exact names_ne q this
theorem sc_normal_times : FnScope ["formula", "many", "inner", "part"] ["formula", "many"] (defScope s_normal_times) := ⟨rfl, rfl, rfl, by decide +kernel, rfl, by decide +kernel, by decide +kernel⟩
theorem sc_normal : FnScope ["formula"] ["formula"] (defScope s_normal) := ⟨rfl, rfl, rfl, by decide +kernel, rfl, by decide +kernel, by decide +kernel⟩
def spNormT (nm : Nat → Str) (k d n : Nat) (Pt : Addr) : Sp := fun vs H Q _ => ∃ (v : V) (f : F) (m : Nat), vs = [v, .int (m : Int)] ∧ FV nm H f v ∧ dep f < n ∧ dep f ≤ d ∧ Mod k f ∧ 1 ≤ m ∧ (∀ i ∈ f.names, m * size f i ≤ 4294967296) ∧ TabS H Pt jQ ∧
  ∀ (v' : V) (H' : Hp), ExtN H H' → TabS H' Pt jQ → FV nm H' (normT f m) v' → Q v' H'
section
variable {P : Program} {w : World} {K : PySem.W.Frag} {mg : Str → Option Value} {base : Heap} {nm : Nat → Str}
/-- the parts' normal forms, one by one -/
theorem lc_norm {k d n m : Nat} {Pt c D : Addr} {us : List V} {ps : List F} {H : Hp} {σ : L2.St} {te : TE} {Qd : Hp → Prop} {b : Bool} (hc : H c = some (.tup us)) (hus : FVs nm H ps us) (hD : H D = none) (tab : TabS H Pt jQ)
    (hm : Mod k (.node b ps)) (hd : depL ps < n) (hdd : depL ps ≤ d) (h1 : 1 ≤ m) (hle : ∀ i ∈ namesL ps, m * sizeL ps i ≤ 4294967296)
    (hw : wipe (wipe σ [3] |>.set 3 none) [3] = wipe σ [3]) (hs3 : ∀ u, wipe ((wipe σ [3]).set 3 (some u)) [3] = wipe σ [3])
    (hte : ∀ u Hx Qx, spNormT nm k d n Pt [u, .int (m : Int)] Hx Qx E0 → te ((wipe σ [3]).set 3 (some u)) Hx Qx)
    (hq : ∀ H' zs, ExtN H H' → TabS H' Pt jQ → H' D = some (.lst zs) → FVs nm H' (ps.map (normT · m)) zs → Qd H') :
    ∃ W : Nat → Nat → Hp → Prop, (∃ m, W 0 m (upd H D (.lst []))) ∧ ∀ i m H, W i m H →
      ((Itt K c).stop i H ∧ Qd H) ∨ ((Itt K c).go i H ∧ ∃ Nx : Hp → Prop, (∀ H', Nx H' → ∃ m', m' < m ∧ W (i + 1) m' H') ∧ ∀ x H', (Itt K c).yld i H x H' → gName 3 x (wipe σ [3]) H' fun σ2 H2 => wipe σ2 [3] = wipe σ [3] ∧ tYes σ2 H2 fun b H3 =>
        if b = true then te σ2 H3 fun y H4 => ∃ acc, H4 D = some (.lst acc) ∧ acc.length < sizeLine ∧ Nx (upd H4 D (.lst (acc ++ [y]))) else Nx H3) := by
  refine lc_tup (K := K) (a := c) (xs := us) (fun i H' => ExtN H H' ∧ TabS H' Pt jQ ∧ ∃ zs, H' D = some (.lst zs) ∧ FVs nm H' ((ps.take i).map (normT · m)) zs) ⟨ExtN.of (same_upd hD), TabS.ext tab (same_upd hD), [], upd_same, FVs.nil⟩ (fun i H' _ h => SqT.of (h.1 _ _ hc (fun _ z => by cases z))) ?_ ?_
  · rintro i u H1 hi ⟨e1, tab1, zs, hD1, hzs⟩
    obtain ⟨p, hp, hu⟩ := hus.lt hi
    have hpm := List.mem_of_getElem? hp
    obtain ⟨hmp, hsz⟩ := hm.part hpm
    have hdp := dep_part hpm
    refine ⟨hs3 u, yesT (hte _ _ _ ⟨u, p, m, rfl, hu.keep (TK.ext e1), by omega, by omega, hmp, h1, fun i hi => ?_, tab1, fun v' H2 e2 tab2 hv' => ?_⟩)⟩
    · rw [← hsz i hi]; exact hle i (namesL_mem.mpr ⟨p, hpm, hi⟩)
    have hD2 : H2 D = some (.lst zs) := e2 _ _ hD1 (fun _ z => by cases z)
    have tk := TK.updL (o' := .lst (zs ++ [v'])) hD2 (fun _ z => by cases z)
    have hl := hm.len
    simp only [F.names] at hl
    have hpl : ps.length ≤ 1000 := by
      have hw := hm.wf
      simp only [Wf] at hw
      have := len_names ps fun q hq => names_pos q (wfL_iff.mp hw.2 q hq)
      omega
    refine ⟨zs, hD2, lt_line ?_, ExtN.updN (e1.trans e2) hD, TabS.updL hD2 tab2, _, upd_same, ?_⟩
    · rw [hzs.length, List.length_map, List.length_take]; omega
    · rw [List.take_add_one, hp, List.map_append]
      exact ((hzs.keep (TK.ext e2)).keep tk).append (FVs.cons (hv'.keep tk) FVs.nil)
  · rintro H1 ⟨e1, tab1, zs, hD1, hzs⟩
    rw [hus.length, List.take_length] at hzs
    exact hq H1 zs e1 tab1 hD1 hzs
/-- what joined asks of the parts' normal forms -/
theorem joined_pre {b : Bool} {k d m : Nat} {ps : List F} (hm : Mod k (.node b ps)) (hdd : depL ps ≤ d) (h1 : 1 ≤ m) :
    (∀ p ∈ flat b (ps.map (normT · m)), dep p < d + 3 ∧ p.names ≠ []) ∧ (namesL (ps.map (normT · m))).Nodup ∧ (∀ i ∈ namesL (ps.map (normT · m)), i < k) ∧ (namesL (ps.map (normT · m))).length ≤ 1000 := by
  have hw := hm.wf
  have hnd := hm.nd
  have hlt := hm.lt
  have hlen := hm.len
  simp only [Wf] at hw
  simp only [F.names] at hnd hlt hlen
  have hp : (namesL (ps.map (normT · m))).Perm (namesL ps) := by
    rw [← normTL_map]; exact names_normTL fun p _ => names_normT p m
  refine ⟨fun p hp => ⟨?_, ?_⟩, hp.nodup_iff.mpr hnd, fun i hi => hlt i (hp.mem_iff.mp hi), by rw [hp.length_eq]; exact hlen⟩
  · have := flat_dep (b := b) (n := depL ps + 1) (ps := ps.map (normT · m)) (fun q hq => by
      obtain ⟨r, hr, rfl⟩ := List.mem_map.mp hq
      have := (dep_normT r m).1
      have := dep_part hr
      omega) p hp
    omega
  · refine flat_names_ne (b := b) (ps := ps.map (normT · m)) (fun q hq => ?_) p hp
    obtain ⟨r, hr, rfl⟩ := List.mem_map.mp hq
    exact (norm_normT r (wfL_iff.mp hw.2 r hr) (nodup_part hnd hr) m h1).wf
theorem ok_normal_times {k : Nat} {Pt : Addr} (T : Txt K mg) (N : Nm nm k) (d : Nat) (TB : TabB base mg (He.cT K ("joined", none)).1 Pt) : ∀ n, Kept P w K mg base (n + (d + 7)) "normal_times" ["formula", "many"] (spNormT nm k d n Pt)
  | 0 => by
    obtain ⟨fd, FD⟩ := T.f_normal_times
    exact (kept_zero FD T.m_normal_times (fun _ _ _ _ _ _ us hl => match us, hl with | [_, _], _ => rfl) fun vs H Q E h => by obtain ⟨_, _, _, _, _, h, _⟩ := h; omega).mono (by omega)
  | n + 1 => by
    have G := ok_normal_times T N d TB n
    have GJ := ok_joined (P := P) (w := w) (nm := nm) T N (d + 3) TB
    obtain ⟨fd, FD⟩ := T.f_normal_times
    rw [show n + 1 + (d + 7) = n + (d + 7) + 1 by omega]
    refine kept_of FD T.m_normal_times sc_normal_times (fun _ _ _ _ _ _ us hl => match us, hl with | [_, _], _ => rfl) (fun vs H Q E h => ?_) (fun cdv A outer s H vs Q E hr h => ?_)
    · obtain ⟨v, f, m, rfl, _⟩ := h; rfl
    obtain ⟨v, f, m, rfl, hf, hd, hdd, hm, h1, hle, tab, q⟩ := h
    have nd := sc_normal_times.nd
    have GJ' := GJ.mono (show d + 3 + 4 ≤ n + (d + 7) by omega)
    refine ⟨_, pss_cons (ps_if (pt_cmpR op_eq (pe_ix ix_tup (pv 0) pe_int (fun _ _ => rfl)) pe_str (nomark _))
        (pss_one (ps_ret (pe_kc G hr rfl (pa_cons (pe_ix ix_tup (pv 0) pe_int (fun _ _ => rfl)) (pa_cons (pe_op op_mulN (pv 1) (pe_ix ix_tup (pv 0) pe_int (fun _ _ => rfl))) pa_nil))))) pss_nil)
      (pss_cons (ps_if (pt_cmpR op_eq (pe_ix ix_tup (pv 0) pe_int (fun _ _ => rfl)) pe_str (nomark _))
        (pss_one (ps_ret (pe_kc GJ' hr rfl (pa_cons pe_str (pa_cons (pe_lc (own := [("part", 3)]) (g := gName 3) (tt := tYes) rfl nd (pi_tup (pe_ix ix_tup (pv 0) pe_int (fun _ _ => rfl)))
          (blkOk_by (N := ["formula", "many", "inner", "part"]) (sc := defScope s_normal_times) (by decide +kernel)) (fun _ _ _ _ _ => pg_name (i := 3) nd rfl (Or.inl rfl)) (fun _ _ _ _ _ => pts_nil)
          (fun _ _ _ _ _ => pe_kc G hr rfl (pa_cons (pv 3) (pa_cons (pv 1) pa_nil)))) pa_nil))))) pss_nil)
      (pss_cons (ps_set (i := 2) nd rfl (Or.inl rfl) (pv 0))
      (pss_cons (ps_if (pt_cmpR op_eq (pe_ix ix_tup (pv 0) pe_int (fun _ _ => rfl)) pe_str (nomark _))
        (pss_one (ps_set (i := 2) nd rfl (Or.inl rfl) (pe_kc GJ' hr rfl (pa_cons pe_str (pa_cons (pe_lc (own := [("part", 3)]) (g := gName 3) (tt := tYes) rfl nd (pi_tup (pe_ix ix_tup (pv 0) pe_int (fun _ _ => rfl)))
          (blkOk_by (N := ["formula", "many", "inner", "part"]) (sc := defScope s_normal_times) (by decide +kernel)) (fun _ _ _ _ _ => pg_name (i := 3) nd rfl (Or.inl rfl)) (fun _ _ _ _ _ => pts_nil)
          (fun _ _ _ _ _ => pe_kc G hr rfl (pa_cons (pv 3) (pa_cons pe_int pa_nil)))) pa_nil))))) pss_nil)
      (pss_one (ps_ret (pe_ifExp (pt_cmpR op_gt (pv 1) pe_int (nomark _)) (pe_tup (pa_cons pe_str (pa_cons (pv 1) (pa_cons (pv 2) pa_nil)))) (pv 2))))))), ?_⟩
    cases f with
    | kind i =>
      have hf0 := hf
      simp only [FV] at hf
      obtain ⟨a, rfl, ha⟩ := hf
      refine ⟨_, rfl, a, _, 0, _, rfl, rfl, SqT.of ha, atI_nat (j := 0) rfl, rfl, _, rfl, ifDF (by decide +kernel) ?_⟩
      refine ⟨_, rfl, a, _, 0, _, rfl, rfl, SqT.of ha, atI_nat (j := 0) rfl, rfl, _, rfl, ifDF (by decide +kernel) ?_⟩
      refine ⟨_, rfl, ?_⟩
      refine ⟨_, rfl, a, _, 0, _, rfl, rfl, SqT.of ha, atI_nat (j := 0) rfl, rfl, _, rfl, ifDF (by decide +kernel) ?_⟩
      refine ⟨_, rfl, _, _, rfl, rfl, decide ((1 : Int) < (m : Int)), rfl, ?_⟩
      by_cases hm1 : 1 < m
      · refine ifDT (decide_eq_true (by omega)) ⟨_, rfl, _, rfl, by show 3 ≤ sizeLine; decide, fun p hp => ?_⟩
        refine q _ _ (ExtN.of (same_upd hp)) (TabS.ext tab (same_upd hp)) ?_
        simp only [normT, wrap, if_pos hm1]
        simp only [FV]
        exact ⟨p, _, rfl, upd_same, a, rfl, same_upd hp _ _ ha⟩
      · refine ifDF (decide_eq_false (by omega)) ⟨_, rfl, q _ _ (ExtN.refl _) tab ?_⟩
        simp only [normT, wrap, if_neg hm1]
        exact hf0
    | many x f =>
      simp only [FV] at hf
      obtain ⟨a, u, rfl, ha, hu⟩ := hf
      simp only [dep] at hd hdd
      obtain ⟨hmm, hx⟩ := hm.many
      have hw := hm.wf
      simp only [Wf] at hw
      simp only [F.names, size] at hle
      obtain ⟨i, hi⟩ : ∃ i, i ∈ f.names := List.exists_mem_of_length_pos (names_pos f hw.2)
      have hb := hle i hi
      have hs1 := size_one f hw.2 hmm.nd i hi
      have hm2 : m ≤ 4294967296 := by
        have h2 : 1 ≤ x * size f i := Nat.mul_pos (by omega) hs1
        have h3 : m * 1 ≤ m * (x * size f i) := Nat.mul_le_mul_left _ h2
        omega
      refine ⟨_, rfl, a, _, 0, _, rfl, rfl, SqT.of ha, atI_nat (j := 0) rfl, rfl, _, rfl, ifDT mm ?_⟩
      refine ⟨_, rfl, a, _, 2, _, rfl, rfl, SqT.of ha, atI_nat (j := 2) rfl, _, rfl, _, rfl, a, _, 1, _, rfl, rfl, SqT.of ha, atI_nat (j := 1) rfl, m, x, rfl, rfl, hm2, ?_⟩
      refine ⟨u, f, m * x, rfl, hu, by omega, by omega, hmm, Nat.mul_pos h1 (by omega), fun j hj => ?_, tab, fun v' H' e t hv => q v' H' e t (by simpa only [normT] using hv)⟩
      rw [Nat.mul_assoc]
      exact hle j hj
    | node b ps =>
      simp only [FV] at hf
      obtain ⟨a, c, us, rfl, ha, hc, hus⟩ := hf
      simp only [dep] at hd hdd
      simp only [F.names, size] at hle
      refine ⟨_, rfl, a, _, 0, _, rfl, rfl, SqT.of ha, atI_nat (j := 0) rfl, rfl, _, rfl, ifDF (wm b) ?_⟩
      cases b with
      | true =>
        refine ⟨_, rfl, a, _, 0, _, rfl, rfl, SqT.of ha, atI_nat (j := 0) rfl, rfl, _, rfl, ifDT (wa true) ?_⟩
        refine ⟨_, rfl, a, _, 1, _, rfl, rfl, SqT.of ha, atI_nat (j := 1) rfl, c, rfl, ⟨_, SqT.of hc⟩, fun D hD => ?_⟩
        refine lc_norm (m := m) hc hus hD tab hm (by omega) (by omega) h1 hle rfl (fun _ => rfl) (fun u Hx Qx h => ⟨_, rfl, _, rfl, h⟩) fun H' zs e t hz hzs => ?_
        obtain ⟨j1, j2, j3, j4⟩ := joined_pre (m := m) hm (show depL ps ≤ d by omega) h1
        refine ⟨true, D, zs, _, rfl, hz, hzs, t, j1, j2, j3, j4, fun v' H2 e2 t2 hv => ?_⟩
        refine q v' H2 (e.trans e2) t2 ?_
        simp only [normT]
        rw [normTL_map]
        exact hv
      | false =>
        refine ⟨_, rfl, a, _, 0, _, rfl, rfl, SqT.of ha, atI_nat (j := 0) rfl, rfl, _, rfl, ifDF (wa false) ?_⟩
        refine ⟨_, rfl, ?_⟩
        refine ⟨_, rfl, a, _, 0, _, rfl, rfl, SqT.of ha, atI_nat (j := 0) rfl, rfl, _, rfl, ifDT (wo false) ?_⟩
        refine ⟨_, rfl, a, _, 1, _, rfl, rfl, SqT.of ha, atI_nat (j := 1) rfl, c, rfl, ⟨_, SqT.of hc⟩, fun D hD => ?_⟩
        refine lc_norm (m := 1) hc hus hD tab hm (by omega) (by omega) (Nat.le_refl 1) (fun i hi => ?_) rfl (fun _ => rfl) (fun u Hx Qx h => ⟨_, rfl, h⟩) fun H' zs e t hz hzs => ?_
        · have h2 := hle i hi
          have : 1 * sizeL ps i ≤ m * sizeL ps i := Nat.mul_le_mul_right _ h1
          omega
        obtain ⟨j1, j2, j3, j4⟩ := joined_pre (m := 1) hm (show depL ps ≤ d by omega) (Nat.le_refl 1)
        refine ⟨false, D, zs, _, rfl, hz, hzs, t, j1, j2, j3, j4, fun v' H2 e2 t2 hv => ?_⟩
        refine ⟨_, rfl, _, _, rfl, rfl, decide ((1 : Int) < (m : Int)), rfl, ?_⟩
        by_cases hm1 : 1 < m
        · refine ifDT (decide_eq_true (by omega)) ⟨_, rfl, _, rfl, by show 3 ≤ sizeLine; decide, fun p hp => ?_⟩
          refine q _ _ (e.trans (e2.trans (ExtN.of (same_upd hp)))) (TabS.ext t2 (same_upd hp)) ?_
          simp only [normT, wrap, if_pos hm1]
          rw [normTL_map]
          simp only [FV]
          exact ⟨p, _, rfl, upd_same, hv.keep (TK.upd hp)⟩
        · refine ifDF (decide_eq_false (by omega)) ⟨_, rfl, q _ _ (e.trans e2) t2 ?_⟩
          simp only [normT, wrap, if_neg hm1]
          rw [normTL_map]
          exact hv
/-! ### normal, called by place and by keyword -/
def spNormal (nm : Nat → Str) (k d : Nat) (Pt : Addr) : Sp := fun vs H Q _ => ∃ (v : V) (f : F), vs = [v] ∧ FV nm H f v ∧ dep f ≤ d ∧ Mod k f ∧ TabS H Pt jQ ∧
  ∀ (v' : V) (H' : Hp), ExtN H H' → TabS H' Pt jQ → FV nm H' (normF f) v' → Q v' H'
theorem ok_normal {k : Nat} {Pt : Addr} (T : Txt K mg) (N : Nm nm k) (d : Nat) (TB : TabB base mg (He.cT K ("joined", none)).1 Pt) : Kept P w K mg base (d + 1 + (d + 7) + 1) "normal" ["formula"] (spNormal nm k d Pt) := by
  have G := ok_normal_times (P := P) (w := w) (nm := nm) T N d TB (d + 1)
  obtain ⟨fd, FD⟩ := T.f_normal
  refine kept_of FD T.m_normal sc_normal (fun _ _ _ _ _ _ us hl => match us, hl with | [_], _ => rfl) (fun vs H Q E h => ?_) (fun cdv A outer s H vs Q E hr h => ?_)
  · obtain ⟨v, f, rfl, _⟩ := h; rfl
  obtain ⟨v, f, rfl, hf, hd, hm, tab, q⟩ := h
  refine ⟨_, pss_one (ps_ret (pe_kc G hr rfl (pa_cons (pv 0) (pa_cons pe_int pa_nil)))), ?_⟩
  exact ⟨_, rfl, v, f, 1, rfl, hf, by omega, hd, hm, Nat.le_refl 1, fun i hi => by rw [Nat.one_mul]; exact hm.le i hi, tab, q⟩
/-! ### calls by keywords -/
theorem kept_kw {k : Nat} {x : Str} {ks ps : List Str} {gV : List V → List V} {g : List Value → List Value} {sp : Sp} {st : Stmt} {fd : FuncData} (F : FunD K x x (defArgs st) (defBody st) (defScope st) [] [] (He.ga K x) fd) (m : mg x = some (.ref (He.ga K x))) (G : Kept P w K mg base k x ps sp)
    (b : ∀ (kV doc pm : Value) (an : Option Addr) (cdv ct : Value) (ws : List Value), ws.length = ks.length → bindArgs (PySem.W.fnOf x x (defArgs st) (defBody st) (defScope st) .none kV doc pm an cdv ct) ⟨[], ks.zip ws⟩ = pure (ps.zip (g ws)))
    (hg : ∀ {zs : List V} {ws : List Value}, Vals zs ws → Vals (gV zs) (g ws)) : KeptK P w K mg base k x ks ps gV sp := by
  obtain ⟨f, fd', hm, hk, hb, ⟨oc', od', osl', lk'⟩, FO⟩ := G
  rw [m] at hm
  cases hm
  obtain ⟨oc, od, dV, kV, doc, pm, an, cdv, ct, osl, rfl, lk, hcd, hD, _⟩ := F.ex
  rw [lk] at lk'
  cases lk'
  refine ⟨_, _, g, m, hk, fun s ws hl => BindsTo.of_eq ?_, hg, FO⟩
  rcases hD with ⟨_, rfl⟩ | ⟨e, _⟩
  · exact b kV doc pm an cdv ct ws hl
  · exact absurd rfl e
theorem kw_normal {k d : Nat} {Pt : Addr} {l : Nat} (T : Txt K mg) (G : Kept P w K mg base l "normal" ["formula"] (spNormal nm k d Pt)) : KeptK P w K mg base l "normal" ["formula"] ["formula"] id (spNormal nm k d Pt) := by
  obtain ⟨fd, FD⟩ := T.f_normal
  exact kept_kw (g := id) FD T.m_normal G (fun _ _ _ _ _ _ ws hl => match ws, hl with | [_], _ => rfl) fun h => h
theorem kw_sizes_of {k n : Nat} {l : Nat} (T : Txt K mg) (G : Kept P w K mg base l "sizes_of" ["formula"] (spSizes nm k n)) : KeptK P w K mg base l "sizes_of" ["formula"] ["formula"] id (spSizes nm k n) := by
  obtain ⟨fd, FD⟩ := T.f_sizes_of
  exact kept_kw (g := id) FD T.m_sizes_of G (fun _ _ _ _ _ _ ws hl => match ws, hl with | [_], _ => rfl) fun h => h
def turnV {α : Type} : List α → List α
  | [a, b, c] => [c, a, b]
  | l => l
theorem kw_meeting {k n : Nat} {l : Nat} (T : Txt K mg) (G : Kept P w K mg base l "meeting" ["formula", "one", "other"] (spMeet nm k n)) : KeptK P w K mg base l "meeting" ["one", "other", "formula"] ["formula", "one", "other"] turnV (spMeet nm k n) := by
  obtain ⟨fd, FD⟩ := T.f_meeting
  refine kept_kw (g := turnV) FD T.m_meeting G (fun _ _ _ _ _ _ ws hl => match ws, hl with | [_, _, _], _ => rfl) fun {zs ws} h => ?_
  cases h with
  | nil => exact .nil
  | cons a h =>
    cases h with
    | nil => exact .cons a .nil
    | cons b h =>
      cases h with
      | nil => exact .cons a (.cons b .nil)
      | cons c h =>
        cases h with
        | nil => exact .cons c (.cons a (.cons b .nil))
        | cons d h => exact .cons a (.cons b (.cons c (.cons d h)))
end
end Nf

/-! ## L1 -/
set_option Elab.async false
set_option linter.all false
set_option maxRecDepth 100000
set_option maxHeartbeats 4000000
/-! the law's draws -/
namespace Nf
open PySem PySem.Spec PyProof.Rows L2
/-- the heap of draws: a list of a list of cells and a number -/
def HS (h c : Addr) (H : Hp) : Prop := h ≠ c ∧ ∃ (ns : List Nat) (s : Nat), H h = some (.lst [.ref c, .int (s : Int)]) ∧ H c = some (.lst (ns.map fun n : Nat => V.int (n : Int))) ∧ s < 2147483647 ∧ ns.length ≤ 60
/-- all stays but h and c -/
structure DS (h c : Addr) (H H' : Hp) : Prop where
  kp : ∀ b o, b ≠ h → b ≠ c → H b = some o → H' b = some o
  hs : HS h c H'
section
variable {h c : Addr} {H H1 H2 : Hp}
theorem HS.keep (s : HS h c H) (e : Same H H1) : HS h c H1 := by
  obtain ⟨n, ns, t, a, b, d⟩ := s
  exact ⟨n, ns, t, e _ _ a, e _ _ b, d⟩
theorem DS.refl (s : HS h c H) : DS h c H H := ⟨fun _ _ _ _ e => e, s⟩
theorem DS.trans (a : DS h c H H1) (b : DS h c H1 H2) : DS h c H H2 := ⟨fun x o n m e => b.kp x o n m (a.kp x o n m e), b.hs⟩
theorem DS.of (s : HS h c H) (e : Same H H1) : DS h c H H1 := ⟨fun b o _ _ x => e b o x, s.keep e⟩
theorem DS.same (a : DS h c H H1) (e : Same H1 H2) : DS h c H H2 := a.trans (DS.of a.hs e)
theorem HS.neh (s : HS h c H) {p : Addr} (e : H p = none) : p ≠ h := by
  obtain ⟨_, _, _, a, _⟩ := s
  exact (ne_of_none a e).symm
theorem HS.nec (s : HS h c H) {p : Addr} (e : H p = none) : p ≠ c := by
  obtain ⟨_, _, _, _, a, _⟩ := s
  exact (ne_of_none a e).symm
theorem DS.tk (s : HS h c H) (d : DS h c H H1) : TK H H1 := fun b xs e => by
  obtain ⟨n, ns, t, a, a2, _⟩ := s
  exact d.kp b _ (fun z => by subst z; rw [a] at e; cases e) (fun z => by subst z; rw [a2] at e; cases e) e
/-- a place that was free, or a list apart, is written -/
theorem DS.updN {p : Addr} {o : HO} (s : HS h c H) (d : DS h c H H1) (e : H p = none) : DS h c H (L2.upd H1 p o) := by
  have n1 := s.neh e
  have n2 := s.nec e
  refine ⟨fun b x nh nc hx => ?_, ?_⟩
  · rw [upd_ne (ne_of_none hx e)]
    exact d.kp b x nh nc hx
  · obtain ⟨n, ns, t, a, a2, r⟩ := d.hs
    exact ⟨n, ns, t, by rw [upd_ne n1.symm]; exact a, by rw [upd_ne n2.symm]; exact a2, r⟩
theorem DS.none (s : HS h c H) (d : DS h c H H1) {p : Addr} (e : H1 p = none) : H p = none := by
  cases z : H p with
  | none => rfl
  | some o =>
    have n1 := d.hs.neh e
    have n2 := d.hs.nec e
    rw [d.kp _ _ n1 n2 z] at e
    cases e
theorem FV.ds {nm : Nat → Str} {f : F} {v : V} (s : HS h c H) (d : DS h c H H1) (x : FV nm H f v) : FV nm H1 f v := x.keep (d.tk s)
end
theorem sc_law_draw : FnScope ["_law_heap_here", "_law_many", "_law_rest"] ["_law_heap_here", "_law_many"] (defScope s_law_draw) := ⟨rfl, rfl, rfl, by decide +kernel, rfl, by decide +kernel, by decide +kernel⟩
theorem sc_law_pick : FnScope ["_law_heap_here", "_law_some"] ["_law_heap_here", "_law_some"] (defScope s_law_pick) := ⟨rfl, rfl, rfl, by decide +kernel, rfl, by decide +kernel, by decide +kernel⟩
theorem sc_law_heap : FnScope ["_law_script", "_law_cell", "_law_cells", "_law_stir"] ["_law_script"] (defScope s_law_heap) := ⟨rfl, rfl, rfl, by decide +kernel, rfl, by decide +kernel, by decide +kernel⟩
def spDraw (h c : Addr) : Sp := fun vs H Q _ => ∃ m : Nat, vs = [.ref h, .int (m : Int)] ∧ 1 ≤ m ∧ m ≤ 1000 ∧ HS h c H ∧ ∀ (r : Nat) (H' : Hp), r < m → DS h c H H' → Q (.int (r : Int)) H'
def spPick (h c : Addr) : Sp := fun vs H Q _ => ∃ (l : Addr) (xs : List V), vs = [.ref h, .ref l] ∧ H l = some (.lst xs) ∧ l ≠ h ∧ l ≠ c ∧ 1 ≤ xs.length ∧ xs.length ≤ 1000 ∧ HS h c H ∧ ∀ (x : V) (H' : Hp), x ∈ xs → DS h c H H' → Q x H'
def spHeap (K : PySem.W.Frag) : Sp := fun vs H Q _ => ∃ (a : Addr) (ns : List Int), vs = [.ref a] ∧ SqL K H a (ns.map V.int) ∧ ∀ (h c : Addr) (H' : Hp), Same H H' → HS h c H' → H h = none → H c = none → Q (.ref h) H'
theorem eqv_empty (ns : List PyData) : PyData.eqv (.list ns) (.list []) = ns.isEmpty := by
  cases ns <;> rfl
theorem dp_nats (K : PySem.W.Frag) (H : Hp) : ∀ ns : List Nat, DpAll K H (ns.map fun n : Nat => V.int (n : Int)) (ns.map fun n : Nat => PyData.int (n : Int))
  | [] => .nil
  | n :: r => .cons (.int _) (dp_nats K H r)
theorem shaped_ints : ∀ ns : List Nat, SeqAt.shaped (.list (ns.map fun n : Nat => PyData.int (n : Int))) = true := by
  intro ns
  have c : ∀ ns : List Nat, PyData.canLayAll0 (ns.map fun n : Nat => PyData.int (n : Int)) = true := by
    intro ns
    induction ns with
    | nil => rfl
    | cons n r ih => simp [PyData.canLayAll0, PyData.canLay0, ih]
  have d : ∀ ns : List Nat, PyData.depthAll (ns.map fun n : Nat => PyData.int (n : Int)) = 0 := by
    intro ns
    induction ns with
    | nil => rfl
    | cons n r ih => simp [PyData.depthAll, PyData.depth, ih]
  simp [SeqAt.shaped, PyData.canLay0, PyData.depth, c, d]
section
variable {P : Program} {w : World} {K : PySem.W.Frag} {mg : Str → Option Value} {base : Heap}
theorem op_modNN {X : Cx} : OpR X (binaryOp .Mod) (fun x y H Q => ∃ n m : Nat, x = .int (n : Int) ∧ y = .int (m : Int) ∧ 1 ≤ m ∧ Q (.int ((n % m : Nat) : Int)) H) := by
  intro pins s σ H x y v u Q I rx ry h
  obtain ⟨n, m, rfl, rfl, c1, q⟩ := h
  rw [Int.natCast_emod] at q
  exact op_mod pins s σ H _ _ v u Q I rx ry ⟨_, _, rfl, rfl, (by show (0 : Int) < (m : Int); omega), q⟩
/-- a test: cells != [] -/
theorem ne_empty {h c : Addr} {H : Hp} {σ : L2.St} {s : Nat} {ns : List Nat} {R : Bool → Hp → Prop} (h0 : σ[0]? = some (some (.ref h))) (hh : H h = some (.lst [.ref c, .int (s : Int)])) (hc : H c = some (.lst (ns.map fun n : Nat => V.int (n : Int))))
    (q : ∀ p, H p = none → R (!ns.isEmpty) (upd H p (.lst []))) : tTest (tOp (rNeD K) (tOp (rIxL K) (tVar 0) (tC (.int 0))) (tLst tNil)) σ H R := by
  refine ⟨_, h0, h, _, 0, _, rfl, rfl, SqL.of hh, atI_nat (j := 0) rfl, by show 0 ≤ sizeLine; decide, fun p hp => ?_⟩
  have e : Same H (upd H p (.lst [])) := same_upd hp
  refine ⟨.list _, .list [], .lst (SqL.of (e _ _ hc)) (dp_nats K _ ns), .lst (SqL.of upd_same) .nil, shaped_ints ns, rfl, !ns.isEmpty, ?_, q p hp⟩
  rw [eqv_empty]
  simp
theorem ok_law_draw {h c : Addr} (T : Txt K mg) : Kept P w K mg base 1 "_law_draw" ["_law_heap_here", "_law_many"] (spDraw h c) := by
  obtain ⟨fd, FD⟩ := T.f_law_draw
  refine kept_of FD T.m_law_draw sc_law_draw (fun _ _ _ _ _ _ us hl => match us, hl with | [_, _], _ => rfl) (fun vs H Q E h => ?_) (fun cdv A outer s H vs Q E hr h => ?_)
  · obtain ⟨m, rfl, _⟩ := h; rfl
  obtain ⟨m, rfl, m1, m2, hs, q⟩ := h
  have nd := sc_law_draw.nd
  refine ⟨_, pss_cons (ps_while PassesOwn.never (PW.pt (pw_and (pt_cmpR (op_neD hr.units) (pe_ix ix_list (pv 0) pe_int (fun _ _ => rfl)) (pe_lst pa_nil) (nomark _))
        (pw_and1 (pt_cmpR op_eq (pe_ix ix_list (pe_ix ix_list (pv 0) pe_int (fun _ _ => rfl)) (pe_un un_neg pe_int) (fun _ _ => rfl)) pe_int (nomark _)))))
      (pss_one (ps_expr (pe_bm0 PySem.F.plainAttrs_list PySem.F.slot_list_pop PySem.F.type_list_pop mt_pop (pe_ix ix_list (pv 0) pe_int (fun _ _ => rfl))))))
    (pss_cons (ps_if (pt_cmpR (op_neD hr.units) (pe_ix ix_list (pv 0) pe_int (fun _ _ => rfl)) (pe_lst pa_nil) (nomark _))
      (pss_cons (ps_set (i := 2) nd rfl (Or.inl rfl) (pe_bm0 PySem.F.plainAttrs_list PySem.F.slot_list_pop PySem.F.type_list_pop mt_pop (pe_ix ix_list (pv 0) pe_int (fun _ _ => rfl))))
      (pss_cons (ps_expr (pe_bm PySem.F.plainAttrs_list PySem.F.slot_list_append PySem.F.type_list_append mt_append (pe_ix ix_list (pv 0) pe_int (fun _ _ => rfl)) (pa_cons (pe_op op_fdivNN (pv 2) (pv 1)) pa_nil)))
      (pss_one (ps_ret (pe_op op_modNN (pe_callTy call_int1 (by rfl) T.z_int (by decide +kernel) (pa_cons (pv 2) pa_nil)) (pv 1)))))) pss_nil)
    (pss_cons (ps_asg (pe_op op_modNN (pe_callTy call_int1 (by rfl) T.z_int (by decide +kernel) (pa_cons (pe_op op_addN (pe_op op_mulN (pe_ix ix_list (pv 0) pe_int (fun _ _ => rfl)) pe_int) pe_int) pa_nil)) pe_int) (pg_sub (pv 0) pe_int set_list))
    (pss_one (ps_ret (pe_op op_modNN (pe_callTy call_int1 (by rfl) T.z_int (by decide +kernel) (pa_cons (pe_op op_fdivNN (pe_ix ix_list (pv 0) pe_int (fun _ _ => rfl)) pe_int) pa_nil)) (pv 1)))))), ?_⟩
  obtain ⟨hne, ns0, s0, hh0, hc0, hs0, hl0⟩ := hs
  refine seq_of (fun σ' H' => ∃ ns : List Nat, σ' = [some (.ref h), some (.int (m : Int)), none] ∧ H' h = some (.lst [.ref c, .int (s0 : Int)]) ∧ H' c = some (.lst (ns.map fun n : Nat => V.int (n : Int))) ∧ ns.length ≤ 60 ∧ (∀ b o, b ≠ h → b ≠ c → H b = some o → H' b = some o)) ?_ fun behind => ?_
  · rintro σ' H1 ⟨ns, rfl, hh, hc, hl, kp⟩
    refine ne_empty rfl hh hc fun p hp => ?_
    have e1 : Same H1 (upd H1 p (.lst [])) := same_upd hp
    have hh1 := e1 _ _ hh
    have hc1 := e1 _ _ hc
    have kp1 : ∀ b o, b ≠ h → b ≠ c → H b = some o → upd H1 p (.lst []) b = some o := fun b o n1 n2 e => e1 _ _ (kp b o n1 n2 e)
    rcases List.eq_nil_or_concat ns with rfl | ⟨ns1, n, rfl⟩
    · refine ifDF rfl ?_
      refine ⟨_, rfl, h, _, 1, _, rfl, rfl, SqL.of hh1, atI_nat (j := 1) rfl, s0, 48271, rfl, rfl, by omega, s0 * 48271, 11, rfl, rfl, .inl ⟨_, rfl, s0 * 48271 + 11, 2147483647, rfl, rfl, by decide, ?_⟩⟩
      refine ⟨_, rfl, h, _, 1, 1, rfl, rfl, hh1, rfl, ?_⟩
      generalize ht : (s0 * 48271 + 11) % 2147483647 = t
      have htl : t < 2147483647 := by omega
      refine ⟨_, rfl, h, _, 1, _, rfl, rfl, SqL.of upd_same, atI_nat (j := 1) rfl, t, 64, rfl, rfl, ⟨by decide, by decide⟩, .inl ⟨_, rfl, _, rfl, t / 64, m, rfl, rfl, by omega, ?_⟩⟩
      refine q _ _ (Nat.mod_lt _ (by omega)) ⟨fun b o n1 n2 e => by rw [upd_ne n1]; exact kp1 b o n1 n2 e, hne, [], t, upd_same, ?_, htl, by simp⟩
      rw [upd_ne hne.symm]
      exact hc1
    · rw [List.concat_eq_append] at hc hc1 hl ⊢
      have hc1' : upd H1 p (.lst []) c = some (.lst ((ns1.map fun n : Nat => V.int (n : Int)) ++ [V.int (n : Int)])) := by rw [hc1, List.map_append]; rfl
      refine ifDT (by simp) ?_
      refine ⟨_, rfl, h, _, 0, _, rfl, rfl, SqL.of hh1, atI_nat (j := 0) rfl, .inl ⟨rfl, _, SqL.of hc1'⟩, c, _, V.int (n : Int), rfl, rfl, hc1', by simp, ?_⟩
      have hh2 : upd (upd H1 p (.lst [])) c (.lst ((ns1.map fun n : Nat => V.int (n : Int)) ++ [V.int (n : Int)]).dropLast) h = some (.lst [.ref c, .int (s0 : Int)]) := by rw [upd_ne hne]; exact hh1
      refine ⟨_, rfl, h, _, 0, _, rfl, rfl, SqL.of hh2, atI_nat (j := 0) rfl, .inl ⟨rfl, _, SqL.of upd_same⟩, ?_⟩
      refine ⟨_, rfl, _, rfl, n, m, rfl, rfl, ⟨by omega, by omega⟩, c, _, _, rfl, rfl, upd_same, ?_, ?_⟩
      · refine lt_line ?_
        simp only [List.dropLast_concat, List.length_map]
        simp only [List.length_append, List.length_singleton] at hl
        omega
      refine ⟨_, rfl, .inl ⟨_, rfl, _, rfl, n, m, rfl, rfl, by omega, ?_⟩⟩
      refine q _ _ (Nat.mod_lt _ (by omega)) ⟨fun b o n1 n2 e => ?_, hne, ns1 ++ [n / m], s0, ?_, ?_, hs0, ?_⟩
      · rw [upd_ne n2, upd_ne n2]; exact kp1 b o n1 n2 e
      · rw [upd_ne hne, upd_ne hne]; exact hh1
      · rw [upd_same, List.dropLast_concat, List.map_append]; rfl
      · simpa using hl
  -- the zeros at the end are dropped
  refine ⟨fun μ σ' H' => ∃ ns : List Nat, μ = ns.length ∧ σ' = [some (.ref h), some (.int (m : Int)), none] ∧ H' h = some (.lst [.ref c, .int (s0 : Int)]) ∧ H' c = some (.lst (ns.map fun n : Nat => V.int (n : Int))) ∧ ns.length ≤ 60 ∧ (∀ b o, b ≠ h → b ≠ c → H b = some o → H' b = some o),
    ⟨_, ns0, rfl, rfl, hh0, hc0, hl0, fun _ _ _ _ e => e⟩, ?_⟩
  rintro μ σ' H1 ⟨ns, rfl, rfl, hh, hc, hl, kp⟩
  refine ne_empty rfl hh hc fun p hp => ?_
  have e1 : Same H1 (upd H1 p (.lst [])) := same_upd hp
  have hh1 := e1 _ _ hh
  have hc1 := e1 _ _ hc
  have kp1 : ∀ b o, b ≠ h → b ≠ c → H b = some o → upd H1 p (.lst []) b = some o := fun b o n1 n2 e => e1 _ _ (kp b o n1 n2 e)
  rcases List.eq_nil_or_concat ns with rfl | ⟨ns1, n, rfl⟩
  · exact ifDF rfl (ifDF rfl (behind _ _ ⟨[], rfl, hh1, hc1, hl, kp1⟩))
  · rw [List.concat_eq_append] at hc hc1 hl ⊢
    refine ifDT (by simp) ?_
    have hc1' : upd H1 p (.lst []) c = some (.lst ((ns1.map fun n : Nat => V.int (n : Int)) ++ [V.int (n : Int)])) := by rw [hc1, List.map_append]; rfl
    refine ⟨_, rfl, h, _, 0, _, rfl, rfl, SqL.of hh1, atI_nat (j := 0) rfl, 1, rfl, ?_⟩
    refine ⟨c, _, -1, _, rfl, rfl, SqL.of hc1', atI_last _ _, rfl, decide (V.int (n : Int) = V.int 0), rfl, ?_⟩
    by_cases hz : V.int (n : Int) = V.int 0
    · refine ifDT (decide_eq_true hz) ⟨fun σ' H' => ∃ m', m' < (ns1 ++ [n]).length ∧ ∃ ns : List Nat, m' = ns.length ∧ σ' = [some (.ref h), some (.int (m : Int)), none] ∧ H' h = some (.lst [.ref c, .int (s0 : Int)]) ∧ H' c = some (.lst (ns.map fun n : Nat => V.int (n : Int))) ∧ ns.length ≤ 60 ∧ (∀ b o, b ≠ h → b ≠ c → H b = some o → H' b = some o), fun _ _ z => z, ?_⟩
      refine ⟨_, rfl, h, _, 0, _, rfl, rfl, SqL.of hh1, atI_nat (j := 0) rfl, .inl ⟨rfl, _, SqL.of hc1'⟩, c, _, V.int (n : Int), rfl, rfl, hc1', by simp, ?_⟩
      refine ⟨_, by simp, ns1, rfl, rfl, ?_, ?_, ?_, fun b o n1 n2 e => ?_⟩
      · rw [upd_ne hne]; exact hh1
      · rw [upd_same, List.dropLast_concat]
      · simp only [List.length_append, List.length_singleton] at hl; omega
      · rw [upd_ne n2]; exact kp1 b o n1 n2 e
    · refine ifDF (decide_eq_false hz) (behind _ _ ⟨ns1 ++ [n], rfl, hh1, hc1, hl, kp1⟩)
theorem ok_law_pick {h c : Addr} (T : Txt K mg) : Kept P w K mg base 2 "_law_pick" ["_law_heap_here", "_law_some"] (spPick h c) := by
  have G := ok_law_draw (P := P) (w := w) (base := base) (h := h) (c := c) T
  obtain ⟨fd, FD⟩ := T.f_law_pick
  refine kept_of FD T.m_law_pick sc_law_pick (fun _ _ _ _ _ _ us hl => match us, hl with | [_, _], _ => rfl) (fun vs H Q E h => ?_) (fun cdv A outer s H vs Q E hr h => ?_)
  · obtain ⟨l, xs, rfl, _⟩ := h; rfl
  obtain ⟨l, xs, rfl, hl, n1, n2, h1, h2, hs, q⟩ := h
  refine ⟨_, pss_one (ps_ret (pe_ix ix_list (pv 1) (pe_kc G hr rfl (pa_cons (pv 0) (pa_cons (pe_callB call_len_seq (by rfl) T.z_len PySem.boot_len (pa_cons (pv 1) pa_nil)) pa_nil))) (fun _ _ => rfl))), ?_⟩
  refine ⟨_, rfl, _, rfl, _, rfl, l, _, rfl, .inl (SqL.of hl), xs.length, rfl, h1, h2, hs, fun r H1 hr d => ?_⟩
  have hx : xs[r]? = some xs[r] := List.getElem?_eq_getElem hr
  exact ⟨l, xs, r, xs[r], rfl, rfl, SqL.of (d.kp _ _ n1 n2 hl), atI_nat hx, q _ _ (List.getElem_mem hr) d⟩
end
section
variable {P : Program} {w : World} {K : PySem.W.Frag} {mg : Str → Option Value} {base : Heap}
theorem cut60 (ns : List Int) : cutV (ns.map V.int) none (some 60) = (ns.take 60).map V.int := by
  unfold cutV
  have e1 : HT.sIx (ns.map V.int).length 0 none = 0 := rfl
  have e2 : HT.sIx (ns.map V.int).length (ns.map V.int).length (some 60) = min 60 ns.length := by
    have := HT.sIx_nat (ns.map V.int).length (ns.map V.int).length 60
    rw [List.length_map] at this ⊢
    exact this
  rw [e1, e2, List.drop_zero, Nat.sub_zero, List.map_take]
  rcases Nat.le_total 60 ns.length with h | h
  · rw [Nat.min_eq_left h]
  · rw [Nat.min_eq_right h, List.take_of_length_le (by rw [List.length_map]; omega), List.take_of_length_le (by rw [List.length_map]; omega)]
theorem ok_law_heap (T : Txt K mg) : Kept P w K mg base 1 "_law_heap" ["_law_script"] (spHeap K) := by
  obtain ⟨fd, FD⟩ := T.f_law_heap
  refine kept_of FD T.m_law_heap sc_law_heap (fun _ _ _ _ _ _ us hl => match us, hl with | [_], _ => rfl) (fun vs H Q E h => ?_) (fun cdv A outer s H vs Q E hr h => ?_)
  · obtain ⟨a, ns, rfl, _⟩ := h; rfl
  obtain ⟨a, ns, rfl, ha, q⟩ := h
  have nd := sc_law_heap.nd
  refine ⟨_, pss_cons (ps_par (i := 2) (j := 3) rfl nd rfl rfl (by decide) rfl rfl (pa_cons (pe_lc (own := [("_law_cell", 1)]) (g := gName 1) (tt := tYes) rfl nd (pi_list (pe_slice sl_list (pv 0) po_none (po_some pe_int)))
        (blkOk_by (N := ["_law_script", "_law_cell", "_law_cells", "_law_stir"]) (sc := defScope s_law_heap) (by decide +kernel)) (fun _ _ _ _ _ => pg_name (i := 1) nd rfl (Or.inl rfl)) (fun _ _ _ _ _ => pts_nil)
        (fun _ _ _ _ _ => pe_callB call_abs (by rfl) T.z_abs (by decide +kernel) (pa_cons (pv 1) pa_nil))) (pa_cons pe_int pa_nil)) (by rfl))
    (pss_cons (ps_for PassesOwn.never rfl (pi_list (pv 2)) (pg_name (i := 1) nd rfl (Or.inl rfl))
      (pss_one (ps_set (i := 3) nd rfl (Or.inl rfl) (pe_op op_modNN (pe_callTy call_int1 (by rfl) T.z_int (by decide +kernel) (pa_cons (pe_op op_addN (pe_op op_addN (pe_op op_mulN (pv 3) pe_int)
        (pe_op op_modNN (pe_callTy call_int1 (by rfl) T.z_int (by decide +kernel) (pa_cons (pv 1) pa_nil)) pe_int)) pe_int) pa_nil)) pe_int))))
    (pss_one (ps_ret (pe_lst (pa_cons (pe_revL (pe_lc (own := [("_law_cell", 1)]) (g := gName 1) (tt := tTest (tOp (rI0 fun i j => .bl (decide (j ≤ i))) (tVar 1) (tOp (rI CPow fun i j => .int (i ^ j.toNat)) (tC (.int 10)) (tC (.int 18))))) rfl nd (pi_list (pv 2))
        (blkOk_by (N := ["_law_script", "_law_cell", "_law_cells", "_law_stir"]) (sc := defScope s_law_heap) (by decide +kernel)) (fun _ _ _ _ _ => pg_name (i := 1) nd rfl (Or.inl rfl)) (fun _ _ _ _ _ => pts_one (pt_cmpR op_ge (pv 1) (pe_op op_pow pe_int pe_int) (nomark _)))
        (fun _ _ _ _ _ => pv 1))) (pa_cons (pv 3) pa_nil)))))), ?_⟩
  refine ⟨_, rfl, 60, rfl, a, _, rfl, ha, fun p hp => ⟨p, rfl, ⟨_, SqL.of upd_same⟩, fun D hD => ?_⟩⟩
  rw [cut60] at hD ⊢
  have e1 : Same H (upd H p (.lst ((ns.take 60).map V.int))) := same_upd hp
  have HD : H D = none := none_of e1 hD
  have npD : p ≠ D := fun z => by subst z; rw [upd_same] at hD; cases hD
  have hl60 : (ns.take 60).length ≤ 60 := by rw [List.length_take]; omega
  generalize hms : ns.take 60 = ms at *
  have hNM : ∀ (l : List Int), (l.map fun i => V.int (i.natAbs : Int)) = (l.map Int.natAbs).map fun n : Nat => V.int (n : Int) := fun l => by simp [List.map_map, Function.comp_def]
  refine lc_list (K := K) (a := p) (xs := ms.map V.int) (fun i H' => Same H H' ∧ H' p = some (.lst (ms.map V.int)) ∧ H' D = some (.lst ((ms.take i).map fun i => V.int (i.natAbs : Int)))) ⟨same_updN e1 HD, by rw [upd_ne npD, upd_same], by rw [upd_same]; rfl⟩ (fun i H' _ h => SqL.of h.2.1) ?_ ?_
  · rintro i x H1 hi ⟨e2, hp1, hD1⟩
    obtain ⟨k, hk, rfl⟩ : ∃ k, ms[i]? = some k ∧ V.int k = x := by
      rw [List.getElem?_map] at hi
      cases z : ms[i]? with
      | none => rw [z] at hi; cases hi
      | some k => rw [z] at hi; exact ⟨k, rfl, by simpa using hi⟩
    refine ⟨rfl, yesT ⟨_, rfl, k, rfl, _, hD1, lt_line (by rw [List.length_map, List.length_take]; omega), same_updN e2 HD, by rw [upd_ne npD]; exact hp1, ?_⟩⟩
    have ek : (if k < 0 then -k else k) = (k.natAbs : Int) := by split <;> omega
    rw [upd_same, List.take_add_one, hk, List.map_append, ek]
    rfl
  rintro H1 ⟨e2, hp1, hD1⟩
  rw [List.length_map, List.take_length, hNM] at hD1
  generalize hcs : ms.map Int.natAbs = cs at *
  have hcl : cs.length ≤ 60 := by rw [← hcs, List.length_map]; exact hl60
  refine ⟨_, _, rfl, ?_⟩
  -- the number that is stirred
  refine ⟨_, rfl, D, rfl, ⟨_, SqL.of hD1⟩, ?_⟩
  refine for_list (K := K) (a := D) (xs := cs.map fun n : Nat => V.int (n : Int)) (fun i σ' H' => H' = H1 ∧ ∃ (x1 : Option V) (s : Nat), σ' = [some (.ref a), x1, some (.ref D), some (.int (s : Int))] ∧ s < 2147483647) ⟨rfl, none, 7703, rfl, by decide⟩ (fun i σ' H' _ h => by rw [h.1]; exact SqL.of hD1) ?_ ?_
  · rintro i x σ' H2 hi ⟨rfl, x1, s, rfl, hs⟩
    obtain ⟨k, hk, rfl⟩ : ∃ k, cs[i]? = some k ∧ V.int (k : Int) = x := by
      rw [List.getElem?_map] at hi
      cases z : cs[i]? with
      | none => rw [z] at hi; cases hi
      | some k => rw [z] at hi; exact ⟨k, rfl, by simpa using hi⟩
    refine ⟨_, rfl, s, 69621, rfl, rfl, by omega, _, rfl, .inl ⟨_, rfl, k, 2147483543, rfl, rfl, by decide, s * 69621, k % 2147483543, rfl, rfl, _, 31, rfl, rfl, .inl ⟨_, rfl, s * 69621 + k % 2147483543 + 31, 2147483647, rfl, rfl, by decide, ?_⟩⟩⟩
    exact ⟨rfl, _, _, rfl, Nat.mod_lt _ (by decide)⟩
  rintro σ' H2 ⟨rfl, x1, s, rfl, hs⟩
  -- the great ones, backwards
  refine ⟨_, rfl, D, rfl, ⟨_, SqL.of hD1⟩, fun L hL => ?_⟩
  have HL : H L = none := none_of e2 hL
  have nDL : D ≠ L := ne_of_none hD1 hL
  refine lc_list (K := K) (a := D) (xs := cs.map fun n : Nat => V.int (n : Int)) (fun i H' => Same H H' ∧ H' D = some (.lst (cs.map fun n : Nat => V.int (n : Int))) ∧ ∃ ks : List Nat, H' L = some (.lst (ks.map fun n : Nat => V.int (n : Int))) ∧ ks.length ≤ i) ⟨same_updN e2 HL, by rw [upd_ne nDL]; exact hD1, [], upd_same, Nat.le_refl _⟩ (fun i H' _ h => SqL.of h.2.1) ?_ ?_
  · rintro i x H3 hi ⟨e3, hD3, ks, hL3, hks⟩
    have hil : i < 60 := by
      have := (List.getElem?_eq_some_iff.mp hi).1
      rw [List.length_map] at this
      omega
    obtain ⟨k, hk, rfl⟩ : ∃ k, cs[i]? = some k ∧ V.int (k : Int) = x := by
      rw [List.getElem?_map] at hi
      cases z : cs[i]? with
      | none => rw [z] at hi; cases hi
      | some k => rw [z] at hi; exact ⟨k, rfl, by simpa using hi⟩
    refine ⟨rfl, ?_⟩
    refine ⟨_, rfl, _, _, rfl, rfl, ⟨by decide, by decide, by decide⟩, _, _, rfl, rfl, _, rfl, ?_⟩
    by_cases hb : (10 : Int) ^ (18 : Int).toNat ≤ (k : Int)
    · refine ifDT (decide_eq_true hb) ⟨_, rfl, _, hL3, lt_line (by rw [List.length_map]; omega), same_updN e3 HL, by rw [upd_ne nDL]; exact hD3, ks ++ [k], by rw [upd_same, List.map_append]; rfl, by simp; exact hks⟩
    · exact ifDF (decide_eq_false hb) ⟨e3, hD3, ks, hL3, by omega⟩
  rintro H3 ⟨e3, hD3, ks, hL3, hks⟩
  rw [List.length_map] at hks
  refine ⟨L, _, rfl, SqL.of hL3, fun c hc => ?_⟩
  refine ⟨_, rfl, by show 2 ≤ sizeLine; decide, fun h hh => ?_⟩
  have e4 : Same H3 (upd H3 c (.lst (ks.map fun n : Nat => V.int (n : Int)).reverse)) := same_upd hc
  have e5 := same_upd (o := .lst [.ref c, .int (s : Int)]) hh
  refine q h c _ ((e3.trans e4).trans e5) ?_ (none_of (e3.trans e4) hh) (none_of e3 hc)
  have nch : c ≠ h := fun z => by subst z; rw [upd_same] at hh; cases hh
  refine ⟨nch.symm, ks.reverse, s, upd_same, ?_, hs, by rw [List.length_reverse]; omega⟩
  rw [upd_ne nch, upd_same, List.map_reverse]
end
end Nf

/-! ## L2 -/
set_option Elab.async false
set_option linter.all false
set_option maxRecDepth 100000
set_option maxHeartbeats 4000000
/-! the law's mixing -/
namespace Nf
open PySem PySem.Spec PyProof.Rows L2
theorem eraseIdx_perm' {α : Type} : ∀ {l : List α} {i : Nat} {y : α}, l[i]? = some y → (y :: l.eraseIdx i).Perm l
  | [], i, y, h => by simp at h
  | a :: l, 0, y, h => by simp at h; subst h; simp
  | a :: l, i + 1, y, h => by
    have h : l[i]? = some y := by simpa using h
    have := eraseIdx_perm' h
    simp only [List.eraseIdx_cons_succ]
    exact (List.Perm.swap a y _).trans (this.cons a)
theorem seqIx_nat {n r : Nat} (h : r < n) : seqIndex? (r : Int) n = some r := by
  have hx : (List.range n)[r]? = some r := by simp [h]
  obtain ⟨j, h1, h2, h3, _⟩ := atI_get (atI_nat hx)
  rw [List.length_range] at h1
  rw [List.getElem?_range (by simpa using h3)] at h2
  cases h2
  exact h1
theorem sc_law_mixed : FnScope ["_law_heap_here", "_law_some", "_law_rest", "_law_found", "_law_turn"] ["_law_heap_here", "_law_some"] (defScope s_law_mixed) := ⟨rfl, rfl, rfl, by decide +kernel, rfl, by decide +kernel, by decide +kernel⟩
def spMixed (h c : Addr) : Sp := fun vs H Q _ => ∃ (l : Addr) (xs : List V), vs = [.ref h, .ref l] ∧ H l = some (.lst xs) ∧ l ≠ h ∧ l ≠ c ∧ xs.length ≤ 1000 ∧ HS h c H ∧ ∀ (p : Addr) (ys : List V) (H' : Hp), ys.Perm xs → DS h c H H' → H p = none → H' p = some (.lst ys) → Q (.ref p) H'
section
variable {P : Program} {w : World} {K : PySem.W.Frag} {mg : Str → Option Value} {base : Heap}
theorem ok_law_mixed {h c : Addr} (T : Txt K mg) : Kept P w K mg base 2 "_law_mixed" ["_law_heap_here", "_law_some"] (spMixed h c) := by
  have G := ok_law_draw (P := P) (w := w) (base := base) (h := h) (c := c) T
  obtain ⟨fd, FD⟩ := T.f_law_mixed
  refine kept_of FD T.m_law_mixed sc_law_mixed (fun _ _ _ _ _ _ us hl => match us, hl with | [_, _], _ => rfl) (fun vs H Q E h => ?_) (fun cdv A outer s H vs Q E hr h => ?_)
  · obtain ⟨l, xs, rfl, _⟩ := h; rfl
  obtain ⟨l, xs, rfl, hl, n1, n2, h2, hs, q⟩ := h
  have nd := sc_law_mixed.nd
  refine ⟨_, pss_cons (ps_par (i := 2) (j := 3) rfl nd rfl rfl (by decide) rfl rfl (pa_cons (pe_callTy call_list_of (by rfl) T.z_list (by decide +kernel) (pa_cons (pv 1) pa_nil)) (pa_cons (pe_lst pa_nil) pa_nil)) (by rfl))
    (pss_cons (ps_for PassesOwn.never rfl (pi_range1 rfl T.z_range (pa_cons (pe_callB call_len_seq (by rfl) T.z_len PySem.boot_len (pa_cons (pv 1) pa_nil)) pa_nil)) (pg_name (i := 4) nd rfl (Or.inl rfl))
      (pss_one (ps_expr (pe_bm PySem.F.plainAttrs_list PySem.F.slot_list_append PySem.F.type_list_append mt_append (pv 3) (pa_cons
        (pe_bm PySem.F.plainAttrs_list PySem.F.slot_list_pop PySem.F.type_list_pop mt_popAt (pv 2) (pa_cons (pe_kc G hr rfl (pa_cons (pv 0) (pa_cons (pe_callB call_len_seq (by rfl) T.z_len PySem.boot_len (pa_cons (pv 2) pa_nil)) pa_nil))) pa_nil)) pa_nil)))))
    (pss_one (ps_ret (pv 3)))), ?_⟩
  refine ⟨_, rfl, l, _, rfl, .inl (SqL.of hl), fun R hR => ?_⟩
  refine ⟨by show 0 ≤ sizeLine; decide, fun F hF => ?_⟩
  have e1 : Same H (upd H R (.lst xs)) := same_upd hR
  have HF : H F = none := none_of e1 hF
  have nRF : R ≠ F := fun z => by subst z; rw [upd_same] at hF; cases hF
  have e2 : Same H (upd (upd H R (.lst xs)) F (.lst [])) := same_updN e1 HF
  refine ⟨_, _, rfl, ?_⟩
  refine ⟨_, rfl, l, _, rfl, .inl (SqL.of (e2 _ _ hl)), (xs.length : Int), rfl, by omega, by omega, ?_⟩
  rw [Int.toNat_natCast]
  refine for_range (lo := 0) (n := xs.length) (fun i σ' H' => (∃ x4, σ' = [some (.ref h), some (.ref l), some (.ref R), some (.ref F), x4]) ∧ DS h c H H' ∧ ∃ rs fs : List V, H' R = some (.lst rs) ∧ H' F = some (.lst fs) ∧ (fs ++ rs).Perm xs ∧ fs.length = i) ⟨⟨none, rfl⟩, DS.of hs e2, xs, [], by rw [upd_ne nRF, upd_same], upd_same, by simp, rfl⟩ ?_ ?_
  · rintro i σ' H1 hi ⟨⟨x4, rfl⟩, d1, rs, fs, hR1, hF1, pm, hfl⟩
    have hlen : fs.length + rs.length = xs.length := by rw [← List.length_append]; exact pm.length_eq
    have nFh := hs.neh HF
    have nFc := hs.nec HF
    have nRh := hs.neh hR
    have nRc := hs.nec hR
    refine ⟨_, rfl, .inl ⟨rfl, _, SqL.of hF1⟩, ?_⟩
    refine ⟨_, rfl, .inl ⟨rfl, _, SqL.of hR1⟩, ?_⟩
    refine ⟨_, rfl, _, rfl, R, _, rfl, .inl (SqL.of hR1), rs.length, rfl, by omega, by omega, d1.hs, fun r H2 hr2 d2 => ?_⟩
    have hR2 := d2.kp _ _ nRh nRc hR1
    have hF2 := d2.kp _ _ nFh nFc hF1
    have hy : rs[r]? = some rs[r] := List.getElem?_eq_getElem hr2
    refine ⟨R, rs, r, r, rs[r], rfl, rfl, hR2, by omega, by omega, seqIx_nat hr2, hy, ?_⟩
    refine ⟨F, fs, _, rfl, rfl, by rw [upd_ne nRF.symm]; exact hF2, lt_line (by omega), ?_⟩
    refine ⟨⟨_, rfl⟩, DS.updN hs (DS.updN hs (d1.trans d2) hR) HF, rs.eraseIdx r, fs ++ [rs[r]], by rw [upd_ne nRF, upd_same], upd_same, ?_, by rw [List.length_append, hfl]; rfl⟩
    rw [List.append_assoc]
    exact (List.Perm.append_left fs (eraseIdx_perm' hy)).trans pm
  · rintro σ' H1 ⟨⟨x4, rfl⟩, d1, rs, fs, hR1, hF1, pm, hfl⟩
    have hlen : fs.length + rs.length = xs.length := by rw [← List.length_append]; exact pm.length_eq
    have er : rs = [] := List.length_eq_zero_iff.mp (by omega)
    subst er
    rw [List.append_nil] at pm
    exact ⟨_, rfl, q F fs H1 pm d1 HF hF1⟩
end
end Nf

/-! ## L3 -/
set_option Elab.async false
set_option linter.all false
set_option maxRecDepth 100000
set_option maxHeartbeats 4000000
/-! the law's names -/
namespace Nf
open PySem PySem.Spec PyProof.Rows L2
abbrev ltrs : Str := "abcdefghijklmnopqrstuvwxyz"
theorem ltr_at : ∀ r, r < 26 → ltrs.cps.toList[r]? = some (97 + r) := by decide +kernel
theorem ltr_mem {r : Nat} (h : r < 26) : 97 + r ∈ ltrs.cps.toList := List.mem_of_getElem? (ltr_at r h)
structure Wd (lo hi : Nat) (z : Str) : Prop where
  lo : lo ≤ z.length
  hi : z.length ≤ hi
  al : ∀ c ∈ z.cps.toList, c ∈ ltrs.cps.toList
theorem str_len (z : Str) : z.length = z.cps.toList.length := by simp [Str.length]
theorem app_cps (a b : Str) : (a ++ b).cps.toList = a.cps.toList ++ b.cps.toList := by
  show (a.cps ++ b.cps).toList = _
  simp
theorem app_len (a b : Str) : (a ++ b).length = a.length + b.length := by rw [str_len, app_cps, List.length_append, ← str_len, ← str_len]
theorem Wd.app {a b c d : Nat} {y z : Str} (h : Wd a b y) (h' : Wd c d z) : Wd (a + c) (b + d) (y ++ z) := by
  refine ⟨?_, ?_, fun x hx => ?_⟩
  · rw [app_len]; have := h.lo; have := h'.lo; omega
  · rw [app_len]; have := h.hi; have := h'.hi; omega
  · rw [app_cps, List.mem_append] at hx
    exact hx.elim (h.al x) (h'.al x)
theorem wd_one {r : Nat} (h : r < 26) : Wd 1 1 ⟨#[97 + r]⟩ := ⟨Nat.le_refl _, Nat.le_refl _, fun c hc => by simp at hc; subst hc; exact ltr_mem h⟩
theorem wd_two {r : Nat} (h : r < 26) : Wd 2 2 ⟨#[97 + r, 97 + r]⟩ := ⟨Nat.le_refl _, Nat.le_refl _, fun c hc => by simp at hc; subst hc; exact ltr_mem h⟩
theorem join_cps : ∀ ys : List Str, (Str.join "" ys).cps.toList = (ys.map fun y => y.cps.toList).flatten
  | [] => rfl
  | [x] => by simp [Str.join]
  | x :: y :: r => by
    have ih := join_cps (y :: r)
    have e : Str.join "" (x :: y :: r) = x ++ "" ++ Str.join "" (y :: r) := rfl
    rw [e, app_cps, app_cps, ih]
    have : ("" : Str).cps.toList = [] := by decide +kernel
    rw [this]
    simp
theorem wd_join {ys : List Str} (h : ∀ y ∈ ys, Wd 1 1 y) : Wd ys.length ys.length (Txt.join "" ys) := by
  rw [TL.join_eq]
  have hl : ∀ ys : List Str, (∀ y ∈ ys, Wd 1 1 y) → ((ys.map fun y => y.cps.toList).flatten).length = ys.length := by
    intro ys
    induction ys with
    | nil => intro _; rfl
    | cons y r ih =>
      intro h
      have h1 := h y List.mem_cons_self
      have := ih fun z hz => h z (List.mem_cons_of_mem _ hz)
      have h2 := h1.lo
      have h3 := h1.hi
      rw [str_len] at h2 h3
      simp only [List.map_cons, List.flatten_cons, List.length_append, List.length_cons, this]
      omega
  have e : (Str.join "" ys).length = ys.length := by rw [str_len, join_cps, hl ys h]
  refine ⟨by omega, by omega, fun c hc => ?_⟩
  rw [join_cps] at hc
  obtain ⟨l, hl, hc⟩ := List.mem_flatten.mp hc
  obtain ⟨y, hy, rfl⟩ := List.mem_map.mp hl
  exact (h y hy).al c hc
theorem wd_cut3 {z : Str} (h : Wd 1 5 z) : Wd 1 3 (cutS z none (some 3)) := by
  have e1 : HT.sIx z.length 0 none = 0 := rfl
  have e2 : HT.sIx z.length z.length (some 3) = min 3 z.length := HT.sIx_nat z.length z.length 3
  have e : (cutS z none (some 3)).cps.toList = z.cps.toList.take (min 3 z.length) := by
    unfold cutS
    rw [e1, e2]
    simp
  have hl : (cutS z none (some 3)).length = min 3 z.length := by
    rw [str_len, e, List.length_take, ← str_len]; omega
  have := h.lo
  refine ⟨by omega, by omega, fun c hc => ?_⟩
  rw [e] at hc
  exact h.al c (List.mem_of_mem_take hc)
theorem sum_len : ∀ {ys : List Str}, (∀ y ∈ ys, Wd 1 1 y) → (ys.map (·.length)).sum = ys.length
  | [], _ => rfl
  | y :: r, h => by
    have h1 := h y List.mem_cons_self
    have h2 := h1.lo
    have h3 := h1.hi
    have := sum_len (ys := r) fun z hz => h z (List.mem_cons_of_mem _ hz)
    simp only [List.map_cons, List.sum_cons, List.length_cons, this]; omega
theorem Wd.wk {a b c d : Nat} {z : Str} (h : Wd a b z) (h1 : c ≤ a) (h2 : b ≤ d) : Wd c d z := ⟨Nat.le_trans h1 h.lo, Nat.le_trans h.hi h2, h.al⟩
theorem nil_cps : ("" : Str).cps.toList = [] := by decide +kernel
theorem wd_nil : Wd 0 0 "" := by
  refine ⟨Nat.zero_le _, by decide +kernel, fun c hc => ?_⟩
  rw [nil_cps] at hc
  cases hc
theorem ltr_len : ltrs.length ≤ sizeLine := lt_line (n := 26) (by decide) |> Nat.le_of_lt |> fun h => by
  have : ltrs.length = 26 := by decide +kernel
  rw [this]; exact h
/-- a word ends with that letter -/
def EndsW (z : Str) (r : Nat) : Prop := z.cps.toList.getLast? = some (97 + r)
theorem endsW_app (y : Str) (r : Nat) : EndsW (y ++ ⟨#[97 + r]⟩) r := by
  unfold EndsW
  rw [app_cps]
  simp
theorem endsW_inj {z : Str} {r s : Nat} (h : EndsW z r) (h' : EndsW z s) : r = s := by
  unfold EndsW at h h'
  rw [h] at h'
  have := Option.some.inj h'
  omega
theorem nodup_sub_len {α : Type} [DecidableEq α] : ∀ {l m : List α}, l.Nodup → (∀ x ∈ l, x ∈ m) → l.length ≤ m.length
  | [], m, _, _ => Nat.zero_le _
  | x :: l, m, hn, h => by
    rw [List.nodup_cons] at hn
    have hx := h x List.mem_cons_self
    have ih := nodup_sub_len (m := m.erase x) hn.2 fun y hy => by
      have : y ≠ x := fun z => hn.1 (z ▸ hy)
      exact (List.mem_erase_of_ne this).mpr (h y (List.mem_cons_of_mem _ hy))
    rw [List.length_erase_of_mem hx] at ih
    have := List.length_pos_of_mem hx
    simp only [List.length_cons]; omega
/-- so many ends, so many words -/
theorem ends_many {fs : List Str} {m : Nat} (h : ∀ j, j < m → ∃ x ∈ fs, EndsW x j) : m ≤ fs.length := by
  have hsub : ∀ x ∈ (List.range m).map fun j => some (97 + j), x ∈ fs.map fun z => z.cps.toList.getLast? := by
    intro x hx
    obtain ⟨j, hj, rfl⟩ := List.mem_map.mp hx
    obtain ⟨z, hz, e⟩ := h j (by simpa using hj)
    exact List.mem_map.mpr ⟨z, hz, e⟩
  have hn : ((List.range m).map fun j => some (97 + j)).Nodup := by
    refine List.pairwise_map.mpr ?_
    refine List.Pairwise.imp (fun {a b} hab z => ?_) (List.nodup_range (n := m))
    have := Option.some.inj z
    omega
  have := nodup_sub_len hn hsub
  simpa using this
theorem inV_strs {z : Str} : ∀ {fs : List Str}, inV (.str z) (fs.map V.str) = decide (z ∈ fs)
  | [] => by simp [inV]
  | x :: l => by
    have ih := inV_strs (z := z) (fs := l)
    have e : inV (.str z) ((x :: l).map V.str) = (eqV (.str x) (.str z) || inV (.str z) (l.map V.str)) := by simp [inV]
    rw [e, ih]
    have e2 : eqV (.str x) (.str z) = (x == z) := rfl
    rw [e2]
    by_cases hx : z = x
    · subst hx; simp
    · have : ¬ x = z := fun e => hx e.symm
      simp [this, hx]
theorem strs_flat (fs : List Str) : (fs.map V.str).all flatV = true := by
  rw [List.all_eq_true]
  intro x hx
  obtain ⟨i, _, rfl⟩ := List.mem_map.mp hx
  rfl
/-- names out of sorted distinct words -/
theorem nm_of {ys : List Str} {k : Nat} (hl : ys.length = k) (hn : ys.Nodup) (hs : sortedS ys = true) (hw : ∀ y ∈ ys, Wd 1 5 y) : ∃ nm : Nat → Str, Nm nm k ∧ ys.map V.str = nv nm (List.range k) := by
  refine ⟨fun i => ys.getD i "", ⟨fun i hi => ?_, fun i j hij hj => ?_⟩, ?_⟩
  · have hy : ys.getD i "" ∈ ys := by
      rw [List.getD_eq_getElem?_getD, List.getElem?_eq_getElem (by omega)]
      exact List.getElem_mem _
    have := hw _ hy
    exact ⟨this.lo, this.hi, this.al⟩
  · have hp : ys.Pairwise fun a b : Str => a.cps.toList < b.cps.toList := by
      refine (sortedS_le hs).imp₂ (fun a b h1 h2 => ?_) hn
      rcases Decidable.em (a.cps.toList < b.cps.toList) with h | h
      · exact h
      · exact absurd (str_ext (List.le_antisymm (List.not_lt.mp h1) (List.not_lt.mp h))) h2
    have := List.pairwise_iff_getElem.mp hp i j (by omega) (by omega) hij
    simp only [List.getD_eq_getElem?_getD, List.getElem?_eq_getElem (show i < ys.length by omega), List.getElem?_eq_getElem (show j < ys.length by omega), Option.getD_some]
    exact this
  · subst hl
    apply List.ext_getElem?
    intro j
    rw [List.getElem?_map]
    simp only [nv, List.getElem?_map]
    by_cases hj : j < ys.length
    · rw [List.getElem?_range hj, List.getElem?_eq_getElem hj]
      simp [List.getD_eq_getElem?_getD, List.getElem?_eq_getElem hj]
    · rw [List.getElem?_eq_none (by omega), List.getElem?_eq_none (by simp; omega)]
      rfl
theorem sc_law_names : FnScope ["_law_heap_here", "_law_many", "_law_letters", "_law_found", "_law_front", "_law_turn", "_law_place", "_law_word"] ["_law_heap_here", "_law_many"] (defScope s_law_names) := ⟨rfl, rfl, rfl, by decide +kernel, rfl, by decide +kernel, by decide +kernel⟩
def spNamesL (h c : Addr) : Sp := fun vs H Q _ => ∃ (k : Nat), vs = [.ref h, .int (k : Int)] ∧ 1 ≤ k ∧ k ≤ 8 ∧ HS h c H ∧ ∀ (nm : Nat → Str) (p : Addr) (H' : Hp), Nm nm k → DS h c H H' → H p = none → H' p = some (.lst (nv nm (List.range k))) → Q (.ref p) H'
section
variable {P : Program} {w : World} {K : PySem.W.Frag} {mg : Str → Option Value} {base : Heap}
theorem ok_law_names {h c : Addr} (T : Txt K mg) : Kept P w K mg base 3 "_law_names" ["_law_heap_here", "_law_many"] (spNamesL h c) := by
  have G := ok_law_draw (P := P) (w := w) (base := base) (h := h) (c := c) T
  have GP := ok_law_pick (P := P) (w := w) (base := base) (h := h) (c := c) T
  have G2 := G.mono (show 1 ≤ 2 by omega)
  obtain ⟨fd, FD⟩ := T.f_law_names
  refine kept_of FD T.m_law_names sc_law_names (fun _ _ _ _ _ _ us hl => match us, hl with | [_, _], _ => rfl) (fun vs H Q E h => ?_) (fun cdv A outer s H vs Q E hr h => ?_)
  · obtain ⟨k, rfl, _⟩ := h; rfl
  obtain ⟨k, rfl, k1, k8, hs, q⟩ := h
  have nd := sc_law_names.nd
  refine ⟨_, pss_cons (ps_asg (pe_tup (pa_cons pe_str (pa_cons (pe_lst pa_nil) pa_nil))) (pg_tup rfl (pgs_cons (pg_name (i := 2) nd rfl (Or.inr rfl)) (pgs_cons (pg_name (i := 3) nd rfl (Or.inl rfl)) pgs_nil))))
    (pss_cons (ps_set (i := 4) nd rfl (Or.inl rfl) (pe_kc GP hr rfl (pa_cons (pv 0) (pa_cons (pe_lst (pa_cons pe_str (pa_cons pe_str (pa_cons (pe_ix ix_str (pv 2) (pe_kc G2 hr rfl (pa_cons (pv 0) (pa_cons pe_int pa_nil))) (fun _ _ => rfl))
        (pa_cons (pe_op op_mulS (pe_ix ix_str (pv 2) (pe_kc G2 hr rfl (pa_cons (pv 0) (pa_cons pe_int pa_nil))) (fun _ _ => rfl)) pe_int) pa_nil))))) pa_nil))))
    (pss_cons (ps_for PassesOwn.never rfl (pi_range1 rfl T.z_range (pa_cons (pv 1) pa_nil)) (pg_name (i := 5) nd rfl (Or.inl rfl))
      (pss_cons (ps_set (i := 7) nd rfl (Or.inl rfl) (pe_op op_add_str (pv 4) (pe_join pe_str (pe_lc (own := [("_law_place", 6)]) (g := gName 6) (tt := tYes) rfl nd (pi_range1 rfl T.z_range (pa_cons (pe_op op_addN pe_int (pe_kc G2 hr rfl (pa_cons (pv 0) (pa_cons pe_int pa_nil)))) pa_nil))
          (blkOk_by (N := ["_law_heap_here", "_law_many", "_law_letters", "_law_found", "_law_front", "_law_turn", "_law_place", "_law_word"]) (sc := defScope s_law_names) (by decide +kernel)) (fun _ _ _ _ _ => pg_name (i := 6) nd rfl (Or.inl rfl)) (fun _ _ _ _ _ => pts_nil)
          (fun _ _ _ _ _ => (pe_ix (r := rIxS) ix_str (pv 2) (pe_kc G2 hr rfl (pa_cons (pv 0) (pa_cons pe_int pa_nil))) (fun _ _ => rfl)))))))
      (pss_cons (ps_for PassesOwn.never rfl (pi_range1 rfl T.z_range (pa_cons (pe_op op_addN (pv 1) pe_int) pa_nil)) (pg_name (i := 6) nd rfl (Or.inl rfl))
        (pss_one (ps_set (i := 7) nd rfl (Or.inl rfl) (pe_ifExp (pt_cmpR op_in_seq (pv 7) (pv 3) rfl)
          (pe_op op_add_str (pe_op op_add_str (pe_slice sl_str (pv 7) po_none (po_some pe_int)) (pe_ix ix_str (pv 2) (pe_op op_fdivNN (pv 6) pe_int) (fun _ _ => rfl)))
            (pe_ix ix_str (pv 2) (pe_op op_modNN (pe_callTy call_int1 (by rfl) T.z_int (by decide +kernel) (pa_cons (pv 6) pa_nil)) pe_int) (fun _ _ => rfl))) (pv 7)))))
      (pss_one (ps_expr (pe_bm PySem.F.plainAttrs_list PySem.F.slot_list_append PySem.F.type_list_append mt_append (pv 3) (pa_cons (pv 7) pa_nil)))))))
    (pss_one (ps_ret (pe_callB cr_sortedS (by rfl) T.z_sorted (by decide +kernel) (pa_cons (pv 3) pa_nil)))))), ?_⟩
  refine ⟨by show 0 ≤ sizeLine; decide, fun F hF => ⟨by show 2 ≤ sizeLine; decide, fun t ht => ?_⟩⟩
  refine ⟨t, _, rfl, SqT.of upd_same, rfl, _, _, rfl, _, _, rfl, rfl, ?_⟩
  have e1 : Same H (upd H F (.lst [])) := same_upd hF
  have e2 := e1.trans (same_upd (o := .tup [.str ltrs, .ref F]) ht)
  have ntF : t ≠ F := fun z => by subst z; rw [upd_same] at ht; cases ht
  have hF2 : upd (upd H F (.lst [])) t (.tup [.str ltrs, .ref F]) F = some (.lst []) := by rw [upd_ne ntF.symm, upd_same]
  have nFh := hs.neh hF
  have nFc := hs.nec hF
  have d2 := DS.of hs e2
  -- the front
  refine ⟨_, rfl, ?_⟩
  refine ⟨_, rfl, _, rfl, 26, rfl, by decide, by decide, d2.hs, fun r1 H3 hr1 d3 => ?_⟩
  refine ⟨ltrs, r1, 97 + r1, rfl, rfl, ltr_len, atI_nat (ltr_at r1 hr1), ?_⟩
  refine ⟨_, rfl, _, rfl, 26, rfl, by decide, by decide, d3.hs, fun r2 H4 hr2 d4 => ?_⟩
  refine ⟨ltrs, r2, 97 + r2, rfl, rfl, ltr_len, atI_nat (ltr_at r2 hr2), 97 + r2, rfl, rfl, ?_⟩
  refine ⟨by show 4 ≤ sizeLine; decide, fun l hl => ?_⟩
  have d5 := ((d2.trans d3).trans d4).same (same_upd (o := .lst [.str "", .str "", .str ⟨#[97 + r1]⟩, .str ⟨#[97 + r2, 97 + r2]⟩]) hl)
  refine ⟨l, _, rfl, upd_same, d4.hs.neh hl, d4.hs.nec hl, by show 1 ≤ 4; decide, by show 4 ≤ 1000; decide, d5.hs, fun x H5 hx d6 => ?_⟩
  have dA := d5.trans d6
  have hF5 : H5 F = some (.lst []) := d6.kp _ _ nFh nFc (same_upd hl _ _ (d4.kp _ _ nFh nFc (d3.kp _ _ nFh nFc hF2)))
  obtain ⟨z0, rfl, hz0⟩ : ∃ z0, x = .str z0 ∧ Wd 0 2 z0 := by
    simp only [List.mem_cons, List.not_mem_nil, or_false] at hx
    rcases hx with rfl | rfl | rfl | rfl
    · exact ⟨_, rfl, wd_nil.wk (by omega) (by omega)⟩
    · exact ⟨_, rfl, wd_nil.wk (by omega) (by omega)⟩
    · exact ⟨_, rfl, (wd_one hr1).wk (by omega) (by omega)⟩
    · exact ⟨_, rfl, (wd_two hr2).wk (by omega) (by omega)⟩
  clear hx
  -- the words
  refine ⟨_, rfl, (k : Int), rfl, by omega, by omega, ?_⟩
  rw [Int.toNat_natCast]
  refine for_range (lo := 0) (n := k) (fun i σ' H' => (∃ x5 x6 x7, σ' = [some (.ref h), some (.int (k : Int)), some (.str ltrs), some (.ref F), some (.str z0), x5, x6, x7]) ∧ DS h c H H' ∧ ∃ fs : List Str, H' F = some (.lst (fs.map V.str)) ∧ fs.length = i ∧ fs.Nodup ∧ ∀ z ∈ fs, Wd 1 5 z)
    ⟨⟨none, none, none, rfl⟩, dA, [], hF5, rfl, .nil, by simp⟩ ?_ ?_
  · rintro i σ' H6 hi ⟨⟨x5, x6, x7, rfl⟩, d6, fs, hF6, hfl, hfn, hfw⟩
    refine ⟨_, rfl, ⟨_, rfl⟩, ?_⟩
    refine ⟨_, rfl, 3, rfl, by decide, by decide, d6.hs, fun r H7 hr7 d7 => ⟨1, r, rfl, rfl, ((1 + r : Nat) : Int), rfl, by omega, by omega, fun D hD => ?_⟩⟩
    rw [Int.toNat_natCast]
    have HD : H D = none := DS.none hs (d6.trans d7) hD
    have hF7 := d7.kp _ _ nFh nFc hF6
    have nFD : F ≠ D := ne_of_none hF7 hD
    refine lc_range (lo := 0) (n := 1 + r) (fun i H' => DS h c H H' ∧ H' F = some (.lst (fs.map V.str)) ∧ ∃ ys : List Str, H' D = some (.lst (ys.map V.str)) ∧ ys.length = i ∧ ∀ y ∈ ys, Wd 1 1 y) ⟨DS.updN hs (d6.trans d7) HD, by rw [upd_ne nFD]; exact hF7, [], upd_same, rfl, by simp⟩ ?_ ?_
    · rintro i H8 hi8 ⟨d8, hF8, ys, hD8, hyl, hyw⟩
      refine ⟨rfl, yesT ⟨_, rfl, _, rfl, 26, rfl, by decide, by decide, d8.hs, fun r9 H9 hr9 d9 => ?_⟩⟩
      have hD9 := d9.kp _ _ (hs.neh HD) (hs.nec HD) hD8
      refine ⟨ltrs, r9, 97 + r9, rfl, rfl, ltr_len, atI_nat (ltr_at r9 hr9), _, hD9, lt_line (by rw [List.length_map]; omega), DS.updN hs (d8.trans d9) HD, by rw [upd_ne nFD]; exact d9.kp _ _ nFh nFc hF8, ys ++ [⟨#[97 + r9]⟩], by rw [upd_same, List.map_append]; rfl, by rw [List.length_append, hyl]; rfl, fun y hy => ?_⟩
      rcases List.mem_append.mp hy with hy | hy
      · exact hyw y hy
      · simp only [List.mem_singleton] at hy; subst hy; exact wd_one hr9
    rintro H8 ⟨d8, hF8, ys, hD8, hyl, hyw⟩
    have hj := wd_join hyw
    have h0l : ("" : Str).length = 0 := by decide +kernel
    refine ⟨"", D, ys, rfl, rfl, .inl (SqL.of hD8), by rw [sum_len hyw, h0l]; omega, z0, _, rfl, rfl, le_line (by have := hj.hi; have := hz0.hi; omega), ?_⟩
    have hw0 : Wd 1 5 (z0 ++ Txt.join "" ys) := (hz0.app hj).wk (by omega) (by omega)
    generalize z0 ++ Txt.join "" ys = zw at hw0
    -- until it is new
    refine ⟨_, rfl, k, 1, rfl, rfl, ((k + 1 : Nat) : Int), rfl, by omega, by omega, ?_⟩
    rw [Int.toNat_natCast]
    refine for_range (lo := 0) (n := k + 1) (fun i σ' H' => H' = H8 ∧ ∃ (x5 x6 : Option V) (z : Str), σ' = [some (.ref h), some (.int (k : Int)), some (.str ltrs), some (.ref F), some (.str z0), x5, x6, some (.str z)] ∧ Wd 1 5 z ∧
      (z ∉ fs ∨ ((1 ≤ i → EndsW z (i - 1)) ∧ ∀ j, j + 1 < i → ∃ x ∈ fs, EndsW x j))) ⟨rfl, _, _, zw, rfl, hw0, .inr ⟨fun h => absurd h (by omega), fun j h => absurd h (by omega)⟩⟩ ?_ ?_
    · rintro i σ' H9 hi9 ⟨rfl, x5, x6, z, rfl, hz, hor⟩
      rw [show (0 : Int) + ((i : Nat) : Int) = ((i : Nat) : Int) by omega]
      refine ⟨_, rfl, _, rfl, F, _, rfl, .inl (SqL.of hF8), rfl, strs_flat fs, decide (z ∈ fs), ?_, ?_⟩
      · show V.bl (inV (.str z) (fs.map V.str)) = _
        rw [inV_strs]
      by_cases hzf : z ∈ fs
      · refine ifDT (decide_eq_true hzf) ?_
        obtain ⟨ho1, ho2⟩ := hor.resolve_left (fun e => e hzf)
        have hc3 := wd_cut3 hz
        refine ⟨_, rfl, 3, rfl, z, rfl, le_line (by have := hz.hi; omega), ?_⟩
        refine ⟨_, rfl, _, rfl, i, 26, rfl, rfl, ⟨by decide, by decide⟩, ltrs, ((i / 26 : Nat) : Int), 97 + i / 26, rfl, rfl, ltr_len, atI_nat (ltr_at (i / 26) (by omega)), ?_⟩
        have hw1 : i / 26 < 26 := by omega
        have hc4 := hc3.app (wd_one hw1)
        refine ⟨_, _, rfl, rfl, le_line (by have h1 := hc3.hi; have h2 := (wd_one hw1).hi; omega), ?_⟩
        refine ⟨_, rfl, _, rfl, .inl ⟨_, rfl, i, 26, rfl, rfl, by decide, ltrs, ((i % 26 : Nat) : Int), 97 + i % 26, rfl, rfl, ltr_len, atI_nat (ltr_at (i % 26) (by omega)), ?_⟩⟩
        have hw2 : i % 26 < 26 := by omega
        have hc5 := hc4.app (wd_one hw2)
        refine ⟨_, _, rfl, rfl, le_line (by have h1 := hc4.hi; have h2 := (wd_one hw2).hi; omega), ?_⟩
        refine ⟨rfl, _, _, _, rfl, hc5.wk (by omega) (by omega), .inr ⟨fun _ => ?_, fun j hj => ?_⟩⟩
        · have := endsW_app (cutS z none (some 3) ++ ⟨#[97 + i / 26]⟩) (i % 26)
          rw [Nat.mod_eq_of_lt (show i < 26 by omega)] at this ⊢
          exact this
        · by_cases hji : j + 1 < i
          · exact ho2 j hji
          · refine ⟨z, hzf, ?_⟩
            have := ho1 (by omega)
            rw [show j = i - 1 by omega]
            exact this
      · exact ifDF (decide_eq_false hzf) ⟨_, rfl, rfl, _, _, z, rfl, hz, .inl hzf⟩
    rintro σ' H9 ⟨rfl, x5, x6, z, rfl, hz, hor⟩
    have hzf : z ∉ fs := by
      rcases hor with h1 | ⟨_, h2⟩
      · exact h1
      · have := ends_many (m := k) fun j hj => h2 j (by omega)
        omega
    refine ⟨_, rfl, .inl ⟨rfl, _, SqL.of hF8⟩, _, rfl, F, _, _, rfl, rfl, hF8, lt_line (by rw [List.length_map]; omega), ?_⟩
    refine ⟨⟨_, _, _, rfl⟩, DS.updN hs d8 hF, fs ++ [z], by rw [upd_same, List.map_append]; rfl, by rw [List.length_append, hfl]; rfl, ?_, fun y hy => ?_⟩
    · rw [List.nodup_append]
      exact ⟨hfn, by simp, fun a ha b hb e => by simp only [List.mem_singleton] at hb; subst hb; subst e; exact hzf ha⟩
    · rcases List.mem_append.mp hy with hy | hy
      · exact hfw y hy
      · simp only [List.mem_singleton] at hy; subst hy; exact hz
  · rintro σ' H6 ⟨⟨x5, x6, x7, rfl⟩, d6, fs, hF6, hfl, hfn, hfw⟩
    refine ⟨_, rfl, F, fs, rfl, SqL.of hF6, by omega, fun ys p hp hsr np => ?_⟩
    obtain ⟨nm, hN, he⟩ := nm_of (k := k) (by rw [hp.length_eq]; exact hfl) (hp.nodup_iff.mpr hfn) hsr (fun y hy => hfw y (hp.mem_iff.mp hy))
    refine q nm p _ hN (d6.same (same_upd np)) (DS.none hs d6 np) ?_
    rw [upd_same, he]
end
end Nf

/-! ## L4 -/
set_option Elab.async false
set_option linter.all false
set_option maxRecDepth 100000
set_option maxHeartbeats 4000000
/-! the law's formulas -/
namespace Nf
open PySem PySem.Spec PyProof.Rows L2
theorem cut_to (xs : List V) (k : Nat) : cutV xs none (some (k : Int)) = xs.take k := by
  unfold cutV
  rw [HT.sIx_nat]
  have e1 : HT.sIx xs.length 0 none = 0 := rfl
  rw [e1, List.drop_zero, Nat.sub_zero]
  rcases Nat.le_total k xs.length with h | h
  · rw [Nat.min_eq_left h]
  · rw [Nat.min_eq_right h, List.take_of_length_le (Nat.le_refl _), List.take_of_length_le h]
theorem cut_from (xs : List V) (k : Nat) : cutV xs (some (k : Int)) none = xs.drop k := by
  unfold cutV
  rw [HT.sIx_nat]
  have e1 : HT.sIx xs.length xs.length none = xs.length := rfl
  rw [e1]
  rcases Nat.le_total k xs.length with h | h
  · rw [Nat.min_eq_left h]
    exact List.take_of_length_le (by rw [List.length_drop]; omega)
  · rw [Nat.min_eq_right h, List.drop_of_length_le (Nat.le_refl _), List.drop_of_length_le h]
    simp
theorem lt_line' {n : Nat} (h : n ≤ 1000) : n < sizeLine := lt_line h
theorem int_dec (i : Nat) : V.int (if decide (V.int (i : Int) = V.int 0) = true then 1 else 0) = V.int ((if i = 0 then 1 else 0 : Nat) : Int) := by
  by_cases h0 : i = 0
  · subst h0; rfl
  · have : ¬ V.int (i : Int) = V.int 0 := fun z => h0 (by have := V.int.inj z; omega)
    simp [this, h0]
theorem sc_law_formula : FnScope ["_law_heap_here", "_law_names_here", "_law_room", "_law_number", "_law_word", "_law_parts_here", "_law_rest", "_law_turn", "_law_cut"] ["_law_heap_here", "_law_names_here", "_law_room"] (defScope s_law_formula) := ⟨rfl, rfl, rfl, by decide +kernel, rfl, by decide +kernel, by decide +kernel⟩
def spFormula (nm : Nat → Str) (h c : Addr) (n : Nat) : Sp := fun vs H Q _ => ∃ (l : Addr) (ns : List Nat) (room : Nat), vs = [.ref h, .ref l, .int (room : Int)] ∧ H l = some (.lst (nv nm ns)) ∧ l ≠ h ∧ l ≠ c ∧ ns ≠ [] ∧ ns.Nodup ∧ ns.length + room < n ∧ 1 ≤ room ∧ room ≤ 1000 ∧ ns.length ≤ 1000 ∧ HS h c H ∧
  ∀ (v : V) (f : F) (H' : Hp), DS h c H H' → FV nm H' f v → f.names = ns → Wf f → (∀ i ∈ ns, size f i ≤ room) → Q v H'
section
variable {P : Program} {w : World} {K : PySem.W.Frag} {mg : Str → Option Value} {base : Heap} {nm : Nat → Str}
theorem ok_law_formula {h c : Addr} (T : Txt K mg) : ∀ n, Kept P w K mg base (n + 2) "_law_formula" ["_law_heap_here", "_law_names_here", "_law_room"] (spFormula nm h c n)
  | 0 => by
    obtain ⟨fd, FD⟩ := T.f_law_formula
    exact (kept_zero FD T.m_law_formula (fun _ _ _ _ _ _ us hl => match us, hl with | [_, _, _], _ => rfl) fun vs H Q E h => by obtain ⟨_, _, _, _, _, _, _, _, _, h, _⟩ := h; omega).mono (by omega)
  | n + 1 => by
    have G := ok_law_formula (h := h) (c := c) T n
    have GD := (ok_law_draw (P := P) (w := w) (base := base) (h := h) (c := c) T).mono (show 1 ≤ n + 2 by omega)
    have GP := (ok_law_pick (P := P) (w := w) (base := base) (h := h) (c := c) T).mono (show 2 ≤ n + 2 by omega)
    obtain ⟨fd, FD⟩ := T.f_law_formula
    refine kept_of FD T.m_law_formula sc_law_formula (fun _ _ _ _ _ _ us hl => match us, hl with | [_, _, _], _ => rfl) (fun vs H Q E h => ?_) (fun cdv A outer s H vs Q E hr h => ?_)
    · obtain ⟨l, ns, room, rfl, _⟩ := h; rfl
    obtain ⟨l, ns, room, rfl, hl, lh, lc, hne, hnd, hlt, r1, r1000, hl1000, hs, q⟩ := h
    have nd := sc_law_formula.nd
    refine ⟨_, pss_cons (ps_if (PW.pt (pw_and (pt_cmpR op_gt (pv 2) pe_int (nomark _)) (pw_and1 (pt_cmpR op_eq (pe_kc GD hr rfl (pa_cons (pv 0) (pa_cons pe_int pa_nil))) pe_int (nomark _)))))
        (pss_cons (ps_set (i := 3) nd rfl (Or.inl rfl) (pe_op op_addN pe_int (pe_kc GD hr rfl (pa_cons (pv 0) (pa_cons (pe_op op_subN (pv 2) pe_int) pa_nil)))))
        (pss_one (ps_ret (pe_tup (pa_cons pe_str (pa_cons (pv 3) (pa_cons (pe_kc G hr rfl (pa_cons (pv 0) (pa_cons (pv 1) (pa_cons (pe_op op_fdivNN (pv 2) (pv 3)) pa_nil)))) pa_nil))))))) pss_nil)
      (pss_cons (ps_if (pt_cmpR op_eq (pe_callB call_len_seq (by rfl) T.z_len PySem.boot_len (pa_cons (pv 1) pa_nil)) pe_int (nomark _))
        (pss_one (ps_ret (pe_tup (pa_cons pe_str (pa_cons (pe_ix ix_list (pv 1) pe_int (fun _ _ => rfl)) pa_nil))))) pss_nil)
      (pss_cons (ps_par3 (i := 4) (j := 5) (l := 6) rfl nd rfl rfl rfl (by decide) (by decide) (by decide) rfl rfl rfl (pa_cons (pe_kc GP hr rfl (pa_cons (pv 0) (pa_cons (pe_lst (pa_cons pe_str (pa_cons pe_str pa_nil))) pa_nil))) (pa_cons (pe_lst pa_nil) (pa_cons (pv 1) pa_nil))) (by rfl))
      (pss_cons (ps_for PassesOwn.never rfl (pi_range1 rfl T.z_range (pa_cons (pe_callB call_len_seq (by rfl) T.z_len PySem.boot_len (pa_cons (pv 1) pa_nil)) pa_nil)) (pg_name (i := 7) nd rfl (Or.inl rfl))
        (pss_one (ps_if (pt_cmpR op_gt (pe_callB call_len_seq (by rfl) T.z_len PySem.boot_len (pa_cons (pv 6) pa_nil)) pe_int (nomark _))
          (pss_cons (ps_set (i := 8) nd rfl (Or.inl rfl) (pe_op op_addN pe_int (pe_kc GD hr rfl (pa_cons (pv 0) (pa_cons (pe_op op_subN (pe_callB call_len_seq (by rfl) T.z_len PySem.boot_len (pa_cons (pv 6) pa_nil))
              (pe_callTy call_int1 (by rfl) T.z_int (by decide +kernel) (pa_cons (pe_cmpR op_eq (pv 7) pe_int (nomark _)) pa_nil))) pa_nil)))))
          (pss_cons (ps_expr (pe_bm PySem.F.plainAttrs_list PySem.F.slot_list_append PySem.F.type_list_append mt_append (pv 5) (pa_cons (pe_kc G hr rfl (pa_cons (pv 0) (pa_cons (pe_slice sl_list (pv 6) po_none (po_some (pv 8))) (pa_cons (pv 2) pa_nil)))) pa_nil)))
          (pss_one (ps_set (i := 6) nd rfl (Or.inl rfl) (pe_slice sl_list (pv 6) (po_some (pv 8)) po_none))))) pss_nil)))
      (pss_one (ps_ret (pe_tup (pa_cons (pv 4) (pa_cons (pe_callTy call_tuple_of (by rfl) T.z_tuple (by decide +kernel) (pa_cons (pv 5) pa_nil)) pa_nil)))))))), ?_⟩
    refine seq_of (fun σ' H' => σ' = [some (.ref h), some (.ref l), some (.int (room : Int)), none, none, none, none, none, none] ∧ DS h c H H') ?_ fun tail => ?_
    · rintro σ' H1 ⟨rfl, d1⟩
      have hl1 := d1.kp _ _ lh lc hl
      have hnl : (nv nm ns).length = ns.length := by simp [nv]
      have hpos : 1 ≤ ns.length := List.length_pos_iff.mpr hne
      refine ⟨_, rfl, l, _, rfl, .inl (SqL.of hl1), rfl, _, rfl, ?_⟩
      rw [hnl]
      by_cases h1 : ns.length = 1
      · -- one name
        obtain ⟨x, rfl⟩ := List.length_eq_one_iff.mp h1
        refine ifDT (decide_eq_true rfl) ⟨_, rfl, l, _, 0, _, rfl, rfl, SqL.of hl1, atI_nat (j := 0) rfl, by show 2 ≤ sizeLine; decide, fun p hp => ?_⟩
        refine q _ (.kind x) _ (d1.same (same_upd hp)) ?_ rfl (by simp only [Wf]) ?_
        · simp only [FV]; exact ⟨p, rfl, upd_same⟩
        · intro i hi; simp only [List.mem_singleton] at hi; subst hi; simp only [size, if_true]; exact r1
      refine ifDF (decide_eq_false (fun z => h1 (Int.ofNat.inj (V.int.inj z)))) ?_
      refine ⟨_, rfl, by show 2 ≤ sizeLine; decide, fun w2 hw2 => ?_⟩
      have dw := d1.same (same_upd (o := .lst [.str "and", .str "or"]) hw2)
      refine ⟨w2, _, rfl, upd_same, d1.hs.neh hw2, d1.hs.nec hw2, by show 1 ≤ 2; decide, by show 2 ≤ 1000; decide, dw.hs, fun x H2 hx d2 => ?_⟩
      have dB := dw.trans d2
      obtain ⟨b, rfl⟩ : ∃ b, x = .str (word b) := by
        simp only [List.mem_cons, List.not_mem_nil, or_false] at hx
        rcases hx with rfl | rfl
        · exact ⟨true, rfl⟩
        · exact ⟨false, rfl⟩
      refine ⟨by show 0 ≤ sizeLine; decide, fun A' hA => ⟨_, rfl, _, _, _, rfl, ?_⟩⟩
      have HA : H A' = none := DS.none hs dB hA
      have nAh := hs.neh HA
      have nAc := hs.nec HA
      have nlA : l ≠ A' := ne_of_none hl HA
      have dC := dB.same (same_upd (o := .lst []) hA)
      have hl2 := dC.kp _ _ lh lc hl
      refine ⟨_, rfl, l, _, rfl, .inl (SqL.of hl2), (ns.length : Int), by rw [hnl], by omega, by omega, ?_⟩
      rw [Int.toNat_natCast]
      refine for_range (lo := 0) (n := ns.length) (fun i σ' H' => (∃ (g : Addr) (x7 x8 : Option V), σ' = [some (.ref h), some (.ref l), some (.int (room : Int)), none, some (.str (word b)), some (.ref A'), some (.ref g), x7, x8] ∧ g ≠ h ∧ g ≠ c ∧ g ≠ A' ∧
        DS h c H H' ∧ ∃ (us : List V) (ps : List F) (rs : List Nat), H' A' = some (.lst us) ∧ FVs nm H' ps us ∧ H' g = some (.lst (nv nm rs)) ∧ namesL ps ++ rs = ns ∧ rs.length ≤ ns.length - i ∧ ps.length ≤ i ∧
          (∀ p ∈ ps, Wf p ∧ ∀ x ∈ p.names, size p x ≤ room) ∧ (i = 0 → ps = []) ∧ (1 ≤ i → 1 ≤ ps.length ∧ (ps.length = 1 → rs ≠ []))))
        ⟨l, none, none, rfl, lh, lc, nlA, dC, [], [], ns, upd_same, FVs.nil, hl2, rfl, by omega, by simp, by simp, fun _ => rfl, fun h => absurd h (by omega)⟩ ?_ ?_
      · rintro i σ' H3 hi ⟨g, x7, x8, rfl, gh, gc, gA, d3, us, ps, rs, hA3, hps, hg3, hjoin, hrl, hpl, hgood, hi0, hi1⟩
        rw [show (0 : Int) + ((i : Nat) : Int) = ((i : Nat) : Int) by omega]
        have hrn : (nv nm rs).length = rs.length := by simp [nv]
        refine ⟨_, rfl, g, _, rfl, .inl (SqL.of hg3), _, _, rfl, rfl, _, rfl, ?_⟩
        rw [hrn]
        by_cases hr0 : rs.length = 0
        · -- nothing is left
          refine ifDF (decide_eq_false (by omega)) ⟨g, _, _, rfl, gh, gc, gA, d3, us, ps, rs, hA3, hps, hg3, hjoin, by omega, by omega, hgood, fun z => by omega, fun _ => ?_⟩
          by_cases h0 : i = 0
          · have hp0 := hi0 h0
            subst hp0
            simp only [namesL, List.nil_append] at hjoin
            subst hjoin
            omega
          · exact hi1 (by omega)
        refine ifDT (decide_eq_true (by omega)) ?_
        -- the cut
        refine ⟨_, rfl, _, rfl, g, _, rfl, .inl (SqL.of hg3), _, rfl, rfl, .inr ⟨decide (V.int (i : Int) = V.int 0), rfl, rs.length, (if i = 0 then 1 else 0), by rw [hrn], ?_, by split <;> omega, ?_⟩⟩
        · exact int_dec i
        have hrs2 : i = 0 → 2 ≤ rs.length := fun h0 => by
          have hp0 := hi0 h0
          subst hp0
          simp only [namesL, List.nil_append] at hjoin
          subst hjoin
          omega
        have hsub : 1 ≤ rs.length - (if i = 0 then 1 else 0) := by
          by_cases h0 : i = 0
          · rw [if_pos h0]; have := hrs2 h0; omega
          · rw [if_neg h0]; omega
        refine ⟨rs.length - (if i = 0 then 1 else 0), rfl, hsub, ?_, d3.hs, fun r H4 hr4 d4 => ⟨1, r, rfl, rfl, ?_⟩⟩
        · have : rs.length ≤ ns.length := by rw [← hjoin, List.length_append]; omega
          omega
        have hcut1 : 1 + r ≤ rs.length := by split at hr4 <;> omega
        have hcut2 : i = 0 → 1 + r < rs.length := fun h0 => by rw [if_pos h0] at hr4; have := hrs2 h0; omega
        have hcut0 : 1 ≤ 1 + r := by omega
        generalize 1 + r = cut at hcut0 hcut1 hcut2
        have hA4 := d4.kp _ _ nAh nAc hA3
        have hg4 := d4.kp _ _ gh gc hg3
        have hps4 := hps.keep (d4.tk d3.hs)
        have d34 := d3.trans d4
        refine ⟨_, rfl, .inl ⟨rfl, _, SqL.of hA4⟩, ?_⟩
        refine ⟨_, rfl, _, rfl, _, rfl, (cut : Int), rfl, g, _, rfl, SqL.of hg4, fun p5 hp5 => ⟨_, rfl, ?_⟩⟩
        rw [cut_to]
        have e5 := same_upd (o := .lst ((nv nm rs).take cut)) hp5
        have etk : (nv nm rs).take cut = nv nm (rs.take cut) := by simp only [nv, List.map_take]
        have htl : (rs.take cut).length = cut := by rw [List.length_take]; omega
        have hrsn : rs.length ≤ ns.length := by rw [← hjoin, List.length_append]; omega
        have hcn : cut + 1 ≤ ns.length := by
          by_cases h0 : i = 0
          · have := hcut2 h0; omega
          · omega
        have hrsnd : rs.Nodup := by rw [← hjoin] at hnd; exact (List.nodup_append.mp hnd).2.1
        refine ⟨p5, rs.take cut, room, rfl, by rw [upd_same, etk], d34.hs.neh hp5, d34.hs.nec hp5, ?_, hrsnd.sublist (List.take_sublist _ _), by omega, r1, r1000, by omega, d34.hs.keep e5, fun v f H6 d6 hv hfn hfw hfs => ?_⟩
        · intro z; rw [z] at htl; simp at htl; omega
        have d46 := (d34.same e5).trans d6
        have hA6 := d6.kp _ _ nAh nAc (e5 _ _ hA4)
        have hg6 := d6.kp _ _ gh gc (e5 _ _ hg4)
        have tk6 := (TK.of e5).trans (d6.tk (d34.hs.keep e5))
        have tkA := TK.updL (o' := .lst (us ++ [v])) hA6 (fun _ z => by cases z)
        have hul : us.length ≤ 1000 := by rw [hps.length]; omega
        refine ⟨A', us, v, rfl, rfl, hA6, lt_line' hul, ?_⟩
        refine ⟨_, rfl, _, rfl, (cut : Int), rfl, g, _, rfl, SqL.of (by rw [upd_ne gA]; exact hg6), fun p7 hp7 => ?_⟩
        rw [cut_from]
        have edr : (nv nm rs).drop cut = nv nm (rs.drop cut) := by simp only [nv, List.map_drop]
        rw [edr]
        have d7 := DS.updN (o := .lst (us ++ [v])) hs d46 HA
        have e7 := same_upd (o := .lst (nv nm (rs.drop cut))) hp7
        have n7A : p7 ≠ A' := fun z => by subst z; rw [upd_same] at hp7; cases hp7
        refine ⟨p7, _, _, rfl, d7.hs.neh hp7, d7.hs.nec hp7, n7A, d7.same e7, us ++ [v], ps ++ [f], rs.drop cut, e7 _ _ upd_same, ?_, upd_same, ?_, ?_, ?_, ?_, fun z => by omega, fun _ => ⟨by simp, fun z => ?_⟩⟩
        · exact ((hps4.keep tk6).keep (tkA.trans (TK.of e7))).append (FVs.cons (hv.keep (tkA.trans (TK.of e7))) FVs.nil)
        · rw [namesL_append, List.append_assoc, ← hjoin]
          simp only [namesL, List.append_nil, hfn, List.take_append_drop]
        · rw [List.length_drop]; omega
        · rw [List.length_append]; simp only [List.length_singleton]; omega
        · intro p hp
          rcases List.mem_append.mp hp with hp | hp
          · exact hgood p hp
          · simp only [List.mem_singleton] at hp; subst hp
            exact ⟨hfw, fun x hx => hfs x (by rw [← hfn]; exact hx)⟩
        · have hp0 : ps = [] := by
            cases ps with
            | nil => rfl
            | cons a r => simp at z
          by_cases h0 : i = 0
          · intro z2
            have := hcut2 h0
            have : (rs.drop cut).length = 0 := by rw [z2]; rfl
            rw [List.length_drop] at this
            omega
          · have := (hi1 (by omega)).1
            rw [hp0] at this
            simp at this
      · rintro σ' H3 ⟨g, x7, x8, rfl, gh, gc, gA, d3, us, ps, rs, hA3, hps, hg3, hjoin, hrl, hpl, hgood, hi0, hi1⟩
        have hrs : rs = [] := List.length_eq_zero_iff.mp (by omega)
        subst hrs
        rw [List.append_nil] at hjoin
        obtain ⟨hp1, hp2⟩ := hi1 hpos
        have hp3 : 2 ≤ ps.length := by
          rcases Nat.lt_or_ge 1 ps.length with h | h
          · exact h
          · exact absurd rfl (hp2 (by omega))
        refine ⟨_, rfl, _, rfl, A', _, rfl, .inl ⟨SqL.of hA3, fun t ht => ?_⟩⟩
        refine ⟨by show 2 ≤ sizeLine; decide, fun p hp => ?_⟩
        have e4 := same_upd (o := .tup us) ht
        have e5 := same_upd (o := .tup [.str (word b), .ref t]) hp
        refine q _ (.node b ps) _ ((d3.same e4).same e5) ?_ hjoin ?_ ?_
        · simp only [FV]; exact ⟨p, t, us, rfl, upd_same, e5 _ _ upd_same, hps.keep (TK.of (e4.trans e5))⟩
        · simp only [Wf]; exact ⟨hp3, wfL_iff.mpr fun p hp => (hgood p hp).1⟩
        · intro i hi
          rw [← hjoin] at hi hnd
          obtain ⟨p, hp, hip⟩ := namesL_mem.mp hi
          simp only [size]
          rw [sizeL_at hnd hp hip]
          exact (hgood p hp).2 i hip
    · -- the first test
      refine ⟨_, rfl, _, _, rfl, rfl, _, rfl, ?_⟩
      by_cases hr1 : 1 < room
      · refine ifDT (decide_eq_true (by omega)) ?_
        refine ⟨_, rfl, 3, rfl, by decide, by decide, hs, fun r H1 hr3 d1 => ⟨rfl, _, rfl, ?_⟩⟩
        by_cases hr0 : r = 0
        · subst hr0
          refine ifDT (decide_eq_true rfl) ?_
          refine ⟨_, rfl, _, rfl, room, 1, rfl, rfl, r1, room - 1, rfl, by omega, by omega, d1.hs, fun r H2 hr4 d2 => ⟨2, r, rfl, rfl, ?_⟩⟩
          have d12 := d1.trans d2
          have hl2 := d12.kp _ _ lh lc hl
          have hn2 : 2 ≤ 2 + r := by omega
          have hn3 : 2 + r ≤ room := by omega
          generalize 2 + r = num at hn2 hn3
          have hq1 : 1 ≤ room / num := (Nat.le_div_iff_mul_le (by omega)).mpr (by omega)
          have hq2 : room / num < room := Nat.div_lt_self (by omega) (by omega)
          refine ⟨_, rfl, _, rfl, _, rfl, _, rfl, _, rfl, room, num, rfl, rfl, ⟨by omega, by omega⟩, ?_⟩
          refine ⟨l, ns, room / num, rfl, hl2, lh, lc, hne, hnd, by omega, hq1, by omega, hl1000, d12.hs, fun v f H3 d3 hv hfn hfw hfs => ?_⟩
          refine ⟨by show 3 ≤ sizeLine; decide, fun p hp => ?_⟩
          refine q _ (.many num f) _ ((d12.trans d3).same (same_upd hp)) ?_ (by simp only [F.names, hfn]) (by simp only [Wf]; exact ⟨hn2, hfw⟩) ?_
          · simp only [FV]; exact ⟨p, v, rfl, upd_same, hv.keep (TK.upd hp)⟩
          · intro i hi
            simp only [size]
            have h1 := hfs i hi
            have h2 : num * size f i ≤ num * (room / num) := Nat.mul_le_mul_left _ h1
            have h3 := Nat.mul_div_le room num
            omega
        · exact ifDF (decide_eq_false (fun z => hr0 (by have := V.int.inj z; omega))) (tail _ _ ⟨rfl, d1⟩)
      · exact ifDF (decide_eq_false (by omega)) (ifDF rfl (tail _ _ ⟨rfl, DS.refl hs⟩))
end
end Nf

/-! ## L5 -/
set_option Elab.async false
set_option linter.all false
set_option maxRecDepth 100000
set_option maxHeartbeats 4000000
/-! other ways to write a formula: grouped, so_many, other -/
namespace Nf
open PySem PySem.Spec PyProof.Rows L2
theorem part_short {ps : List F} (h2 : 2 ≤ ps.length) (hw : ∀ p ∈ ps, 1 ≤ p.names.length) : ∀ p ∈ ps, p.names.length + 1 ≤ (namesL ps).length := by
  intro p hp
  obtain ⟨a, b, rfl⟩ := List.append_of_mem hp
  rw [namesL_append]
  simp only [namesL, List.length_append]
  have h1 := len_names a fun q hq => hw q (by simp [hq])
  have h3 := len_names b fun q hq => hw q (by simp [hq])
  simp only [List.length_append, List.length_cons] at h2
  omega

theorem depL_le' {n : Nat} {ps : List F} (h : ∀ p ∈ ps, dep p ≤ n) : depL ps ≤ n := depL_le h
theorem dep_bound : ∀ f : F, Wf f → f.names.Nodup → ∀ b, (∀ i ∈ f.names, size f i < 2 ^ (b + 1)) → dep f + 1 ≤ f.names.length + b := by
  refine F.ind (fun i _ _ b _ => ?_) (fun n f ih hw hn b hs => ?_) (fun c ps ih hw hn b hs => ?_)
  · simp [dep, F.names]
  · simp only [Wf] at hw
    simp only [F.names] at hn hs
    simp only [dep, F.names]
    obtain ⟨i, hi⟩ : ∃ i, i ∈ f.names := List.exists_mem_of_length_pos (names_pos f hw.2)
    have hp := size_one f hw.2 hn
    have hb : 1 ≤ b := by
      have h1 := hs i hi
      simp only [size] at h1
      have h2 : 2 * 1 ≤ n * size f i := Nat.mul_le_mul hw.1 (hp i hi)
      rcases Nat.eq_zero_or_pos b with h | h
      · subst h; omega
      · exact h
    have := ih hw.2 hn (b - 1) fun j hj => by
      have h1 := hs j hj
      simp only [size] at h1
      have h2 : 2 * size f j ≤ n * size f j := Nat.mul_le_mul_right _ hw.1
      have h3 : 2 ^ (b + 1) = 2 * 2 ^ (b - 1 + 1) := by
        rw [show b + 1 = (b - 1 + 1) + 1 by omega, Nat.pow_succ 2 (b - 1 + 1)]; omega
      omega
    omega
  · simp only [Wf] at hw
    simp only [F.names] at hn hs
    simp only [dep, F.names]
    have hw2 := wfL_iff.mp hw.2
    have hsh := part_short hw.1 fun p hp => names_pos p (hw2 p hp)
    have : depL ps ≤ (namesL ps).length + b - 2 := depL_le' fun p hp => by
      have h1 := ih p hp (hw2 p hp) (nodup_part hn hp) b fun i hi => by
        have := hs i (namesL_mem.mpr ⟨p, hp, hi⟩)
        simp only [size] at this
        rw [sizeL_at hn hp hi] at this
        exact this
      have h2 := hsh p hp
      omega
    obtain ⟨p, hp⟩ : ∃ p, p ∈ ps := List.exists_mem_of_length_pos (by omega)
    have := hsh p hp
    have := names_pos p (hw2 p hp)
    omega
theorem cnt_bound : ∀ f : F, Wf f → cnt f ≤ (dep f + 1) * f.names.length := by
  refine F.ind (fun i _ => ?_) (fun n f ih hw => ?_) (fun c ps ih hw => ?_)
  · simp [cnt, dep, F.names]
  · simp only [Wf] at hw
    simp only [cnt, dep, F.names]
    have h1 := ih hw.2
    have h2 := names_pos f hw.2
    rw [Nat.add_mul (dep f + 1) 1]
    omega
  · simp only [Wf] at hw
    simp only [cnt, dep, F.names]
    have hw2 := wfL_iff.mp hw.2
    have key : ∀ (qs : List F) (d : Nat), (∀ q ∈ qs, q ∈ ps ∧ dep q ≤ d) → cntL qs ≤ (d + 1) * (namesL qs).length := by
      intro qs d
      induction qs with
      | nil => intro _; simp [cntL, namesL]
      | cons q r ihr =>
        intro h
        have h1 := ihr fun s hs => h s (List.mem_cons_of_mem _ hs)
        have h2 := h q List.mem_cons_self
        have h3 := ih q h2.1 (hw2 q h2.1)
        have h4 : (dep q + 1) * q.names.length ≤ (d + 1) * q.names.length := Nat.mul_le_mul_right _ (by omega)
        simp only [cntL, namesL, List.length_append, Nat.mul_add]
        omega
    have h1 := key ps (depL ps) fun q hq => ⟨hq, dep_part hq⟩
    have h2 : 1 ≤ (namesL ps).length := by
      have := len_names ps fun q hq => names_pos q (hw2 q hq)
      omega
    rw [Nat.add_mul (depL ps + 1) 1]
    omega
theorem sizeL_out {i : Nat} : ∀ {ps : List F}, i ∉ namesL ps → sizeL ps i = 0
  | [], _ => rfl
  | p :: ps, h => by
    simp only [namesL, List.mem_append, not_or] at h
    simp only [sizeL, if_neg h.1, sizeL_out h.2]
theorem sizeL_append (i : Nat) : ∀ (ps qs : List F), sizeL (ps ++ qs) i = if i ∈ namesL ps then sizeL ps i else sizeL qs i
  | [], qs => by simp [namesL]
  | p :: ps, qs => by
    simp only [List.cons_append, sizeL, sizeL_append i ps qs, namesL, List.mem_append]
    by_cases h : i ∈ p.names <;> simp [h]
theorem sizeL_perm {ps qs : List F} (h : ps.Perm qs) (nd : (namesL ps).Nodup) (i : Nat) : sizeL ps i = sizeL qs i := by
  have nd2 : (namesL qs).Nodup := (namesL_perm h).nodup_iff.mp nd
  by_cases hi : i ∈ namesL ps
  · obtain ⟨p, hp, hip⟩ := namesL_mem.mp hi
    rw [sizeL_at nd hp hip, sizeL_at nd2 (h.mem_iff.mp hp) hip]
  · rw [sizeL_out hi, sizeL_out fun z => hi ((namesL_perm h).mem_iff.mpr z)]
/-- m times as much, of the same names -/
structure Sc (m : Nat) (p q : F) : Prop where
  wf : Wf q
  nm : q.names.Perm p.names
  sz : ∀ i, size q i = m * size p i
theorem Sc.names {m : Nat} : ∀ {ps qs : List F}, All2 (Sc m) ps qs → (namesL qs).Perm (namesL ps) ∧ (∀ q ∈ qs, Wf q) ∧ ∀ i, sizeL qs i = m * sizeL ps i
  | _, _, .nil => ⟨.refl _, by simp, fun i => by simp [sizeL]⟩
  | _, _, .cons h t => by
    obtain ⟨a, b, c⟩ := Sc.names t
    refine ⟨?_, fun q hq => ?_, fun i => ?_⟩
    · simp only [namesL]; exact h.nm.append a
    · rcases List.mem_cons.mp hq with rfl | hq
      · exact h.wf
      · exact b q hq
    · simp only [sizeL, h.sz, c, h.nm.mem_iff]
      split <;> rfl
/-- moderate, for the law -/
structure Md (f : F) : Prop where
  wf : Wf f
  nd : f.names.Nodup
  len : f.names.length ≤ 8
  le : ∀ i ∈ f.names, size f i ≤ 60
theorem Md.dep {f : F} (h : Md f) : dep f ≤ 12 := by
  have := dep_bound f h.wf h.nd 5 fun i hi => by have := h.le i hi; omega
  have := h.len
  omega
theorem Md.of {f g : F} (h : Md f) (s : Sc 1 f g) : Md g := by
  refine ⟨s.wf, s.nm.nodup_iff.mpr h.nd, by rw [s.nm.length_eq]; exact h.len, fun i hi => ?_⟩
  rw [s.sz, Nat.one_mul]
  exact h.le i (s.nm.mem_iff.mp hi)
theorem Md.part {b : Bool} {ps : List F} {p : F} (h : Md (.node b ps)) (hp : p ∈ ps) : Md p := by
  obtain ⟨wf, nd, len, le⟩ := h
  simp only [Wf] at wf
  simp only [F.names] at nd len le
  refine ⟨wfL_iff.mp wf.2 p hp, nodup_part nd hp, ?_, fun i hi => ?_⟩
  · have := part_short wf.1 (fun p hp => names_pos p (wfL_iff.mp wf.2 p hp)) p hp
    omega
  · have := le i (namesL_mem.mpr ⟨p, hp, hi⟩)
    simp only [size] at this
    rw [sizeL_at nd hp hi] at this
    exact this
theorem Md.many {m : Nat} {f : F} (h : Md (.many m f)) : Md f ∧ 2 ≤ m ∧ m ≤ 60 := by
  obtain ⟨wf, nd, len, le⟩ := h
  simp only [Wf] at wf
  simp only [F.names] at nd len le
  simp only [size] at le
  refine ⟨⟨wf.2, nd, len, fun i hi => ?_⟩, wf.1, ?_⟩
  · have h1 := le i hi
    have h2 : 1 * size f i ≤ m * size f i := Nat.mul_le_mul_right _ (by omega)
    omega
  · obtain ⟨i, hi⟩ : ∃ i, i ∈ f.names := List.exists_mem_of_length_pos (names_pos f wf.2)
    have h1 := le i hi
    have h2 : m * 1 ≤ m * size f i := Nat.mul_le_mul_left _ (size_one f wf.2 nd i hi)
    omega
theorem sizeL_group {b : Bool} {ds : List F} {cut : Nat} (nd : (namesL ds).Nodup) (i : Nat) : sizeL (ds.drop cut ++ [.node b (ds.take cut)]) i = sizeL ds i := by
  have h1 : sizeL ds i = sizeL (ds.drop cut ++ ds.take cut) i := sizeL_perm (by
    have := List.perm_append_comm (l₁ := ds.take cut) (l₂ := ds.drop cut)
    rw [List.take_append_drop] at this
    exact this) nd i
  rw [h1, sizeL_append, sizeL_append]
  by_cases h : i ∈ namesL (ds.drop cut)
  · rw [if_pos h, if_pos h]
  · rw [if_neg h, if_neg h]
    have e : sizeL [.node b (ds.take cut)] i = if i ∈ namesL (ds.take cut) then sizeL (ds.take cut) i else 0 := rfl
    rw [e]
    split
    · rfl
    · rename_i h2; rw [sizeL_out h2]
theorem names_group {b : Bool} {ds : List F} {cut : Nat} : (namesL (ds.drop cut ++ [.node b (ds.take cut)])).Perm (namesL ds) := by
  rw [namesL_append]
  simp only [namesL, F.names, List.append_nil]
  have := List.perm_append_comm (l₁ := namesL (ds.drop cut)) (l₂ := namesL (ds.take cut))
  rw [← namesL_append (ds.take cut), List.take_append_drop] at this
  exact this
theorem seq_q {t u : TS} {D : Ends} {σ : L2.St} {H : Hp} {r : VK} {b c : L2.St → Hp → Prop} (R : L2.St → Hp → Prop) (h2 : ∀ σ' H', R σ' H' → u D σ' H') (h1 : (∀ σ' H', R σ' H' → u D σ' H') → t { D with nx := u D } σ H) :
    ({ nx := tSeq t u D, rt := r, bk := b, ct := c } : Ends).nx σ H := h1 h2
theorem sc_law_grouped : FnScope ["_law_heap_here", "_law_word", "_law_parts_here", "_law_mixed_here", "_law_cut"] ["_law_heap_here", "_law_word", "_law_parts_here"] (defScope s_law_grouped) := ⟨rfl, rfl, rfl, by decide +kernel, rfl, by decide +kernel, by decide +kernel⟩
def spGrouped (nm : Nat → Str) (h c : Addr) : Sp := fun vs H Q _ => ∃ (b : Bool) (l : Addr) (us : List V) (ps : List F), vs = [.ref h, .str (word b), .ref l] ∧ H l = some (.lst us) ∧ l ≠ h ∧ l ≠ c ∧ FVs nm H ps us ∧ 2 ≤ ps.length ∧ ps.length ≤ 1000 ∧ (namesL ps).Nodup ∧ (∀ p ∈ ps, Wf p) ∧ HS h c H ∧
  ∀ (v : V) (g : F) (H' : Hp), DS h c H H' → FV nm H' g v → Wf g → g.names.Perm (namesL ps) → (∀ i, size g i = sizeL ps i) → Q v H'
section
variable {P : Program} {w : World} {K : PySem.W.Frag} {mg : Str → Option Value} {base : Heap} {nm : Nat → Str}
theorem ok_law_grouped {h c : Addr} (T : Txt K mg) : Kept P w K mg base 3 "_law_grouped" ["_law_heap_here", "_law_word", "_law_parts_here"] (spGrouped nm h c) := by
  have GD := (ok_law_draw (P := P) (w := w) (base := base) (h := h) (c := c) T).mono (show 1 ≤ 2 by omega)
  have GM := ok_law_mixed (P := P) (w := w) (base := base) (h := h) (c := c) T
  obtain ⟨fd, FD⟩ := T.f_law_grouped
  refine kept_of FD T.m_law_grouped sc_law_grouped (fun _ _ _ _ _ _ us hl => match us, hl with | [_, _, _], _ => rfl) (fun vs H Q E h => ?_) (fun cdv A outer s H vs Q E hr h => ?_)
  · obtain ⟨b, l, us, ps, rfl, _⟩ := h; rfl
  obtain ⟨b, l, us, ps, rfl, hl, lh, lc, hus, h2, h1000, hnd, hwf, hs, q⟩ := h
  have nd := sc_law_grouped.nd
  refine ⟨_, pss_cons (ps_set (i := 3) nd rfl (Or.inl rfl) (pe_kc GM hr rfl (pa_cons (pv 0) (pa_cons (pv 2) pa_nil))))
    (pss_cons (ps_if (PW.pt (pw_and (pt_cmpR op_gt (pe_callB call_len_seq (by rfl) T.z_len PySem.boot_len (pa_cons (pv 3) pa_nil)) pe_int (nomark _)) (pw_and1 (pt_cmpR op_eq (pe_kc GD hr rfl (pa_cons (pv 0) (pa_cons pe_int pa_nil))) pe_int (nomark _)))))
      (pss_cons (ps_set (i := 4) nd rfl (Or.inl rfl) (pe_op op_addN pe_int (pe_kc GD hr rfl (pa_cons (pv 0) (pa_cons (pe_op op_subN (pe_callB call_len_seq (by rfl) T.z_len PySem.boot_len (pa_cons (pv 3) pa_nil)) pe_int) pa_nil)))))
      (pss_one (ps_set (i := 3) nd rfl (Or.inl rfl) (pe_op op_cat (pe_slice sl_list (pv 3) (po_some (pv 4)) po_none) (pe_lst (pa_cons (pe_tup (pa_cons (pv 1) (pa_cons (pe_callTy call_tuple_of (by rfl) T.z_tuple (by decide +kernel) (pa_cons (pe_slice sl_list (pv 3) po_none (po_some (pv 4))) pa_nil)) pa_nil))) pa_nil)))))) pss_nil)
    (pss_one (ps_ret (pe_tup (pa_cons (pv 1) (pa_cons (pe_callTy call_tuple_of (by rfl) T.z_tuple (by decide +kernel) (pa_cons (pv 3) pa_nil)) pa_nil)))))), ?_⟩
  refine ⟨_, rfl, _, rfl, l, us, rfl, hl, lh, lc, by rw [hus.length]; exact h1000, hs, fun m ys H1 hy d1 nm1 hm1 => ?_⟩
  obtain ⟨ds, pd, hds⟩ := All2.perm hy.symm (hus.keep (d1.tk hs)).all2
  have hds := FVs.of2 hds
  have nmh := hs.neh nm1
  have nmc := hs.nec nm1
  have dlen : ds.length = ps.length := pd.length_eq
  have dnd : (namesL ds).Nodup := (namesL_perm pd).nodup_iff.mpr hnd
  refine seq_q (fun σ' H' => ∃ (m' : Addr) (x4 : Option V) (ws : List V) (qs : List F), σ' = [some (.ref h), some (.str (word b)), some (.ref l), some (.ref m'), x4] ∧ DS h c H H' ∧ H' m' = some (.lst ws) ∧ FVs nm H' qs ws ∧ 2 ≤ qs.length ∧ (∀ q ∈ qs, Wf q) ∧ (namesL qs).Perm (namesL ps) ∧ ∀ i, sizeL qs i = sizeL ps i) ?_ fun tail => ?_
  · rintro σ' H2 ⟨m', x4, ws, qs, rfl, d2, hm2, hqs, hq2, hqw, hqn, hqz⟩
    refine ⟨_, rfl, _, rfl, m', _, rfl, .inl ⟨SqL.of hm2, fun t ht => ⟨by show 2 ≤ sizeLine; decide, fun p hp => ?_⟩⟩⟩
    have e4 := same_upd (o := .tup ws) ht
    have e5 := same_upd (o := .tup [.str (word b), .ref t]) hp
    refine q _ (.node b qs) _ ((d2.same e4).same e5) ?_ ?_ (by simpa only [F.names] using hqn) (fun i => by simp only [size]; exact hqz i)
    · simp only [FV]; exact ⟨p, t, ws, rfl, upd_same, e5 _ _ upd_same, hqs.keep (TK.of (e4.trans e5))⟩
    · simp only [Wf]; exact ⟨hq2, wfL_iff.mpr hqw⟩
  have hyl : ys.length = ps.length := by rw [hy.length_eq, hus.length]
  have dwf : ∀ q ∈ ds, Wf q := fun q hq => hwf q (pd.mem_iff.mp hq)
  have stay : ∀ (H2 : Hp), DS h c H1 H2 → ∃ (m' : Addr) (x4 : Option V) (ws : List V) (qs : List F), [some (V.ref h), some (V.str (word b)), some (V.ref l), some (V.ref m), none] = [some (V.ref h), some (V.str (word b)), some (V.ref l), some (V.ref m'), x4] ∧ DS h c H H2 ∧ H2 m' = some (.lst ws) ∧ FVs nm H2 qs ws ∧ 2 ≤ qs.length ∧ (∀ q ∈ qs, Wf q) ∧ (namesL qs).Perm (namesL ps) ∧ ∀ i, sizeL qs i = sizeL ps i := fun H2 d2 =>
    ⟨m, none, ys, ds, rfl, d1.trans d2, d2.kp _ _ nmh nmc hm1, hds.keep (d2.tk d1.hs), by omega, dwf, namesL_perm pd, fun i => sizeL_perm pd dnd i⟩
  refine ⟨_, rfl, m, _, rfl, .inl (SqL.of hm1), _, _, rfl, rfl, _, rfl, ?_⟩
  by_cases h3 : 2 < ys.length
  · refine ifDT (decide_eq_true (by omega)) ?_
    refine ⟨_, rfl, 2, rfl, by decide, by decide, d1.hs, fun r H2 hr2 d2 => ⟨rfl, _, rfl, ?_⟩⟩
    by_cases hr0 : r = 0
    · subst hr0
      have hm2 := d2.kp _ _ nmh nmc hm1
      refine ifDT (decide_eq_true rfl) ?_
      refine ⟨_, rfl, _, rfl, m, _, rfl, .inl (SqL.of hm2), ys.length, 2, rfl, rfl, by omega, ys.length - 2, rfl, by omega, by omega, d2.hs, fun r H3 hr3 d3 => ⟨2, r, rfl, rfl, ?_⟩⟩
      have hc2 : 2 ≤ 2 + r := by omega
      have hcl : 2 + r < ys.length := by omega
      generalize 2 + r = cut at hc2 hcl
      have hm3 := d3.kp _ _ nmh nmc hm2
      refine ⟨_, rfl, _, rfl, (cut : Int), rfl, m, _, rfl, SqL.of hm3, fun p4 hp4 => ?_⟩
      rw [cut_from]
      have e4 := same_upd (o := .lst (ys.drop cut)) hp4
      refine ⟨_, rfl, _, rfl, _, rfl, (cut : Int), rfl, m, _, rfl, SqL.of (e4 _ _ hm3), fun p5 hp5 => ?_⟩
      rw [cut_to]
      have e5 := same_upd (o := .lst (ys.take cut)) hp5
      refine ⟨p5, _, rfl, .inl ⟨SqL.of upd_same, fun t ht => ?_⟩⟩
      have e6 := same_upd (o := .tup (ys.take cut)) ht
      refine ⟨by show 2 ≤ sizeLine; decide, fun p7 hp7 => ?_⟩
      have e7 := same_upd (o := .tup [.str (word b), .ref t]) hp7
      refine ⟨by show 1 ≤ sizeLine; decide, fun p8 hp8 => ?_⟩
      have e8 := same_upd (o := .lst [.ref p7]) hp8
      refine ⟨p4, p8, ys.drop cut, [.ref p7], rfl, rfl, e8 _ _ (e7 _ _ (e6 _ _ (e5 _ _ upd_same))), upd_same, le_line (by simp; omega), fun p9 hp9 => ?_⟩
      have e9 := same_upd (o := .lst (ys.drop cut ++ [.ref p7])) hp9
      have d14 := (((((((d1.trans d2).trans d3).same e4).same e5).same e6).same e7).same e8).same e9
      have ee := (((e4.trans e5).trans e6).trans e7).trans (e8.trans e9)
      have hds3 := ((hds.keep (d2.tk d1.hs)).keep (d3.tk d2.hs)).keep (TK.of ee)
      refine tail _ _ ⟨p9, _, _, ds.drop cut ++ [.node b (ds.take cut)], rfl, d14, upd_same, (hds3.drop cut).append (FVs.cons ?_ FVs.nil), ?_, ?_, ?_, fun i => ?_⟩
      · simp only [FV]
        exact ⟨p7, t, _, rfl, e9 _ _ (e8 _ _ upd_same), e9 _ _ (e8 _ _ (e7 _ _ upd_same)), hds3.take cut⟩
      · rw [List.length_append, List.length_drop]; simp only [List.length_singleton]; omega
      · intro q hq
        rcases List.mem_append.mp hq with hq | hq
        · exact dwf q (List.mem_of_mem_drop hq)
        · simp only [List.mem_singleton] at hq; subst hq
          simp only [Wf]
          exact ⟨by rw [List.length_take]; omega, wfL_iff.mpr fun q hq => dwf q (List.mem_of_mem_take hq)⟩
      · exact names_group.trans (namesL_perm pd)
      · rw [sizeL_group dnd]; exact sizeL_perm pd dnd i
    · exact ifDF (decide_eq_false (fun z => hr0 (by have := V.int.inj z; omega))) (tail _ _ (stay H2 d2))
  · exact ifDF (decide_eq_false (by omega)) (ifDF rfl (tail _ _ (stay H1 (DS.refl d1.hs))))
end
end Nf

/-! ## L6 -/
set_option Elab.async false
set_option linter.all false
set_option maxRecDepth 100000
set_option maxHeartbeats 4000000
/-! so_many, other -/
namespace Nf
open PySem PySem.Spec PyProof.Rows L2
def hd : F → Str
  | .kind _ => "kind"
  | .many _ _ => "many"
  | .node b _ => word b
theorem FV.head {nm : Nat → Str} {H : Hp} {f : F} {v : V} (h : FV nm H f v) : ∃ a r, v = .ref a ∧ H a = some (.tup (.str (hd f) :: r)) := by
  cases f with
  | kind i => simp only [FV] at h; obtain ⟨a, e, h⟩ := h; exact ⟨a, _, e, h⟩
  | many n f => simp only [FV] at h; obtain ⟨a, u, e, h, _⟩ := h; exact ⟨a, _, e, h⟩
  | node b ps => simp only [FV] at h; obtain ⟨a, c, us, e, h, _⟩ := h; exact ⟨a, _, e, h⟩
theorem hd_and (f : F) : decide (V.str (hd f) = V.str "and") = isNode true f := by
  cases f with
  | kind i => show decide (V.str "kind" = V.str "and") = false; decide +kernel
  | many n f => show decide (V.str "many" = V.str "and") = false; decide +kernel
  | node b ps =>
    show decide (V.str (word b) = V.str "and") = (b == true)
    rw [wa]; cases b <;> rfl
theorem hd_many (f : F) : decide (V.str (hd f) = V.str "many") = (match f with | .many _ _ => true | _ => false) := by
  cases f with
  | kind i => show decide (V.str "kind" = V.str "many") = false; decide +kernel
  | many n f => show decide (V.str "many" = V.str "many") = true; decide +kernel
  | node b ps => exact wm b
theorem hd_kind (f : F) : decide (V.str (hd f) = V.str "kind") = (match f with | .kind _ => true | _ => false) := by
  cases f with
  | kind i => show decide (V.str "kind" = V.str "kind") = true; decide +kernel
  | many n f => show decide (V.str "many" = V.str "kind") = false; decide +kernel
  | node b ps => exact wk b
theorem sc_law_so_many : FnScope ["_law_heap_here", "_law_number", "_law_part", "_law_item"] ["_law_heap_here", "_law_number", "_law_part"] (defScope s_law_so_many) := ⟨rfl, rfl, rfl, by decide +kernel, rfl, by decide +kernel, by decide +kernel⟩
def spSoMany (nm : Nat → Str) (h c : Addr) (n : Nat) : Sp := fun vs H Q _ => ∃ (num : Nat) (v : V) (f : F), vs = [.ref h, .int (num : Int), v] ∧ FV nm H f v ∧ dep f < n ∧ Wf f ∧ f.names.Nodup ∧ f.names.length ≤ 8 ∧ 2 ≤ num ∧ (∀ i ∈ f.names, num * size f i ≤ 60) ∧ HS h c H ∧
  ∀ (v' : V) (g : F) (H' : Hp), DS h c H H' → FV nm H' g v' → Sc num f g → Q v' H'
theorem num_le {f : F} {m : Nat} (w : Wf f) (nd : f.names.Nodup) (h : ∀ i ∈ f.names, m * size f i ≤ 60) : m ≤ 60 := by
  obtain ⟨i, hi⟩ : ∃ i, i ∈ f.names := List.exists_mem_of_length_pos (names_pos f w)
  have h1 := h i hi
  have h2 : m * 1 ≤ m * size f i := Nat.mul_le_mul_left _ (size_one f w nd i hi)
  omega
theorem FVs.ds' {nm : Nat → Str} {h c : Addr} {H H1 : Hp} {ps : List F} {us : List V} (x : FVs nm H ps us) (s : HS h c H) (d : DS h c H H1) : FVs nm H1 ps us := x.keep (d.tk s)
section
variable {P : Program} {w : World} {K : PySem.W.Frag} {mg : Str → Option Value} {base : Heap} {nm : Nat → Str}
theorem ok_law_so_many {h c : Addr} (T : Txt K mg) : ∀ n, Kept P w K mg base (n + 3) "_law_so_many" ["_law_heap_here", "_law_number", "_law_part"] (spSoMany nm h c n)
  | 0 => by
    obtain ⟨fd, FD⟩ := T.f_law_so_many
    exact (kept_zero FD T.m_law_so_many (fun _ _ _ _ _ _ us hl => match us, hl with | [_, _, _], _ => rfl) fun vs H Q E h => by obtain ⟨_, _, _, _, _, h, _⟩ := h; omega).mono (by omega)
  | n + 1 => by
    have G := ok_law_so_many (h := h) (c := c) T n
    have GD := (ok_law_draw (P := P) (w := w) (base := base) (h := h) (c := c) T).mono (show 1 ≤ n + 3 by omega)
    have GG := (ok_law_grouped (P := P) (w := w) (base := base) (nm := nm) (h := h) (c := c) T).mono (show 3 ≤ n + 3 by omega)
    obtain ⟨fd, FD⟩ := T.f_law_so_many
    refine kept_of FD T.m_law_so_many sc_law_so_many (fun _ _ _ _ _ _ us hl => match us, hl with | [_, _, _], _ => rfl) (fun vs H Q E h => ?_) (fun cdv A outer s H vs Q E hr h => ?_)
    · obtain ⟨num, v, f, rfl, _⟩ := h; rfl
    obtain ⟨num, v, f, rfl, hf, hd', hwf, hnd, hl8, h2, hle, hs, q⟩ := h
    have nd := sc_law_so_many.nd
    refine ⟨_, pss_cons (ps_if (PW.pt (pw_and (pt_cmpR op_eq (pe_ix ix_tup (pv 2) pe_int (fun _ _ => rfl)) pe_str (nomark _)) (pw_and1 (pt_cmpR op_gt (pe_kc GD hr rfl (pa_cons (pv 0) (pa_cons pe_int pa_nil))) pe_int (nomark _)))))
        (pss_one (ps_ret (pe_kc GG hr rfl (pa_cons (pv 0) (pa_cons pe_str (pa_cons (pe_lc (own := [("_law_item", 3)]) (g := gName 3) (tt := tYes) rfl nd (pi_tup (pe_ix ix_tup (pv 2) pe_int (fun _ _ => rfl)))
          (blkOk_by (N := ["_law_heap_here", "_law_number", "_law_part", "_law_item"]) (sc := defScope s_law_so_many) (by decide +kernel)) (fun _ _ _ _ _ => pg_name (i := 3) nd rfl (Or.inl rfl)) (fun _ _ _ _ _ => pts_nil)
          (fun _ _ _ _ _ => pe_kc G hr rfl (pa_cons (pv 0) (pa_cons (pv 1) (pa_cons (pv 3) pa_nil))))) pa_nil)))))) pss_nil)
      (pss_cons (ps_if (PW.pt (pw_and (pt_cmpR op_eq (pe_ix ix_tup (pv 2) pe_int (fun _ _ => rfl)) pe_str (nomark _)) (pw_and1 (pt_cmpR op_eq (pe_kc GD hr rfl (pa_cons (pv 0) (pa_cons pe_int pa_nil))) pe_int (nomark _)))))
        (pss_one (ps_ret (pe_kc G hr rfl (pa_cons (pv 0) (pa_cons (pe_op op_mulN (pv 1) (pe_ix ix_tup (pv 2) pe_int (fun _ _ => rfl))) (pa_cons (pe_ix ix_tup (pv 2) pe_int (fun _ _ => rfl)) pa_nil)))))) pss_nil)
      (pss_cons (ps_if (PW.pt (pw_and (pt_cmpR op_gt (pv 1) pe_int (nomark _)) (pw_and (pt_cmpR op_eq (pe_op op_modNN (pe_callTy call_int1 (by rfl) T.z_int (by decide +kernel) (pa_cons (pv 1) pa_nil)) pe_int) pe_int (nomark _))
          (pw_and1 (pt_cmpR op_eq (pe_kc GD hr rfl (pa_cons (pv 0) (pa_cons pe_int pa_nil))) pe_int (nomark _))))))
        (pss_one (ps_ret (pe_tup (pa_cons pe_str (pa_cons pe_int (pa_cons (pe_tup (pa_cons pe_str (pa_cons (pe_op op_fdivNN (pv 1) pe_int) (pa_cons (pv 2) pa_nil)))) pa_nil)))))) pss_nil)
      (pss_one (ps_ret (pe_tup (pa_cons pe_str (pa_cons (pv 1) (pa_cons (pv 2) pa_nil)))))))), ?_⟩
    have hn60 := num_le hwf hnd hle
    obtain ⟨a, r, rfl, ha⟩ := hf.head
    -- behind the first test
    refine seq_of (fun σ' H' => σ' = [some (.ref h), some (.int (num : Int)), some (.ref a), none] ∧ DS h c H H') ?_ fun tail => ?_
    · rintro σ' H1 ⟨rfl, d1⟩
      have ha1 := d1.tk hs _ _ ha
      refine seq_of (fun σ' H' => σ' = [some (.ref h), some (.int (num : Int)), some (.ref a), none] ∧ DS h c H H') ?_ fun tail => ?_
      · rintro σ' H2 ⟨rfl, d2⟩
        have hf2 := hf.ds hs d2
        refine seq_of (fun σ' H' => σ' = [some (.ref h), some (.int (num : Int)), some (.ref a), none] ∧ DS h c H H') ?_ fun tail => ?_
        · rintro σ' H3 ⟨rfl, d3⟩
          refine ⟨_, rfl, _, rfl, by show 3 ≤ sizeLine; decide, fun p hp => ?_⟩
          refine q _ (.many num f) _ (d3.same (same_upd hp)) ?_ ⟨by simp only [Wf]; exact ⟨h2, hwf⟩, by simp only [F.names]; exact .refl _, fun i => by simp only [size]⟩
          simp only [FV]
          exact ⟨p, _, rfl, upd_same, (hf.ds hs d3).keep (TK.upd hp)⟩
        · refine ⟨_, rfl, _, _, rfl, rfl, _, rfl, ?_⟩
          by_cases hb : 2 < num
          · refine ifDT (decide_eq_true (by omega)) ?_
            refine ⟨_, rfl, .inl ⟨_, rfl, num, 2, rfl, rfl, by decide, rfl, _, rfl, ?_⟩⟩
            by_cases hev : num % 2 = 0
            · refine ifDT (by rw [hev]; exact decide_eq_true rfl) ?_
              refine ⟨_, rfl, 2, rfl, by decide, by decide, d2.hs, fun r H3 hr2 d3 => ⟨rfl, _, rfl, ?_⟩⟩
              by_cases hr0 : r = 0
              · subst hr0
                refine ifDT (decide_eq_true rfl) ?_
                refine ⟨_, rfl, num, 2, rfl, rfl, ⟨by decide, by decide⟩, _, rfl, by show 3 ≤ sizeLine; decide, fun p hp => ⟨by show 3 ≤ sizeLine; decide, fun p2 hp2 => ?_⟩⟩
                have e1 := same_upd (o := .tup [.str "many", .int ((num / 2 : Nat) : Int), .ref a]) hp
                have e2 := same_upd (o := .tup [.str "many", .int 2, .ref p]) hp2
                refine q _ (.many 2 (.many (num / 2) f)) _ (((d2.trans d3).same e1).same e2) ?_ ⟨?_, by simp only [F.names]; exact .refl _, fun i => ?_⟩
                · simp only [FV]
                  exact ⟨p2, _, rfl, upd_same, p, _, rfl, e2 _ _ upd_same, (hf.ds hs (d2.trans d3)).keep (TK.of (e1.trans e2))⟩
                · simp only [Wf]; exact ⟨Nat.le_refl 2, by omega, hwf⟩
                · simp only [size]
                  rw [← Nat.mul_assoc, show 2 * (num / 2) = num by omega]
              · exact ifDF (decide_eq_false (fun z => hr0 (by have := V.int.inj z; omega))) (tail _ _ ⟨rfl, d2.trans d3⟩)
            · exact ifDF (decide_eq_false (fun z => hev (by have := V.int.inj z; omega))) (ifDF rfl (tail _ _ ⟨rfl, d2⟩))
          · exact ifDF (decide_eq_false (by omega)) (ifDF rfl (tail _ _ ⟨rfl, d2⟩))
      · refine ⟨_, rfl, a, _, 0, _, rfl, rfl, SqT.of ha1, atI_nat (j := 0) rfl, rfl, _, rfl, ?_⟩
        rw [hd_many]
        cases f with
        | kind i => exact ifDF rfl (ifDF rfl (tail _ _ ⟨rfl, d1⟩))
        | node b ps => exact ifDF rfl (ifDF rfl (tail _ _ ⟨rfl, d1⟩))
        | many m f =>
          refine ifDT rfl ?_
          refine ⟨_, rfl, 2, rfl, by decide, by decide, d1.hs, fun r H2 hr2 d2 => ⟨rfl, _, rfl, ?_⟩⟩
          by_cases hr0 : r = 0
          · subst hr0
            refine ifDT (decide_eq_true rfl) ?_
            have hf2 := hf.ds hs (d1.trans d2)
            simp only [FV] at hf2
            obtain ⟨a', u, e, ha2, hu⟩ := hf2
            cases e
            simp only [dep] at hd'
            simp only [Wf] at hwf
            simp only [F.names] at hnd hl8 hle
            simp only [size] at hle
            refine ⟨_, rfl, _, rfl, _, rfl, a, _, 1, _, rfl, rfl, SqT.of ha2, atI_nat (j := 1) rfl, num, m, rfl, rfl, by omega, _, rfl, a, _, 2, _, rfl, rfl, SqT.of ha2, atI_nat (j := 2) rfl, ?_⟩
            refine ⟨num * m, u, f, rfl, hu, by omega, hwf.2, hnd, hl8, ?_, fun i hi => by rw [Nat.mul_assoc]; exact hle i hi, d2.hs, fun v' g H3 d3 hv hsc => ?_⟩
            · have : 2 * 1 ≤ num * m := Nat.mul_le_mul h2 (by omega)
              omega
            · refine q v' g H3 ((d1.trans d2).trans d3) hv ⟨hsc.wf, by simp only [F.names]; exact hsc.nm, fun i => ?_⟩
              simp only [size]
              rw [hsc.sz, Nat.mul_assoc]
          · exact ifDF (decide_eq_false (fun z => hr0 (by have := V.int.inj z; omega))) (tail _ _ ⟨rfl, d1.trans d2⟩)
    · refine ⟨_, rfl, a, _, 0, _, rfl, rfl, SqT.of ha, atI_nat (j := 0) rfl, rfl, _, rfl, ?_⟩
      rw [hd_and]
      cases f with
      | kind i => exact ifDF rfl (ifDF rfl (tail _ _ ⟨rfl, DS.refl hs⟩))
      | many m f => exact ifDF rfl (ifDF rfl (tail _ _ ⟨rfl, DS.refl hs⟩))
      | node b ps =>
        cases b with
        | false => exact ifDF rfl (ifDF rfl (tail _ _ ⟨rfl, DS.refl hs⟩))
        | true =>
          refine ifDT rfl ?_
          refine ⟨_, rfl, 3, rfl, by decide, by decide, hs, fun r H1 hr3 d1 => ⟨_, _, rfl, rfl, _, rfl, ?_⟩⟩
          by_cases hr0 : 0 < r
          · refine ifDT (decide_eq_true (by omega)) ?_
            have hf1 := hf.ds hs d1
            simp only [FV] at hf1
            obtain ⟨a', c2, us, e, ha2, hc2, hus⟩ := hf1
            cases e
            simp only [dep] at hd'
            simp only [Wf] at hwf
            simp only [F.names] at hnd hl8 hle
            simp only [size] at hle
            have hw2 := wfL_iff.mp hwf.2
            have hpl := len_names ps fun p hp => names_pos p (hw2 p hp)
            refine ⟨_, rfl, _, rfl, a, _, 1, _, rfl, rfl, SqT.of ha2, atI_nat (j := 1) rfl, c2, rfl, ⟨_, SqT.of hc2⟩, fun D hD => ?_⟩
            have HD := DS.none hs d1 hD
            refine lc_tup (K := K) (a := c2) (xs := us) (fun i H' => DS h c H1 H' ∧ ∃ (zs : List V) (qs : List F), H' D = some (.lst zs) ∧ FVs nm H' qs zs ∧ All2 (Sc num) (ps.take i) qs) ⟨DS.of d1.hs (same_upd hD), [], [], upd_same, FVs.nil, .nil⟩ (fun i H' _ h => SqT.of (h.1.tk d1.hs _ _ hc2)) ?_ ?_
            · rintro i u H2 hi ⟨d2, zs, qs, hD2, hqs, hall⟩
              obtain ⟨p, hp, hu⟩ := hus.lt hi
              have hpm := List.mem_of_getElem? hp
              have hdp := dep_part hpm
              have hsh := part_short hwf.1 (fun p hp => names_pos p (hw2 p hp)) p hpm
              refine ⟨rfl, yesT ⟨_, rfl, _, rfl, _, rfl, num, u, p, rfl, hu.ds d1.hs d2, by omega, hw2 p hpm, nodup_part hnd hpm, by omega, h2, fun j hj => ?_, d2.hs, fun v' g H3 d3 hv hsc => ?_⟩⟩
              · have := hle j (namesL_mem.mpr ⟨p, hpm, hj⟩)
                rw [sizeL_at hnd hpm hj] at this
                exact this
              · have hD3 := d3.kp _ _ (hs.neh HD) (hs.nec HD) hD2
                have tk := TK.updL (o' := .lst (zs ++ [v'])) hD3 (fun _ z => by cases z)
                refine ⟨zs, hD3, lt_line ?_, DS.updN d1.hs (d2.trans d3) hD, zs ++ [v'], qs ++ [g], upd_same, ?_, ?_⟩
                · rw [hqs.length, ← hall.length, List.length_take]; omega
                · exact ((hqs.ds' d2.hs d3).keep tk).append (FVs.cons (hv.keep tk) FVs.nil)
                · rw [List.take_add_one, hp]
                  exact hall.append (.cons hsc .nil)
            · rintro H2 ⟨d2, zs, qs, hD2, hqs, hall⟩
              rw [hus.length, List.take_length] at hall
              obtain ⟨s1, s2, s3⟩ := Sc.names hall
              refine ⟨true, D, zs, qs, rfl, hD2, hs.neh HD, hs.nec HD, hqs, by rw [← hall.length]; exact hwf.1, by rw [← hall.length]; omega, s1.nodup_iff.mpr hnd, s2, d2.hs, fun v g H3 d3 hv hgw hgn hgs => ?_⟩
              exact q v g H3 ((d1.trans d2).trans d3) hv ⟨hgw, by simp only [F.names]; exact hgn.trans s1, fun i => by simp only [size]; rw [hgs, s3]⟩
          · exact ifDF (decide_eq_false (by omega)) (tail _ _ ⟨rfl, d1⟩)
theorem sizeL_one (p : F) (i : Nat) : sizeL [p] i = size p i := by
  simp only [sizeL]
  split
  · rfl
  · rename_i h; rw [size_zero p h]
theorem sc_law_other : FnScope ["_law_heap_here", "_law_formula_here", "_law_parts_here", "_law_part", "_law_told"] ["_law_heap_here", "_law_formula_here"] (defScope s_law_other) := ⟨rfl, rfl, rfl, by decide +kernel, rfl, by decide +kernel, by decide +kernel⟩
def spOther (nm : Nat → Str) (h c : Addr) (n : Nat) : Sp := fun vs H Q _ => ∃ (v : V) (f : F), vs = [.ref h, v] ∧ FV nm H f v ∧ dep f < n ∧ Md f ∧ HS h c H ∧ ∀ (v' : V) (g : F) (H' : Hp), DS h c H H' → FV nm H' g v' → Sc 1 f g → Q v' H'
theorem ok_law_other {h c : Addr} (T : Txt K mg) : ∀ n, Kept P w K mg base (n + 16) "_law_other" ["_law_heap_here", "_law_formula_here"] (spOther nm h c n)
  | 0 => by
    obtain ⟨fd, FD⟩ := T.f_law_other
    exact (kept_zero FD T.m_law_other (fun _ _ _ _ _ _ us hl => match us, hl with | [_, _], _ => rfl) fun vs H Q E h => by obtain ⟨_, _, _, _, h, _⟩ := h; omega).mono (by omega)
  | n + 1 => by
    have G := ok_law_other (h := h) (c := c) T n
    have GS := (ok_law_so_many (P := P) (w := w) (base := base) (nm := nm) (h := h) (c := c) T 13).mono (show 13 + 3 ≤ n + 16 by omega)
    have GD := (ok_law_draw (P := P) (w := w) (base := base) (h := h) (c := c) T).mono (show 1 ≤ n + 16 by omega)
    have GG := (ok_law_grouped (P := P) (w := w) (base := base) (nm := nm) (h := h) (c := c) T).mono (show 3 ≤ n + 16 by omega)
    obtain ⟨fd, FD⟩ := T.f_law_other
    refine kept_of FD T.m_law_other sc_law_other (fun _ _ _ _ _ _ us hl => match us, hl with | [_, _], _ => rfl) (fun vs H Q E h => ?_) (fun cdv A outer s H vs Q E hr h => ?_)
    · obtain ⟨v, f, rfl, _⟩ := h; rfl
    obtain ⟨v, f, rfl, hf, hd', hmd, hs, q⟩ := h
    have nd := sc_law_other.nd
    refine ⟨_, pss_cons (ps_if (pt_cmpR op_eq (pe_ix ix_tup (pv 1) pe_int (fun _ _ => rfl)) pe_str (nomark _)) (pss_one (ps_ret (pv 1))) pss_nil)
      (pss_cons (ps_if (pt_cmpR op_eq (pe_ix ix_tup (pv 1) pe_int (fun _ _ => rfl)) pe_str (nomark _))
        (pss_one (ps_ret (pe_kc GS hr rfl (pa_cons (pv 0) (pa_cons (pe_ix ix_tup (pv 1) pe_int (fun _ _ => rfl)) (pa_cons (pe_kc G hr rfl (pa_cons (pv 0) (pa_cons (pe_ix ix_tup (pv 1) pe_int (fun _ _ => rfl)) pa_nil))) pa_nil)))))) pss_nil)
      (pss_cons (ps_set (i := 2) nd rfl (Or.inl rfl) (pe_lst pa_nil))
      (pss_cons (ps_for PassesOwn.never rfl (pi_tup (pe_ix ix_tup (pv 1) pe_int (fun _ _ => rfl))) (pg_name (i := 3) nd rfl (Or.inl rfl))
        (pss_cons (ps_set (i := 4) nd rfl (Or.inl rfl) (pe_kc G hr rfl (pa_cons (pv 0) (pa_cons (pv 3) pa_nil))))
        (pss_one (ps_if (PW.pt (pw_and (pt_cmpR op_eq (pe_ix ix_tup (pv 4) pe_int (fun _ _ => rfl)) (pe_ix ix_tup (pv 1) pe_int (fun _ _ => rfl)) (nomark _)) (pw_and1 (pt_cmpR op_eq (pe_kc GD hr rfl (pa_cons (pv 0) (pa_cons pe_int pa_nil))) pe_int (nomark _)))))
          (pss_one (ps_set (i := 2) nd rfl (Or.inl rfl) (pe_op op_cat (pv 2) (pe_callTy call_list_of (by rfl) T.z_list (by decide +kernel) (pa_cons (pe_ix ix_tup (pv 4) pe_int (fun _ _ => rfl)) pa_nil)))))
          (pss_one (ps_expr (pe_bm PySem.F.plainAttrs_list PySem.F.slot_list_append PySem.F.type_list_append mt_append (pv 2) (pa_cons (pv 4) pa_nil))))))))
      (pss_one (ps_ret (pe_kc GG hr rfl (pa_cons (pv 0) (pa_cons (pe_ix ix_tup (pv 1) pe_int (fun _ _ => rfl)) (pa_cons (pv 2) pa_nil))))))))), ?_⟩
    cases f with
    | kind i =>
      have hf0 := hf
      simp only [FV] at hf
      obtain ⟨a, rfl, ha⟩ := hf
      refine ⟨_, rfl, a, _, 0, _, rfl, rfl, SqT.of ha, atI_nat (j := 0) rfl, rfl, _, rfl, ifDT kk ⟨_, rfl, ?_⟩⟩
      exact q _ _ H (DS.refl hs) hf0 ⟨hmd.wf, .refl _, fun i => by rw [Nat.one_mul]⟩
    | many m f =>
      simp only [FV] at hf
      obtain ⟨a, u, rfl, ha, hu⟩ := hf
      simp only [dep] at hd'
      obtain ⟨hm1, hm2, hm60⟩ := hmd.many
      refine ⟨_, rfl, a, _, 0, _, rfl, rfl, SqT.of ha, atI_nat (j := 0) rfl, rfl, _, rfl, ifDF mk_ ?_⟩
      refine ⟨_, rfl, a, _, 0, _, rfl, rfl, SqT.of ha, atI_nat (j := 0) rfl, rfl, _, rfl, ifDT mm ?_⟩
      refine ⟨_, rfl, _, rfl, a, _, 1, _, rfl, rfl, SqT.of ha, atI_nat (j := 1) rfl, _, rfl, _, rfl, a, _, 2, _, rfl, rfl, SqT.of ha, atI_nat (j := 2) rfl, u, f, rfl, hu, by omega, hm1, hs, fun v' g H1 d1 hv hsc => ?_⟩
      have hg := hm1.of hsc
      refine ⟨m, v', g, rfl, hv, by have := hg.dep; omega, hg.wf, hg.nd, hg.len, hm2, fun i hi => ?_, d1.hs, fun v2 g2 H2 d2 hv2 hsc2 => ?_⟩
      · have := hmd.le i (by simp only [F.names]; exact hsc.nm.mem_iff.mp hi)
        simp only [size] at this
        rw [hsc.sz, Nat.one_mul]
        exact this
      · refine q v2 g2 H2 (d1.trans d2) hv2 ⟨hsc2.wf, by simp only [F.names]; exact hsc2.nm.trans hsc.nm, fun i => ?_⟩
        simp only [size]
        rw [hsc2.sz, hsc.sz, Nat.one_mul, Nat.one_mul]
    | node b ps =>
      have hw := hmd.wf
      have hnd := hmd.nd
      have hlen := hmd.len
      simp only [Wf] at hw
      simp only [F.names] at hnd hlen
      have hw2 := wfL_iff.mp hw.2
      simp only [FV] at hf
      obtain ⟨a, c2, us, rfl, ha, hc2, hus⟩ := hf
      simp only [dep] at hd'
      refine ⟨_, rfl, a, _, 0, _, rfl, rfl, SqT.of ha, atI_nat (j := 0) rfl, rfl, _, rfl, ifDF (wk b) ?_⟩
      refine ⟨_, rfl, a, _, 0, _, rfl, rfl, SqT.of ha, atI_nat (j := 0) rfl, rfl, _, rfl, ifDF (wm b) ?_⟩
      refine ⟨by show 0 ≤ sizeLine; decide, fun D hD => ?_⟩
      have s0 : Same H (upd H D (.lst [])) := same_upd hD
      refine ⟨_, rfl, a, _, 1, _, rfl, rfl, SqT.of (s0 _ _ ha), atI_nat (j := 1) rfl, c2, rfl, ⟨_, SqT.of (s0 _ _ hc2)⟩, ?_⟩
      refine for_tup (K := K) (a := c2) (xs := us) (fun i σ' H' => ∃ (D : Addr) (x3 x4 : Option V) (zs : List V) (qs : List F), σ' = [some (.ref h), some (.ref a), some (.ref D), x3, x4] ∧ H D = none ∧ DS h c H H' ∧ H' D = some (.lst zs) ∧ FVs nm H' qs zs ∧
        (∀ q ∈ qs, Wf q) ∧ (namesL qs).Perm (namesL (ps.take i)) ∧ (∀ j, sizeL qs j = sizeL (ps.take i) j) ∧ i ≤ qs.length)
        ⟨D, none, none, [], [], rfl, hD, DS.of hs s0, upd_same, FVs.nil, by simp, .refl _, fun _ => rfl, Nat.le_refl _⟩ (fun i σ' H' _ h => by obtain ⟨_, _, _, _, _, _, _, d, _⟩ := h; exact SqT.of (d.tk hs _ _ hc2)) ?_ ?_
      · rintro i u σ' H1 hi ⟨D, x3, x4, zs, qs, rfl, HD, d1, hD1, hqs, hqw, hqn, hqz, hqi⟩
        obtain ⟨p, hp, hu⟩ := hus.lt hi
        have hpm := List.mem_of_getElem? hp
        have hdp := dep_part hpm
        have et : ps.take (i + 1) = ps.take i ++ [p] := by rw [List.take_add_one, hp]; rfl
        have hql : qs.length ≤ 8 := by
          have h1 := len_names qs fun q hq => names_pos q (hqw q hq)
          rw [hqn.length_eq] at h1
          have h2 : (namesL (ps.take i)).length ≤ (namesL ps).length := by
            conv => rhs; rw [← List.take_append_drop i ps, namesL_append, List.length_append]
            omega
          omega
        refine ⟨_, rfl, _, rfl, u, p, rfl, hu.ds hs d1, by omega, hmd.part hpm, d1.hs, fun v' g H2 d2 hv hsc => ?_⟩
        have d12 := d1.trans d2
        have nDh := hs.neh HD
        have nDc := hs.nec HD
        have hD2 := d2.kp _ _ nDh nDc hD1
        have hqs2 := hqs.ds' d1.hs d2
        obtain ⟨ga, gr, rfl, hga⟩ := hv.head
        have ha2 := d12.tk hs _ _ ha
        -- it is appended whole
        have whole : ∀ H3, DS h c H2 H3 → H3 D = some (.lst zs) ∧ zs.length < sizeLine ∧ ∃ (qs : List F), DS h c H (upd H3 D (.lst (zs ++ [.ref ga]))) ∧ (upd H3 D (.lst (zs ++ [.ref ga]))) D = some (.lst (zs ++ [.ref ga])) ∧ FVs nm (upd H3 D (.lst (zs ++ [.ref ga]))) qs (zs ++ [.ref ga]) ∧
            (∀ q ∈ qs, Wf q) ∧ (namesL qs).Perm (namesL (ps.take (i + 1))) ∧ (∀ j, sizeL qs j = sizeL (ps.take (i + 1)) j) ∧ i + 1 ≤ qs.length := by
          intro H3 d3
          have hD3 := d3.kp _ _ nDh nDc hD2
          have tk := TK.updL (o' := .lst (zs ++ [.ref ga])) hD3 (fun _ z => by cases z)
          refine ⟨hD3, lt_line (by rw [hqs.length]; omega), qs ++ [g], DS.updN hs (d12.trans d3) HD, upd_same, ((hqs2.ds' d2.hs d3).keep tk).append (FVs.cons ((hv.ds d2.hs d3).keep tk) FVs.nil), ?_, ?_, fun j => ?_, ?_⟩
          · intro q hq
            rcases List.mem_append.mp hq with hq | hq
            · exact hqw q hq
            · simp only [List.mem_singleton] at hq; subst hq; exact hsc.wf
          · rw [et, namesL_append, namesL_append]
            simp only [namesL, List.append_nil]
            exact hqn.append hsc.nm
          · rw [et, sizeL_append, sizeL_append, sizeL_one, sizeL_one, hsc.sz, Nat.one_mul, hqz]
            simp only [hqn.mem_iff]
          · rw [List.length_append]; simp only [List.length_singleton]; omega
        refine ⟨_, rfl, ga, _, 0, _, rfl, rfl, SqT.of hga, atI_nat (j := 0) rfl, _, rfl, a, _, 0, _, rfl, rfl, SqT.of ha2, atI_nat (j := 0) rfl, rfl, decide (V.str (hd g) = V.str (word b)), rfl, ?_⟩
        have other : decide (V.str (hd g) = V.str (word b)) = false → ∀ R : Hp → Prop, True := fun _ _ => trivial
        cases g with
        | kind x => 
          refine ifDF (kind_word b) (ifDF rfl ⟨_, rfl, .inl ⟨rfl, _, SqL.of hD2⟩, _, rfl, ?_⟩)
          obtain ⟨w1, w2, qs', w3⟩ := whole H2 (DS.refl d2.hs)
          exact ⟨D, zs, _, rfl, rfl, w1, w2, D, _, _, _, qs', rfl, HD, w3⟩
        | many x f => 
          refine ifDF (many_word b) (ifDF rfl ⟨_, rfl, .inl ⟨rfl, _, SqL.of hD2⟩, _, rfl, ?_⟩)
          obtain ⟨w1, w2, qs', w3⟩ := whole H2 (DS.refl d2.hs)
          exact ⟨D, zs, _, rfl, rfl, w1, w2, D, _, _, _, qs', rfl, HD, w3⟩
        | node e gs =>
          cases heb : e == b with
          | false => 
            refine ifDF ((word_eq b e).trans heb) (ifDF rfl ⟨_, rfl, .inl ⟨rfl, _, SqL.of hD2⟩, _, rfl, ?_⟩)
            obtain ⟨w1, w2, qs', w3⟩ := whole H2 (DS.refl d2.hs)
            exact ⟨D, zs, _, rfl, rfl, w1, w2, D, _, _, _, qs', rfl, HD, w3⟩
          | true =>
            refine ifDT ((word_eq b e).trans heb) ?_
            refine ⟨_, rfl, 2, rfl, by decide, by decide, d2.hs, fun r H3 hr2 d3 => ⟨rfl, _, rfl, ?_⟩⟩
            by_cases hr0 : r = 0
            · subst hr0
              refine ifDT (decide_eq_true rfl) ?_
              have hv3 := hv.ds d2.hs d3
              simp only [FV] at hv3
              obtain ⟨ga', gc, ws, e2, hga3, hgc3, hws⟩ := hv3
              cases e2
              have hgw := hsc.wf
              simp only [Wf] at hgw
              have hgn := hsc.nm
              simp only [F.names] at hgn
              have hD3 := d3.kp _ _ nDh nDc hD2
              have hgl : gs.length ≤ 8 := by
                have h1 := len_names gs fun q hq => names_pos q (wfL_iff.mp hgw.2 q hq)
                rw [hgn.length_eq] at h1
                have := part_short hw.1 (fun p hp => names_pos p (hw2 p hp)) p hpm
                omega
              refine ⟨_, rfl, _, rfl, ga, _, 1, _, rfl, rfl, SqT.of hga3, atI_nat (j := 1) rfl, gc, ws, rfl, .inr (SqT.of hgc3), fun l hl => ?_⟩
              have e4 := same_upd (o := .lst ws) hl
              refine ⟨D, l, zs, ws, rfl, rfl, e4 _ _ hD3, upd_same, le_line (by rw [hqs.length, hws.length]; omega), fun p5 hp5 => ?_⟩
              have e5 := same_upd (o := .lst (zs ++ ws)) hp5
              have d5 := (((d12.trans d3).same e4).same e5)
              have tk := TK.of (e4.trans e5)
              refine ⟨p5, _, _, zs ++ ws, qs ++ gs, rfl, DS.none hs ((d12.trans d3).same e4) hp5, d5, upd_same, ((hqs2.ds' d2.hs d3).keep tk).append (hws.keep tk), ?_, ?_, fun j => ?_, ?_⟩
              · intro q hq
                rcases List.mem_append.mp hq with hq | hq
                · exact hqw q hq
                · exact wfL_iff.mp hgw.2 q hq
              · rw [et, namesL_append, namesL_append]
                simp only [namesL, List.append_nil]
                exact hqn.append hgn
              · have hsz := hsc.sz j
                simp only [size] at hsz
                rw [et, sizeL_append, sizeL_append, sizeL_one, hsz, Nat.one_mul, hqz]
                simp only [hqn.mem_iff]
              · rw [List.length_append]; omega
            · refine ifDF (decide_eq_false (fun z => hr0 (by have := V.int.inj z; omega))) ?_
              have hD3 := d3.kp _ _ nDh nDc hD2
              refine ⟨_, rfl, .inl ⟨rfl, _, SqL.of hD3⟩, _, rfl, ?_⟩
              obtain ⟨w1, w2, qs', w3⟩ := whole H3 d3
              exact ⟨D, zs, _, rfl, rfl, w1, w2, D, _, _, _, qs', rfl, HD, w3⟩
      · rintro σ' H1 ⟨D, x3, x4, zs, qs, rfl, HD, d1, hD1, hqs, hqw, hqn, hqz, hqi⟩
        rw [hus.length] at hqi hqn hqz
        rw [List.take_length] at hqn hqz
        have hql := len_names qs fun q hq => names_pos q (hqw q hq)
        rw [hqn.length_eq] at hql
        refine ⟨_, rfl, _, rfl, a, _, 0, _, rfl, rfl, SqT.of (d1.tk hs _ _ ha), atI_nat (j := 0) rfl, _, rfl, b, D, zs, qs, rfl, hD1, hs.neh HD, hs.nec HD, hqs, by omega, by omega, hqn.nodup_iff.mpr hnd, hqw, d1.hs, fun v g H2 d2 hv hgw hgn hgs => ?_⟩
        refine q v g H2 (d1.trans d2) hv ⟨hgw, by simp only [F.names]; exact hgn.trans hqn, fun i => ?_⟩
        rw [hgs, hqz, Nat.one_mul]
        simp only [size]
end
end Nf

/-! ## L7 -/
set_option Elab.async false
set_option linter.all false
set_option maxRecDepth 100000
set_option maxHeartbeats 4000000
/-! parts, replaced, changed, deep -/
namespace Nf
open PySem PySem.Spec PyProof.Rows L2
mutual
def subs : F → List F
  | .kind i => [.kind i]
  | .many n f => .many n f :: subs f
  | .node b ps => .node b ps :: subsL ps
def subsL : List F → List F
  | [] => []
  | p :: ps => subs p ++ subsL ps
end
theorem subsL_append : ∀ (ps qs : List F), subsL (ps ++ qs) = subsL ps ++ subsL qs
  | [], qs => by simp [subsL]
  | p :: ps, qs => by simp only [List.cons_append, subsL, subsL_append ps qs, List.append_assoc]
theorem subs_len : ∀ f : F, (subs f).length = cnt f := by
  refine F.ind (fun i => ?_) (fun n f ih => ?_) (fun b ps ih => ?_)
  · simp [subs, cnt]
  · simp [subs, cnt, ih]
  · simp only [subs, cnt, List.length_cons]
    have : ∀ qs : List F, (∀ q ∈ qs, (subs q).length = cnt q) → (subsL qs).length = cntL qs := by
      intro qs
      induction qs with
      | nil => intro _; simp [subsL, cntL]
      | cons q r ihr =>
        intro h
        simp only [subsL, cntL, List.length_append, h q List.mem_cons_self, ihr fun s hs => h s (List.mem_cons_of_mem _ hs)]
    rw [this ps ih]
theorem subsL_len : ∀ ps : List F, (subsL ps).length = cntL ps
  | [] => rfl
  | p :: ps => by simp only [subsL, cntL, List.length_append, subs_len, subsL_len ps]
theorem subs_md : ∀ f : F, Md f → ∀ g ∈ subs f, Md g := by
  refine F.ind (fun i h g hg => ?_) (fun n f ih h g hg => ?_) (fun b ps ih h g hg => ?_)
  · simp only [subs, List.mem_singleton] at hg; subst hg; exact h
  · simp only [subs, List.mem_cons] at hg
    rcases hg with rfl | hg
    · exact h
    · exact ih h.many.1 g hg
  · simp only [subs, List.mem_cons] at hg
    rcases hg with rfl | hg
    · exact h
    · have : ∀ qs : List F, (∀ q ∈ qs, q ∈ ps) → g ∈ subsL qs → ∃ q ∈ qs, g ∈ subs q := by
        intro qs
        induction qs with
        | nil => intro _ h; simp [subsL] at h
        | cons q r ihr =>
          intro hs hg
          simp only [subsL, List.mem_append] at hg
          rcases hg with hg | hg
          · exact ⟨q, List.mem_cons_self, hg⟩
          · obtain ⟨q', h1, h2⟩ := ihr (fun s hs' => hs s (List.mem_cons_of_mem _ hs')) hg
            exact ⟨q', List.mem_cons_of_mem _ h1, h2⟩
      obtain ⟨q, hq, hgq⟩ := this ps (fun _ h => h) hg
      exact ih q hq (h.part hq) g hgq
theorem Md.cnt {f : F} (h : Md f) : cnt f ≤ 104 := by
  have h1 := cnt_bound f h.wf
  have h2 := h.dep
  have h3 := h.len
  have : (Nf.dep f + 1) * f.names.length ≤ 13 * 8 := Nat.mul_le_mul (by omega) h3
  omega
theorem sc_law_parts : FnScope ["_law_formula_here", "_law_found", "_law_part"] ["_law_formula_here"] (defScope s_law_parts) := ⟨rfl, rfl, rfl, by decide +kernel, rfl, by decide +kernel, by decide +kernel⟩
theorem sc_law_replaced : FnScope ["_law_formula_here", "_law_count", "_law_at", "_law_new", "_law_here", "_law_part"] ["_law_formula_here", "_law_count", "_law_at", "_law_new"] (defScope s_law_replaced) := ⟨rfl, rfl, rfl, by decide +kernel, rfl, by decide +kernel, by decide +kernel⟩
def spPartsL (nm : Nat → Str) (n : Nat) : Sp := fun vs H Q _ => ∃ (v : V) (f : F), vs = [v] ∧ FV nm H f v ∧ dep f < n ∧ cnt f ≤ 1000 ∧ ∀ (p : Addr) (us : List V) (H' : Hp), Same H H' → H p = none → H' p = some (.lst us) → FVs nm H' (subs f) us → Q (.ref p) H'
section
variable {P : Program} {w : World} {K : PySem.W.Frag} {mg : Str → Option Value} {base : Heap} {nm : Nat → Str}
theorem ok_law_parts (T : Txt K mg) : ∀ n, Kept P w K mg base n "_law_parts" ["_law_formula_here"] (spPartsL nm n)
  | 0 => by
    obtain ⟨fd, FD⟩ := T.f_law_parts
    exact kept_zero FD T.m_law_parts (fun _ _ _ _ _ _ us hl => match us, hl with | [_], _ => rfl) fun vs H Q E h => by obtain ⟨_, _, _, _, h, _⟩ := h; omega
  | n + 1 => by
    have G := ok_law_parts T n
    obtain ⟨fd, FD⟩ := T.f_law_parts
    refine kept_of FD T.m_law_parts sc_law_parts (fun _ _ _ _ _ _ us hl => match us, hl with | [_], _ => rfl) (fun vs H Q E h => ?_) (fun cdv A outer s H vs Q E hr h => ?_)
    · obtain ⟨v, f, rfl, _⟩ := h; rfl
    obtain ⟨v, f, rfl, hf, hd', hcn, q⟩ := h
    have nd := sc_law_parts.nd
    refine ⟨_, pss_cons (ps_if (pt_cmpR op_eq (pe_ix ix_tup (pv 0) pe_int (fun _ _ => rfl)) pe_str (nomark _)) (pss_one (ps_ret (pe_lst (pa_cons (pv 0) pa_nil)))) pss_nil)
      (pss_cons (ps_if (pt_cmpR op_eq (pe_ix ix_tup (pv 0) pe_int (fun _ _ => rfl)) pe_str (nomark _))
        (pss_one (ps_ret (pe_op op_cat (pe_lst (pa_cons (pv 0) pa_nil)) (pe_kc G hr rfl (pa_cons (pe_ix ix_tup (pv 0) pe_int (fun _ _ => rfl)) pa_nil))))) pss_nil)
      (pss_cons (ps_set (i := 1) nd rfl (Or.inl rfl) (pe_lst (pa_cons (pv 0) pa_nil)))
      (pss_cons (ps_for PassesOwn.never rfl (pi_tup (pe_ix ix_tup (pv 0) pe_int (fun _ _ => rfl))) (pg_name (i := 2) nd rfl (Or.inl rfl))
        (pss_one (ps_set (i := 1) nd rfl (Or.inl rfl) (pe_op op_cat (pv 1) (pe_kc G hr rfl (pa_cons (pv 2) pa_nil))))))
      (pss_one (ps_ret (pv 1)))))), ?_⟩
    cases f with
    | kind i =>
      have hf0 := hf
      simp only [FV] at hf
      obtain ⟨a, rfl, ha⟩ := hf
      refine ⟨_, rfl, a, _, 0, _, rfl, rfl, SqT.of ha, atI_nat (j := 0) rfl, rfl, _, rfl, ifDT kk ⟨_, rfl, by show 1 ≤ sizeLine; decide, fun p hp => ?_⟩⟩
      exact q p _ _ (same_upd hp) hp upd_same (by simp only [subs]; exact FVs.cons (hf0.keep (TK.upd hp)) FVs.nil)
    | many m f =>
      have hf0 := hf
      simp only [FV] at hf
      obtain ⟨a, u, rfl, ha, hu⟩ := hf
      simp only [dep] at hd'
      simp only [cnt] at hcn
      refine ⟨_, rfl, a, _, 0, _, rfl, rfl, SqT.of ha, atI_nat (j := 0) rfl, rfl, _, rfl, ifDF mk_ ?_⟩
      refine ⟨_, rfl, a, _, 0, _, rfl, rfl, SqT.of ha, atI_nat (j := 0) rfl, rfl, _, rfl, ifDT mm ?_⟩
      refine ⟨_, rfl, by show 1 ≤ sizeLine; decide, fun l hl => ?_⟩
      have e1 := same_upd (o := .lst [.ref a]) hl
      refine ⟨_, rfl, a, _, 2, _, rfl, rfl, SqT.of (e1 _ _ ha), atI_nat (j := 2) rfl, u, f, rfl, hu.keep (TK.of e1), by omega, by omega, fun p us H2 e2 np hp hus => ?_⟩
      refine ⟨l, p, _, us, rfl, rfl, e2 _ _ upd_same, hp, le_line (by rw [hus.length, subs_len]; simp; omega), fun p3 hp3 => ?_⟩
      have e3 := same_upd (o := .lst ([.ref a] ++ us)) hp3
      refine q p3 _ _ ((e1.trans e2).trans e3) (none_of (e1.trans e2) hp3) upd_same ?_
      simp only [subs]
      exact FVs.cons (hf0.keep (TK.of ((e1.trans e2).trans e3))) (hus.keep (TK.of e3))
    | node b ps =>
      have hf0 := hf
      simp only [FV] at hf
      obtain ⟨a, c2, us, rfl, ha, hc2, hus⟩ := hf
      simp only [dep] at hd'
      simp only [cnt] at hcn
      refine ⟨_, rfl, a, _, 0, _, rfl, rfl, SqT.of ha, atI_nat (j := 0) rfl, rfl, _, rfl, ifDF (wk b) ?_⟩
      refine ⟨_, rfl, a, _, 0, _, rfl, rfl, SqT.of ha, atI_nat (j := 0) rfl, rfl, _, rfl, ifDF (wm b) ?_⟩
      refine ⟨_, rfl, by show 1 ≤ sizeLine; decide, fun l hl => ?_⟩
      have e1 := same_upd (o := .lst [.ref a]) hl
      refine ⟨_, rfl, a, _, 1, _, rfl, rfl, SqT.of (e1 _ _ ha), atI_nat (j := 1) rfl, c2, rfl, ⟨_, SqT.of (e1 _ _ hc2)⟩, ?_⟩
      refine for_tup (K := K) (a := c2) (xs := us) (fun i σ' H' => ∃ (D : Addr) (x2 : Option V) (zs : List V), σ' = [some (.ref a), some (.ref D), x2] ∧ H D = none ∧ Same H H' ∧ H' D = some (.lst zs) ∧ FVs nm H' (.node b ps :: subsL (ps.take i)) zs)
        ⟨l, none, _, rfl, hl, e1, upd_same, by simp only [List.take_zero, subsL]; exact FVs.cons (hf0.keep (TK.of e1)) FVs.nil⟩ (fun i σ' H' _ h => by obtain ⟨_, _, _, _, _, e, _⟩ := h; exact SqT.of (e _ _ hc2)) ?_ ?_
      · rintro i u σ' H1 hi ⟨D, x2, zs, rfl, HD, e2, hD1, hzs⟩
        obtain ⟨p, hp, hu⟩ := hus.lt hi
        have hpm := List.mem_of_getElem? hp
        have hdp := dep_part hpm
        have et : ps.take (i + 1) = ps.take i ++ [p] := by rw [List.take_add_one, hp]; rfl
        have hcl : cntL (ps.take i) + cnt p ≤ cntL ps := by
          have : cntL (ps.take (i + 1)) + cntL (ps.drop (i + 1)) = cntL ps := by rw [← cntL_append, List.take_append_drop]
          rw [et, cntL_append] at this
          simp only [cntL] at this
          omega
        refine ⟨_, rfl, _, rfl, u, p, rfl, hu.keep (TK.of e2), by omega, by omega, fun p3 ws H3 e3 np3 hp3 hws => ?_⟩
        refine ⟨D, p3, zs, ws, rfl, rfl, e3 _ _ hD1, hp3, le_line ?_, fun p4 hp4 => ?_⟩
        · rw [hzs.length, hws.length, subs_len, List.length_cons, subsL_len]; omega
        have e4 := same_upd (o := .lst (zs ++ ws)) hp4
        refine ⟨p4, _, _, rfl, none_of (e2.trans e3) hp4, (e2.trans e3).trans e4, upd_same, ?_⟩
        rw [et, subsL_append]
        simp only [subsL, List.append_nil]
        exact (hzs.keep (TK.of (e3.trans e4))).append (hws.keep (TK.of e4))
      · rintro σ' H1 ⟨D, x2, zs, rfl, HD, e2, hD1, hzs⟩
        rw [hus.length, List.take_length] at hzs
        exact ⟨_, rfl, q D zs H1 e2 HD hD1 (by simp only [subs]; exact hzs)⟩
/-! ### replaced -/
structure Rp (g g' : F) : Prop where
  nm : g'.names = g.names
  wf : Wf g'
  sz : ∀ i, size g' i ≤ 2 * size g i
theorem Rp.refl {f : F} (h : Wf f) : Rp f f := ⟨rfl, h, fun i => by omega⟩
theorem Rp.names : ∀ {ps qs : List F}, All2 Rp ps qs → namesL qs = namesL ps ∧ (∀ q ∈ qs, Wf q) ∧ ∀ i, sizeL qs i ≤ 2 * sizeL ps i
  | _, _, .nil => ⟨rfl, by simp, fun i => by simp [sizeL]⟩
  | _, _, .cons h t => by
    obtain ⟨a, b, c⟩ := Rp.names t
    refine ⟨?_, fun q hq => ?_, fun i => ?_⟩
    · simp only [namesL, a, h.nm]
    · rcases List.mem_cons.mp hq with rfl | hq
      · exact h.wf
      · exact b q hq
    · simp only [sizeL, h.nm]
      split
      · exact h.sz i
      · exact c i
def KC (C : Addr) (H H' : Hp) : Prop := ∀ b o, b ≠ C → H b = some o → H' b = some o
theorem KC.trans {C : Addr} {H H1 H2 : Hp} (a : KC C H H1) (b : KC C H1 H2) : KC C H H2 := fun x o n e => b x o n (a x o n e)
theorem KC.of {C : Addr} {H H1 : Hp} (a : Same H H1) : KC C H H1 := fun x o _ e => a x o e
theorem KC.tk {C : Addr} {H H1 : Hp} {xs : List V} (h : H C = some (.lst xs)) (a : KC C H H1) : TK H H1 := fun b ys e => a b _ (fun z => by subst z; rw [h] at e; cases e) e
def spReplaced (nm : Nat → Str) (C : Addr) (n : Nat) : Sp := fun vs H Q _ => ∃ (v vn : V) (f nw : F) (here at' : Nat), vs = [v, .ref C, .int (at' : Int), vn] ∧ H C = some (.lst [.int (here : Int)]) ∧ FV nm H f v ∧ dep f < n ∧ Wf f ∧ f.names.length ≤ 1000 ∧ FV nm H nw vn ∧
  (∀ g, here ≤ at' → (subs f)[at' - here]? = some g → Rp g nw) ∧
  ∀ (v' : V) (g : F) (here' : Nat) (H' : Hp), KC C H H' → H' C = some (.lst [.int (here' : Int)]) → (here' = here + cnt f ∨ at' < here') → FV nm H' g v' → Rp f g → Q v' H'
theorem ok_law_replaced {C : Addr} (T : Txt K mg) : ∀ n, Kept P w K mg base n "_law_replaced" ["_law_formula_here", "_law_count", "_law_at", "_law_new"] (spReplaced nm C n)
  | 0 => by
    obtain ⟨fd, FD⟩ := T.f_law_replaced
    exact kept_zero FD T.m_law_replaced (fun _ _ _ _ _ _ us hl => match us, hl with | [_, _, _, _], _ => rfl) fun vs H Q E h => by obtain ⟨_, _, _, _, _, _, _, _, _, h, _⟩ := h; omega
  | n + 1 => by
    have G := ok_law_replaced (C := C) T n
    obtain ⟨fd, FD⟩ := T.f_law_replaced
    refine kept_of FD T.m_law_replaced sc_law_replaced (fun _ _ _ _ _ _ us hl => match us, hl with | [_, _, _, _], _ => rfl) (fun vs H Q E h => ?_) (fun cdv A outer s H vs Q E hr h => ?_)
    · obtain ⟨v, vn, f, nw, here, at', rfl, _⟩ := h; rfl
    obtain ⟨v, vn, f, nw, here, at', rfl, hC, hf, hd', hwf, hlen, hnw, hpre, q⟩ := h
    have nd := sc_law_replaced.nd
    refine ⟨_, pss_cons (ps_set (i := 4) nd rfl (Or.inl rfl) (pe_ix ix_list (pv 1) pe_int (fun _ _ => rfl)))
      (pss_cons (ps_asg (pe_op op_addN (pv 4) pe_int) (pg_sub (pv 1) pe_int set_list))
      (pss_cons (ps_if (pt_cmpR op_eq (pv 4) (pv 2) (nomark _)) (pss_one (ps_ret (pv 3))) pss_nil)
      (pss_cons (ps_if (pt_cmpR op_eq (pe_ix ix_tup (pv 0) pe_int (fun _ _ => rfl)) pe_str (nomark _)) (pss_one (ps_ret (pv 0))) pss_nil)
      (pss_cons (ps_if (pt_cmpR op_eq (pe_ix ix_tup (pv 0) pe_int (fun _ _ => rfl)) pe_str (nomark _))
        (pss_one (ps_ret (pe_tup (pa_cons pe_str (pa_cons (pe_ix ix_tup (pv 0) pe_int (fun _ _ => rfl)) (pa_cons (pe_kc G hr rfl (pa_cons (pe_ix ix_tup (pv 0) pe_int (fun _ _ => rfl)) (pa_cons (pv 1) (pa_cons (pv 2) (pa_cons (pv 3) pa_nil))))) pa_nil)))))) pss_nil)
      (pss_one (ps_ret (pe_tup (pa_cons (pe_ix ix_tup (pv 0) pe_int (fun _ _ => rfl)) (pa_cons (pe_callTy call_tuple_of (by rfl) T.z_tuple (by decide +kernel) (pa_cons (pe_lc (own := [("_law_part", 5)]) (g := gName 5) (tt := tYes) rfl nd (pi_tup (pe_ix ix_tup (pv 0) pe_int (fun _ _ => rfl)))
          (blkOk_by (N := ["_law_formula_here", "_law_count", "_law_at", "_law_new", "_law_here", "_law_part"]) (sc := defScope s_law_replaced) (by decide +kernel)) (fun _ _ _ _ _ => pg_name (i := 5) nd rfl (Or.inl rfl)) (fun _ _ _ _ _ => pts_nil)
          (fun _ _ _ _ _ => pe_kc G hr rfl (pa_cons (pv 5) (pa_cons (pv 1) (pa_cons (pv 2) (pa_cons (pv 3) pa_nil)))))) pa_nil)) pa_nil))))))))), ?_⟩
    refine ⟨_, rfl, C, _, 0, _, rfl, rfl, SqL.of hC, atI_nat (j := 0) rfl, ?_⟩
    refine ⟨_, rfl, here, 1, rfl, rfl, _, rfl, C, _, 0, 0, rfl, rfl, hC, rfl, ?_⟩
    have kc1 : KC C H (upd H C (.lst [.int ((here + 1 : Nat) : Int)])) := fun b o n e => by rw [upd_ne n]; exact e
    have hC1 : upd H C (.lst [.int ((here + 1 : Nat) : Int)]) C = some (.lst [.int ((here + 1 : Nat) : Int)]) := upd_same
    have tk1 := KC.tk hC kc1
    have hf1 := hf.keep tk1
    have hnw1 := hnw.keep tk1
    show tSeq _ _ _ _ (upd H C (.lst [.int ((here + 1 : Nat) : Int)]))
    generalize upd H C (.lst [.int ((here + 1 : Nat) : Int)]) = H1 at *
    refine ⟨_, rfl, _, rfl, rfl, _, rfl, ?_⟩
    by_cases hat : here = at'
    · subst hat
      refine ifDT (decide_eq_true rfl) ⟨_, rfl, ?_⟩
      refine q _ nw (here + 1) H1 kc1 hC1 (.inr (by omega)) hnw1 (hpre f (Nat.le_refl _) ?_)
      rw [Nat.sub_self]
      cases f <;> simp [subs]
    refine ifDF (decide_eq_false (fun z => hat (by have := V.int.inj z; omega))) ?_
    cases f with
    | kind i =>
      have hf0 := hf1
      simp only [FV] at hf1
      obtain ⟨a, rfl, ha⟩ := hf1
      refine ⟨_, rfl, a, _, 0, _, rfl, rfl, SqT.of ha, atI_nat (j := 0) rfl, rfl, _, rfl, ifDT kk ⟨_, rfl, ?_⟩⟩
      exact q _ _ (here + 1) H1 kc1 hC1 (.inl (by simp [cnt])) hf0 (Rp.refl hwf)
    | many m f =>
      simp only [FV] at hf1
      obtain ⟨a, u, rfl, ha, hu⟩ := hf1
      simp only [dep] at hd'
      simp only [Wf] at hwf
      simp only [F.names] at hlen
      refine ⟨_, rfl, a, _, 0, _, rfl, rfl, SqT.of ha, atI_nat (j := 0) rfl, rfl, _, rfl, ifDF mk_ ?_⟩
      refine ⟨_, rfl, a, _, 0, _, rfl, rfl, SqT.of ha, atI_nat (j := 0) rfl, rfl, _, rfl, ifDT mm ?_⟩
      refine ⟨_, rfl, a, _, 1, _, rfl, rfl, SqT.of ha, atI_nat (j := 1) rfl, _, rfl, a, _, 2, _, rfl, rfl, SqT.of ha, atI_nat (j := 2) rfl, _, rfl, _, rfl, _, rfl, ?_⟩
      refine ⟨u, vn, f, nw, here + 1, at', rfl, hC1, hu, by omega, hwf.2, hlen, hnw1, fun g hle hg => ?_, fun v' g here' H2 kc2 hC2 hh hv hrp => ?_⟩
      · refine hpre g (by omega) ?_
        rw [show at' - here = (at' - (here + 1)) + 1 by omega]
        simp only [subs, List.getElem?_cons_succ]
        exact hg
      · refine ⟨by show 3 ≤ sizeLine; decide, fun p hp => ?_⟩
        have np : p ≠ C := fun z => by subst z; rw [hC2] at hp; cases hp
        refine q _ (.many m g) here' _ ((kc1.trans kc2).trans (KC.of (same_upd hp))) (by rw [upd_ne np.symm]; exact hC2) ?_ ?_ ⟨by simp only [F.names]; exact hrp.nm, by simp only [Wf]; exact ⟨hwf.1, hrp.wf⟩, fun i => ?_⟩
        · simp only [cnt]; omega
        · simp only [FV]; exact ⟨p, v', rfl, upd_same, hv.keep (TK.upd hp)⟩
        · simp only [size]
          have := hrp.sz i
          have h2 : m * size g i ≤ m * (2 * size f i) := Nat.mul_le_mul_left _ this
          rw [Nat.mul_left_comm]
          exact h2
    | node b ps =>
      simp only [FV] at hf1
      obtain ⟨a, c2, us, rfl, ha, hc2, hus⟩ := hf1
      simp only [dep] at hd'
      simp only [Wf] at hwf
      simp only [F.names] at hlen
      have hw2 := wfL_iff.mp hwf.2
      refine ⟨_, rfl, a, _, 0, _, rfl, rfl, SqT.of ha, atI_nat (j := 0) rfl, rfl, _, rfl, ifDF (wk b) ?_⟩
      refine ⟨_, rfl, a, _, 0, _, rfl, rfl, SqT.of ha, atI_nat (j := 0) rfl, rfl, _, rfl, ifDF (wm b) ?_⟩
      refine ⟨_, rfl, a, _, 0, _, rfl, rfl, SqT.of ha, atI_nat (j := 0) rfl, ?_⟩
      refine ⟨_, rfl, a, _, 1, _, rfl, rfl, SqT.of ha, atI_nat (j := 1) rfl, c2, rfl, ⟨_, SqT.of hc2⟩, fun D hD => ?_⟩
      have nDC : D ≠ C := fun z => by subst z; rw [hC1] at hD; cases hD
      have hpl := len_names ps fun p hp => names_pos p (hw2 p hp)
      refine lc_tup (K := K) (a := c2) (xs := us) (fun i H' => KC C H1 H' ∧ ∃ (hj : Nat) (zs : List V) (qs : List F), H' C = some (.lst [.int (hj : Int)]) ∧ H' D = some (.lst zs) ∧ FVs nm H' qs zs ∧ All2 Rp (ps.take i) qs ∧ (hj = here + 1 + cntL (ps.take i) ∨ at' < hj))
        ⟨KC.of (same_upd hD), here + 1, [], [], by rw [upd_ne nDC.symm]; exact hC1, upd_same, FVs.nil, .nil, .inl (by simp [cntL])⟩ (fun i H' _ h => SqT.of (KC.tk hC1 h.1 _ _ hc2)) ?_ ?_
      · rintro i u H2 hi ⟨kc2, hj, zs, qs, hC2, hD2, hqs, hall, hor⟩
        obtain ⟨p, hp, hu⟩ := hus.lt hi
        have hpm := List.mem_of_getElem? hp
        have hdp := dep_part hpm
        have et : ps.take (i + 1) = ps.take i ++ [p] := by rw [List.take_add_one, hp]; rfl
        have hsp := part_short hwf.1 (fun p hp => names_pos p (hw2 p hp)) p hpm
        refine ⟨rfl, yesT ⟨_, rfl, _, rfl, _, rfl, _, rfl, u, vn, p, nw, hj, at', rfl, hC2, hu.keep (KC.tk hC1 kc2), by omega, hw2 p hpm, by omega, hnw1.keep (KC.tk hC1 kc2), fun g hle hg => ?_, fun v' g here' H3 kc3 hC3 hh hv hrp => ?_⟩⟩
        · have hje : hj = here + 1 + cntL (ps.take i) := by
            rcases hor with h | h
            · exact h
            · omega
          refine hpre g (by omega) ?_
          rw [show at' - here = (cntL (ps.take i) + (at' - hj)) + 1 by omega]
          simp only [subs, List.getElem?_cons_succ]
          have hlt := (List.getElem?_eq_some_iff.mp hg).1
          have e1 : subsL ps = subsL (ps.take i) ++ (subs p ++ subsL (ps.drop (i + 1))) := by
            have : subsL (ps.take (i + 1) ++ ps.drop (i + 1)) = subsL ps := by rw [List.take_append_drop]
            rw [← this, et, subsL_append, subsL_append]
            simp only [subsL, List.append_nil, List.append_assoc]
          rw [e1, List.getElem?_append_right (by rw [subsL_len]; omega), subsL_len, Nat.add_sub_cancel_left, List.getElem?_append_left hlt]
          exact hg
        · have hD3 := kc3 _ _ nDC hD2
          have tk3 := KC.tk hC2 kc3
          have tk := TK.updL (o' := .lst (zs ++ [v'])) hD3 (fun _ z => by cases z)
          refine ⟨zs, hD3, lt_line ?_, ?_, here', zs ++ [v'], qs ++ [g], by rw [upd_ne nDC.symm]; exact hC3, upd_same, ((hqs.keep tk3).keep tk).append (FVs.cons (hv.keep tk) FVs.nil), ?_, ?_⟩
          · rw [hqs.length, ← hall.length, List.length_take]; omega
          · intro b o nb e
            rw [upd_ne (ne_of_none e hD)]
            exact kc3 _ _ nb (kc2 _ _ nb e)
          · rw [et]; exact hall.append (.cons hrp .nil)
          · rw [et, cntL_append]
            simp only [cntL]
            omega
      · rintro H2 ⟨kc2, hj, zs, qs, hC2, hD2, hqs, hall, hor⟩
        rw [hus.length, List.take_length] at hall hor
        refine ⟨D, zs, rfl, .inl ⟨SqL.of hD2, fun t ht => ⟨by show 2 ≤ sizeLine; decide, fun p hp => ?_⟩⟩⟩
        have e4 := same_upd (o := .tup zs) ht
        have e5 := same_upd (o := .tup [.str (word b), .ref t]) hp
        obtain ⟨s1, s2, s3⟩ := Rp.names hall
        refine q _ (.node b qs) hj _ ((kc1.trans kc2).trans (KC.of (e4.trans e5))) (e5 _ _ (e4 _ _ hC2)) ?_ ?_ ⟨by simp only [F.names]; exact s1, ?_, fun i => by simp only [size]; exact s3 i⟩
        · simp only [cnt]; omega
        · simp only [FV]; exact ⟨p, t, zs, rfl, upd_same, e5 _ _ upd_same, hqs.keep (TK.of (e4.trans e5))⟩
        · simp only [Wf]; exact ⟨by rw [← hall.length]; exact hwf.1, wfL_iff.mpr s2⟩
end
end Nf

/-! ## L8 -/
set_option Elab.async false
set_option linter.all false
set_option maxRecDepth 100000
set_option maxHeartbeats 4000000
/-! changed, deep -/
namespace Nf
open PySem PySem.Spec PyProof.Rows L2
theorem ds_kc {h c C : Addr} {H H1 H2 : Hp} (s : HS h c H) (d : DS h c H H1) (n : H C = none) (k : KC C H1 H2) : DS h c H H2 := by
  have n1 := s.neh n
  have n2 := s.nec n
  refine ⟨fun b o nh nc e => k b o (ne_of_none e n) (d.kp b o nh nc e), ?_⟩
  obtain ⟨m, ns, t, a, a2, r⟩ := d.hs
  exact ⟨m, ns, t, k _ _ n1.symm a, k _ _ n2.symm a2, r⟩
theorem sc_law_changed : FnScope ["_law_heap_here", "_law_formula_here", "_law_parts_here", "_law_at", "_law_part", "_law_new"] ["_law_heap_here", "_law_formula_here"] (defScope s_law_changed) := ⟨rfl, rfl, rfl, by decide +kernel, rfl, by decide +kernel, by decide +kernel⟩
theorem sc_law_deep : FnScope ["_law_heap_here", "_law_names_here", "_law_first", "_law_second", "_law_third", "_law_one", "_law_two", "_law_three", "_law_four", "_law_inner", "_law_name"] ["_law_heap_here", "_law_names_here"] (defScope s_law_deep) := ⟨rfl, rfl, rfl, by decide +kernel, rfl, by decide +kernel, by decide +kernel⟩
def spChanged (nm : Nat → Str) (h c : Addr) : Sp := fun vs H Q _ => ∃ (v : V) (f : F), vs = [.ref h, v] ∧ FV nm H f v ∧ Md f ∧ HS h c H ∧ ∀ (v' : V) (g : F) (H' : Hp), DS h c H H' → FV nm H' g v' → Rp f g → Q v' H'
section
variable {P : Program} {w : World} {K : PySem.W.Frag} {mg : Str → Option Value} {base : Heap}
/-- a promise for each of many is a promise for some -/
theorem kept_ex {ι : Type} (i0 : ι) {k : Nat} {x : Str} {ps : List Str} {sp : ι → Sp} (h : ∀ i, Kept P w K mg base k x ps (sp i)) : Kept P w K mg base k x ps (fun vs H Q E => ∃ i, sp i vs H Q E) := by
  obtain ⟨f, fd, m, kp, b, ⟨oc, od, osl, lk⟩, _⟩ := h i0
  have all : ∀ i, FnOk P w K mg base CX0 k f fd ps (sp i) := fun i => by
    obtain ⟨f', fd', m', kp', b', ⟨oc', od', osl', lk'⟩, F⟩ := h i
    rw [m] at m'
    cases m'
    rw [lk] at lk'
    cases lk'
    exact F
  refine ⟨f, fd, m, kp, b, ⟨oc, od, osl, lk⟩, ⟨fun vs H Q E ⟨i, z⟩ => (all i).len vs H Q E z, ?_⟩⟩
  rintro A outer s H args us vs Q E hr e0 hb r ⟨i, z⟩
  exact (all i).run A outer s H args us vs Q E hr e0 hb r z
end
section
variable {P : Program} {w : World} {K : PySem.W.Frag} {mg : Str → Option Value} {base : Heap} {nm : Nat → Str}
theorem ok_law_changed {h c : Addr} (T : Txt K mg) : Kept P w K mg base 14 "_law_changed" ["_law_heap_here", "_law_formula_here"] (spChanged nm h c) := by
  have GS := ok_law_parts (P := P) (w := w) (base := base) (nm := nm) T 13
  have GD := (ok_law_draw (P := P) (w := w) (base := base) (h := h) (c := c) T).mono (show 1 ≤ 13 by omega)
  have GP := (ok_law_pick (P := P) (w := w) (base := base) (h := h) (c := c) T).mono (show 2 ≤ 13 by omega)
  have GR := kept_ex (0 : Addr) fun C => ok_law_replaced (P := P) (w := w) (base := base) (nm := nm) (C := C) T 13
  obtain ⟨fd, FD⟩ := T.f_law_changed
  refine kept_of FD T.m_law_changed sc_law_changed (fun _ _ _ _ _ _ us hl => match us, hl with | [_, _], _ => rfl) (fun vs H Q E h => ?_) (fun cdv A outer s H vs Q E hr h => ?_)
  · obtain ⟨v, f, rfl, _⟩ := h; rfl
  obtain ⟨v, f, rfl, hf, hmd, hs, q⟩ := h
  have nd := sc_law_changed.nd
  refine ⟨_, pss_cons (ps_set (i := 2) nd rfl (Or.inl rfl) (pe_kc GS hr rfl (pa_cons (pv 1) pa_nil)))
    (pss_cons (ps_set (i := 3) nd rfl (Or.inl rfl) (pe_kc GD hr rfl (pa_cons (pv 0) (pa_cons (pe_callB call_len_seq (by rfl) T.z_len PySem.boot_len (pa_cons (pv 2) pa_nil)) pa_nil))))
    (pss_cons (ps_set (i := 4) nd rfl (Or.inl rfl) (pe_ix ix_list (pv 2) (pv 3) (fun _ _ => rfl)))
    (pss_cons (ps_if (pt_cmpR op_eq (pe_ix ix_tup (pv 4) pe_int (fun _ _ => rfl)) pe_str (nomark _))
        (pss_one (ps_set (i := 5) nd rfl (Or.inl rfl) (pe_tup (pa_cons pe_str (pa_cons pe_int (pa_cons (pv 4) pa_nil))))))
        (pss_one (ps_if (pt_cmpR op_eq (pe_ix ix_tup (pv 4) pe_int (fun _ _ => rfl)) pe_str (nomark _))
          (pss_one (ps_set (i := 5) nd rfl (Or.inl rfl) (pe_kc GP hr rfl (pa_cons (pv 0) (pa_cons (pe_lst (pa_cons (pe_ix ix_tup (pv 4) pe_int (fun _ _ => rfl))
            (pa_cons (pe_tup (pa_cons pe_str (pa_cons (pe_op op_addN (pe_ix ix_tup (pv 4) pe_int (fun _ _ => rfl)) pe_int) (pa_cons (pe_ix ix_tup (pv 4) pe_int (fun _ _ => rfl)) pa_nil))))
            (pa_cons (pe_tup (pa_cons pe_str (pa_cons (pe_callB (call_max2 rfl) (by rfl) T.z_max (by decide +kernel) (pa_cons pe_int (pa_cons (pe_op op_subN (pe_ix ix_tup (pv 4) pe_int (fun _ _ => rfl)) pe_int) pa_nil))) (pa_cons (pe_ix ix_tup (pv 4) pe_int (fun _ _ => rfl)) pa_nil))))
            pa_nil)))) pa_nil)))))
          (pss_one (ps_set (i := 5) nd rfl (Or.inl rfl) (pe_kc GP hr rfl (pa_cons (pv 0) (pa_cons (pe_lst (pa_cons (pe_tup (pa_cons (pe_ifExp (pt_cmpR op_eq (pe_ix ix_tup (pv 4) pe_int (fun _ _ => rfl)) pe_str (nomark _)) pe_str pe_str) (pa_cons (pe_ix ix_tup (pv 4) pe_int (fun _ _ => rfl)) pa_nil)))
            (pa_cons (pe_tup (pa_cons pe_str (pa_cons pe_int (pa_cons (pv 4) pa_nil)))) pa_nil))) pa_nil))))))))
    (pss_one (ps_ret (pe_kc GR hr rfl (pa_cons (pv 1) (pa_cons (pe_lst (pa_cons pe_int pa_nil)) (pa_cons (pv 3) (pa_cons (pv 5) pa_nil)))))))))), ?_⟩
  refine ⟨_, rfl, v, f, rfl, hf, by have := hmd.dep; omega, by have := hmd.cnt; omega, fun l us H1 e1 nl hl hus => ?_⟩
  have lh := hs.neh nl
  have lc := hs.nec nl
  have d1 := DS.of hs e1
  have hul : us.length = cnt f := by rw [hus.length, subs_len]
  have hc1 : 1 ≤ us.length := by rw [hul]; cases f <;> simp [cnt]
  have hc2 : us.length ≤ 1000 := by rw [hul]; have := hmd.cnt; omega
  refine ⟨_, rfl, _, rfl, l, _, rfl, .inl (SqL.of hl), us.length, rfl, hc1, hc2, d1.hs, fun at' H2 hat d2 => ?_⟩
  have hl2 := d2.kp _ _ lh lc hl
  have hget : us[at']? = some us[at'] := List.getElem?_eq_getElem hat
  obtain ⟨g, hg, hfg⟩ := (hus.ds' d1.hs d2).lt hget
  generalize us[at'] = ug at hget hfg
  have d12 := d1.trans d2
  refine ⟨_, rfl, _, rfl, l, us, at', ug, rfl, rfl, SqL.of hl2, atI_nat hget, ?_⟩
  have hmg := subs_md f hmd g (List.mem_of_getElem? hg)
  refine seq_q (fun σ' H' => ∃ vn, σ' = [some (.ref h), some v, some (.ref l), some (.int (at' : Int)), some ug, some vn] ∧ DS h c H H' ∧ ∃ nw, FV nm H' nw vn ∧ Rp g nw) ?_ fun tail => ?_
  · rintro σ' H3 ⟨vn, rfl, d3, nw, hnw, hrp⟩
    refine ⟨_, rfl, by show 1 ≤ sizeLine; decide, fun C hC => ?_⟩
    have HC := DS.none hs d3 hC
    have e4 := same_upd (o := .lst [.int 0]) hC
    refine ⟨_, rfl, _, rfl, C, v, vn, f, nw, 0, at', rfl, upd_same, (hf.ds hs d3).keep (TK.of e4), by have := hmd.dep; omega, hmd.wf, by have := hmd.len; omega, hnw.keep (TK.of e4), fun g' _ hg' => ?_, fun v' g' here' H4 kc hC4 hh hv hrp' => ?_⟩
    · rw [Nat.sub_zero, hg] at hg'
      cases hg'
      exact hrp
    · exact q v' g' H4 (ds_kc hs (d3.same e4) HC kc) hv hrp'
  have two : ∀ (p : Addr) (H3 : Hp), TK H2 H3 → H3 p = none → FV nm (upd H3 p (.tup [.str "many", .int 2, ug])) (.many 2 g) (.ref p) ∧ Rp g (.many 2 g) := fun p H3 tk hp => by
    refine ⟨?_, by simp only [F.names], by simp only [Wf]; exact ⟨Nat.le_refl 2, hmg.wf⟩, fun i => by simp only [size]; omega⟩
    simp only [FV]
    exact ⟨p, ug, rfl, upd_same, (hfg.keep tk).keep (TK.upd hp)⟩
  cases g with
  | kind x =>
    have hfg0 := hfg
    simp only [FV] at hfg
    obtain ⟨a, rfl, ha⟩ := hfg
    refine ⟨_, rfl, a, _, 0, _, rfl, rfl, SqT.of ha, atI_nat (j := 0) rfl, rfl, _, rfl, ifDT kk ?_⟩
    refine ⟨_, rfl, by show 3 ≤ sizeLine; decide, fun p hp => ?_⟩
    obtain ⟨t1, t2⟩ := two p H2 (TK.refl H2) hp
    exact tail _ _ ⟨_, rfl, d12.same (same_upd hp), _, t1, t2⟩
  | many m f' =>
    simp only [FV] at hfg
    obtain ⟨a, u, rfl, ha, hu⟩ := hfg
    obtain ⟨hm1, hm2, hm60⟩ := hmg.many
    refine ⟨_, rfl, a, _, 0, _, rfl, rfl, SqT.of ha, atI_nat (j := 0) rfl, rfl, _, rfl, ifDF mk_ ?_⟩
    refine ⟨_, rfl, a, _, 0, _, rfl, rfl, SqT.of ha, atI_nat (j := 0) rfl, rfl, _, rfl, ifDT mm ?_⟩
    refine ⟨_, rfl, _, rfl, a, _, 2, _, rfl, rfl, SqT.of ha, atI_nat (j := 2) rfl, ?_⟩
    refine ⟨_, rfl, a, _, 1, _, rfl, rfl, SqT.of ha, atI_nat (j := 1) rfl, m, 1, rfl, rfl, _, rfl, a, _, 2, _, rfl, rfl, SqT.of ha, atI_nat (j := 2) rfl, by show 3 ≤ sizeLine; decide, fun p1 hp1 => ?_⟩
    have e3 := same_upd (o := .tup [.str "many", .int ((m + 1 : Nat) : Int), u]) hp1
    have ha3 := e3 _ _ ha
    refine ⟨_, rfl, a, _, 1, _, rfl, rfl, SqT.of ha3, atI_nat (j := 1) rfl, m, 1, rfl, rfl, by omega, 2, ((m - 1 : Nat) : Int), rfl, ?_⟩
    have emx : (if ((m - 1 : Nat) : Int) > 2 then ((m - 1 : Nat) : Int) else 2) = ((max 2 (m - 1) : Nat) : Int) := by split <;> omega
    rw [emx]
    refine ⟨_, rfl, a, _, 2, _, rfl, rfl, SqT.of ha3, atI_nat (j := 2) rfl, by show 3 ≤ sizeLine; decide, fun p2 hp2 => ?_⟩
    have e4 := same_upd (o := .tup [.str "many", .int ((max 2 (m - 1) : Nat) : Int), u]) hp2
    refine ⟨by show 3 ≤ sizeLine; decide, fun L hL => ?_⟩
    have e5 := same_upd (o := .lst [u, .ref p1, .ref p2]) hL
    have d5 := ((d12.same e3).same e4).same e5
    have nL := DS.none hs ((d12.same e3).same e4) hL
    refine ⟨L, _, rfl, upd_same, hs.neh nL, hs.nec nL, by show 1 ≤ 3; decide, by show 3 ≤ 1000; decide, d5.hs, fun x H6 hx d6 => ?_⟩
    have tk := (TK.of ((e3.trans e4).trans e5)).trans (d6.tk d5.hs)
    have h1 := d6.tk d5.hs _ _ (e5 _ _ (e4 _ _ upd_same))
    have h2 := d6.tk d5.hs _ _ (e5 _ _ upd_same)
    simp only [List.mem_cons, List.not_mem_nil, or_false] at hx
    rcases hx with rfl | rfl | rfl
    · refine tail _ _ ⟨_, rfl, d5.trans d6, f', hu.keep tk, by simp only [F.names], hm1.wf, fun i => ?_⟩
      simp only [size]
      have : 1 * size f' i ≤ m * size f' i := Nat.mul_le_mul_right _ (by omega)
      omega
    · refine tail _ _ ⟨_, rfl, d5.trans d6, .many (m + 1) f', ?_, by simp only [F.names], by simp only [Wf]; exact ⟨by omega, hm1.wf⟩, fun i => ?_⟩
      · simp only [FV]; exact ⟨p1, u, rfl, h1, hu.keep tk⟩
      · simp only [size]
        rw [← Nat.mul_assoc]
        exact Nat.mul_le_mul_right _ (by omega)
    · refine tail _ _ ⟨_, rfl, d5.trans d6, .many (max 2 (m - 1)) f', ?_, by simp only [F.names], by simp only [Wf]; exact ⟨by omega, hm1.wf⟩, fun i => ?_⟩
      · simp only [FV]; exact ⟨p2, u, rfl, h2, hu.keep tk⟩
      · simp only [size]
        rw [← Nat.mul_assoc]
        exact Nat.mul_le_mul_right _ (by omega)
  | node b ps =>
    simp only [FV] at hfg
    obtain ⟨a, c2, ws, rfl, ha, hcc, hws⟩ := hfg
    refine ⟨_, rfl, a, _, 0, _, rfl, rfl, SqT.of ha, atI_nat (j := 0) rfl, rfl, _, rfl, ifDF (wk b) ?_⟩
    refine ⟨_, rfl, a, _, 0, _, rfl, rfl, SqT.of ha, atI_nat (j := 0) rfl, rfl, _, rfl, ifDF (wm b) ?_⟩
    refine ⟨_, rfl, ?_⟩
    -- the other word
    have flip : ∀ R : V → Hp → Prop, R (.str (word (!b))) H2 → tIf (tTest (tOp rEq (tOp (rIxT K) (tVar 4) (tC (.int 0))) (tC (.str "and")))) (tC (.str "or")) (tC (.str "and")) [some (.ref h), some v, some (.ref l), some (.int (at' : Int)), some (.ref a), none] H2 R := fun R hR => by
      refine ⟨_, rfl, a, _, 0, _, rfl, rfl, SqT.of ha, atI_nat (j := 0) rfl, rfl, _, rfl, ?_⟩
      rw [wa b]
      cases b with
      | true => exact ifDT rfl hR
      | false => exact ifDF rfl hR
    refine flip _ ?_
    refine ⟨_, rfl, a, _, 1, _, rfl, rfl, SqT.of ha, atI_nat (j := 1) rfl, by show 2 ≤ sizeLine; decide, fun p1 hp1 => ?_⟩
    have e3 := same_upd (o := .tup [.str (word (!b)), .ref c2]) hp1
    refine ⟨_, rfl, by show 3 ≤ sizeLine; decide, fun p2 hp2 => ?_⟩
    have e4 := same_upd (o := .tup [.str "many", .int 2, .ref a]) hp2
    obtain ⟨t1, t2⟩ := two p2 _ (TK.of e3) hp2
    refine ⟨by show 2 ≤ sizeLine; decide, fun L hL => ?_⟩
    have e5 := same_upd (o := .lst [.ref p1, .ref p2]) hL
    have d5 := ((d12.same e3).same e4).same e5
    have nL := DS.none hs ((d12.same e3).same e4) hL
    refine ⟨L, _, rfl, upd_same, hs.neh nL, hs.nec nL, by show 1 ≤ 2; decide, by show 2 ≤ 1000; decide, d5.hs, fun x H6 hx d6 => ?_⟩
    have tk := (TK.of ((e3.trans e4).trans e5)).trans (d6.tk d5.hs)
    simp only [List.mem_cons, List.not_mem_nil, or_false] at hx
    rcases hx with rfl | rfl
    · have hw := hmg.wf
      simp only [Wf] at hw
      refine tail _ _ ⟨_, rfl, d5.trans d6, .node (!b) ps, ?_, by simp only [F.names], by simp only [Wf]; exact hw, fun i => by simp only [size]; omega⟩
      simp only [FV]
      exact ⟨p1, c2, ws, rfl, d6.tk d5.hs _ _ (e5 _ _ (e4 _ _ upd_same)), tk _ _ hcc, hws.keep tk⟩
    · exact tail _ _ ⟨_, rfl, d5.trans d6, _, t1.keep ((TK.of e5).trans (d6.tk d5.hs)), t2⟩
end
end Nf

/-! ## L9 -/
set_option Elab.async false
set_option linter.all false
set_option maxRecDepth 100000
set_option maxHeartbeats 4000000
/-! deep -/
namespace Nf
open PySem PySem.Spec PyProof.Rows L2
theorem sizeL_le {B i : Nat} : ∀ {ps : List F}, (∀ p ∈ ps, size p i ≤ B) → sizeL ps i ≤ B
  | [], _ => by simp [sizeL]
  | p :: ps, h => by
    simp only [sizeL]
    split
    · exact h p List.mem_cons_self
    · exact sizeL_le fun q hq => h q (List.mem_cons_of_mem _ hq)
def Trip (H : Hp) (x : V) : Prop := ∃ (t : Addr) (a b c : Nat), x = .ref t ∧ H t = some (.tup [.int (a : Int), .int (b : Int), .int (c : Int)]) ∧ 2 ≤ a ∧ 2 ≤ b ∧ 2 ≤ c ∧ a * b * c ≤ 30
theorem Trip.keep {H H' : Hp} {x : V} (h : Trip H x) (t : TK H H') : Trip H' x := by
  obtain ⟨p, a, b, c, e, h, r⟩ := h
  exact ⟨p, a, b, c, e, t _ _ h, r⟩
theorem trip {H : Hp} {t : Addr} (a b c : Nat) (h : 2 ≤ a ∧ 2 ≤ b ∧ 2 ≤ c ∧ a * b * c ≤ 30) : Trip (upd H t (.tup [.int (a : Int), .int (b : Int), .int (c : Int)])) (.ref t) := ⟨t, a, b, c, rfl, upd_same, h⟩
def spDeep (nm : Nat → Str) (h c : Addr) : Sp := fun vs H Q _ => ∃ (l : Addr), vs = [.ref h, .ref l] ∧ H l = some (.lst (nv nm (List.range 4))) ∧ l ≠ h ∧ l ≠ c ∧ HS h c H ∧ ∀ (v' : V) (g : F) (H' : Hp), DS h c H H' → FV nm H' g v' → Wf g → g.names.Perm (List.range 4) → (∀ i, size g i ≤ 30) → Q v' H'
section
variable {P : Program} {w : World} {K : PySem.W.Frag} {mg : Str → Option Value} {base : Heap} {nm : Nat → Str}
theorem ok_law_deep {h c : Addr} (T : Txt K mg) : Kept P w K mg base 3 "_law_deep" ["_law_heap_here", "_law_names_here"] (spDeep nm h c) := by
  have GP := ok_law_pick (P := P) (w := w) (base := base) (h := h) (c := c) T
  have GM := ok_law_mixed (P := P) (w := w) (base := base) (h := h) (c := c) T
  obtain ⟨fd, FD⟩ := T.f_law_deep
  refine kept_of FD T.m_law_deep sc_law_deep (fun _ _ _ _ _ _ us hl => match us, hl with | [_, _], _ => rfl) (fun vs H Q E h => ?_) (fun cdv A outer s H vs Q E hr h => ?_)
  · obtain ⟨l, rfl, _⟩ := h; rfl
  obtain ⟨l, rfl, hl, lh, lc, hs, q⟩ := h
  have nd := sc_law_deep.nd
  have I3 : ∀ {X : Cx} {p1 p2 p3 : Pos} {i j k : Int} {a b c d : Nat} {pos : Pos}, PE X (.Tuple [.Constant (.int i) a p1, .Constant (.int j) b p2, .Constant (.int k) c p3] d pos) (tTup (tCons (tC (.int i)) (tCons (tC (.int j)) (tCons (tC (.int k)) tNil)))) := pe_tup (pa_cons pe_int (pa_cons pe_int (pa_cons pe_int pa_nil)))
  refine ⟨_, (pss_cons (ps_asg (pe_kc GP hr rfl (pa_cons (pv 0) (pa_cons (pe_lst (pa_cons I3 (pa_cons I3 (pa_cons I3 (pa_cons I3 (pa_cons I3 (pa_cons I3 (pa_cons I3 pa_nil)))))))) pa_nil))) (pg_tup rfl (pgs_cons (pg_name (i := 2) nd rfl (Or.inl rfl)) (pgs_cons (pg_name (i := 3) nd rfl (Or.inl rfl)) (pgs_cons (pg_name (i := 4) nd rfl (Or.inl rfl)) pgs_nil)))))
    (pss_cons (ps_asg (pe_kc GM hr rfl (pa_cons (pv 0) (pa_cons (pe_lc (own := [("_law_name", 10)]) (g := gName 10) (tt := tYes) rfl nd (pi_list (pv 1))
          (blkOk_by (N := ["_law_heap_here", "_law_names_here", "_law_first", "_law_second", "_law_third", "_law_one", "_law_two", "_law_three", "_law_four", "_law_inner", "_law_name"]) (sc := defScope s_law_deep) (by decide +kernel)) (fun _ _ _ _ _ => (pg_name (i := 10) nd rfl (Or.inl rfl))) (fun _ _ _ _ _ => pts_nil)
          (fun _ _ _ _ _ => (pe_tup (pa_cons pe_str (pa_cons (pv 10) pa_nil))))) pa_nil))) (pg_lst rfl (pgs_cons (pg_name (i := 5) nd rfl (Or.inl rfl)) (pgs_cons (pg_name (i := 6) nd rfl (Or.inl rfl)) (pgs_cons (pg_name (i := 7) nd rfl (Or.inl rfl)) (pgs_cons (pg_name (i := 8) nd rfl (Or.inl rfl)) pgs_nil))))))
    (pss_cons (ps_set (i := 9) nd rfl (Or.inl rfl) (pe_tup (pa_cons pe_str (pa_cons (pe_callTy call_tuple_of (by rfl) T.z_tuple (by decide +kernel) (pa_cons (pe_kc GM hr rfl (pa_cons (pv 0) (pa_cons (pe_lst (pa_cons (pv 6) (pa_cons (pe_tup (pa_cons pe_str (pa_cons (pv 4) (pa_cons (pe_tup (pa_cons pe_str (pa_cons (pe_tup (pa_cons (pv 7) (pa_cons (pv 8) pa_nil))) pa_nil))) pa_nil)))) pa_nil))) pa_nil))) pa_nil)) pa_nil))))
    (pss_one (ps_ret (pe_tup (pa_cons pe_str (pa_cons (pv 2) (pa_cons (pe_tup (pa_cons pe_str (pa_cons (pe_callTy call_tuple_of (by rfl) T.z_tuple (by decide +kernel) (pa_cons (pe_kc GM hr rfl (pa_cons (pv 0) (pa_cons (pe_lst (pa_cons (pv 5) (pa_cons (pe_tup (pa_cons pe_str (pa_cons (pv 3) (pa_cons (pv 9) pa_nil)))) pa_nil))) pa_nil))) pa_nil)) pa_nil))) pa_nil))))))))), ?_⟩
  refine ⟨_, rfl, by show 3 ≤ sizeLine; decide, fun p1 h1 => ⟨by show 3 ≤ sizeLine; decide, fun p2 h2 => ⟨by show 3 ≤ sizeLine; decide, fun p3 h3 => ⟨by show 3 ≤ sizeLine; decide, fun p4 h4 => ⟨by show 3 ≤ sizeLine; decide, fun p5 h5 => ⟨by show 3 ≤ sizeLine; decide, fun p6 h6 => ⟨by show 3 ≤ sizeLine; decide, fun p7 h7 => ⟨by show 7 ≤ sizeLine; decide, fun L hL => ?_⟩⟩⟩⟩⟩⟩⟩⟩
  have e1 := same_upd (o := .tup [.int 2, .int 3, .int 5]) h1
  have e2 := same_upd (o := .tup [.int 3, .int 5, .int 2]) h2
  have e3 := same_upd (o := .tup [.int 5, .int 2, .int 3]) h3
  have e4 := same_upd (o := .tup [.int 3, .int 2, .int 4]) h4
  have e5 := same_upd (o := .tup [.int 2, .int 2, .int 7]) h5
  have e6 := same_upd (o := .tup [.int 4, .int 2, .int 3]) h6
  have e7 := same_upd (o := .tup [.int 2, .int 7, .int 2]) h7
  have e8 := same_upd (o := .lst [.ref p1, .ref p2, .ref p3, .ref p4, .ref p5, .ref p6, .ref p7]) hL
  have s7 := e8
  have s6 := e7.trans s7
  have s5 := e6.trans s6
  have s4 := e5.trans s5
  have s3 := e4.trans s4
  have s2 := e3.trans s3
  have s1 := e2.trans s2
  have s0 := e1.trans s1
  have d0 := DS.of hs s0
  have nL := none_of (e1.trans (e2.trans (e3.trans (e4.trans (e5.trans (e6.trans e7)))))) hL
  refine ⟨L, _, rfl, upd_same, hs.neh nL, hs.nec nL, by show 1 ≤ 7; decide, by show 7 ≤ 1000; decide, d0.hs, fun x H9 hx d9 => ?_⟩
  have htr : Trip H9 x := by
    simp only [List.mem_cons, List.not_mem_nil, or_false] at hx
    rcases hx with rfl | rfl | rfl | rfl | rfl | rfl | rfl
    · exact (trip 2 3 5 (by decide)).keep ((TK.of s1).trans (d9.tk d0.hs))
    · exact (trip 3 5 2 (by decide)).keep ((TK.of s2).trans (d9.tk d0.hs))
    · exact (trip 5 2 3 (by decide)).keep ((TK.of s3).trans (d9.tk d0.hs))
    · exact (trip 3 2 4 (by decide)).keep ((TK.of s4).trans (d9.tk d0.hs))
    · exact (trip 2 2 7 (by decide)).keep ((TK.of s5).trans (d9.tk d0.hs))
    · exact (trip 4 2 3 (by decide)).keep ((TK.of s6).trans (d9.tk d0.hs))
    · exact (trip 2 7 2 (by decide)).keep ((TK.of s7).trans (d9.tk d0.hs))
  clear hx
  have dA := d0.trans d9
  obtain ⟨t, a, b, cc, rfl, ht, ha2, hb2, hc2, habc⟩ := htr
  refine ⟨t, _, rfl, SqT.of ht, rfl, _, _, rfl, _, _, rfl, _, _, rfl, rfl, ?_⟩
  have hlA := dA.kp _ _ lh lc hl
  have sA := dA.hs
  -- the kinds
  refine ⟨_, rfl, _, rfl, l, rfl, ⟨_, SqL.of hlA⟩, fun D hD => ?_⟩
  have nDh := sA.neh hD
  have nDc := sA.nec hD
  have nlD : l ≠ D := ne_of_none hlA hD
  refine lc_list (K := K) (a := l) (xs := nv nm (List.range 4)) (fun i H' => DS h c H9 H' ∧ ∃ zs, H' D = some (.lst zs) ∧ FVs nm H' (((List.range 4).take i).map F.kind) zs) ⟨DS.of sA (same_upd hD), [], upd_same, FVs.nil⟩ (fun i H' _ h => SqL.of (h.1.kp _ _ lh lc hlA)) ?_ ?_
  · rintro i x H10 hi ⟨d10, zs, hD10, hzs⟩
    obtain ⟨j, hj, rfl⟩ : ∃ j, (List.range 4)[i]? = some j ∧ V.str (nm j) = x := by
      simp only [nv, List.getElem?_map] at hi
      cases z : (List.range 4)[i]? with
      | none => rw [z] at hi; cases hi
      | some j => rw [z] at hi; exact ⟨j, rfl, by simpa using hi⟩
    have hi4 : i < 4 := by simpa using (List.getElem?_eq_some_iff.mp hj).1
    refine ⟨rfl, yesT ⟨_, rfl, by show 2 ≤ sizeLine; decide, fun p hp => ?_⟩⟩
    have e11 := same_upd (o := .tup [.str "kind", .str (nm j)]) hp
    have hD11 := e11 _ _ hD10
    have tk := TK.updL (o' := .lst (zs ++ [.ref p])) hD11 (fun _ z => by cases z)
    refine ⟨zs, hD11, lt_line ?_, DS.updN sA (d10.same e11) hD, zs ++ [.ref p], upd_same, ?_⟩
    · rw [hzs.length, List.length_map, List.length_take]; omega
    · rw [List.take_add_one, hj, List.map_append]
      refine ((hzs.keep (TK.of e11)).keep tk).append (FVs.cons ?_ FVs.nil)
      simp only [FV]
      exact ⟨p, rfl, tk _ _ upd_same⟩
  rintro H10 ⟨d10, zs, hD10, hzs⟩
  have hln : (nv nm (List.range 4)).length = 4 := by simp [nv]
  rw [hln] at hzs
  have hzl : zs.length = 4 := by rw [hzs.length]; rfl
  refine ⟨D, zs, rfl, hD10, nDh, nDc, by omega, d10.hs, fun M ys H11 hy d11 nM hM => ?_⟩
  obtain ⟨ds, pd, hds⟩ := All2.perm hy.symm (hzs.ds' d10.hs d11).all2
  have hyl : ys.length = 4 := by rw [hy.length_eq]; exact hzl
  obtain ⟨y1, y2, y3, y4, rfl⟩ : ∃ y1 y2 y3 y4, ys = [y1, y2, y3, y4] := by
    match ys, hyl with
    | [y1, y2, y3, y4], _ => exact ⟨y1, y2, y3, y4, rfl⟩
  obtain ⟨k1, k2, k3, k4, rfl, f1, f2, f3, f4⟩ : ∃ k1 k2 k3 k4, ds = [k1, k2, k3, k4] ∧ FV nm H11 k1 y1 ∧ FV nm H11 k2 y2 ∧ FV nm H11 k3 y3 ∧ FV nm H11 k4 y4 := by
    cases hds with
    | cons a t => cases t with
      | cons b t => cases t with
        | cons c t => cases t with
          | cons d t => cases t; exact ⟨_, _, _, _, rfl, a, b, c, d⟩
  have hkn : (namesL [k1, k2, k3, k4]).Perm (List.range 4) := by
    refine (namesL_perm pd).trans ?_
    decide
  have hkind : ∀ k ∈ [k1, k2, k3, k4], Wf k ∧ ∀ i, size k i ≤ 1 := by
    intro k hk
    obtain ⟨j, _, rfl⟩ := List.mem_map.mp (pd.mem_iff.mp hk)
    exact ⟨by simp only [Wf], fun i => by simp only [size]; split <;> omega⟩
  have hknd : (namesL [k1, k2, k3, k4]).Nodup := hkn.nodup_iff.mpr List.nodup_range
  refine ⟨M, _, rfl, SqL.of hM, rfl, _, _, rfl, _, _, rfl, _, _, rfl, _, _, rfl, rfl, ?_⟩
  have sB := d11.hs
  have dB := (dA.trans d10).trans d11
  -- the inner part
  refine ⟨_, rfl, _, rfl, _, rfl, _, rfl, _, rfl, by show 2 ≤ sizeLine; decide, fun q1 hq1 => ⟨by show 2 ≤ sizeLine; decide, fun q2 hq2 => ⟨by show 3 ≤ sizeLine; decide, fun q3 hq3 => ⟨by show 2 ≤ sizeLine; decide, fun L2 hL2 => ?_⟩⟩⟩⟩
  have g1 := same_upd (o := .tup [y3, y4]) hq1
  have g2 := same_upd (o := .tup [.str "and", .ref q1]) hq2
  have g3 := same_upd (o := .tup [.str "many", .int (cc : Int), .ref q2]) hq3
  have g4 := same_upd (o := .lst [y2, .ref q3]) hL2
  have gg := g1.trans (g2.trans (g3.trans g4))
  have nL2 := none_of (g1.trans (g2.trans g3)) hL2
  refine ⟨L2, _, rfl, upd_same, sB.neh nL2, sB.nec nL2, by show 2 ≤ 1000; decide, sB.keep gg, fun M2 ys2 H12 hy2 d12 nM2 hM2 => ?_⟩
  have tk12 := (TK.of gg).trans (d12.tk (sB.keep gg))
  have fin : FVs nm H12 [k2, .many cc (.node true [k3, k4])] [y2, .ref q3] := by
    refine FVs.cons (f2.keep tk12) (FVs.cons ?_ FVs.nil)
    simp only [FV]
    refine ⟨q3, .ref q2, rfl, d12.tk (sB.keep gg) _ _ (g4 _ _ upd_same), q2, q1, [y3, y4], rfl, d12.tk (sB.keep gg) _ _ (g4 _ _ (g3 _ _ upd_same)), d12.tk (sB.keep gg) _ _ (g4 _ _ (g3 _ _ (g2 _ _ upd_same))), ?_⟩
    exact FVs.cons (f3.keep tk12) (FVs.cons (f4.keep tk12) FVs.nil)
  obtain ⟨es, pe, hes⟩ := All2.perm hy2.symm fin.all2
  have hes := FVs.of2 hes
  refine ⟨M2, _, rfl, .inl ⟨SqL.of hM2, fun t2 ht2 => ⟨by show 2 ≤ sizeLine; decide, fun p13 hp13 => ?_⟩⟩⟩
  have u1 := same_upd (o := .tup ys2) ht2
  have u2 := same_upd (o := .tup [.str "or", .ref t2]) hp13
  have dC := ((((dB.same gg).trans d12).same u1).same u2)
  have tk14 := TK.of (u1.trans u2)
  have sC := dC.hs
  have finn : FV nm (upd (upd H12 t2 (.tup ys2)) p13 (.tup [.str "or", .ref t2])) (.node false es) (.ref p13) := by
    simp only [FV]
    exact ⟨p13, t2, ys2, rfl, upd_same, u2 _ _ upd_same, hes.keep tk14⟩
  have f1' := f1.keep (tk12.trans tk14)
  have hen : (namesL es).Perm (namesL [k2, k3, k4]) := by
    refine (namesL_perm pe).trans ?_
    simp [namesL, F.names]
  have hew : Wf (.node false es) := by
    simp only [Wf]
    refine ⟨by rw [pe.length_eq]; show 2 ≤ 2; decide, wfL_iff.mpr fun e he => ?_⟩
    have := pe.mem_iff.mp he
    simp only [List.mem_cons, List.not_mem_nil, or_false] at this
    rcases this with rfl | rfl
    · exact (hkind _ (by simp)).1
    · simp only [Wf]
      exact ⟨hc2, by show 2 ≤ 2; decide, wfL_iff.mpr fun e he => (hkind e (by simp only [List.mem_cons, List.not_mem_nil, or_false] at he; rcases he with rfl | rfl <;> simp)).1⟩
  have hez : ∀ i, size (.node false es) i ≤ cc := fun i => by
    simp only [size]
    refine sizeL_le fun e he => ?_
    have := pe.mem_iff.mp he
    simp only [List.mem_cons, List.not_mem_nil, or_false] at this
    rcases this with rfl | rfl
    · have := (hkind e (by simp)).2 i; omega
    · simp only [size]
      have : sizeL [k3, k4] i ≤ 1 := sizeL_le fun e he => (hkind e (by simp only [List.mem_cons, List.not_mem_nil, or_false] at he; rcases he with rfl | rfl <;> simp)).2 i
      have := Nat.mul_le_mul_left cc this
      omega
  generalize upd (upd H12 t2 (.tup ys2)) p13 (.tup [.str "or", .ref t2]) = H13 at *
  -- the whole
  refine ⟨_, rfl, _, rfl, _, rfl, _, rfl, _, rfl, by show 3 ≤ sizeLine; decide, fun r1 hr1 => ⟨by show 2 ≤ sizeLine; decide, fun L3 hL3 => ?_⟩⟩
  have v1 := same_upd (o := .tup [.str "many", .int (b : Int), .ref p13]) hr1
  have v2 := same_upd (o := .lst [y1, .ref r1]) hL3
  have vv := v1.trans v2
  have nL3 := none_of v1 hL3
  refine ⟨L3, _, rfl, upd_same, sC.neh nL3, sC.nec nL3, by show 2 ≤ 1000; decide, sC.keep vv, fun M3 ys3 H14 hy3 d14 nM3 hM3 => ?_⟩
  have tk15 := (TK.of vv).trans (d14.tk (sC.keep vv))
  have fin2 : FVs nm H14 [k1, .many b (.node false es)] [y1, .ref r1] := by
    refine FVs.cons (f1'.keep tk15) (FVs.cons ?_ FVs.nil)
    simp only [FV]
    refine ⟨r1, .ref p13, rfl, d14.tk (sC.keep vv) _ _ (v2 _ _ upd_same), ?_⟩
    have := finn.keep tk15
    simp only [FV] at this
    exact this
  obtain ⟨gs, pg, hgs⟩ := All2.perm hy3.symm fin2.all2
  have hgs := FVs.of2 hgs
  refine ⟨M3, _, rfl, .inl ⟨SqL.of hM3, fun t3 ht3 => ⟨by show 2 ≤ sizeLine; decide, fun p15 hp15 => ⟨by show 3 ≤ sizeLine; decide, fun p16 hp16 => ?_⟩⟩⟩⟩
  have w1 := same_upd (o := .tup ys3) ht3
  have w2 := same_upd (o := .tup [.str "and", .ref t3]) hp15
  have w3 := same_upd (o := .tup [.str "many", .int (a : Int), .ref p15]) hp16
  have ww := w1.trans (w2.trans w3)
  refine q _ (.many a (.node true gs)) _ (((dC.same vv).trans d14).same ww) ?_ ?_ ?_ fun i => ?_
  · simp only [FV]
    exact ⟨p16, .ref p15, rfl, upd_same, p15, t3, ys3, rfl, w3 _ _ upd_same, w3 _ _ (w2 _ _ upd_same), hgs.keep (TK.of ww)⟩
  · simp only [Wf]
    refine ⟨ha2, by rw [pg.length_eq]; show 2 ≤ 2; decide, wfL_iff.mpr fun e he => ?_⟩
    have := pg.mem_iff.mp he
    simp only [List.mem_cons, List.not_mem_nil, or_false] at this
    rcases this with rfl | rfl
    · exact (hkind _ (by simp)).1
    · simp only [Wf] at hew ⊢
      exact ⟨hb2, hew⟩
  · simp only [F.names]
    refine (namesL_perm pg).trans ?_
    refine List.Perm.trans ?_ hkn
    simp only [namesL, F.names, List.append_nil]
    refine List.Perm.append_left _ (hen.trans ?_)
    simp [namesL]
  · simp only [size]
    have h1 : sizeL gs i ≤ b * cc := sizeL_le fun e he => by
      have := pg.mem_iff.mp he
      simp only [List.mem_cons, List.not_mem_nil, or_false] at this
      rcases this with rfl | rfl
      · have := (hkind e (by simp)).2 i
        have : 1 * 1 ≤ b * cc := Nat.mul_le_mul (by omega) (by omega)
        omega
      · simp only [size]
        have := hez i
        simp only [size] at this
        exact Nat.mul_le_mul_left _ this
    have h2 := Nat.mul_le_mul_left a h1
    rw [Nat.mul_assoc] at habc
    omega
end
end Nf

/-! ## L10 -/
set_option Elab.async false
set_option linter.all false
set_option maxRecDepth 100000
set_option maxHeartbeats 4000000
/-! sums of sets of ways -/
namespace Nf
open PySem PySem.Spec PyProof.Rows L2
/-- the dict of those keys -/
def dv (ks : List (List Int)) : List (List Key × V) := ks.map fun t => (t.map Sum.inl, V.bl true)
def vadd (a b : List Int) : List Int := List.zipWith (· + ·) a b
def Box (n cap : Nat) (t : List Int) : Prop := t.length = n ∧ ∀ x ∈ t, 0 ≤ x ∧ x ≤ (cap : Int)
def allB (cap : Nat) : Nat → List (List Int)
  | 0 => [[]]
  | n + 1 => (List.range (cap + 1)).flatMap fun x : Nat => (allB cap n).map fun t => (x : Int) :: t
theorem allB_len (cap : Nat) : ∀ n, (allB cap n).length = (cap + 1) ^ n
  | 0 => rfl
  | n + 1 => by
    simp only [allB, List.length_flatMap, List.length_map, allB_len cap n]
    rw [List.map_const', List.sum_replicate_nat, List.length_range, Nat.pow_succ, Nat.mul_comm]
theorem allB_mem (cap : Nat) : ∀ n t, Box n cap t → t ∈ allB cap n
  | 0, t, h => by
    have : t = [] := List.length_eq_zero_iff.mp h.1
    subst this
    simp [allB]
  | n + 1, [], h => by simp [Box] at h
  | n + 1, x :: t, h => by
    obtain ⟨h1, h2⟩ := h
    have hx := h2 x List.mem_cons_self
    simp only [allB, List.mem_flatMap, List.mem_range, List.mem_map]
    refine ⟨x.toNat, by omega, t, allB_mem cap n t ⟨by simpa using h1, fun y hy => h2 y (List.mem_cons_of_mem _ hy)⟩, ?_⟩
    rw [Int.toNat_of_nonneg hx.1]
theorem box_len {n cap : Nat} {L : List (List Int)} (hn : L.Nodup) (h : ∀ t ∈ L, Box n cap t) : L.length ≤ (cap + 1) ^ n := by
  rw [← allB_len]
  exact nodup_sub_len hn fun t ht => allB_mem cap n t (h t ht)
theorem inl_inj {a b : List Int} (h : a.map (Sum.inl : Int → Key) = b.map Sum.inl) : a = b := by
  induction a generalizing b with
  | nil => cases b with
    | nil => rfl
    | cons => cases h
  | cons x a ih =>
    cases b with
    | nil => cases h
    | cons y b =>
      simp only [List.map_cons, List.cons.injEq] at h
      rw [Sum.inl.inj h.1, ih h.2]
theorem dv_any (L : List (List Int)) (t : List Int) : ((dv L).any fun kv => decide (kv.1 = t.map Sum.inl)) = decide (t ∈ L) := by
  induction L with
  | nil => simp [dv]
  | cons x L ih =>
    simp only [dv, List.map_cons, List.any_cons] at ih ⊢
    rw [ih]
    by_cases e : t = x
    · subst e; simp
    · have : ¬ x.map (Sum.inl : Int → Key) = t.map Sum.inl := fun z => e (inl_inj z).symm
      simp [this, e]
theorem dv_put (L : List (List Int)) (t : List Int) (hn : L.Nodup) : ∃ L', putK (dv L) (t.map Sum.inl) (V.bl true) = dv L' ∧ L'.Nodup ∧ ∀ s, s ∈ L' ↔ s ∈ L ∨ s = t := by
  unfold putK
  rw [dv_any]
  by_cases h : t ∈ L
  · refine ⟨L, ?_, hn, fun s => ⟨.inl, fun z => z.elim id fun e => e ▸ h⟩⟩
    rw [if_pos (decide_eq_true h)]
    simp only [dv, List.map_map]
    refine List.map_congr_left fun x _ => ?_
    simp only [Function.comp_apply]
    split <;> rfl
  · refine ⟨L ++ [t], ?_, ?_, fun s => by simp⟩
    · rw [decide_eq_false h, if_neg (by decide)]
      simp [dv]
    · rw [List.nodup_append]
      exact ⟨hn, by simp, fun a ha b hb e => by simp only [List.mem_singleton] at hb; subst hb; subst e; exact h ha⟩
theorem All2.at {α β : Type} {R : α → β → Prop} : ∀ {as : List α} {bs : List β} {i : Nat} {a : α}, All2 R as bs → as[i]? = some a → ∃ b, bs[i]? = some b ∧ R a b
  | _, _, _, _, .nil, h => by simp at h
  | _, _, 0, _, .cons h _, e => by simp at e; subst e; exact ⟨_, rfl, h⟩
  | _, _, i + 1, _, .cons _ t, e => by
    obtain ⟨b, h1, h2⟩ := t.at (i := i) (by simpa using e)
    exact ⟨b, by simpa using h1, h2⟩
/-- a tuple of those ints -/
def IsT' (H : Hp) (x : V) (t : List Int) : Prop := ∃ a, x = .ref a ∧ H a = some (.tup (t.map V.int))
theorem keys_ref {H : Hp} : ∀ {ks : List (List Int)} {bs : List Addr}, IsKeys H (dv ks) bs → All2 (IsT' H) (bs.map V.ref) ks
  | [], _, h => by cases h; exact .nil
  | t :: ks, _, h => by
    cases h with
    | cons h1 h2 =>
      refine .cons ⟨_, rfl, ?_⟩ (keys_ref h2)
      rw [h1]
      simp [List.map_map, Function.comp_def, kV]
theorem sc_law_sums : FnScope ["_law_some", "_law_more", "_law_found", "_law_one", "_law_other_here", "_law_k"] ["_law_some", "_law_more"] (defScope s_law_sums) := ⟨rfl, rfl, rfl, by decide +kernel, rfl, by decide +kernel, by decide +kernel⟩
def spSums (n cap : Nat) : Sp := fun vs H Q _ => ∃ (p r : Addr) (A B : List (List Int)), vs = [.ref p, .ref r] ∧ H p = some (.dT (dv A)) ∧ H r = some (.dT (dv B)) ∧ (∀ a ∈ A, a.length = n) ∧ (∀ b ∈ B, b.length = n) ∧ (∀ a ∈ A, ∀ b ∈ B, Box n cap (vadd a b)) ∧ (cap + 1) ^ n ≤ 14000000 ∧ n ≤ 8 ∧
  ∀ (D : Addr) (L : List (List Int)) (H' : Hp), Same H H' → H D = none → H' D = some (.dT (dv L)) → L.Nodup → (∀ t, t ∈ L ↔ ∃ a ∈ A, ∃ b ∈ B, t = vadd a b) → Q (.ref D) H'
section
variable {P : Program} {w : World} {K : PySem.W.Frag} {mg : Str → Option Value} {base : Heap}
theorem ok_law_sums {n cap : Nat} (T : Txt K mg) : Kept P w K mg base 1 "_law_sums" ["_law_some", "_law_more"] (spSums n cap) := by
  obtain ⟨fd, FD⟩ := T.f_law_sums
  refine kept_of FD T.m_law_sums sc_law_sums (fun _ _ _ _ _ _ us hl => match us, hl with | [_, _], _ => rfl) (fun vs H Q E h => ?_) (fun cdv A outer s H vs Q E hr h => ?_)
  · obtain ⟨p, r, A, B, rfl, _⟩ := h; rfl
  obtain ⟨p, r, As, Bs, rfl, hp, hr', hA, hB, hbox, hcap, hn8, q⟩ := h
  have nd := sc_law_sums.nd
  refine ⟨_, (pss_cons (ps_set (i := 2) nd rfl (Or.inl rfl) pe_dnewT)
    (pss_cons (ps_for PassesOwn.never rfl (pi_list (pe_callTy (call_list_dT rfl) (by rfl) T.z_list (by decide +kernel) (pa_cons (pv 0) pa_nil))) (pg_name (i := 3) nd rfl (Or.inr rfl))
      (pss_one (ps_for PassesOwn.never rfl (pi_list (pe_callTy (call_list_dT rfl) (by rfl) T.z_list (by decide +kernel) (pa_cons (pv 1) pa_nil))) (pg_name (i := 4) nd rfl (Or.inr rfl))
      (pss_one (ps_dput (u1 hr) (pv 2) (pe_callTy call_tuple_of (by rfl) T.z_tuple (by decide +kernel) (pa_cons (pe_lc (own := [("_law_k", 5)]) (g := gName 5) (tt := tYes) rfl nd (pi_range1 rfl T.z_range (pa_cons (pe_callB call_len_seq (by rfl) T.z_len PySem.boot_len (pa_cons (pv 3) pa_nil)) pa_nil))
          (blkOk_by (N := ["_law_some", "_law_more", "_law_found", "_law_one", "_law_other_here", "_law_k"]) (sc := defScope s_law_sums) (by decide +kernel)) (fun _ _ _ _ _ => (pg_name (i := 5) nd rfl (Or.inl rfl))) (fun _ _ _ _ _ => pts_nil)
          (fun _ _ _ _ _ => (pe_op op_add (pe_ix (r := rIxT K) ix_tup (pv 3) (pv 5) (fun _ _ => rfl)) (pe_ix (r := rIxT K) ix_tup (pv 4) (pv 5) (fun _ _ => rfl))))) pa_nil)) pe_bl rfl)))))
    (pss_one (ps_ret (pv 2))))), ?_⟩
  have vlen : ∀ a ∈ As, ∀ b ∈ Bs, (vadd a b).length = n := fun a ha b hb => (hbox a ha b hb).1
  intro D hD
  have e0 : Same H (upd H D (.dT [])) := same_upd hD
  have npD : p ≠ D := ne_of_none hp hD
  have nrD : r ≠ D := ne_of_none hr' hD
  refine ⟨_, rfl, p, dv As, rfl, .inl (e0 _ _ hp), fun l1 bs hl1 hk => ⟨l1, rfl, ⟨_, SqL.of upd_same⟩, ?_⟩⟩
  have e1 := same_upd (o := .lst (bs.map V.ref)) hl1
  have hk1 := keys_ref hk
  have nl1D : l1 ≠ D := fun z => by subst z; rw [upd_same] at hl1; cases hl1
  have hkl := hk1.length
  have hD1 : upd (upd H D (.dT [])) l1 (.lst (bs.map V.ref)) D = some (.dT []) := e1 _ _ upd_same
  have hl1' : upd (upd H D (.dT [])) l1 (.lst (bs.map V.ref)) l1 = some (.lst (bs.map V.ref)) := upd_same
  have hk1 : All2 (IsT' (upd (upd H D (.dT [])) l1 (.lst (bs.map V.ref)))) (bs.map V.ref) As := hk1.imp fun x t ⟨a, e, h⟩ => ⟨a, e, e1 _ _ h⟩
  have eH1 := e0.trans e1
  generalize upd (upd H D (.dT [])) l1 (.lst (bs.map V.ref)) = H1 at *
  have tkD : ∀ {H' : Hp}, KC D H1 H' → TK H1 H' := fun k b xs e => k b _ (fun z => by subst z; rw [hD1] at e; cases e) e
  have size_ok : ∀ (L : List (List Int)), L.Nodup → (∀ t ∈ L, ∃ a ∈ As, ∃ b ∈ Bs, t = vadd a b) → (dv L).length < sizeLine := fun L hn hm => by
    have : L.length ≤ (cap + 1) ^ n := box_len hn fun t ht => by
      obtain ⟨a, ha, b, hb, rfl⟩ := hm t ht
      exact hbox a ha b hb
    rw [show (dv L).length = L.length by simp [dv], sizeLine_eq]
    omega
  refine for_list (K := K) (a := l1) (xs := bs.map V.ref) (fun i σ' H' => (∃ x3 x4, σ' = [some (.ref p), some (.ref r), some (.ref D), x3, x4, none]) ∧ KC D H1 H' ∧ ∃ L, H' D = some (.dT (dv L)) ∧ L.Nodup ∧ ∀ t, t ∈ L ↔ ∃ a ∈ As.take i, ∃ b ∈ Bs, t = vadd a b)
    ⟨⟨none, none, rfl⟩, fun _ _ _ h => h, [], hD1, .nil, by simp⟩ (fun i σ' H' _ h => SqL.of (h.2.1 _ _ nl1D hl1')) ?_ ?_
  · rintro i x σ' H2 hi ⟨⟨x3, x4, rfl⟩, k2, L, hD2, hLn, hLm⟩
    obtain ⟨a, ha, ta, rfl, hta⟩ : ∃ a, As[i]? = some a ∧ IsT' H1 x a := hk1.at hi
    have ham := List.mem_of_getElem? ha
    have et : As.take (i + 1) = As.take i ++ [a] := by rw [List.take_add_one, ha]; rfl
    refine ⟨_, rfl, r, dv Bs, rfl, .inl (k2 _ _ nrD (eH1 _ _ hr')), fun l2 bs2 hl2 hkk => ⟨l2, rfl, ⟨_, SqL.of upd_same⟩, ?_⟩⟩
    have e3 := same_upd (o := .lst (bs2.map V.ref)) hl2
    have hk2 := keys_ref hkk
    have nl2D : l2 ≠ D := fun z => by subst z; rw [hD2] at hl2; cases hl2
    have hk2 : All2 (IsT' (upd H2 l2 (.lst (bs2.map V.ref)))) (bs2.map V.ref) Bs := hk2.imp fun x t ⟨a, e, h⟩ => ⟨a, e, e3 _ _ h⟩
    have hl2' : upd H2 l2 (.lst (bs2.map V.ref)) l2 = some (.lst (bs2.map V.ref)) := upd_same
    have k3 : KC D H1 (upd H2 l2 (.lst (bs2.map V.ref))) := k2.trans (KC.of e3)
    have hD3 := e3 _ _ hD2
    generalize upd H2 l2 (.lst (bs2.map V.ref)) = H3 at *
    have hta3 := tkD k3 _ _ hta
    have tkD3 : ∀ {H' : Hp}, KC D H3 H' → TK H3 H' := fun k b xs e => k b _ (fun z => by subst z; rw [hD3] at e; cases e) e
    have hkl2 := hk2.length
    refine for_list (K := K) (a := l2) (xs := bs2.map V.ref) (fun j σ' H' => (∃ x4, σ' = [some (.ref p), some (.ref r), some (.ref D), some (.ref ta), x4, none]) ∧ KC D H3 H' ∧ ∃ L, H' D = some (.dT (dv L)) ∧ L.Nodup ∧ ∀ t, t ∈ L ↔ (∃ a ∈ As.take i, ∃ b ∈ Bs, t = vadd a b) ∨ ∃ b ∈ Bs.take j, t = vadd a b)
      ⟨⟨x4, rfl⟩, fun _ _ _ h => h, L, hD3, hLn, by simpa using hLm⟩ (fun j σ' H' _ h => SqL.of (h.2.1 _ _ nl2D hl2')) ?_ ?_
    · rintro j y σ' H4 hj ⟨⟨x4', rfl⟩, k4, L, hD4, hLn, hLm⟩
      obtain ⟨b, hb, tb, rfl, htb⟩ : ∃ b, Bs[j]? = some b ∧ IsT' H3 y b := hk2.at hj
      have hbm := List.mem_of_getElem? hb
      have hta4 := tkD3 k4 _ _ hta3
      have htb4 := tkD3 k4 _ _ htb
      have hal := hA a ham
      have hbl := hB b hbm
      refine ⟨_, rfl, _, rfl, ta, _, rfl, .inr (SqT.of hta4), ((a.map V.int).length : Int), rfl, by omega, by rw [List.length_map]; omega, fun E hE => ?_⟩
      rw [Int.toNat_natCast, List.length_map]
      have nDE : D ≠ E := ne_of_none hD4 hE
      refine lc_range (lo := 0) (n := a.length) (fun i H' => Same H4 H' ∧ H' E = some (.lst (((vadd a b).take i).map V.int))) ⟨same_upd hE, by rw [upd_same]; rfl⟩ ?_ ?_
      · rintro m H5 hm ⟨e5, hE5⟩
        rw [show (0 : Int) + ((m : Nat) : Int) = ((m : Nat) : Int) by omega]
        have hma : (a.map V.int)[m]? = some (V.int a[m]) := by simp [hm]
        have hmb : (b.map V.int)[m]? = some (V.int (b[m]'(by omega))) := by simp [show m < b.length by omega]
        refine ⟨rfl, yesT ⟨_, rfl, _, rfl, ta, _, (m : Int), _, rfl, rfl, SqT.of (e5 _ _ hta4), atI_nat hma, _, rfl, _, rfl, tb, _, (m : Int), _, rfl, rfl, SqT.of (e5 _ _ htb4), atI_nat hmb, _, _, rfl, rfl, _, hE5, ?_, same_updN e5 hE, ?_⟩⟩
        · refine lt_line ?_
          rw [List.length_map, List.length_take]; omega
        · rw [upd_same]
          have hv : (vadd a b)[m]? = some (a[m] + b[m]'(by omega)) := by
            simp only [vadd, List.getElem?_zipWith, List.getElem?_eq_getElem hm, List.getElem?_eq_getElem (show m < b.length by omega)]
          rw [List.take_add_one, hv, List.map_append]
          rfl
      rintro H5 ⟨e5, hE5⟩
      have hvl : (vadd a b).length = a.length := by rw [vlen a ham b hbm, hal]
      rw [← hvl, List.take_length] at hE5
      refine ⟨E, _, rfl, .inl ⟨SqL.of hE5, fun tt ht => ?_⟩⟩
      have e6 := same_upd (o := .tup ((vadd a b).map V.int)) ht
      have hD6 := e6 _ _ (e5 _ _ hD4)
      obtain ⟨L', hput, hLn', hLm'⟩ := dv_put L (vadd a b) hLn
      have hmem : ∀ t ∈ L, ∃ a ∈ As, ∃ b ∈ Bs, t = vadd a b := fun t ht => by
        rcases (hLm t).mp ht with ⟨a', ha', b', hb', e⟩ | ⟨b', hb', e⟩
        · exact ⟨a', List.mem_of_mem_take ha', b', hb', e⟩
        · exact ⟨a, ham, b', List.mem_of_mem_take hb', e⟩
      refine ⟨D, _, rfl, DPut.t (k := (vadd a b).map Sum.inl) hD6 (by rw [upd_same]; simp [List.map_map, Function.comp_def, kV]) (size_ok L hLn hmem), ⟨⟨_, rfl⟩, ?_, L', by rw [upd_same, hput], hLn', fun t => ?_⟩⟩
      · intro b' o nb e
        rw [upd_ne nb]
        exact e6 _ _ (e5 _ _ (k4 _ _ nb e))
      · rw [hLm', hLm]
        have etj : Bs.take (j + 1) = Bs.take j ++ [b] := by rw [List.take_add_one, hb]; rfl
        constructor
        · rintro ((h | ⟨b', hb', e⟩) | e)
          · exact .inl h
          · exact .inr ⟨b', by rw [etj]; simp [hb'], e⟩
          · exact .inr ⟨b, by rw [etj]; simp, e⟩
        · rintro (h | ⟨b', hb', e⟩)
          · exact .inl (.inl h)
          · rw [etj, List.mem_append, List.mem_singleton] at hb'
            rcases hb' with hb' | rfl
            · exact .inl (.inr ⟨b', hb', e⟩)
            · exact .inr e
    · rintro σ' H4 ⟨⟨x4', rfl⟩, k4, L, hD4, hLn, hLm⟩
      rw [hkl2, List.take_length] at hLm
      refine ⟨⟨_, _, rfl⟩, k3.trans k4, L, hD4, hLn, fun t => ?_⟩
      rw [hLm, et]
      constructor
      · rintro (⟨a', ha', h⟩ | h)
        · exact ⟨a', by simp [ha'], h⟩
        · exact ⟨a, by simp, h⟩
      · rintro ⟨a', ha', h⟩
        rw [List.mem_append, List.mem_singleton] at ha'
        rcases ha' with ha' | rfl
        · exact .inl ⟨a', ha', h⟩
        · exact .inr h
  · rintro σ' H2 ⟨⟨x3, x4, rfl⟩, k2, L, hD2, hLn, hLm⟩
    rw [hkl, List.take_length] at hLm
    refine ⟨_, rfl, q D L H2 (fun b o e => ?_) hD hD2 hLn hLm⟩
    exact k2 _ _ (ne_of_none e hD) (eH1 _ _ e)
end
end Nf

/-! ## L11 -/
set_option Elab.async false
set_option linter.all false
set_option maxRecDepth 100000
set_option maxHeartbeats 4000000
/-! the ways laid out -/
namespace Nf
open PySem PySem.Spec PyProof.Rows L2
def vec (k : Nat) (w : W) : List Int := (List.range k).map fun i => (w i : Int)
def IsSet (k : Nat) (S : W → Prop) (L : List (List Int)) : Prop := L.Nodup ∧ ∀ t, t ∈ L ↔ ∃ w, S w ∧ t = vec k w
theorem vec_len (k : Nat) (w : W) : (vec k w).length = k := by simp [vec]
theorem vadd_vec (k : Nat) (a b : W) : vadd (vec k a) (vec k b) = vec k (wadd a b) := by
  apply List.ext_getElem
  · simp [vadd, vec]
  · intro i h1 h2
    simp [vadd, vec, wadd]
theorem IsSet.sums {k : Nat} {S T : W → Prop} {A B L : List (List Int)} (a : IsSet k S A) (b : IsSet k T B) (hn : L.Nodup) (h : ∀ t, t ∈ L ↔ ∃ x ∈ A, ∃ y ∈ B, t = vadd x y) : IsSet k (fun w => ∃ u v, S u ∧ T v ∧ w = wadd u v) L := by
  refine ⟨hn, fun t => (h t).trans ⟨?_, ?_⟩⟩
  · rintro ⟨x, hx, y, hy, rfl⟩
    obtain ⟨u, hu, rfl⟩ := (a.2 x).mp hx
    obtain ⟨v, hv, rfl⟩ := (b.2 y).mp hy
    exact ⟨wadd u v, ⟨u, v, hu, hv, rfl⟩, vadd_vec k u v⟩
  · rintro ⟨w, ⟨u, v, hu, hv, rfl⟩, rfl⟩
    exact ⟨_, (a.2 _).mpr ⟨u, hu, rfl⟩, _, (b.2 _).mpr ⟨v, hv, rfl⟩, (vadd_vec k u v).symm⟩
theorem IsSet.congr {k : Nat} {S T : W → Prop} {L : List (List Int)} (a : IsSet k S L) (h : ∀ w, S w ↔ T w) : IsSet k T L :=
  ⟨a.1, fun t => (a.2 t).trans ⟨fun ⟨w, x, y⟩ => ⟨w, (h w).mp x, y⟩, fun ⟨w, x, y⟩ => ⟨w, (h w).mpr x, y⟩⟩⟩
theorem IsSet.lens {k : Nat} {S : W → Prop} {L : List (List Int)} (a : IsSet k S L) : ∀ t ∈ L, t.length = k := fun t ht => by
  obtain ⟨w, _, rfl⟩ := (a.2 t).mp ht
  exact vec_len k w
theorem box_vec {k cap : Nat} {w : W} (h : ∀ i, w i ≤ cap) : Box k cap (vec k w) := by
  refine ⟨vec_len k w, fun x hx => ?_⟩
  obtain ⟨i, _, rfl⟩ := List.mem_map.mp hx
  have := h i
  omega
theorem IsSet.boxes {k cap : Nat} {S T : W → Prop} {A B : List (List Int)} (a : IsSet k S A) (b : IsSet k T B) (h : ∀ u v, S u → T v → ∀ i, wadd u v i ≤ cap) : ∀ x ∈ A, ∀ y ∈ B, Box k cap (vadd x y) := by
  intro x hx y hy
  obtain ⟨u, hu, rfl⟩ := (a.2 x).mp hx
  obtain ⟨v, hv, rfl⟩ := (b.2 y).mp hy
  rw [vadd_vec]
  exact box_vec (h u v hu hv)
theorem dv_merge (A : List (List Int)) (hA : A.Nodup) : ∀ B : List (List Int), ∃ L, mergeT (dv A) (dv B) = dv L ∧ L.Nodup ∧ ∀ s, s ∈ L ↔ s ∈ A ∨ s ∈ B := by
  intro B
  induction B generalizing A with
  | nil => exact ⟨A, rfl, hA, by simp⟩
  | cons b B ih =>
    obtain ⟨L1, h1, h2, h3⟩ := dv_put A b hA
    obtain ⟨L, h4, h5, h6⟩ := ih L1 h2
    refine ⟨L, ?_, h5, fun s => ?_⟩
    · have e : mergeT (dv A) (dv (b :: B)) = mergeT (putK (dv A) (b.map Sum.inl) (V.bl true)) (dv B) := rfl
      rw [e, h1, h4]
    · rw [h6, h3, List.mem_cons, or_assoc]
theorem IsSet.len {k cap : Nat} {S : W → Prop} {L : List (List Int)} (a : IsSet k S L) (h : ∀ w, S w → ∀ i, w i ≤ cap) : L.length ≤ (cap + 1) ^ k :=
  box_len a.1 fun t ht => by
    obtain ⟨w, hw, rfl⟩ := (a.2 t).mp ht
    exact box_vec (h w hw)
theorem rep_read {K : PySem.W.Frag} {H : Hp} {z : Addr} {k n : Nat} {R : VK} (hz : H z = some (.tup [.int 0])) (hn : n = k) (hk1 : 1 ≤ k) (hk8 : k ≤ 8) (q : ∀ b H', Same H H' → H' b = some (.tup ((vec k wz).map V.int)) → R (.ref b) H') :
    rRepT K (.ref z) (.int (n : Int)) H R ∨ (∃ l xs, V.ref z = .ref l ∧ V.int (n : Int) = .int 1 ∧ SqT K H l xs ∧ R (.ref l) H) := by
  subst hn
  have hv : (vec n wz).map V.int = List.replicate n (V.int 0) := by
    apply List.ext_getElem
    · simp [vec]
    · intro i h1 h2
      simp [vec, wz]
  by_cases h : n = 1
  · subst h
    refine .inr ⟨z, _, rfl, rfl, SqT.of hz, q z H (fun _ _ e => e) ?_⟩
    rw [hz, hv]
    rfl
  · refine .inl ⟨z, _, _, rfl, rfl, SqT.of hz, by simp, by omega, by omega, by simp, fun p hp => q p _ (same_upd hp) ?_⟩
    rw [upd_same, hv, Int.toNat_natCast]
    congr 2
    clear h q hk1 hk8 hv hp hz
    induction n with
    | zero => rfl
    | succ n ih => rw [List.replicate_succ, List.flatten_cons, ih]; rfl
theorem union_len {k cap : Nat} {A B : List (List Int)} {z : List Int} (ha : A.Nodup) (hb : B.Nodup) (h : ∀ t ∈ A, t ∈ B → t = z) (ba : ∀ t ∈ A, Box k cap t) (bb : ∀ t ∈ B, Box k cap t) : A.length + B.length ≤ (cap + 1) ^ k + 1 := by
  have h1 : (A ++ B.erase z).Nodup := by
    rw [List.nodup_append]
    refine ⟨ha, hb.erase z, fun a ha' b hb' e => ?_⟩
    subst e
    have := h a ha' (List.mem_of_mem_erase hb')
    subst this
    exact (hb.not_mem_erase) hb'
  have h2 := box_len h1 fun t ht => (List.mem_append.mp ht).elim (ba t) fun x => bb t (List.mem_of_mem_erase x)
  rw [List.length_append] at h2
  have h3 : B.length ≤ (B.erase z).length + 1 := by
    rw [List.length_erase]
    split <;> omega
  omega
/-- the ways of several parts -/
def WaysL (b : Bool) (qs : List F) (w : W) : Prop := match b with
  | true => SumS (qs.map Way) w
  | false => ∃ p ∈ qs, Way p w
theorem waysL_node (b : Bool) (qs : List F) (w : W) : Way (.node b qs) w ↔ WaysL b qs w := by
  cases b with
  | true => simp only [Way, WaysL]; exact wayA_iff
  | false => simp only [Way, WaysL]; exact wayO_iff
theorem sumS_one {S : W → Prop} {w : W} : SumS [S] w ↔ S w := by
  simp only [SumS]
  constructor
  · rintro ⟨a, b, ha, rfl, rfl⟩; rw [wadd_zero]; exact ha
  · intro h; exact ⟨w, wz, h, rfl, (wadd_zero w).symm⟩
theorem sizeL_part {ps qs : List F} (i : Nat) : sizeL ps i ≤ sizeL (ps ++ qs) i := by
  rw [sizeL_append]
  split
  · exact Nat.le_refl _
  · rename_i h; rw [sizeL_out h]; exact Nat.zero_le _
theorem waysL_le {b : Bool} {ps qs : List F} {cap : Nat} (nd : (namesL (ps ++ qs)).Nodup) (h : ∀ i, sizeL (ps ++ qs) i ≤ cap) {w : W} (hw : WaysL b ps w) (i : Nat) : w i ≤ cap := by
  have nd1 : (F.node b ps).names.Nodup := by
    simp only [F.names]
    rw [namesL_append] at nd
    exact (List.nodup_append.mp nd).1
  have h1 := way_le (j := i) (.node b ps) nd1 w ((waysL_node b ps w).mpr hw)
  simp only [size] at h1
  exact Nat.le_trans h1 (Nat.le_trans (sizeL_part i) (h i))
theorem sc_law_laid : FnScope ["_law_formula_here", "_law_names_here", "_law_part", "_law_found", "_law_turn", "_law_name"] ["_law_formula_here", "_law_names_here"] (defScope s_law_laid) := ⟨rfl, rfl, rfl, by decide +kernel, rfl, by decide +kernel, by decide +kernel⟩
def spLaid (nm : Nat → Str) (k cap n : Nat) : Sp := fun vs H Q _ => ∃ (v : V) (l : Addr) (f : F), vs = [v, .ref l] ∧ FV nm H f v ∧ H l = some (.lst (nv nm (List.range k))) ∧ dep f < n ∧ Wf f ∧ f.names.Nodup ∧ (∀ i ∈ f.names, i < k) ∧ (∀ i, size f i ≤ cap) ∧ f.names.length ≤ 1000 ∧ 1 ≤ k ∧ k ≤ 8 ∧ cap ≤ 60 ∧ (cap + 1) ^ k ≤ 14000000 ∧
  ∀ (D : Addr) (L : List (List Int)) (H' : Hp), Same H H' → H D = none → H' D = some (.dT (dv L)) → IsSet k (Way f) L → Q (.ref D) H'
section
variable {P : Program} {w : World} {K : PySem.W.Frag} {mg : Str → Option Value} {base : Heap} {nm : Nat → Str}
theorem ok_law_laid {k cap : Nat} (T : Txt K mg) (N : Nm nm k) : ∀ n, Kept P w K mg base (n + 1) "_law_laid" ["_law_formula_here", "_law_names_here"] (spLaid nm k cap n)
  | 0 => by
    obtain ⟨fd, FD⟩ := T.f_law_laid
    exact (kept_zero FD T.m_law_laid (fun _ _ _ _ _ _ us hl => match us, hl with | [_, _], _ => rfl) fun vs H Q E h => by obtain ⟨_, _, _, _, _, _, h, _⟩ := h; omega).mono (by omega)
  | n + 1 => by
    have G := ok_law_laid (cap := cap) T N n
    have GS := (ok_law_sums (P := P) (w := w) (base := base) (n := k) (cap := cap) T).mono (show 1 ≤ n + 1 by omega)
    obtain ⟨fd, FD⟩ := T.f_law_laid
    refine kept_of FD T.m_law_laid sc_law_laid (fun _ _ _ _ _ _ us hl => match us, hl with | [_, _], _ => rfl) (fun vs H Q E h => ?_) (fun cdv A outer s H vs Q E hr h => ?_)
    · obtain ⟨v, l, f, rfl, _⟩ := h; rfl
    obtain ⟨v, l, f, rfl, hf, hl, hd', hwf, hnd, hlt, hle, hlen, hk1, hk8, hc60, hcap, q⟩ := h
    have nd := sc_law_laid.nd
    refine ⟨_, (pss_cons (ps_if (pt_cmpR op_eq (pe_ix ix_tup (pv 0) pe_int (fun _ _ => rfl)) pe_str (nomark _)) (pss_one (ps_ret (pe_dispT (u1 hr) (pe_callTy call_tuple_of (by rfl) T.z_tuple (by decide +kernel) (pa_cons (pe_lc (own := [("_law_name", 5)]) (g := gName 5) (tt := tYes) rfl nd (pi_list (pv 1))
          (blkOk_by (N := ["_law_formula_here", "_law_names_here", "_law_part", "_law_found", "_law_turn", "_law_name"]) (sc := defScope s_law_laid) (by decide +kernel)) (fun _ _ _ _ _ => (pg_name (i := 5) nd rfl (Or.inl rfl))) (fun _ _ _ _ _ => pts_nil)
          (fun _ _ _ _ _ => (pe_callTy call_int1 (by rfl) T.z_int (by decide +kernel) (pa_cons (pe_cmpR op_eq (pv 5) (pe_ix (r := rIxT K) ix_tup (pv 0) pe_int (fun _ _ => rfl)) (nomark _)) pa_nil)))) pa_nil)) pe_bl))) pss_nil)
    (pss_cons (ps_if (pt_cmpR op_eq (pe_ix ix_tup (pv 0) pe_int (fun _ _ => rfl)) pe_str (nomark _)) (pss_cons (ps_par (i := 2) (j := 3) rfl nd rfl rfl (by decide) rfl rfl (pa_cons (pe_kc G hr rfl (pa_cons (pe_ix ix_tup (pv 0) pe_int (fun _ _ => rfl)) (pa_cons (pv 1) pa_nil))) (pa_cons (pe_dispT (u1 hr) (pe_op (OpR.or op_repT op_repT1) (pe_tup (pa_cons pe_int pa_nil)) (pe_callB call_len_seq (by rfl) T.z_len PySem.boot_len (pa_cons (pv 1) pa_nil))) pe_bl) pa_nil)) (by rfl))
    (pss_cons (ps_for PassesOwn.never rfl (pi_range1 rfl T.z_range (pa_cons (pe_ix ix_tup (pv 0) pe_int (fun _ _ => rfl)) pa_nil)) (pg_name (i := 4) nd rfl (Or.inl rfl))
      (pss_one (ps_set (i := 3) nd rfl (Or.inl rfl) (pe_kc GS hr rfl (pa_cons (pv 3) (pa_cons (pv 2) pa_nil))))))
    (pss_one (ps_ret (pv 3))))) pss_nil)
    (pss_cons (ps_set (i := 3) nd rfl (Or.inl rfl) (pe_kc G hr rfl (pa_cons (pe_ix ix_tup (pe_ix ix_tup (pv 0) pe_int (fun _ _ => rfl)) pe_int (fun _ _ => rfl)) (pa_cons (pv 1) pa_nil))))
    (pss_cons (ps_for PassesOwn.never rfl (pi_tup (pe_slice sl_tup (pe_ix ix_tup (pv 0) pe_int (fun _ _ => rfl)) (po_some pe_int) po_none)) (pg_name (i := 2) nd rfl (Or.inl rfl))
      (pss_one (ps_if (pt_cmpR op_eq (pe_ix ix_tup (pv 0) pe_int (fun _ _ => rfl)) pe_str (nomark _)) (pss_one (ps_set (i := 3) nd rfl (Or.inl rfl) (pe_kc GS hr rfl (pa_cons (pv 3) (pa_cons (pe_kc G hr rfl (pa_cons (pv 2) (pa_cons (pv 1) pa_nil))) pa_nil))))) (pss_one (ps_expr (pe_bm PySem.F.plainAttrs_dict PySem.F.slot_dict_update PySem.F.type_dict_update (mt_updT (u1 hr)) (pv 3) (pa_cons (pe_kc G hr rfl (pa_cons (pv 2) (pa_cons (pv 1) pa_nil))) pa_nil)))))))
    (pss_one (ps_ret (pv 3))))))), ?_⟩
    have hln : (nv nm (List.range k)).length = k := by simp [nv]
    cases f with
    | kind i =>
      simp only [FV] at hf
      obtain ⟨a, rfl, ha⟩ := hf
      have hik : i < k := hlt i (by simp [F.names])
      refine ⟨_, rfl, a, _, 0, _, rfl, rfl, SqT.of ha, atI_nat (j := 0) rfl, rfl, _, rfl, ifDT kk fun D hD => ?_⟩
      have e1 : Same H (upd H D (.dT [])) := same_upd hD
      have hl1 := e1 _ _ hl
      have ha1 := e1 _ _ ha
      have hD1 : upd H D (.dT []) D = some (.dT []) := upd_same
      generalize upd H D (.dT []) = H1 at *
      refine ⟨_, rfl, l, rfl, ⟨_, SqL.of hl1⟩, fun E hE => ?_⟩
      refine lc_list (K := K) (a := l) (xs := nv nm (List.range k)) (fun j H' => Same H1 H' ∧ H' E = some (.lst (((List.range k).take j).map fun x => V.int (single i x : Int)))) ⟨same_upd hE, by rw [upd_same]; rfl⟩ (fun j H' _ h => SqL.of (h.1 _ _ hl1)) ?_ ?_
      · rintro j x H2 hj ⟨e2, hE2⟩
        obtain ⟨y, hy, rfl⟩ : ∃ y, (List.range k)[j]? = some y ∧ V.str (nm y) = x := by
          simp only [nv, List.getElem?_map] at hj
          cases z : (List.range k)[j]? with
          | none => rw [z] at hj; cases hj
          | some y => rw [z] at hj; exact ⟨y, rfl, by simpa using hj⟩
        have hyk : y < k := by simpa using List.mem_of_getElem? hy
        refine ⟨rfl, yesT ⟨_, rfl, _, rfl, a, _, 1, _, rfl, rfl, SqT.of (e2 _ _ ha1), atI_nat (j := 1) rfl, rfl, .inr ⟨decide (V.str (nm y) = V.str (nm i)), rfl, _, hE2, ?_, same_updN e2 hE, ?_⟩⟩⟩
        · refine lt_line ?_
          rw [List.length_map, List.length_take, List.length_range]; omega
        · rw [upd_same, List.take_add_one, hy, List.map_append]
          have e : (if decide (V.str (nm y) = V.str (nm i)) = true then (1 : Int) else 0) = (single i y : Int) := by
            unfold single
            by_cases hyi : y = i
            · subst hyi; simp
            · have : ¬ V.str (nm y) = V.str (nm i) := fun z => hyi (N.ne hyk hik (V.str.inj z))
              simp [this, hyi]
          rw [e]
          rfl
      rintro H2 ⟨e2, hE2⟩
      rw [hln] at hE2
      have hE3 : H2 E = some (.lst ((vec k (single i)).map V.int)) := by
        rw [hE2]
        congr 2
        rw [List.take_of_length_le (by simp), vec, List.map_map]
        rfl
      refine ⟨E, _, rfl, .inl ⟨SqL.of hE3, fun tt ht => ?_⟩⟩
      have e3 := same_upd (o := .tup ((vec k (single i)).map V.int)) ht
      refine ⟨e3 _ _ (e2 _ _ hD1), tt, (vec k (single i)).map Sum.inl, rfl, by rw [upd_same]; simp [List.map_map, Function.comp_def, kV], ?_⟩
      refine q D [vec k (single i)] _ (same_updN ((e1.trans e2).trans e3) hD) hD (by rw [upd_same]; rfl) ⟨by simp, fun t => ?_⟩
      simp only [List.mem_singleton, Way]
      exact ⟨fun e => ⟨_, rfl, e⟩, fun ⟨w, e1, e2⟩ => by subst e1; exact e2⟩
    | many m f =>
      simp only [FV] at hf
      obtain ⟨a, u, rfl, ha, hu⟩ := hf
      simp only [dep] at hd'
      simp only [Wf] at hwf
      simp only [F.names] at hnd hlt hlen
      simp only [size] at hle
      have hle1 : ∀ i, size f i ≤ cap := fun i => by
        have h1 := hle i
        have h2 : 1 * size f i ≤ m * size f i := Nat.mul_le_mul_right _ (by omega)
        omega
      have hm60 : m ≤ 60 := by
        obtain ⟨i, hi⟩ : ∃ i, i ∈ f.names := List.exists_mem_of_length_pos (names_pos f hwf.2)
        have h1 := hle i
        have h2 : m * 1 ≤ m * size f i := Nat.mul_le_mul_left _ (size_one f hwf.2 hnd i hi)
        omega
      refine ⟨_, rfl, a, _, 0, _, rfl, rfl, SqT.of ha, atI_nat (j := 0) rfl, rfl, _, rfl, ifDF mk_ ?_⟩
      refine ⟨_, rfl, a, _, 0, _, rfl, rfl, SqT.of ha, atI_nat (j := 0) rfl, rfl, _, rfl, ifDT mm ?_⟩
      refine ⟨_, rfl, a, _, 2, _, rfl, rfl, SqT.of ha, atI_nat (j := 2) rfl, _, rfl, u, l, f, rfl, hu, hl, by omega, hwf.2, hnd, hlt, hle1, hlen, hk1, hk8, hc60, hcap, fun D1 L1 H1 e1 nD1 hD1 hset1 => ?_⟩
      intro D2 hD2
      have e2 := same_upd (o := .dT []) hD2
      have nD2 := none_of e1 hD2
      refine ⟨by show 1 ≤ sizeLine; decide, fun z hz => ?_⟩
      have e3 := same_upd (o := .tup [.int 0]) hz
      have e23 := e2.trans e3
      have hD23 : upd (upd H1 D2 (.dT [])) z (.tup [.int 0]) D2 = some (.dT []) := e3 _ _ upd_same
      refine ⟨_, rfl, l, _, rfl, .inl (SqL.of (e23 _ _ (e1 _ _ hl))), ?_⟩
      refine rep_read upd_same hln hk1 hk8 fun b H4 e4 hb => ?_
      refine ⟨e4 _ _ hD23, b, (vec k wz).map Sum.inl, rfl, by rw [hb]; simp [List.map_map, Function.comp_def, kV], _, _, rfl, ?_⟩
      have e5 : Same H (upd H4 D2 (.dT [((vec k wz).map Sum.inl, V.bl true)])) := same_updN ((e1.trans e23).trans e4) nD2
      have n12 : D1 ≠ D2 := ne_of_none hD1 hD2
      have hD15 : upd H4 D2 (.dT [((vec k wz).map Sum.inl, V.bl true)]) D1 = some (.dT (dv L1)) := by rw [upd_ne n12]; exact e4 _ _ (e23 _ _ hD1)
      have hD25 : upd H4 D2 (.dT [((vec k wz).map Sum.inl, V.bl true)]) D2 = some (.dT (dv [vec k wz])) := upd_same
      generalize upd H4 D2 (.dT [((vec k wz).map Sum.inl, V.bl true)]) = H5 at *
      refine ⟨_, rfl, a, _, 1, _, rfl, rfl, SqT.of (e5 _ _ ha), atI_nat (j := 1) rfl, (m : Int), rfl, by omega, by omega, ?_⟩
      rw [Int.toNat_natCast]
      refine for_range (lo := 0) (n := m) (fun t σ' H' => ∃ (Dt : Addr) (x4 : Option V) (Lt : List (List Int)), σ' = [some (.ref a), some (.ref l), some (.ref D1), some (.ref Dt), x4, none] ∧ Same H H' ∧ H Dt = none ∧ H' D1 = some (.dT (dv L1)) ∧ H' Dt = some (.dT (dv Lt)) ∧ IsSet k (SumN t (Way f)) Lt)
        ⟨D2, none, [vec k wz], rfl, e5, nD2, hD15, hD25, by simp, fun t => ?_⟩ ?_ ?_
      · simp only [List.mem_singleton, SumN]
        exact ⟨fun e => ⟨_, rfl, e⟩, fun ⟨w, e1, e2⟩ => by subst e1; exact e2⟩
      · rintro t σ' H6 ht ⟨Dt, x4, Lt, rfl, e6, nDt, hD16, hDt6, hset⟩
        refine ⟨_, rfl, _, rfl, Dt, D1, Lt, L1, rfl, hDt6, hD16, hset.lens, hset1.lens, hset.boxes hset1 (fun x y hx hy i => ?_), hcap, hk8, fun D L H7 e7 nD hD hLn hLm => ?_⟩
        · have hs : SumN (t + 1) (Way f) (wadd x y) := ⟨x, y, hx, hy, rfl⟩
          have h1 := sumN_le (j := i) (m := size f i) (fun w hw => way_le f hnd w hw) hs
          have h2 : (t + 1) * size f i ≤ m * size f i := Nat.mul_le_mul_right _ ht
          have := hle i
          omega
        · exact ⟨D, _, L, rfl, e6.trans e7, none_of e6 nD, e7 _ _ hD16, hD, (hset.sums hset1 hLn hLm).congr fun w => by simp only [SumN]⟩
      · rintro σ' H6 ⟨Dt, x4, Lt, rfl, e6, nDt, hD16, hDt6, hset⟩
        exact ⟨_, rfl, q Dt Lt H6 e6 nDt hDt6 (hset.congr fun w => by simp only [Way])⟩
    | node b ps =>
      simp only [FV] at hf
      obtain ⟨a, c2, us, rfl, ha, hc2, hus⟩ := hf
      simp only [dep] at hd'
      simp only [Wf] at hwf
      simp only [F.names] at hnd hlt hlen
      simp only [size] at hle
      have hw2 := wfL_iff.mp hwf.2
      match ps, hwf.1 with
      | p0 :: rs, _ =>
      simp only [FVs] at hus
      obtain ⟨u0, us, rfl, hu0, hus⟩ := hus
      have partok : ∀ p ∈ p0 :: rs, dep p < n ∧ Wf p ∧ p.names.Nodup ∧ (∀ i ∈ p.names, i < k) ∧ (∀ i, size p i ≤ cap) ∧ p.names.length ≤ 1000 := fun p hp => by
        have := dep_part hp
        refine ⟨by omega, hw2 p hp, nodup_part hnd hp, fun i hi => hlt i (namesL_mem.mpr ⟨p, hp, hi⟩), fun i => ?_, ?_⟩
        · by_cases hi : i ∈ p.names
          · rw [← sizeL_at hnd hp hi]; exact hle i
          · rw [size_zero p hi]; exact Nat.zero_le _
        · obtain ⟨x, y, e⟩ := List.append_of_mem hp
          rw [e, namesL_append] at hlen
          simp only [namesL, List.length_append] at hlen
          omega
      refine ⟨_, rfl, a, _, 0, _, rfl, rfl, SqT.of ha, atI_nat (j := 0) rfl, rfl, _, rfl, ifDF (wk b) ?_⟩
      refine ⟨_, rfl, a, _, 0, _, rfl, rfl, SqT.of ha, atI_nat (j := 0) rfl, rfl, _, rfl, ifDF (wm b) ?_⟩
      obtain ⟨o1, o2, o3, o4, o5, o6⟩ := partok p0 List.mem_cons_self
      refine ⟨_, rfl, a, _, 1, _, rfl, rfl, SqT.of ha, atI_nat (j := 1) rfl, c2, _, 0, _, rfl, rfl, SqT.of hc2, atI_nat (j := 0) rfl, _, rfl, u0, l, p0, rfl, hu0, hl, o1, o2, o3, o4, o5, o6, hk1, hk8, hc60, hcap, fun D0 L0 H1 e1 nD0 hD0 hset0 => ?_⟩
      refine ⟨_, rfl, a, _, 1, _, rfl, rfl, SqT.of (e1 _ _ ha), atI_nat (j := 1) rfl, 1, rfl, c2, _, rfl, SqT.of (e1 _ _ hc2), ?_, fun pp hpp => ⟨pp, rfl, ⟨_, SqT.of upd_same⟩, ?_⟩⟩
      · intro z
        have := z.1
        rw [show (some (1 : Int)) = some ((1 : Nat) : Int) from rfl, HT.sIx_nat, List.length_cons] at this
        omega
      have ecut : cutV (u0 :: us) (some 1) none = us := by
        have := cut_from (u0 :: us) 1
        simpa using this
      rw [ecut]
      have e2 := same_upd (o := .tup us) hpp
      have hpp2 : upd H1 pp (.tup us) pp = some (.tup us) := upd_same
      have e12 := e1.trans e2
      have hD02 := e2 _ _ hD0
      generalize upd H1 pp (.tup us) = H2 at *
      refine for_tup (K := K) (a := pp) (xs := us) (fun j σ' H' => ∃ (Dj : Addr) (x2 : Option V) (Lj : List (List Int)), σ' = [some (.ref a), some (.ref l), x2, some (.ref Dj), none, none] ∧ (∀ b o, H b = some o → H' b = some o) ∧ H' pp = some (.tup us) ∧ H Dj = none ∧ H' Dj = some (.dT (dv Lj)) ∧ IsSet k (WaysL b (p0 :: rs.take j)) Lj)
        ⟨D0, none, L0, rfl, e12, hpp2, nD0, hD02, hset0.congr fun w => ?_⟩ (fun j σ' H' _ h => by obtain ⟨_, _, _, _, _, h, _⟩ := h; exact SqT.of h) ?_ ?_
      · cases b with
        | true => simp only [WaysL, List.take_zero, List.map_cons, List.map_nil]; exact sumS_one.symm
        | false => simp [WaysL]
      · rintro j u σ' H3 hj ⟨Dj, x2, Lj, rfl, e3, hpp3, nDj, hDj3, hset⟩
        obtain ⟨p, hp, hu⟩ := hus.lt hj
        have hpm : p ∈ p0 :: rs := List.mem_cons_of_mem _ (List.mem_of_getElem? hp)
        obtain ⟨o1, o2, o3, o4, o5, o6⟩ := partok p hpm
        have et : p0 :: rs.take (j + 1) = (p0 :: rs.take j) ++ [p] := by rw [List.take_add_one, hp]; rfl
        have esplit : (p0 :: rs.take j) ++ [p] ++ rs.drop (j + 1) = p0 :: rs := by
          rw [← et, List.cons_append, List.take_append_drop]
        refine ⟨_, rfl, a, _, 0, _, rfl, rfl, SqT.of (e3 _ _ ha), atI_nat (j := 0) rfl, rfl, _, rfl, ?_⟩
        rw [wa b]
        cases b with
        | true =>
          refine ifDT rfl ?_
          refine ⟨_, rfl, _, rfl, _, rfl, u, l, p, rfl, hu.keep (TK.of e3), e3 _ _ hl, o1, o2, o3, o4, o5, o6, hk1, hk8, hc60, hcap, fun D4 L4 H4 e4 nD4 hD4 hset4 => ?_⟩
          have hbx := hset.boxes hset4 (cap := cap) (fun x y hx hy i => by
            have : WaysL true ((p0 :: rs.take j) ++ [p]) (wadd x y) := by
              simp only [WaysL, List.map_append]
              exact sumS_append.mpr ⟨x, y, hx, sumS_one.mpr hy, rfl⟩
            exact waysL_le (qs := rs.drop (j + 1)) (by rw [esplit]; exact hnd) (by rw [esplit]; exact hle) this i)
          refine ⟨Dj, D4, Lj, L4, rfl, e4 _ _ hDj3, hD4, hset.lens, hset4.lens, hbx, hcap, hk8, fun D5 L5 H5 e5 nD5 hD5 hLn hLm => ?_⟩
          have eA : Same H H5 := (show Same H H3 from e3).trans (e4.trans e5)
          refine ⟨D5, _, L5, rfl, eA, e5 _ _ (e4 _ _ hpp3), none_of (Same.trans (show Same H H3 from e3) e4) nD5, hD5, (hset.sums hset4 hLn hLm).congr fun w => ?_⟩
          · rw [et]
            simp only [WaysL, List.map_append, List.map_cons, List.map_nil]
            rw [← List.map_cons, sumS_append]
            simp only [sumS_one]
        | false =>
          refine ifDF rfl ?_
          refine ⟨_, rfl, .inr (.inr (.inl ⟨rfl, .inr ⟨_, hDj3⟩⟩)), ?_⟩
          refine ⟨_, rfl, _, rfl, u, l, p, rfl, hu.keep (TK.of e3), e3 _ _ hl, o1, o2, o3, o4, o5, o6, hk1, hk8, hc60, hcap, fun D4 L4 H4 e4 nD4 hD4 hset4 => ?_⟩
          have n4 : Dj ≠ D4 := ne_of_none hDj3 nD4
          obtain ⟨L5, hmg, hLn, hLm⟩ := dv_merge Lj hset.1 L4
          refine ⟨Dj, D4, dv Lj, dv L4, rfl, rfl, n4, e4 _ _ hDj3, hD4, ?_, ?_, ?_⟩
          · intro z
            have hz : Lj = [] := by simpa [dv] using z
            obtain ⟨w, hw⟩ := way_some p0 (partok p0 List.mem_cons_self).2.1 (partok p0 List.mem_cons_self).2.2.1
            have : vec k w ∈ Lj := (hset.2 _).mpr ⟨w, ⟨p0, List.mem_cons_self, hw⟩, rfl⟩
            rw [hz] at this
            cases this
          · have hnd2 : (namesL ((p0 :: rs.take j) ++ ([p] ++ rs.drop (j + 1)))).Nodup := by rw [← List.append_assoc, esplit]; exact hnd
            have hle2 : ∀ i, sizeL ((p0 :: rs.take j) ++ ([p] ++ rs.drop (j + 1))) i ≤ cap := by rw [← List.append_assoc, esplit]; exact hle
            have hu2 := union_len (cap := cap) (z := vec k wz) hset.1 hset4.1 (fun t h1 h2 => by
              obtain ⟨w1, ⟨p', hp', hw1⟩, rfl⟩ := (hset.2 t).mp h1
              obtain ⟨w2, hw2', e⟩ := (hset4.2 _).mp h2
              unfold vec
              refine List.map_congr_left fun i hi => ?_
              have e' : w1 i = w2 i := by
                have := congrArg (fun l => l[i]?) e
                simp only [vec, List.getElem?_map] at this
                rw [List.getElem?_range (by simpa using hi)] at this
                exact Int.ofNat.inj (Option.some.inj this)
              have : w1 i = 0 := by
                by_cases hip : i ∈ p.names
                · refine way_out p' (fun hi' => ?_) w1 hw1
                  rw [namesL_append] at hnd2
                  exact (List.nodup_append.mp hnd2).2.2 i (namesL_mem.mpr ⟨p', hp', hi'⟩) i (namesL_mem.mpr ⟨p, by simp, hip⟩) rfl
                · rw [e']; exact way_out p hip w2 hw2'
              rw [this]
              rfl) (fun t ht => by
                obtain ⟨w, hw, rfl⟩ := (hset.2 t).mp ht
                exact box_vec fun i => waysL_le hnd2 hle2 hw i) (fun t ht => by
                obtain ⟨w, hw, rfl⟩ := (hset4.2 t).mp ht
                exact box_vec fun i => Nat.le_trans (way_le p o3 w hw) (o5 i))
            rw [show (dv Lj).length = Lj.length by simp [dv], show (dv L4).length = L4.length by simp [dv], sizeLine_eq]
            omega
          · rw [hmg]
            refine ⟨Dj, _, L5, rfl, ?_, ?_, nDj, upd_same, hLn, fun t => ?_⟩
            · intro b o e
              rw [upd_ne (ne_of_none e nDj)]
              exact e4 _ _ (e3 _ _ e)
            · rw [upd_ne (ne_of hpp3 hDj3 (fun z => by cases z))]
              exact e4 _ _ hpp3
            · rw [hLm, hset.2, hset4.2, et]
              simp only [WaysL]
              constructor
              · rintro (⟨w, ⟨p', hp', hw⟩, e⟩ | ⟨w, hw, e⟩)
                · exact ⟨w, ⟨p', by simp only [List.mem_append]; exact .inl hp', hw⟩, e⟩
                · exact ⟨w, ⟨p, by simp, hw⟩, e⟩
              · rintro ⟨w, ⟨p', hp', hw⟩, e⟩
                rw [List.mem_append, List.mem_singleton] at hp'
                rcases hp' with hp' | rfl
                · exact .inl ⟨w, ⟨p', hp', hw⟩, e⟩
                · exact .inr ⟨w, hw, e⟩
      · rintro σ' H3 ⟨Dj, x2, Lj, rfl, e3, hpp3, nDj, hDj3, hset⟩
        rw [hus.length, List.take_length] at hset
        exact ⟨_, rfl, q Dj Lj H3 e3 nDj hDj3 (hset.congr fun w => (waysL_node b _ w).symm)⟩
end
end Nf

/-! ## L12 -/
set_option Elab.async false
set_option linter.all false
set_option maxRecDepth 100000
set_option maxHeartbeats 4000000
/-! data compared; least -/
namespace Nf
open PySem PySem.Spec PyProof.Rows L2
theorem eqvAll_map {α : Type} (enc : α → PyData) (h : ∀ a b, PyData.eqv (enc a) (enc b) = true ↔ a = b) : ∀ as bs : List α, PyData.eqvAll (as.map enc) (bs.map enc) = true ↔ as = bs
  | [], [] => by simp [PyData.eqvAll]
  | [], _ :: _ => by simp [PyData.eqvAll]
  | _ :: _, [] => by simp [PyData.eqvAll]
  | a :: as, b :: bs => by simp [PyData.eqvAll, h a b, eqvAll_map enc h as bs]
theorem eqvAll_on {α : Type} (enc : α → PyData) : ∀ as bs : List α, (∀ a ∈ as, ∀ b ∈ bs, PyData.eqv (enc a) (enc b) = true ↔ a = b) → (PyData.eqvAll (as.map enc) (bs.map enc) = true ↔ as = bs)
  | [], [], _ => by simp [PyData.eqvAll]
  | [], _ :: _, _ => by simp [PyData.eqvAll]
  | _ :: _, [], _ => by simp [PyData.eqvAll]
  | a :: as, b :: bs, h => by
    have h1 := h a List.mem_cons_self b List.mem_cons_self
    have h2 := eqvAll_on enc as bs fun x hx y hy => h x (List.mem_cons_of_mem _ hx) y (List.mem_cons_of_mem _ hy)
    simp [PyData.eqvAll, h1, h2]
theorem eqv_int (i j : Int) : PyData.eqv (.int i) (.int j) = true ↔ i = j := by simp [PyData.eqv]
theorem eqv_str (i j : Str) : PyData.eqv (.str i) (.str j) = true ↔ i = j := by simp [PyData.eqv]
abbrev dI (t : List Int) : PyData := .tuple (t.map .int)
theorem eqv_dI (s t : List Int) : PyData.eqv (dI s) (dI t) = true ↔ s = t := by
  simp only [PyData.eqv]
  exact eqvAll_map PyData.int eqv_int s t
theorem lay_all {α : Type} (enc : α → PyData) (h : ∀ a, PyData.canLay0 (enc a) = true) : ∀ as : List α, PyData.canLayAll0 (as.map enc) = true
  | [] => rfl
  | a :: as => by simp [PyData.canLayAll0, h a, lay_all enc h as]
theorem lay_on {α : Type} (enc : α → PyData) : ∀ as : List α, (∀ a ∈ as, PyData.canLay0 (enc a) = true) → PyData.canLayAll0 (as.map enc) = true
  | [], _ => rfl
  | a :: as, h => by simp [PyData.canLayAll0, h a List.mem_cons_self, lay_on enc as fun x hx => h x (List.mem_cons_of_mem _ hx)]
theorem depth_on {α : Type} (enc : α → PyData) (n : Nat) : ∀ as : List α, (∀ a ∈ as, PyData.depth (enc a) ≤ n) → PyData.depthAll (as.map enc) ≤ n
  | [], _ => Nat.zero_le _
  | a :: as, h => by
    simp only [List.map_cons, PyData.depthAll]
    exact Nat.max_le.mpr ⟨h a List.mem_cons_self, depth_on enc n as fun x hx => h x (List.mem_cons_of_mem _ hx)⟩
theorem lay_dI (t : List Int) : PyData.canLay0 (dI t) = true := by
  simp only [PyData.canLay0]
  exact lay_all PyData.int (fun _ => rfl) t
theorem depth_dI (t : List Int) : PyData.depth (dI t) ≤ 1 := by
  simp only [PyData.depth]
  have := depth_on PyData.int 0 t fun _ _ => Nat.le_refl _
  omega
theorem shaped_of {d : PyData} (h1 : PyData.canLay0 d = true) (h2 : PyData.depth d ≤ 64) : SeqAt.shaped d = true := by
  show (PyData.canLay0 d && decide (PyData.depth d ≤ 64)) = true
  rw [h1, decide_eq_true h2]
  rfl
theorem shaped_dIs (L : List (List Int)) : SeqAt.shaped (.list (L.map dI)) = true := by
  have h1 := lay_all dI lay_dI L
  have h2 := depth_on dI 1 L fun t _ => depth_dI t
  exact shaped_of h1 (by show PyData.depthAll _ + 1 ≤ 64; omega)
theorem shaped_dI (t : List Int) : SeqAt.shaped (dI t) = true := by
  have h2 := depth_dI t
  exact shaped_of (lay_dI t) (by omega)
theorem dp_ints (K : PySem.W.Frag) (H : Hp) : ∀ t : List Int, DpAll K H (t.map V.int) (t.map PyData.int)
  | [] => .nil
  | n :: r => .cons (.int _) (dp_ints K H r)
theorem dp_tups {K : PySem.W.Frag} {H : Hp} : ∀ {ys : List V} {L : List (List Int)}, All2 (IsT K H) ys L → DpAll K H ys (L.map dI)
  | _, _, .nil => .nil
  | _, _, .cons ⟨t, e, h⟩ r => .cons (by rw [e]; exact .tup h (dp_ints K H _)) (dp_tups r)
theorem strok_wd {lo hi : Nat} {z : Str} (h : Wd lo hi z) : PyData.canLay0 (.str z) = true := by
  have hb : ∀ c ∈ ltrs.cps.toList, c < 1114112 := by decide +kernel
  have : z.cps.all (· < 0x110000) = true := by
    rw [← Array.all_toList, List.all_eq_true]
    intro c hc
    exact decide_eq_true (hb c (h.al c hc))
  exact this
theorem Nm.wd {nm : Nat → Str} {k : Nat} (N : Nm nm k) {i : Nat} (h : i < k) : Wd 1 5 (nm i) := ⟨(N.ok i h).1, (N.ok i h).2.1, (N.ok i h).2.2⟩
theorem shaped_strs {nm : Nat → Str} {k : Nat} (N : Nm nm k) {l : List Nat} (h : ∀ i ∈ l, i < k) : SeqAt.shaped (.list ((l.map nm).map .str)) = true := by
  rw [List.map_map]
  have h1 := lay_on (PyData.str ∘ nm) l fun i hi => strok_wd (N.wd (h i hi))
  have h2 := depth_on (PyData.str ∘ nm) 0 l fun i _ => Nat.le_refl _
  exact shaped_of h1 (by show PyData.depthAll _ + 1 ≤ 64; omega)
theorem shaped_strsT {nm : Nat → Str} {k : Nat} (N : Nm nm k) {l : List Nat} (h : ∀ i ∈ l, i < k) : SeqAt.shaped (.tuple ((l.map nm).map .str)) = true := by
  rw [List.map_map]
  have h1 := lay_on (PyData.str ∘ nm) l fun i hi => strok_wd (N.wd (h i hi))
  have h2 := depth_on (PyData.str ∘ nm) 0 l fun i _ => Nat.le_refl _
  exact shaped_of h1 (by show PyData.depthAll _ + 1 ≤ 64; omega)
/-! ### formulas as data -/
mutual
def encF (nm : Nat → Str) : F → PyData
  | .kind i => .tuple [.str "kind", .str (nm i)]
  | .many n f => .tuple [.str "many", .int (n : Int), encF nm f]
  | .node b ps => .tuple [.str (word b), .tuple (encL nm ps)]
def encL (nm : Nat → Str) : List F → List PyData
  | [] => []
  | p :: ps => encF nm p :: encL nm ps
end
theorem encL_map (nm : Nat → Str) : ∀ ps : List F, encL nm ps = ps.map (encF nm)
  | [] => rfl
  | p :: ps => by simp only [encL, List.map_cons, encL_map nm ps]
theorem encF_eqv {nm : Nat → Str} {k : Nat} (N : Nm nm k) : ∀ f : F, (∀ i ∈ f.names, i < k) → ∀ g : F, (∀ i ∈ g.names, i < k) → (PyData.eqv (encF nm f) (encF nm g) = true ↔ f = g) := by
  have hkm : ("kind" : Str) ≠ "many" := many_kind.symm
  refine F.ind (fun i hf g hg => ?_) (fun n f ih hf g hg => ?_) (fun b ps ih hf g hg => ?_)
  · cases g with
    | kind j =>
      simp only [encF, PyData.eqv, PyData.eqvAll, Bool.and_true, beq_self_eq_true, Bool.true_and, beq_iff_eq, F.kind.injEq]
      exact ⟨fun e => N.ne (hf i (by simp [F.names])) (hg j (by simp [F.names])) e, fun e => by rw [e]⟩
    | many m g => simp [encF, PyData.eqv, PyData.eqvAll]
    | node c qs => simp [encF, PyData.eqv, PyData.eqvAll]
  · cases g with
    | kind j => simp [encF, PyData.eqv, PyData.eqvAll]
    | many m g =>
      have := ih (fun i hi => hf i (by simpa only [F.names] using hi)) g (fun i hi => hg i (by simpa only [F.names] using hi))
      simp only [encF, PyData.eqv, PyData.eqvAll, Bool.and_true, beq_self_eq_true, Bool.true_and, Bool.and_eq_true, beq_iff_eq, this, F.many.injEq, Int.natCast_inj]
    | node c qs => simp [encF, PyData.eqv, PyData.eqvAll]
  · cases g with
    | kind j => simp [encF, PyData.eqv, PyData.eqvAll]
    | many m g => simp [encF, PyData.eqv, PyData.eqvAll]
    | node c qs =>
      simp only [F.names] at hf hg
      have := eqvAll_on (encF nm) ps qs fun a ha b hb => ih a ha (fun i hi => hf i (namesL_mem.mpr ⟨a, ha, hi⟩)) b (fun i hi => hg i (namesL_mem.mpr ⟨b, hb, hi⟩))
      simp only [encF, PyData.eqv, PyData.eqvAll, Bool.and_true, Bool.and_eq_true, beq_iff_eq, encL_map, this, F.node.injEq]
      exact ⟨fun ⟨e1, e2⟩ => ⟨word_inj e1, e2⟩, fun ⟨e1, e2⟩ => ⟨by rw [e1], e2⟩⟩
theorem encF_lay {nm : Nat → Str} {k : Nat} (N : Nm nm k) : ∀ f : F, (∀ i ∈ f.names, i < k) → PyData.canLay0 (encF nm f) = true ∧ PyData.depth (encF nm f) ≤ 2 * dep f + 1 := by
  have s1 : PyData.canLay0 (.str "kind") = true := by decide +kernel
  have s2 : PyData.canLay0 (.str "many") = true := by decide +kernel
  have s3 : ∀ b, PyData.canLay0 (.str (word b)) = true := fun b => by cases b <;> decide +kernel
  refine F.ind (fun i hf => ?_) (fun n f ih hf => ?_) (fun b ps ih hf => ?_)
  · have s4 := strok_wd (N.wd (hf i (by simp [F.names])))
    refine ⟨?_, ?_⟩
    · simp only [encF]
      rw [PyData.canLay0, PyData.canLayAll0, PyData.canLayAll0, PyData.canLayAll0, s1, s4]; rfl
    · simp [encF, PyData.depth, PyData.depthAll]
  · have := ih (fun i hi => hf i (by simpa only [F.names] using hi))
    have s4 : PyData.canLay0 (.int (n : Int)) = true := rfl
    refine ⟨?_, ?_⟩
    · simp only [encF]
      rw [PyData.canLay0, PyData.canLayAll0, PyData.canLayAll0, PyData.canLayAll0, PyData.canLayAll0, s2, s4, this.1]; rfl
    · simp only [encF, PyData.depth, PyData.depthAll, dep]; omega
  · simp only [F.names] at hf
    have h1 := lay_on (encF nm) ps fun p hp => (ih p hp fun i hi => hf i (namesL_mem.mpr ⟨p, hp, hi⟩)).1
    have h2 := depth_on (encF nm) (2 * depL ps + 1) ps fun p hp => by
      have := (ih p hp fun i hi => hf i (namesL_mem.mpr ⟨p, hp, hi⟩)).2
      have := dep_part hp
      omega
    refine ⟨?_, ?_⟩
    · simp only [encF, encL_map]
      have s4 : PyData.canLay0 (.tuple (ps.map (encF nm))) = true := by rw [PyData.canLay0]; exact h1
      rw [PyData.canLay0, PyData.canLayAll0, PyData.canLayAll0, PyData.canLayAll0, s3, s4]; rfl
    · simp only [encF, encL_map, PyData.depth, PyData.depthAll, dep]; omega
theorem encF_shaped {nm : Nat → Str} {k : Nat} (N : Nm nm k) {f : F} (h : ∀ i ∈ f.names, i < k) (hd : dep f ≤ 31) : SeqAt.shaped (encF nm f) = true := by
  obtain ⟨h1, h2⟩ := encF_lay N f h
  exact shaped_of h1 (by omega)
theorem FV.dp {K : PySem.W.Frag} {nm : Nat → Str} {H : Hp} : ∀ (f : F) (v : V), FV nm H f v → Dp K H v (encF nm f) := by
  refine F.ind (fun i v h => ?_) (fun n f ih v h => ?_) (fun b ps ih v h => ?_)
  · simp only [FV] at h
    obtain ⟨a, rfl, h⟩ := h
    simp only [encF]
    exact .tup (SqT.of h) (.cons (.str _) (.cons (.str _) .nil))
  · simp only [FV] at h
    obtain ⟨a, u, rfl, h, hu⟩ := h
    simp only [encF]
    exact .tup (SqT.of h) (.cons (.str _) (.cons (.int _) (.cons (ih u hu) .nil)))
  · simp only [FV] at h
    obtain ⟨a, c, us, rfl, h, hc, hus⟩ := h
    simp only [encF, encL_map]
    have : ∀ (qs : List F) (us : List V), (∀ q ∈ qs, q ∈ ps) → FVs nm H qs us → DpAll K H us (qs.map (encF nm)) := by
      intro qs
      induction qs with
      | nil => intro us _ h; simp only [FVs] at h; subst h; exact .nil
      | cons q r ihr =>
        intro us hs h
        simp only [FVs] at h
        obtain ⟨u, r', rfl, h1, h2⟩ := h
        exact .cons (ih q (hs q List.mem_cons_self) u h1) (ihr r' (fun s hs' => hs s (List.mem_cons_of_mem _ hs')) h2)
    exact .tup (SqT.of h) (.cons (.str _) (.cons (.tup (SqT.of hc) (this ps us (fun _ h => h) hus)) .nil))
/-! ### least -/
theorem least_node {b : Bool} {p : F} {rs : List F} (hw : ∀ q ∈ p :: rs, q.names ≠ []) (hp : ((p :: rs).map least).Pairwise (· < ·)) : least (.node b (p :: rs)) = least p := by
  show lmin (F.node b (p :: rs)).names = lmin p.names
  have hm : lmin p.names ∈ p.names := lmin_mem (hw p List.mem_cons_self)
  refine lmin_eq (by simp only [F.names, namesL, List.mem_append]; exact .inl hm) fun y hy => ?_
  simp only [F.names] at hy
  obtain ⟨q, hq, hyq⟩ := namesL_mem.mp hy
  rcases List.mem_cons.mp hq with rfl | hq
  · exact lmin_le hyq
  · rw [List.map_cons, List.pairwise_cons] at hp
    have h1 : least p < least q := hp.1 _ (List.mem_map_of_mem hq)
    have h2 : least q ≤ y := lmin_le hyq
    have h3 : least p = lmin p.names := rfl
    omega
theorem sc_law_least : FnScope ["_law_formula_here", "_law_firsts", "_law_part", "_law_first"] ["_law_formula_here"] (defScope s_law_least) := ⟨rfl, rfl, rfl, by decide +kernel, rfl, by decide +kernel, by decide +kernel⟩
def spLeast (nm : Nat → Str) (k n : Nat) : Sp := fun vs H Q _ => ∃ (v : V) (f : F), vs = [v] ∧ FV nm H f v ∧ dep f < n ∧ Norm f ∧ (∀ i ∈ f.names, i < k) ∧ f.names.length ≤ 60 ∧ ∀ (H' : Hp), Same H H' → Q (.str (nm (least f))) H'
section
variable {P : Program} {w : World} {K : PySem.W.Frag} {mg : Str → Option Value} {base : Heap} {nm : Nat → Str}
theorem ok_law_least {k : Nat} (T : Txt K mg) (N : Nm nm k) : ∀ n, Kept P w K mg base n "_law_least" ["_law_formula_here"] (spLeast nm k n)
  | 0 => by
    obtain ⟨fd, FD⟩ := T.f_law_least
    exact kept_zero FD T.m_law_least (fun _ _ _ _ _ _ us hl => match us, hl with | [_], _ => rfl) fun vs H Q E h => by obtain ⟨_, _, _, _, h, _⟩ := h; omega
  | n + 1 => by
    have G := ok_law_least T N n
    obtain ⟨fd, FD⟩ := T.f_law_least
    refine kept_of FD T.m_law_least sc_law_least (fun _ _ _ _ _ _ us hl => match us, hl with | [_], _ => rfl) (fun vs H Q E h => ?_) (fun cdv A outer s H vs Q E hr h => ?_)
    · obtain ⟨v, f, rfl, _⟩ := h; rfl
    obtain ⟨v, f, rfl, hf, hd', hnm, hlt, hlen, q⟩ := h
    have nd := sc_law_least.nd
    refine ⟨_, (pss_cons (ps_if (pt_cmpR op_eq (pe_ix ix_tup (pv 0) pe_int (fun _ _ => rfl)) pe_str (nomark _)) (pss_one (ps_ret (pe_ix ix_tup (pv 0) pe_int (fun _ _ => rfl)))) pss_nil)
    (pss_cons (ps_if (pt_cmpR op_eq (pe_ix ix_tup (pv 0) pe_int (fun _ _ => rfl)) pe_str (nomark _)) (pss_one (ps_ret (pe_ifExp (pt_cmpR op_in_seq (pe_ix ix_tup (pe_ix ix_tup (pv 0) pe_int (fun _ _ => rfl)) pe_int (fun _ _ => rfl)) (pe_lst (pa_cons pe_str (pa_cons pe_str pa_nil))) rfl) (pe_kc G hr rfl (pa_cons (pe_ix ix_tup (pv 0) pe_int (fun _ _ => rfl)) pa_nil)) pe_non))) pss_nil)
    (pss_cons (ps_set (i := 1) nd rfl (Or.inl rfl) (pe_lst pa_nil))
    (pss_cons (ps_for PassesOwn.never rfl (pi_tup (pe_ix ix_tup (pv 0) pe_int (fun _ _ => rfl))) (pg_name (i := 2) nd rfl (Or.inl rfl))
      (pss_cons (ps_set (i := 3) nd rfl (Or.inl rfl) (pe_kc G hr rfl (pa_cons (pv 2) pa_nil)))
    (pss_cons (ps_if (PW.pt (pw_or (pt_cmpR op_eq (pe_ix ix_tup (pv 2) pe_int (fun _ _ => rfl)) (pe_ix ix_tup (pv 0) pe_int (fun _ _ => rfl)) (nomark _)) (pw_or1 (pt_cmpR op_isN (pv 3) pe_non (nomark _))))) (pss_one (ps_ret pe_non)) pss_nil)
    (pss_one (ps_expr (pe_bm PySem.F.plainAttrs_list PySem.F.slot_list_append PySem.F.type_list_append mt_append (pv 1) (pa_cons (pv 3) pa_nil)))))))
    (pss_one (ps_ret (pe_ifExp (pt_cmpR (op_eqD hr.units) (pv 1) (pe_callB cr_sortedS (by rfl) T.z_sorted (by decide +kernel) (pa_cons (pv 1) pa_nil)) (nomark _)) (pe_ix ix_list (pv 1) pe_int (fun _ _ => rfl)) pe_non))))))), ?_⟩
    cases f with
    | kind i =>
      simp only [FV] at hf
      obtain ⟨a, rfl, ha⟩ := hf
      refine ⟨_, rfl, a, _, 0, _, rfl, rfl, SqT.of ha, atI_nat (j := 0) rfl, rfl, _, rfl, ifDT kk ?_⟩
      refine ⟨_, rfl, a, _, 1, _, rfl, rfl, SqT.of ha, atI_nat (j := 1) rfl, q H fun _ _ e => e⟩
    | many m f =>
      simp only [FV] at hf
      obtain ⟨a, u, rfl, ha, hu⟩ := hf
      simp only [dep] at hd'
      simp only [Norm] at hnm
      simp only [F.names] at hlt hlen
      refine ⟨_, rfl, a, _, 0, _, rfl, rfl, SqT.of ha, atI_nat (j := 0) rfl, rfl, _, rfl, ifDF mk_ ?_⟩
      refine ⟨_, rfl, a, _, 0, _, rfl, rfl, SqT.of ha, atI_nat (j := 0) rfl, rfl, _, rfl, ifDT mm ?_⟩
      obtain ⟨ua, ur, rfl, hua⟩ := hu.head
      refine ⟨_, rfl, a, _, 2, _, rfl, rfl, SqT.of ha, atI_nat (j := 2) rfl, ua, _, 0, _, rfl, rfl, SqT.of hua, atI_nat (j := 0) rfl, by show 2 ≤ sizeLine; decide, fun l hl => ?_⟩
      have e1 := same_upd (o := .lst [.str "kind", .str "or"]) hl
      have hin : inV (.str (hd f)) [.str "kind", .str "or"] = true := by
        cases f with
        | kind i => show inV (.str "kind") [.str "kind", .str "or"] = true; decide +kernel
        | many x g => exact absurd hnm.2.2.1 id
        | node b ps =>
          cases b with
          | true => exact absurd hnm.2.1 (by simp [isNode])
          | false => show inV (.str (word false)) [.str "kind", .str "or"] = true; decide +kernel
      refine ⟨l, _, rfl, .inl (SqL.of upd_same), rfl, rfl, true, ?_, ifDT rfl ?_⟩
      · show V.bl (inV (.str (hd f)) [.str "kind", .str "or"]) = V.bl true
        rw [hin]
      refine ⟨_, rfl, a, _, 2, _, rfl, rfl, SqT.of (e1 _ _ ha), atI_nat (j := 2) rfl, .ref ua, f, rfl, hu.keep (TK.of e1), by omega, hnm.2.2.2, hlt, hlen, fun H2 e2 => ?_⟩
      have := q H2 (e1.trans e2)
      exact this
    | node b ps =>
      simp only [FV] at hf
      obtain ⟨a, c2, us, rfl, ha, hc2, hus⟩ := hf
      simp only [dep] at hd'
      have hwf : Wf (.node b ps) := Norm.wf _ hnm
      simp only [Norm] at hnm
      simp only [Wf] at hwf
      simp only [F.names] at hlt hlen
      obtain ⟨n2, npw, nl⟩ := hnm
      have hnl := normL_iff.mp nl
      have hw2 := wfL_iff.mp hwf.2
      have hne : ∀ p ∈ ps, p.names ≠ [] := fun p hp => names_ne p (hw2 p hp)
      have hpl := len_names ps fun p hp => names_pos p (hw2 p hp)
      refine ⟨_, rfl, a, _, 0, _, rfl, rfl, SqT.of ha, atI_nat (j := 0) rfl, rfl, _, rfl, ifDF (wk b) ?_⟩
      refine ⟨_, rfl, a, _, 0, _, rfl, rfl, SqT.of ha, atI_nat (j := 0) rfl, rfl, _, rfl, ifDF (wm b) ?_⟩
      refine ⟨by show 0 ≤ sizeLine; decide, fun D hD => ?_⟩
      have e1 : Same H (upd H D (.lst [])) := same_upd hD
      refine ⟨_, rfl, a, _, 1, _, rfl, rfl, SqT.of (e1 _ _ ha), atI_nat (j := 1) rfl, c2, rfl, ⟨_, SqT.of (e1 _ _ hc2)⟩, ?_⟩
      refine for_tup (K := K) (a := c2) (xs := us) (fun i σ' H' => (∃ x2 x3, σ' = [some (.ref a), some (.ref D), x2, x3]) ∧ Same H H' ∧ H' D = some (.lst (nv nm ((ps.take i).map least)))) ⟨⟨none, none, rfl⟩, e1, by rw [upd_same]; rfl⟩ (fun i σ' H' _ h => SqT.of (h.2.1 _ _ hc2)) ?_ ?_
      · rintro i u σ' H1 hi ⟨⟨x2, x3, rfl⟩, e2, hD1⟩
        obtain ⟨p, hp, hu⟩ := hus.lt hi
        have hpm := List.mem_of_getElem? hp
        have hdp := dep_part hpm
        have hu1 := hu.keep (TK.of e2)
        have hpk : ∀ i ∈ p.names, i < k := fun i hi => hlt i (namesL_mem.mpr ⟨p, hpm, hi⟩)
        have hsh := part_short n2 (fun p hp => names_pos p (hw2 p hp)) p hpm
        refine ⟨_, rfl, u, p, rfl, hu1, by omega, (hnl p hpm).2, hpk, by omega, fun H2 e3 => ?_⟩
        have hu2 := hu1.keep (TK.of e3)
        obtain ⟨ua, ur, rfl, hua⟩ := hu2.head
        refine ⟨_, rfl, ua, _, 0, _, rfl, rfl, SqT.of hua, atI_nat (j := 0) rfl, _, rfl, a, _, 0, _, rfl, rfl, SqT.of ((e2.trans e3) _ _ ha), atI_nat (j := 0) rfl, rfl, decide (V.str (hd p) = V.str (word b)), rfl, ?_⟩
        have hfalse : decide (V.str (hd p) = V.str (word b)) = false := by
          have h1 := (hnl p hpm).1
          cases p with
          | kind x => exact kind_word b
          | many x g => exact many_word b
          | node c qs => exact (word_eq b c).trans h1
        refine ifDF hfalse ?_
        refine ⟨_, rfl, rfl, _, rfl, ifDF (decide_eq_false (fun z => nomatch z)) ?_⟩
        refine ⟨_, rfl, .inl ⟨rfl, _, SqL.of (e3 _ _ hD1)⟩, _, rfl, D, _, _, rfl, rfl, e3 _ _ hD1, ?_, ⟨_, _, rfl⟩, same_updN (e2.trans e3) hD, ?_⟩
        · refine lt_line ?_
          simp only [nv, List.length_map, List.length_take]
          omega
        · rw [upd_same, List.take_add_one, hp]
          simp [nv]
      · rintro σ' H1 ⟨⟨x2, x3, rfl⟩, e2, hD1⟩
        rw [hus.length, List.take_length, nv_str] at hD1
        have hk : ∀ i ∈ ps.map least, i < k := fun i hi => by
          obtain ⟨p, hp, rfl⟩ := List.mem_map.mp hi
          exact hlt _ (namesL_mem.mpr ⟨p, hp, lmin_mem (hne p hp)⟩)
        refine ⟨_, rfl, _, rfl, D, _, rfl, SqL.of hD1, by rw [List.length_map, List.length_map]; omega, fun ys p hy hs np => ?_⟩
        have ey := nm_sorted N hy hs (List.Perm.refl _) npw hk
        subst ey
        have e3 := same_upd (o := .lst (((ps.map least).map nm).map V.str)) np
        refine ⟨.list _, .list _, .lst (SqL.of (e3 _ _ hD1)) (dpAll_strs K _ _), .lst (SqL.of upd_same) (dpAll_strs K _ _), shaped_strs N hk, shaped_strs N hk, true, ?_, ifDT rfl ?_⟩
        · congr 1
          simp only [PyData.eqv]
          exact (eqvAll_map PyData.str eqv_str _ _).mpr rfl
        · match ps, n2, hD1, npw, hne with
          | p0 :: rs, _, hD1, npw, hne =>
            refine ⟨_, rfl, D, _, 0, _, rfl, rfl, SqL.of (e3 _ _ hD1), atI_nat (j := 0) rfl, ?_⟩
            have := q _ (e2.trans e3)
            rw [least_node hne npw] at this
            exact this
end
end Nf

/-! ## L13 -/
set_option Elab.async false
set_option linter.all false
set_option maxRecDepth 100000
set_option maxHeartbeats 4000000
/-! met -/
namespace Nf
open PySem PySem.Spec PyProof.Rows L2
theorem u65 {k : Nat} {A : Around} (r : Room k A) : A.units + 65 < cLine := by have := r.un; omega
theorem vec_at {k : Nat} {w v : W} (e : vec k w = vec k v) {i : Nat} (h : i < k) : w i = v i := by
  have := congrArg (fun l => l[i]?) e
  simp only [vec, List.getElem?_map] at this
  rw [List.getElem?_range h] at this
  exact Int.ofNat.inj (Option.some.inj this)
theorem vec_get {k : Nat} (w : W) {i : Nat} (h : i < k) : ((vec k w).map V.int)[i]? = some (V.int (w i : Int)) := by
  rw [List.getElem?_map]
  simp only [vec, List.getElem?_map]
  rw [List.getElem?_range h]
  rfl
theorem any_dI (ps : List (List Int)) (s : List Int) : ((ps.map dI).any fun z => PyData.eqv z (dI s)) = decide (s ∈ ps) := by
  induction ps with
  | nil => simp
  | cons x ps ih =>
    simp only [List.map_cons, List.any_cons, ih]
    by_cases h : s = x
    · subst h
      have : PyData.eqv (dI s) (dI s) = true := (eqv_dI s s).mpr rfl
      simp [this]
    · have : PyData.eqv (dI x) (dI s) = false := by
        cases e : PyData.eqv (dI x) (dI s) with
        | false => rfl
        | true => exact absurd ((eqv_dI x s).mp e).symm h
      simp [this, h]
/-- a point of the line -/
def pt (p q m t : Nat) : List Int := [((t * p / m : Nat) : Int), (((m - t) * q / m : Nat) : Int)]
theorem perm_of_mem {α : Type} [DecidableEq α] {l m : List α} (hl : l.Nodup) (hm : m.Nodup) (h : ∀ x, x ∈ l ↔ x ∈ m) : l.Perm m := by
  induction l generalizing m with
  | nil =>
    have : m = [] := List.eq_nil_iff_forall_not_mem.mpr fun x hx => by have := (h x).mpr hx; cases this
    subst this
    exact .nil
  | cons a l ih =>
    have ha : a ∈ m := (h a).mp List.mem_cons_self
    rw [List.nodup_cons] at hl
    have := ih (m := m.erase a) hl.2 (hm.erase a) fun x => by
      by_cases hx : x = a
      · subst hx
        exact ⟨fun z => absurd z hl.1, fun z => absurd z hm.not_mem_erase⟩
      · rw [List.mem_erase_of_ne hx, ← h x, List.mem_cons]
        exact ⟨.inr, fun z => z.resolve_left hx⟩
    exact (this.cons a).trans (List.perm_cons_erase ha).symm
theorem pt_lt {p q m s t : Nat} (hm : 0 < m) (hp : m ∣ p) (hp0 : 0 < p) (h : s < t) : pt p q m s < pt p q m t := by
  obtain ⟨p', rfl⟩ := hp
  have hp' : 0 < p' := Nat.pos_of_mul_pos_left hp0 |> fun _ => by
    rcases Nat.eq_zero_or_pos p' with z | z
    · subst z; simp at hp0
    · exact z
  have e : ∀ t, t * (m * p') / m = t * p' := fun t => by rw [Nat.mul_left_comm, Nat.mul_div_cancel_left _ hm]
  unfold pt
  rw [e, e]
  have : s * p' < t * p' := Nat.mul_lt_mul_of_pos_right h hp'
  refine List.Lex.rel ?_
  omega
theorem sort_pts {p q m : Nat} (hm : 0 < m) (hp : m ∣ p) (hp0 : 0 < p) {ps : List (List Int)} (hn : ps.Nodup) (h : ∀ s, s ∈ ps ↔ ∃ t, t ≤ m ∧ s = pt p q m t) :
    ps.length = m + 1 ∧ ps.mergeSort leI = (List.range (m + 1)).map (pt p q m) := by
  have hn2 : ((List.range (m + 1)).map (pt p q m)).Nodup := by
    refine List.pairwise_map.mpr (List.pairwise_lt_range.imp fun h z => ?_)
    have := pt_lt (q := q) hm hp hp0 h
    rw [z] at this
    exact List.lt_irrefl _ this
  have hpm : ps.Perm ((List.range (m + 1)).map (pt p q m)) := perm_of_mem hn hn2 fun s => by
    rw [h]
    simp only [List.mem_map, List.mem_range]
    exact ⟨fun ⟨t, a, b⟩ => ⟨t, by omega, b.symm⟩, fun ⟨t, a, b⟩ => ⟨t, by omega, b.symm⟩⟩
  refine ⟨by rw [hpm.length_eq]; simp, ?_⟩
  refine perm_sorted_eq (r := fun a b : List Int => leI a b = true) (fun a b h1 h2 => ?_) ((List.mergeSort_perm _ _).trans hpm) (List.pairwise_mergeSort (fun a b c h1 h2 => ?_) (fun a b => ?_) ps) ?_
  · simp only [leI, decide_eq_true_eq] at h1 h2
    exact List.le_antisymm h1 h2
  · simp only [leI, decide_eq_true_eq] at *
    exact List.le_trans h1 h2
  · simp only [leI, Bool.or_eq_true, decide_eq_true_eq]
    exact List.le_total _ _
  · refine List.pairwise_map.mpr (List.pairwise_lt_range.imp fun h => ?_)
    simp only [leI, decide_eq_true_eq]
    exact List.le_of_lt (pt_lt hm hp hp0 h)
/-- the points that the ways give -/
theorem line_pts {S : W → Prop} {i j p q m : Nat} (L : Line S i j p q m) (hm : 0 < m) (s : List Int) : (∃ w, S w ∧ w i * q + w j * p = p * q ∧ s = [(w i : Int), (w j : Int)]) ↔ ∃ t, t ≤ m ∧ s = pt p q m t := by
  have e : ∀ t x y, t * p = x * m → (m - t) * q = y * m → pt p q m t = [(x : Int), (y : Int)] := fun t x y h1 h2 => by
    unfold pt
    rw [h1, h2, Nat.mul_div_cancel _ hm, Nat.mul_div_cancel _ hm]
  constructor
  · rintro ⟨w, hw, ho, rfl⟩
    obtain ⟨t, h1, h2, h3⟩ := L.on w hw ho
    exact ⟨t, h1, (e t _ _ h2.symm h3.symm).symm⟩
  · rintro ⟨t, h1, rfl⟩
    obtain ⟨w, hw, h2, h3⟩ := L.all t h1
    refine ⟨w, hw, ?_, e t _ _ h2.symm h3.symm⟩
    obtain ⟨p', hp⟩ := L.dp
    obtain ⟨q', hq⟩ := L.dq
    have hx : w i = t * p' := by
      rw [hp, Nat.mul_left_comm, Nat.mul_comm m] at h2
      exact Nat.mul_right_cancel hm h2
    have hy : w j = (m - t) * q' := by
      rw [hq, Nat.mul_left_comm, Nat.mul_comm m] at h3
      exact Nat.mul_right_cancel hm h3
    rw [hx, hy, hp, hq]
    have : t * p' * (m * q') + (m - t) * q' * (m * p') = (t + (m - t)) * (m * (p' * q')) := by
      rw [Nat.add_mul]
      congr 1
      · simp only [Nat.mul_assoc, Nat.mul_comm, Nat.mul_left_comm]
      · simp only [Nat.mul_assoc, Nat.mul_comm, Nat.mul_left_comm]
    rw [this, Nat.add_sub_cancel' h1]
    simp only [Nat.mul_assoc, Nat.mul_comm, Nat.mul_left_comm]
theorem sqT_same {K : PySem.W.Frag} {H H' : Hp} {a : Addr} {xs : List V} (e : Same H H') (h : SqT K H a xs) : SqT K H' a xs := by
  rcases h with (h | ⟨o, h⟩) | h
  · exact .inl (.inl (e _ _ h))
  · exact .inl (.inr ⟨o, e _ _ h⟩)
  · exact .inr h
theorem sc_law_met : FnScope ["_law_ways", "_law_names_here", "_law_one", "_law_other_here", "_law_sizes", "_law_here", "_law_there", "_law_pairs", "_law_p", "_law_q", "_law_way", "_law_x", "_law_y", "_law_m", "_law_i"] ["_law_ways", "_law_names_here", "_law_one", "_law_other_here", "_law_sizes"] (defScope s_law_met) := ⟨rfl, rfl, rfl, by decide +kernel, rfl, by decide +kernel, by decide +kernel⟩
def spMet (nm : Nat → Str) (k : Nat) : Sp := fun vs H Q _ => ∃ (lw ln d : Addr) (i j : Nat) (f : F) (ws : List V) (L : List (List Int)), vs = [.ref lw, .ref ln, .str (nm i), .str (nm j), .ref d] ∧ H lw = some (.lst ws) ∧ All2 (IsT' H) ws L ∧ IsSet k (Way f) L ∧ H ln = some (.lst (nv nm (List.range k))) ∧ H d = some (.dK (sz nm f f.names)) ∧
  i ≠ j ∧ i ∈ f.names ∧ j ∈ f.names ∧ Md f ∧ (∀ x ∈ f.names, x < k) ∧ L.length ≤ 14000000 ∧ ∀ (H' : Hp), Same H H' → Q (.int (meet f i j : Int)) H'
section
variable {P : Program} {w : World} {K : PySem.W.Frag} {mg : Str → Option Value} {base : Heap} {nm : Nat → Str}
theorem ok_law_met {k : Nat} (T : Txt K mg) (N : Nm nm k) : Kept P w K mg base 1 "_law_met" ["_law_ways", "_law_names_here", "_law_one", "_law_other_here", "_law_sizes"] (spMet nm k) := by
  obtain ⟨fd, FD⟩ := T.f_law_met
  refine kept_of FD T.m_law_met sc_law_met (fun _ _ _ _ _ _ us hl => match us, hl with | [_, _, _, _, _], _ => rfl) (fun vs H Q E h => ?_) (fun cdv A outer s H vs Q E hr h => ?_)
  · obtain ⟨lw, ln, d, i, j, f, ws, L, rfl, _⟩ := h; rfl
  obtain ⟨lw, ln, d, i, j, f, ws, L, rfl, hlw, hws, hset, hln, hd, hij, hi, hj, hmd, hlt, hL14, q⟩ := h
  have nd := sc_law_met.nd
  refine ⟨_, (pss_cons (ps_asg (pe_tup (pa_cons (pe_bm PySem.F.plainAttrs_list PySem.F.slot_list_index PySem.F.type_list_index mt_index (pv 1) (pa_cons (pv 2) pa_nil)) (pa_cons (pe_bm PySem.F.plainAttrs_list PySem.F.slot_list_index PySem.F.type_list_index mt_index (pv 1) (pa_cons (pv 3) pa_nil)) (pa_cons (pe_lst pa_nil) pa_nil)))) (pg_tup rfl (pgs_cons (pg_name (i := 5) nd rfl (Or.inr rfl)) (pgs_cons (pg_name (i := 6) nd rfl (Or.inr rfl)) (pgs_cons (pg_name (i := 7) nd rfl (Or.inl rfl)) pgs_nil)))))
    (pss_cons (ps_asg (pe_tup (pa_cons (pe_dget (u1 hr) (pv 4) (pv 2) (fun _ _ => rfl)) (pa_cons (pe_dget (u1 hr) (pv 4) (pv 3) (fun _ _ => rfl)) pa_nil))) (pg_tup rfl (pgs_cons (pg_name (i := 8) nd rfl (Or.inr rfl)) (pgs_cons (pg_name (i := 9) nd rfl (Or.inr rfl)) pgs_nil))))
    (pss_cons (ps_for PassesOwn.never rfl (pi_list (pv 0)) (pg_name (i := 10) nd rfl (Or.inl rfl))
      (pss_cons (ps_par (i := 11) (j := 12) rfl nd rfl rfl (by decide) rfl rfl (pa_cons (pe_ix ix_tup (pv 10) (pv 5) (fun _ _ => rfl)) (pa_cons (pe_ix ix_tup (pv 10) (pv 6) (fun _ _ => rfl)) pa_nil)) (by rfl))
    (pss_cons (ps_if (PW.pt (pw_and (pt_cmpR op_eq (pv 11) (pv 8) (nomark _)) (pw_and1 (pt_cmpR op_eq (pv 12) (pv 9) (nomark _))))) (pss_one (ps_ret pe_int)) pss_nil)
    (pss_one (ps_if (PW.pt (pw_and (pt_cmpR op_eq (pe_op op_addN (pe_op op_mulN (pv 11) (pv 9)) (pe_op op_mulN (pv 12) (pv 8))) (pe_op op_mulN (pv 8) (pv 9)) (nomark _)) (pw_and1 (pt_cmpR (op_notInD (u65 hr)) (pe_tup (pa_cons (pv 11) (pa_cons (pv 12) pa_nil))) (pv 7) rfl)))) (pss_one (ps_expr (pe_bm PySem.F.plainAttrs_list PySem.F.slot_list_append PySem.F.type_list_append mt_append (pv 7) (pa_cons (pe_tup (pa_cons (pv 11) (pa_cons (pv 12) pa_nil))) pa_nil)))) pss_nil)))))
    (pss_cons (ps_set (i := 13) nd rfl (Or.inr rfl) (pe_op op_subN (pe_callB call_len_seq (by rfl) T.z_len PySem.boot_len (pa_cons (pv 7) pa_nil)) pe_int))
    (pss_cons (ps_if (PW.pt (pw_or (pt_cmpR op_lt (pv 13) pe_int (nomark _)) (pw_or1 (pt_not (pt_val (pe_callB (cr_all rfl) (by rfl) T.z_all (by decide +kernel) (pa_cons (pe_lc (own := [("_law_way", 10)]) (g := gName 10) (tt := tYes) rfl nd (pi_list (pv 0))
          (blkOk_by (N := ["_law_ways", "_law_names_here", "_law_one", "_law_other_here", "_law_sizes", "_law_here", "_law_there", "_law_pairs", "_law_p", "_law_q", "_law_way", "_law_x", "_law_y", "_law_m", "_law_i"]) (sc := defScope s_law_met) (by decide +kernel)) (fun _ _ _ _ _ => (pg_name (i := 10) nd rfl (Or.inl rfl))) (fun _ _ _ _ _ => pts_nil)
          (fun _ _ _ _ _ => (pe_cmpR op_le (pe_op op_addN (pe_op op_mulN (pe_ix (r := rIxT K) ix_tup (pv 10) (pv 5) (fun _ _ => rfl)) (pv 9)) (pe_op op_mulN (pe_ix (r := rIxT K) ix_tup (pv 10) (pv 6) (fun _ _ => rfl)) (pv 8))) (pe_op op_mulN (pv 8) (pv 9)) (nomark _)))) pa_nil))))))) (pss_one (ps_ret pe_non)) pss_nil)
    (pss_one (ps_ret (pe_ifExp (pt_cmpR (op_eqD hr.units) (pe_callB (cr_sortT hr.units) (by rfl) T.z_sorted (by decide +kernel) (pa_cons (pv 7) pa_nil)) (pe_lc (own := [("_law_i", 14)]) (g := gName 14) (tt := tYes) rfl nd (pi_range1 rfl T.z_range (pa_cons (pe_op op_addN (pv 13) pe_int) pa_nil))
          (blkOk_by (N := ["_law_ways", "_law_names_here", "_law_one", "_law_other_here", "_law_sizes", "_law_here", "_law_there", "_law_pairs", "_law_p", "_law_q", "_law_way", "_law_x", "_law_y", "_law_m", "_law_i"]) (sc := defScope s_law_met) (by decide +kernel)) (fun _ _ _ _ _ => (pg_name (i := 14) nd rfl (Or.inl rfl))) (fun _ _ _ _ _ => pts_nil)
          (fun _ _ _ _ _ => (pe_tup (pa_cons (pe_op op_fdivNN (pe_op op_mulN (pv 14) (pv 8)) (pv 13)) (pa_cons (pe_op op_fdivNN (pe_op op_mulN (pe_op op_subN (pv 13) (pv 14)) (pv 9)) (pv 13)) pa_nil))))) (nomark _)) (pv 13) pe_non)))))))), ?_⟩
  have hik := hlt i hi
  have hjk := hlt j hj
  have hidx : ∀ x, x < k → (nv nm (List.range k))[x]? = some (V.str (nm x)) := fun x hx => by
    simp only [nv, List.getElem?_map]
    rw [List.getElem?_range hx]
    rfl
  have hahead : ∀ x, x < k → ∀ (m : Nat) (z : V), m < x → (nv nm (List.range k))[m]? = some z → eqV z (.str (nm x)) = false := fun x hx m z hm hz => by
    rw [hidx m (by omega)] at hz
    cases hz
    have : ¬ nm m = nm x := fun e => by have := N.ne (by omega) hx e; omega
    simp [eqV, this]
  have heq : ∀ x, eqV (.str (nm x)) (.str (nm x)) = true := fun x => by simp [eqV]
  have dget : ∀ (H' : Hp) (x : Nat), x ∈ f.names → H' d = some (.dK (sz nm f f.names)) → DGet H' d (.str (nm x)) (some (.int (size f x : Int))) := fun H' x hx h => by
    have h1 := DGet.k (k := Sum.inr (nm x)) h
    have h2 : valV (sz nm f f.names) (Sum.inr (nm x)) = some (V.int (size f x : Int)) := sz_some N (fun j => V.int (size f j : Int)) hlt hx
    rw [h2] at h1
    exact h1
  have hp60 := hmd.le i hi
  have hq60 := hmd.le j hj
  have hp0 := size_one f hmd.wf hmd.nd i hi
  have hq0 := size_one f hmd.wf hmd.nd j hj
  obtain ⟨wm0, wm1⟩ := way_meet hij f hmd.wf hmd.nd hi hj
  have wle : ∀ w, Way f w → ∀ x, x ∈ f.names → w x ≤ 60 := fun w hw x hx => Nat.le_trans (way_le f hmd.nd w hw) (hmd.le x hx)
  generalize hp : size f i = p at *
  generalize hq : size f j = qq at *
  generalize hmt : meet f i j = mt at *
  refine ⟨_, rfl, .inl ⟨rfl, _, SqL.of hln⟩, _, rfl, ln, _, _, i, _, rfl, rfl, SqL.of hln, rfl, nv_flat _ _, hidx i hik, heq i, hahead i hik, ?_⟩
  refine ⟨_, rfl, .inl ⟨rfl, _, SqL.of hln⟩, _, rfl, ln, _, _, j, _, rfl, rfl, SqL.of hln, rfl, nv_flat _ _, hidx j hjk, heq j, hahead j hjk, ?_⟩
  refine ⟨by show 0 ≤ sizeLine; decide, fun Pz hPz => ⟨by show 3 ≤ sizeLine; decide, fun t0 ht0 => ?_⟩⟩
  have e1 : Same H (upd H Pz (.lst [])) := same_upd hPz
  have e2 := e1.trans (same_upd (o := .tup [.int (i : Int), .int (j : Int), .ref Pz]) ht0)
  have hP2 := same_upd (o := .tup [.int (i : Int), .int (j : Int), .ref Pz]) ht0 _ _ (show upd H Pz (.lst []) Pz = some (.lst []) from upd_same)
  have ht2 : upd (upd H Pz (.lst [])) t0 (.tup [.int (i : Int), .int (j : Int), .ref Pz]) t0 = some (.tup [.int (i : Int), .int (j : Int), .ref Pz]) := upd_same
  generalize upd (upd H Pz (.lst [])) t0 (.tup [.int (i : Int), .int (j : Int), .ref Pz]) = H2 at *
  refine ⟨t0, _, rfl, SqT.of ht2, rfl, _, _, rfl, _, _, rfl, _, _, rfl, rfl, ?_⟩
  have gp := dget H2 i hi (e2 _ _ hd)
  have gq := dget H2 j hj (e2 _ _ hd)
  rw [hp] at gp
  rw [hq] at gq
  refine ⟨_, rfl, _, rfl, d, _, rfl, gp, _, rfl, _, rfl, d, _, rfl, gq, by show 2 ≤ sizeLine; decide, fun t1 ht1 => ?_⟩
  have e3 := e2.trans (same_upd (o := .tup [.int (p : Int), .int (qq : Int)]) ht1)
  have hP3 := same_upd (o := .tup [.int (p : Int), .int (qq : Int)]) ht1 _ _ hP2
  have ht3 : upd H2 t1 (.tup [.int (p : Int), .int (qq : Int)]) t1 = some (.tup [.int (p : Int), .int (qq : Int)]) := upd_same
  generalize upd H2 t1 (.tup [.int (p : Int), .int (qq : Int)]) = H3 at *
  refine ⟨t1, _, rfl, SqT.of ht3, rfl, _, _, rfl, _, _, rfl, rfl, ?_⟩
  have hwl := hws.length
  -- the ways, one by one
  refine ⟨_, rfl, lw, rfl, ⟨_, SqL.of (e3 _ _ hlw)⟩, ?_⟩
  refine for_list (K := K) (a := lw) (xs := ws) (fun r σ' H' => (∃ x10 x11 x12, σ' = [some (.ref lw), some (.ref ln), some (.str (nm i)), some (.str (nm j)), some (.ref d), some (.int (i : Int)), some (.int (j : Int)), some (.ref Pz), some (.int (p : Int)), some (.int (qq : Int)), x10, x11, x12, none, none]) ∧ Same H H' ∧
      (∃ (zs : List V) (ps : List (List Int)), H' Pz = some (.lst zs) ∧ All2 (IsT' H') zs ps ∧ ps.Nodup ∧ ∀ s, s ∈ ps ↔ ∃ w, vec k w ∈ L.take r ∧ w i * qq + w j * p = p * qq ∧ s = [(w i : Int), (w j : Int)]) ∧ ∀ w, vec k w ∈ L.take r → ¬ (w i = p ∧ w j = qq))
    ⟨⟨none, none, none, rfl⟩, e3, ⟨[], [], hP3, .nil, .nil, by simp⟩, by simp⟩ (fun r σ' H' _ h => SqL.of (h.2.1 _ _ hlw)) ?_ ?_
  · rintro r x σ' H4 hr0 ⟨⟨x10, x11, x12, rfl⟩, e4, ⟨zs, ps, hP4, hzs, hpn, hpm⟩, hno⟩
    obtain ⟨τ, hτ, tt, rfl, htt⟩ := hws.at hr0
    obtain ⟨w, hw, rfl⟩ := (hset.2 τ).mp (List.mem_of_getElem? hτ)
    have htt4 := e4 _ _ htt
    have hwi := wle w hw i hi
    have hwj := wle w hw j hj
    have et : L.take (r + 1) = L.take r ++ [vec k w] := by rw [List.take_add_one, hτ]; rfl
    refine ⟨_, rfl, _, rfl, tt, _, (i : Int), _, rfl, rfl, SqT.of htt4, atI_nat (vec_get w hik), _, rfl, _, rfl, tt, _, (j : Int), _, rfl, rfl, SqT.of htt4, atI_nat (vec_get w hjk), _, _, rfl, ?_⟩
    -- what stands behind the first test
    refine seq_q (fun σ' H' => σ' = [some (.ref lw), some (.ref ln), some (.str (nm i)), some (.str (nm j)), some (.ref d), some (.int (i : Int)), some (.int (j : Int)), some (.ref Pz), some (.int (p : Int)), some (.int (qq : Int)), some (.ref tt), some (.int (w i : Int)), some (.int (w j : Int)), none, none] ∧ H' = H4 ∧ ¬ (w i = p ∧ w j = qq)) ?_ fun tail => ?_
    · rintro σ' H' ⟨rfl, rfl, hnb⟩
      have hno' : ∀ v, vec k v ∈ L.take (r + 1) → ¬ (v i = p ∧ v j = qq) := fun v hv => by
        rw [et, List.mem_append, List.mem_singleton] at hv
        rcases hv with hv | hv
        · exact hno v hv
        · rw [vec_at hv hik, vec_at hv hjk]; exact hnb
      have keepP : (¬ (w i * qq + w j * p = p * qq) ∨ [(w i : Int), (w j : Int)] ∈ ps) → ∀ s, s ∈ ps ↔ ∃ w, vec k w ∈ L.take (r + 1) ∧ w i * qq + w j * p = p * qq ∧ s = [(w i : Int), (w j : Int)] := fun hor s => by
        constructor
        · intro hs
          obtain ⟨v, h1, h2⟩ := (hpm s).mp hs
          exact ⟨v, by rw [et, List.mem_append]; exact .inl h1, h2⟩
        · rintro ⟨v, h1, h2, rfl⟩
          rw [et, List.mem_append, List.mem_singleton] at h1
          rcases h1 with h1 | h1
          · exact (hpm _).mpr ⟨v, h1, h2, rfl⟩
          · rw [vec_at h1 hik, vec_at h1 hjk] at h2 ⊢
            exact hor.resolve_left fun z => z h2
      refine ⟨_, rfl, _, rfl, w i, qq, rfl, rfl, by omega, _, rfl, _, rfl, w j, p, rfl, rfl, by omega, _, _, rfl, rfl, _, rfl, _, rfl, p, qq, rfl, rfl, by omega, rfl, _, rfl, ?_⟩
      by_cases hon : w i * qq + w j * p = p * qq
      · refine ifDT (decide_eq_true (by rw [hon])) ?_
        refine ⟨_, rfl, _, rfl, by show 2 ≤ sizeLine; decide, fun ta hta => ?_⟩
        have ea := same_upd (o := .tup [.int (w i : Int), .int (w j : Int)]) hta
        refine ⟨_, rfl, dI [(w i : Int), (w j : Int)], ps.map dI, .tup (SqT.of upd_same) (dp_ints K _ [(w i : Int), (w j : Int)]), .lst (SqL.of (ea _ _ hP4)) (dp_tups (hzs.imp fun x t ⟨a, e, h⟩ => ⟨a, e, SqT.of (ea _ _ h)⟩)), shaped_dI _, shaped_dIs _, _, rfl, ?_⟩
        rw [any_dI]
        by_cases hin : [(w i : Int), (w j : Int)] ∈ ps
        · refine ifDF (by rw [decide_eq_true hin]; rfl) ⟨⟨_, _, _, rfl⟩, e4.trans ea, ⟨zs, ps, ea _ _ hP4, hzs.imp fun x t ⟨a, e, h⟩ => ⟨a, e, ea _ _ h⟩, hpn, keepP (.inr hin)⟩, hno'⟩
        · refine ifDT (by rw [decide_eq_false hin]; rfl) ?_
          have hP5 := ea _ _ hP4
          refine ⟨_, rfl, .inl ⟨rfl, _, SqL.of hP5⟩, ?_⟩
          refine ⟨_, rfl, _, rfl, by show 2 ≤ sizeLine; decide, fun tb htb => ?_⟩
          have eb := same_upd (o := .tup [.int (w i : Int), .int (w j : Int)]) htb
          have hP6 := eb _ _ hP5
          have tk := TK.updL (o' := .lst (zs ++ [.ref tb])) hP6 (fun _ z => by cases z)
          have hzl : zs.length ≤ (60 + 1) ^ 2 := by
            rw [hzs.length]
            refine box_len hpn fun s hs => ?_
            obtain ⟨v, h1, _, rfl⟩ := (hpm s).mp hs
            obtain ⟨v', hv', e⟩ := (hset.2 _).mp (List.mem_of_mem_take h1)
            rw [vec_at e hik, vec_at e hjk]
            refine ⟨rfl, fun x hx => ?_⟩
            simp only [List.mem_cons, List.not_mem_nil, or_false] at hx
            rcases hx with rfl | rfl
            · have := wle v' hv' i hi; omega
            · have := wle v' hv' j hj; omega
          refine ⟨Pz, zs, _, rfl, rfl, hP6, ?_, ⟨_, _, _, rfl⟩, same_updN ((e4.trans ea).trans eb) hPz, ⟨zs ++ [.ref tb], ps ++ [[(w i : Int), (w j : Int)]], upd_same, ?_, ?_, fun s => ?_⟩, hno'⟩
          · have : (60 + 1) ^ 2 = 3721 := rfl
            rw [sizeLine_eq]; omega
          · refine All2.append (hzs.imp fun x t ⟨a, e, h⟩ => ⟨a, e, tk _ _ (eb _ _ (ea _ _ h))⟩) (.cons ⟨tb, rfl, ?_⟩ .nil)
            exact tk _ _ upd_same
          · rw [List.nodup_append]
            exact ⟨hpn, by simp, fun a ha b hb e => by simp only [List.mem_singleton] at hb; subst hb; subst e; exact hin ha⟩
          · rw [List.mem_append, List.mem_singleton]
            constructor
            · rintro (hs | rfl)
              · obtain ⟨v, h1, h2⟩ := (hpm s).mp hs
                exact ⟨v, by rw [et, List.mem_append]; exact .inl h1, h2⟩
              · exact ⟨w, by rw [et]; simp, hon, rfl⟩
            · rintro ⟨v, h1, h2, rfl⟩
              rw [et, List.mem_append, List.mem_singleton] at h1
              rcases h1 with h1 | h1
              · exact .inl ((hpm _).mpr ⟨v, h1, h2, rfl⟩)
              · rw [vec_at h1 hik, vec_at h1 hjk]; exact .inr rfl
      · refine ifDF (decide_eq_false (fun z => hon (by have := V.int.inj z; exact Int.ofNat.inj this))) (ifDF rfl ⟨⟨_, _, _, rfl⟩, e4, ⟨zs, ps, hP4, hzs, hpn, keepP (.inl hon)⟩, hno'⟩)
    · refine ⟨_, rfl, _, rfl, rfl, _, rfl, ?_⟩
      by_cases h1 : w i = p
      · refine ifDT (decide_eq_true (by rw [h1])) ?_
        refine ⟨_, rfl, _, rfl, rfl, _, rfl, ?_⟩
        by_cases h2 : w j = qq
        · refine ifDT (decide_eq_true (by rw [h2])) ?_
          have hm0 : mt = 0 := by
            rcases Nat.eq_zero_or_pos mt with z | z
            · exact z
            · have := (wm1 z).le w hw
              rw [h1, h2] at this
              have : 1 * 1 ≤ p * qq := Nat.mul_le_mul hp0 hq0
              rw [Nat.mul_comm qq p] at *
              omega
          subst hm0
          exact q H4 e4
        · exact ifDF (decide_eq_false (fun z => h2 (by have := V.int.inj z; omega))) (tail _ _ ⟨rfl, rfl, fun z => h2 z.2⟩)
      · exact ifDF (decide_eq_false (fun z => h1 (by have := V.int.inj z; omega))) (ifDF rfl (tail _ _ ⟨rfl, rfl, fun z => h1 z.1⟩))
  · rintro σ' H4 ⟨⟨x10, x11, x12, rfl⟩, e4, ⟨zs, ps, hP4, hzs, hpn, hpm⟩, hno⟩
    rw [hwl, List.take_length] at hpm hno
    have hm : 0 < mt := by
      rcases Nat.eq_zero_or_pos mt with z | z
      · obtain ⟨w, hw, h1, h2⟩ := wm0 z
        exact absurd ⟨h1, h2⟩ (hno w ((hset.2 _).mpr ⟨w, hw, rfl⟩))
      · exact z
    have LN := wm1 hm
    have hpt : ∀ s, s ∈ ps ↔ ∃ t, t ≤ mt ∧ s = pt p qq mt t := fun s => by
      rw [hpm, ← line_pts LN hm]
      constructor
      · rintro ⟨w, h1, h2, rfl⟩
        obtain ⟨v, hv, e⟩ := (hset.2 _).mp h1
        rw [vec_at e hik, vec_at e hjk] at h2 ⊢
        exact ⟨v, hv, h2, rfl⟩
      · rintro ⟨w, h1, h2, rfl⟩
        exact ⟨w, (hset.2 _).mpr ⟨w, h1, rfl⟩, h2, rfl⟩
    obtain ⟨hpl, hps⟩ := sort_pts hm LN.dp hp0 hpn hpt
    have hm60 : mt ≤ 60 := Nat.le_trans (Nat.le_of_dvd hp0 LN.dp) hp60
    have hzl : zs.length = mt + 1 := by rw [hzs.length, hpl]
    refine ⟨_, rfl, Pz, _, rfl, .inl (SqL.of hP4), zs.length, 1, rfl, rfl, by omega, ?_⟩
    rw [show zs.length - 1 = mt by omega]
    refine ⟨_, rfl, _, _, rfl, rfl, _, rfl, ?_⟩
    refine ifDF (decide_eq_false (by omega)) ?_
    refine ⟨_, rfl, lw, rfl, ⟨_, SqL.of (e4 _ _ hlw)⟩, fun E hE => ?_⟩
    refine lc_list (K := K) (a := lw) (xs := ws) (fun r H' => Same H4 H' ∧ H' E = some (.lst ((List.replicate r true).map V.bl))) ⟨same_upd hE, by rw [upd_same]; rfl⟩ (fun r H' _ h => SqL.of (h.1 _ _ (e4 _ _ hlw))) ?_ ?_
    · rintro r x H5 hr0 ⟨e5, hE5⟩
      obtain ⟨τ, hτ, tt, rfl, htt⟩ := hws.at hr0
      obtain ⟨w, hw, rfl⟩ := (hset.2 τ).mp (List.mem_of_getElem? hτ)
      have htt5 := e5 _ _ (e4 _ _ htt)
      have hwi := wle w hw i hi
      have hwj := wle w hw j hj
      have hrl : r < ws.length := (List.getElem?_eq_some_iff.mp hr0).1
      refine ⟨rfl, yesT ?_⟩
      refine ⟨_, rfl, _, rfl, tt, _, (i : Int), _, rfl, rfl, SqT.of htt5, atI_nat (vec_get w hik), _, rfl, w i, qq, rfl, rfl, by omega, ?_⟩
      refine ⟨_, rfl, _, rfl, tt, _, (j : Int), _, rfl, rfl, SqT.of htt5, atI_nat (vec_get w hjk), _, rfl, w j, p, rfl, rfl, by omega, _, _, rfl, rfl, ?_⟩
      refine ⟨_, rfl, _, rfl, p, qq, rfl, rfl, by omega, _, _, rfl, rfl, _, hE5, ?_, same_updN e5 hE, ?_⟩
      · rw [List.length_map, List.length_replicate, sizeLine_eq]
        omega
      · rw [upd_same]
        show some (HO.lst (List.map V.bl (List.replicate r true) ++ [V.bl (decide (((w i * qq + w j * p : Nat) : Int) ≤ ((p * qq : Nat) : Int)))])) = _
        have : decide (((w i * qq + w j * p : Nat) : Int) ≤ ((p * qq : Nat) : Int)) = true := decide_eq_true (by have := LN.le w hw; omega)
        rw [this, List.replicate_succ', List.map_append]
        rfl
    rintro H5 ⟨e5, hE5⟩
    refine ⟨E, _, rfl, SqL.of hE5, _, rfl, ?_⟩
    refine ifDF (by simp) ?_
    have hP5 := e5 _ _ hP4
    have hzs5 : All2 (IsT K H5) zs ps := hzs.imp fun x t ⟨a, e, h⟩ => ⟨a, e, SqT.of (e5 _ _ h)⟩
    refine ⟨_, rfl, Pz, zs, ps, rfl, SqL.of hP5, hzs5, fun ns hns => by obtain ⟨t, _, rfl⟩ := (hpt ns).mp hns; simp [pt], fun ys pp hys npp => ?_⟩
    have e6 := same_upd (o := .lst ys) npp
    rw [hps] at hys
    refine ⟨_, rfl, mt, 1, rfl, rfl, ((mt + 1 : Nat) : Int), rfl, by omega, by omega, fun D hD => ?_⟩
    rw [Int.toNat_natCast]
    have e56 := e5.trans e6
    have hpp6 : upd H5 pp (.lst ys) pp = some (.lst ys) := upd_same
    have hys6 : All2 (IsT K (upd H5 pp (.lst ys))) ys ((List.range (mt + 1)).map (pt p qq mt)) := hys.imp fun x t ⟨a, e, h⟩ => ⟨a, e, sqT_same e6 h⟩
    generalize upd H5 pp (.lst ys) = H6 at *
    refine lc_range (lo := 0) (n := mt + 1) (fun t H' => Same H6 H' ∧ ∃ us, H' D = some (.lst us) ∧ All2 (IsT' H') us (((List.range (mt + 1)).take t).map (pt p qq mt))) ⟨same_upd hD, [], upd_same, by rw [List.take_zero]; exact .nil⟩ ?_ ?_
    · rintro t H7 ht ⟨e7, us, hD7, hus⟩
      rw [show (0 : Int) + ((t : Nat) : Int) = ((t : Nat) : Int) by omega]
      refine ⟨rfl, yesT ?_⟩
      refine ⟨_, rfl, _, rfl, t, p, rfl, rfl, by omega, _, rfl, t * p, mt, rfl, rfl, ⟨hm, by omega⟩, ?_⟩
      refine ⟨_, rfl, _, rfl, mt, t, rfl, rfl, by omega, _, rfl, mt - t, qq, rfl, rfl, by omega, _, rfl, (mt - t) * qq, mt, rfl, rfl, ⟨hm, by omega⟩, by show 2 ≤ sizeLine; decide, fun tb htb => ?_⟩
      have eb := same_upd (o := .tup [.int ((t * p / mt : Nat) : Int), .int (((mt - t) * qq / mt : Nat) : Int)]) htb
      have hD8 := eb _ _ hD7
      have tk := TK.updL (o' := .lst (us ++ [.ref tb])) hD8 (fun _ z => by cases z)
      refine ⟨us, hD8, lt_line ?_, same_updN (e7.trans eb) hD, us ++ [.ref tb], upd_same, ?_⟩
      · rw [hus.length, List.length_map, List.length_take, List.length_range]; omega
      · have hr : (List.range (mt + 1))[t]? = some t := by rw [List.getElem?_range ht]
        rw [List.take_add_one, hr, List.map_append]
        refine All2.append (hus.imp fun x t ⟨a, e, h⟩ => ⟨a, e, tk _ _ (eb _ _ h)⟩) (.cons ⟨tb, rfl, ?_⟩ .nil)
        exact tk _ _ upd_same
    rintro H7 ⟨e7, us, hD7, hus⟩
    rw [List.take_of_length_le (by simp)] at hus
    have hys7 : All2 (IsT K H7) ys ((List.range (mt + 1)).map (pt p qq mt)) := hys6.imp fun x t ⟨a, e, h⟩ => ⟨a, e, sqT_same e7 h⟩
    refine ⟨.list _, .list _, .lst (SqL.of (e7 _ _ hpp6)) (dp_tups hys7), .lst (SqL.of hD7) (dp_tups (hus.imp fun x t ⟨a, e, h⟩ => ⟨a, e, SqT.of h⟩)), shaped_dIs _, shaped_dIs _, true, ?_, ifDT rfl ⟨_, rfl, q H7 ((e4.trans e56).trans e7)⟩⟩
    congr 1
    simp only [PyData.eqv]
    exact (eqvAll_map dI eqv_dI _ _).mpr rfl
end
end Nf

/-! ## L14 -/
set_option Elab.async false
set_option linter.all false
set_option maxRecDepth 100000
set_option maxHeartbeats 4000000
/-! the table -/
namespace Nf
open PySem PySem.Spec PyProof.Rows L2
def rowL (k : Nat) (f : F) (i : Nat) : List Nat := ((List.range k).filter fun j => decide (j ≠ i)).map (meet f i)
def tableL (k : Nat) (f : F) : List Nat := (List.range k).map (size f) ++ (List.range k).flatMap (rowL k f)
abbrev iv (l : List Nat) : List V := l.map fun n : Nat => V.int (n : Int)
theorem flat_len {α β : Type} {f : α → List β} {b : Nat} : ∀ l : List α, (∀ x ∈ l, (f x).length ≤ b) → (l.flatMap f).length ≤ l.length * b
  | [], _ => by simp
  | x :: l, h => by
    have h1 := h x List.mem_cons_self
    have h2 := flat_len l fun y hy => h y (List.mem_cons_of_mem _ hy)
    rw [List.flatMap_cons, List.length_append, List.length_cons, Nat.add_mul]
    omega
theorem Md.mod {k : Nat} {f : F} (h : Md f) (hp : f.names.Perm (List.range k)) : Mod k f :=
  ⟨h.wf, h.nd, fun i hi => by simpa using hp.mem_iff.mp hi, fun i hi => by have := h.le i hi; omega, by have := h.len; omega⟩
theorem sc_law_table : FnScope ["_law_formula_here", "_law_names_here", "_law_ways", "_law_sizes", "_law_table_here", "_law_at", "_law_one", "_law_other_here", "_law_due", "_law_told", "_law_way", "_law_name"] ["_law_formula_here", "_law_names_here", "_law_ways"] (defScope s_law_table) := ⟨rfl, rfl, rfl, by decide +kernel, rfl, by decide +kernel, by decide +kernel⟩
def spTable (nm : Nat → Str) (k : Nat) : Sp := fun vs H Q _ => ∃ (v : V) (ln lw : Addr) (f : F) (ws : List V) (L : List (List Int)), vs = [v, .ref ln, .ref lw] ∧ FV nm H f v ∧ H ln = some (.lst (nv nm (List.range k))) ∧ H lw = some (.lst ws) ∧ All2 (IsT' H) ws L ∧ IsSet k (Way f) L ∧
  Md f ∧ f.names.Perm (List.range k) ∧ k ≤ 8 ∧ L.length ≤ 14000000 ∧ ∀ (p : Addr) (H' : Hp), Same H H' → H p = none → H' p = some (.lst (iv (tableL k f))) → Q (.ref p) H'
section
variable {P : Program} {w : World} {K : PySem.W.Frag} {mg : Str → Option Value} {base : Heap} {nm : Nat → Str}
theorem ok_law_table {k : Nat} (T : Txt K mg) (N : Nm nm k) : Kept P w K mg base 14 "_law_table" ["_law_formula_here", "_law_names_here", "_law_ways"] (spTable nm k) := by
  have GZ := ok_sizes_of (P := P) (w := w) (base := base) T N 13
  have GK := kw_sizes_of T GZ
  have GM := (ok_law_met (P := P) (w := w) (base := base) T N).mono (show 1 ≤ 13 by omega)
  have GG := ok_meeting (P := P) (w := w) (base := base) T N 13
  obtain ⟨fd, FD⟩ := T.f_law_table
  refine kept_of FD T.m_law_table sc_law_table (fun _ _ _ _ _ _ us hl => match us, hl with | [_, _, _], _ => rfl) (fun vs H Q E h => ?_) (fun cdv A outer s H vs Q E hr h => ?_)
  · obtain ⟨v, ln, lw, f, ws, L, rfl, _⟩ := h; rfl
  obtain ⟨v, ln, lw, f, ws, L, rfl, hf, hln, hlw, hws, hset, hmd, hpm, hk8, hL14, q⟩ := h
  have nd := sc_law_table.nd
  refine ⟨_, (pss_cons (ps_par (i := 3) (j := 4) rfl nd rfl rfl (by decide) rfl rfl (pa_cons (pe_kc GZ hr rfl (pa_cons (pv 0) pa_nil)) (pa_cons (pe_lst pa_nil) pa_nil)) (by rfl))
    (pss_cons (ps_if (PW.pt (pw_or (pt_not (pt_val (pe_callB call_isi (by rfl) T.z_isinstance (by decide +kernel) (pa_cons (pv 3) (pa_cons (pe_bltn (v := .ty "dict") (by rfl) T.z_dict (by decide +kernel) rfl) pa_nil))))) (pw_or (pt_cmpR (op_ne_dictA hr.units0) (pe_kck GK hr rfl (pk_cons (pv 0) pk_nil)) (pv 3) (nomark _)) (pw_or1 (pt_cmpR (op_neD hr.units) (pe_callB cr_sortedS (by rfl) T.z_sorted (by decide +kernel) (pa_cons (pe_callTy (call_listD rfl) (by rfl) T.z_list (by decide +kernel) (pa_cons (pv 3) pa_nil)) pa_nil)) (pv 1) (nomark _)))))) (pss_one (ps_ret pe_non)) pss_nil)
    (pss_cons (ps_for PassesOwn.never rfl (pi_range1 rfl T.z_range (pa_cons (pe_callB call_len_seq (by rfl) T.z_len PySem.boot_len (pa_cons (pv 1) pa_nil)) pa_nil)) (pg_name (i := 5) nd rfl (Or.inr rfl))
      (pss_cons (ps_if (PW.pt (pw_or (pt_val (pe_callB call_isi (by rfl) T.z_isinstance (by decide +kernel) (pa_cons (pe_dget (u1 hr) (pv 3) (pe_ix ix_list (pv 1) (pv 5) (fun _ _ => rfl)) (fun _ _ => rfl)) (pa_cons (pe_bltn (v := .ty "bool") (by rfl) T.z_bool (by decide +kernel) rfl) pa_nil)))) (pw_or1 (pt_cmpR op_ne (pe_dget (u1 hr) (pv 3) (pe_ix ix_list (pv 1) (pv 5) (fun _ _ => rfl)) (fun _ _ => rfl)) (pe_callB (cr_max rfl) (by rfl) T.z_max (by decide +kernel) (pa_cons (pe_lc (own := [("_law_way", 10)]) (g := gName 10) (tt := tYes) rfl nd (pi_list (pv 2))
          (blkOk_by (N := ["_law_formula_here", "_law_names_here", "_law_ways", "_law_sizes", "_law_table_here", "_law_at", "_law_one", "_law_other_here", "_law_due", "_law_told", "_law_way", "_law_name"]) (sc := defScope s_law_table) (by decide +kernel)) (fun _ _ _ _ _ => (pg_name (i := 10) nd rfl (Or.inl rfl))) (fun _ _ _ _ _ => pts_nil)
          (fun _ _ _ _ _ => (pe_ix (r := rIxT K) ix_tup (pv 10) (pv 5) (fun _ _ => rfl)))) pa_nil)) (nomark _))))) (pss_one (ps_ret pe_non)) pss_nil)
    (pss_one (ps_expr (pe_bm PySem.F.plainAttrs_list PySem.F.slot_list_append PySem.F.type_list_append mt_append (pv 4) (pa_cons (pe_dget (u1 hr) (pv 3) (pe_ix ix_list (pv 1) (pv 5) (fun _ _ => rfl)) (fun _ _ => rfl)) pa_nil))))))
    (pss_cons (ps_for PassesOwn.never rfl (pi_list (pv 1)) (pg_name (i := 6) nd rfl (Or.inr rfl))
      (pss_one (ps_for PassesOwn.never rfl (pi_list (pe_lc (own := [("_law_name", 11)]) (g := gName 11) (tt := tTest (tOp rNe (tVar 11) (tVar 6))) rfl nd (pi_list (pv 1))
          (blkOk_by (N := ["_law_formula_here", "_law_names_here", "_law_ways", "_law_sizes", "_law_table_here", "_law_at", "_law_one", "_law_other_here", "_law_due", "_law_told", "_law_way", "_law_name"]) (sc := defScope s_law_table) (by decide +kernel)) (fun _ _ _ _ _ => (pg_name (i := 11) nd rfl (Or.inl rfl))) (fun _ _ _ _ _ => pts_one (pt_cmpR op_ne (pv 11) (pv 6) (nomark _)))
          (fun _ _ _ _ _ => (pv 11)))) (pg_name (i := 7) nd rfl (Or.inl rfl))
      (pss_cons (ps_set (i := 8) nd rfl (Or.inl rfl) (pe_kc GM hr rfl (pa_cons (pv 2) (pa_cons (pv 1) (pa_cons (pv 6) (pa_cons (pv 7) (pa_cons (pv 3) pa_nil)))))))
    (pss_cons (ps_set (i := 9) nd rfl (Or.inl rfl) (pe_kc GG hr rfl (pa_cons (pv 0) (pa_cons (pv 6) (pa_cons (pv 7) pa_nil)))))
    (pss_cons (ps_if (PW.pt (pw_or (pt_cmpR op_isN (pv 8) pe_non (nomark _)) (pw_or (pt_val (pe_callB call_isi (by rfl) T.z_isinstance (by decide +kernel) (pa_cons (pv 9) (pa_cons (pe_bltn (v := .ty "bool") (by rfl) T.z_bool (by decide +kernel) rfl) pa_nil)))) (pw_or1 (pt_cmpR op_ne (pv 9) (pv 8) (nomark _)))))) (pss_one (ps_ret pe_non)) pss_nil)
    (pss_one (ps_expr (pe_bm PySem.F.plainAttrs_list PySem.F.slot_list_append PySem.F.type_list_append mt_append (pv 4) (pa_cons (pv 9) pa_nil))))))))))
    (pss_cons (ps_dput (u1 hr) (pv 3) pe_str pe_int rfl)
    (pss_one (ps_ret (pe_ifExp (pt_cmpR op_eq (pe_callB call_lenD (by rfl) T.z_len PySem.boot_len (pa_cons (pe_kc GZ hr rfl (pa_cons (pv 0) pa_nil)) pa_nil)) (pe_callB call_len_seq (by rfl) T.z_len PySem.boot_len (pa_cons (pv 1) pa_nil)) (nomark _)) (pv 4) pe_non)))))))), ?_⟩
  have hmod := hmd.mod hpm
  have hd12 := hmd.dep
  have hltk : ∀ i ∈ f.names, i < k := hmod.lt
  have hmem : ∀ i, i < k → i ∈ f.names := fun i hi => hpm.mem_iff.mpr (by simpa using hi)
  have hnlen : f.names.length = k := by rw [hpm.length_eq, List.length_range]
  have hln0 : (nv nm (List.range k)).length = k := by simp [nv]
  have hidx : ∀ x, x < k → (nv nm (List.range k))[x]? = some (V.str (nm x)) := fun x hx => by
    simp only [nv, List.getElem?_map]
    rw [List.getElem?_range hx]
    rfl
  refine ⟨_, rfl, v, f, rfl, hf, by omega, hmod, fun d H1 e1 nd1 hd1 => ⟨by show 0 ≤ sizeLine; decide, fun Tb hTb => ⟨_, _, rfl, ?_⟩⟩⟩
  have e2 := same_upd (o := .lst []) hTb
  have nTb := none_of e1 hTb
  have ndT : d ≠ Tb := ne_of_none hd1 hTb
  have hd2 := e2 _ _ hd1
  have hT2 : upd H1 Tb (.lst []) Tb = some (.lst []) := upd_same
  have e12 := e1.trans e2
  generalize upd H1 Tb (.lst []) = H2 at *
  have dget : ∀ (H' : Hp) (x : Nat), x < k → H' d = some (.dK (sz nm f f.names)) → DGet H' d (.str (nm x)) (some (.int (size f x : Int))) := fun H' x hx h => by
    have h1 := DGet.k (k := Sum.inr (nm x)) h
    have h2 : valV (sz nm f f.names) (Sum.inr (nm x)) = some (V.int (size f x : Int)) := sz_some N (fun j => V.int (size f j : Int)) hltk (hmem x hx)
    rw [h2] at h1
    exact h1
  have nlnT : ln ≠ Tb := ne_of_none hln nTb
  have nlwT : lw ≠ Tb := ne_of_none hlw nTb
  have kcd : ∀ {H' : Hp}, KC Tb H2 H' → H' d = some (.dK (sz nm f f.names)) := fun kc => kc _ _ ndT hd2
  have kcln : ∀ {H' : Hp}, KC Tb H2 H' → H' ln = some (.lst (nv nm (List.range k))) := fun kc => kc _ _ nlnT (e12 _ _ hln)
  have kclw : ∀ {H' : Hp}, KC Tb H2 H' → H' lw = some (.lst ws) := fun kc => kc _ _ nlwT (e12 _ _ hlw)
  have kctk : ∀ {H' : Hp}, KC Tb H2 H' → TK H H' := fun kc => (TK.of e12).trans (KC.tk hT2 kc)
  have kcsame : ∀ {H' : Hp}, KC Tb H2 H' → Same H H' := fun kc b o e => kc _ _ (ne_of_none e nTb) (e12 _ _ e)
  -- the three tests
  refine ⟨_, rfl, .ref d, .ty "dict", .type "dict", .type "dict", true, rfl, .ty _, .base (.dK hd2), kit_ty (by decide +kernel), true, rfl, ifDF rfl ?_⟩
  refine ⟨_, rfl, rfl, v, f, rfl, hf.keep (TK.of e12), by omega, hmod, fun d2 H3 e3 nd2 hd3 => ?_⟩
  refine ⟨_, rfl, d2, d, _, _, rfl, rfl, hd3, e3 _ _ hd2, rfl, fun p hp => ?_, _, rfl, ifDF rfl ?_⟩
  · simp only [sz, List.mem_map] at hp
    obtain ⟨x, hx, rfl⟩ := hp
    exact ⟨sz_some N (fun j => V.int (size f j : Int)) hltk hx, rfl⟩
  have kc3 : KC Tb H2 H3 := KC.of e3
  refine ⟨_, rfl, d, _, rfl, .inl (kcd kc3), fun l3 hl3 => ?_⟩
  have e4 := same_upd (o := .lst ((sz nm f f.names).map fun kv => kV kv.1)) hl3
  have ek : ((sz nm f f.names).map fun kv => kV kv.1) = (f.names.map nm).map V.str := by simp [sz, List.map_map, Function.comp_def, kV]
  have hl4 : upd H3 l3 (.lst ((sz nm f f.names).map fun kv => kV kv.1)) l3 = some (.lst ((f.names.map nm).map V.str)) := by rw [upd_same, ek]
  have kc4 : KC Tb H2 (upd H3 l3 (.lst ((sz nm f f.names).map fun kv => kV kv.1))) := kc3.trans (KC.of e4)
  have hT4 := e4 _ _ (e3 _ _ hT2)
  generalize upd H3 l3 (.lst ((sz nm f f.names).map fun kv => kV kv.1)) = H4 at *
  refine ⟨l3, _, rfl, SqL.of hl4, by rw [List.length_map, hnlen]; omega, fun ys p5 hy hsr np5 => ?_⟩
  have ey := nm_sorted N hy hsr hpm.symm (range_pair k) (fun i hi => by simpa using hi)
  subst ey
  have e5 := same_upd (o := .lst (((List.range k).map nm).map V.str)) np5
  have kc5 := kc4.trans (KC.of e5 (C := Tb))
  have hln5 := kcln kc5
  rw [nv_str] at hln5
  have hrk : ∀ i ∈ List.range k, i < k := fun i hi => by simpa using hi
  refine ⟨_, rfl, .list _, .list _, .lst (SqL.of upd_same) (dpAll_strs K _ _), .lst (SqL.of hln5) (dpAll_strs K _ _), shaped_strs N hrk, shaped_strs N hrk, _, rfl, ifDF ?_ ?_⟩
  · have : PyData.eqv (.list (((List.range k).map nm).map .str)) (.list (((List.range k).map nm).map .str)) = true := by
      simp only [PyData.eqv]
      exact (eqvAll_map PyData.str eqv_str _ _).mpr rfl
    rw [this]
    rfl
  have hT5 := e5 _ _ hT4
  generalize upd H4 p5 (.lst (((List.range k).map nm).map V.str)) = H5 at *
  have kcU : ∀ {H' : Hp} {o : HO}, KC Tb H2 H' → KC Tb H2 (upd H' Tb o) := fun kc b o n e => by rw [upd_ne n]; exact kc b o n e
  have hszl : ∀ i, i < k → size f i ≤ 60 := fun i hi => hmd.le i (hmem i hi)
  -- the sizes
  refine ⟨_, rfl, ln, _, rfl, .inl (SqL.of (kcln kc5)), (k : Int), by rw [hln0], by omega, by omega, ?_⟩
  rw [Int.toNat_natCast]
  refine for_range (lo := 0) (n := k) (fun i σ' H' => (∃ x5, σ' = [some v, some (.ref ln), some (.ref lw), some (.ref d), some (.ref Tb), x5, none, none, none, none, none, none]) ∧ KC Tb H2 H' ∧ H' Tb = some (.lst (iv (((List.range k).take i).map (size f))))) ⟨⟨none, rfl⟩, kc5, hT5⟩ ?_ ?_
  · rintro i σ' H6 hi ⟨⟨x5, rfl⟩, kc6, hT6⟩
    rw [show (0 : Int) + ((i : Nat) : Int) = ((i : Nat) : Int) by omega]
    have hri : (List.range k)[i]? = some i := List.getElem?_range hi
    have SZ : ∀ (H' : Hp) (R : VK) (σ0 : L2.St), σ0[3]? = some (some (.ref d)) → σ0[1]? = some (some (.ref ln)) → σ0[5]? = some (some (.int (i : Int))) → KC Tb H2 H' → R (.int (size f i : Int)) H' → tDGet (tVar 3) (tOp (rIxL K) (tVar 1) (tVar 5)) σ0 H' R := fun H' R σ0 s3 s1 s5 kc r =>
      ⟨_, s3, _, s1, _, s5, ln, _, (i : Int), _, rfl, rfl, SqL.of (kcln kc), atI_nat (hidx i hi), d, _, rfl, dget H' i hi (kcd kc), r⟩
    refine SZ _ _ _ rfl rfl rfl kc6 ?_
    refine ⟨.int (size f i : Int), .ty "bool", .type "int", .type "bool", false, rfl, .ty _, .base (.int _), kit_ty (by decide +kernel), false, rfl, ifDF rfl ?_⟩
    refine SZ _ _ _ rfl rfl rfl kc6 ?_
    refine ⟨_, rfl, lw, rfl, ⟨_, SqL.of (kclw kc6)⟩, fun E hE => ?_⟩
    have hwl := hws.length
    refine lc_list (K := K) (a := lw) (xs := ws) (fun r H' => Same H6 H' ∧ H' E = some (.lst (((L.take r).map fun τ => τ.getD i 0).map V.int))) ⟨same_upd hE, by rw [upd_same]; rfl⟩ (fun r H' _ h => SqL.of (h.1 _ _ (kclw kc6))) ?_ ?_
    · rintro r x H7 hr0 ⟨e7, hE7⟩
      obtain ⟨τ, hτ, tt, rfl, htt⟩ := hws.at hr0
      obtain ⟨w, hw, rfl⟩ := (hset.2 τ).mp (List.mem_of_getElem? hτ)
      have htt7 := e7 _ _ (kctk kc6 _ _ htt)
      have hrl : r < ws.length := (List.getElem?_eq_some_iff.mp hr0).1
      refine ⟨rfl, yesT ⟨_, rfl, _, rfl, tt, _, (i : Int), _, rfl, rfl, SqT.of htt7, atI_nat (vec_get w hi), _, hE7, ?_, same_updN e7 hE, ?_⟩⟩
      · rw [List.length_map, List.length_map, List.length_take, sizeLine_eq]; omega
      · rw [upd_same, List.take_add_one, hτ, List.map_append, List.map_append]
        have : (vec k w).getD i 0 = (w i : Int) := by
          simp only [List.getD_eq_getElem?_getD, vec, List.getElem?_map]
          rw [hri]
          rfl
        simp only [Option.toList, List.map_cons, List.map_nil, this]
    rintro H7 ⟨e7, hE7⟩
    rw [hwl, List.take_length] at hE7
    have kc7 := kc6.trans (KC.of e7 (C := Tb))
    have hT7 := e7 _ _ hT6
    obtain ⟨w0, hw0, hmax⟩ := way_max f hmd.wf hmd.nd (hmem i hi)
    have hin0 : (size f i : Int) ∈ L.map fun τ => τ.getD i 0 := by
      refine List.mem_map.mpr ⟨vec k w0, (hset.2 _).mpr ⟨w0, hw0, rfl⟩, ?_⟩
      simp only [List.getD_eq_getElem?_getD, vec, List.getElem?_map]
      rw [hri, ← hmax]
      rfl
    refine ⟨E, _, rfl, SqL.of hE7, List.length_pos_of_mem hin0, fun m hm hle => ?_⟩
    have em : m = (size f i : Int) := by
      obtain ⟨τ, hτ, e⟩ := List.mem_map.mp hm
      obtain ⟨w, hw, rfl⟩ := (hset.2 τ).mp hτ
      have : (vec k w).getD i 0 = (w i : Int) := by
        simp only [List.getD_eq_getElem?_getD, vec, List.getElem?_map]
        rw [hri]
        rfl
      have e : (vec k w).getD i 0 = m := e
      rw [this] at e
      have h1 := way_le (j := i) f hmd.nd w hw
      have h2 := hle _ hin0
      omega
    subst em
    refine ⟨rfl, _, rfl, ifDF (by simp) ?_⟩
    refine ⟨_, rfl, .inl ⟨rfl, _, SqL.of hT7⟩, ?_⟩
    refine SZ _ _ _ rfl rfl rfl kc7 ?_
    refine ⟨Tb, _, _, rfl, rfl, hT7, lt_line ?_, ⟨_, rfl⟩, kcU kc7, ?_⟩
    · rw [List.length_map, List.length_map, List.length_take, List.length_range]; omega
    · rw [upd_same, List.take_add_one, hri]
      simp
  rintro σ' H6 ⟨⟨x5, rfl⟩, kc6, hT6⟩
  rw [List.take_of_length_le (by simp)] at hT6
  -- the meetings
  refine ⟨_, rfl, ln, rfl, ⟨_, SqL.of (kcln kc6)⟩, ?_⟩
  refine for_list (K := K) (a := ln) (xs := nv nm (List.range k)) (fun i σ' H' => (∃ x6 x7 x8 x9, σ' = [some v, some (.ref ln), some (.ref lw), some (.ref d), some (.ref Tb), x5, x6, x7, x8, x9, none, none]) ∧ KC Tb H2 H' ∧ H' Tb = some (.lst (iv ((List.range k).map (size f) ++ ((List.range k).take i).flatMap (rowL k f))))) ⟨⟨none, none, none, none, rfl⟩, kc6, by simpa using hT6⟩ (fun i σ' H' _ h => SqL.of (kcln h.2.1)) ?_ ?_
  · rintro i x σ' H7 hx ⟨⟨x6, x7, x8, x9, rfl⟩, kc7, hT7⟩
    have hi : i < k := by
      have := (List.getElem?_eq_some_iff.mp hx).1
      rw [hln0] at this
      exact this
    rw [hidx i hi] at hx
    cases hx
    have hri : (List.range k)[i]? = some i := List.getElem?_range hi
    refine ⟨_, rfl, ln, rfl, ⟨_, SqL.of (kcln kc7)⟩, fun E hE => ?_⟩
    refine lc_list (K := K) (a := ln) (xs := nv nm (List.range k)) (fun r H' => Same H7 H' ∧ H' E = some (.lst (nv nm (((List.range k).take r).filter fun j => decide (j ≠ i))))) ⟨same_upd hE, by rw [upd_same]; rfl⟩ (fun r H' _ h => SqL.of (h.1 _ _ (kcln kc7))) ?_ ?_
    · rintro r x H8 hx ⟨e8, hE8⟩
      have hr : r < k := by
        have := (List.getElem?_eq_some_iff.mp hx).1
        rw [hln0] at this
        exact this
      rw [hidx r hr] at hx
      cases hx
      have hrr : (List.range k)[r]? = some r := List.getElem?_range hr
      refine ⟨rfl, ?_⟩
      refine ⟨_, rfl, _, rfl, rfl, _, rfl, ?_⟩
      by_cases hri' : r = i
      · subst hri'
        refine ifDF (by simp) ⟨e8, ?_⟩
        rw [hE8, List.take_add_one, hrr]
        simp
      · refine ifDT (by
          have : ¬ V.str (nm r) = V.str (nm i) := fun z => hri' (N.ne hr hi (V.str.inj z))
          simp [this]) ⟨_, rfl, _, hE8, lt_line ?_, same_updN e8 hE, ?_⟩
        · simp only [nv, List.length_map]
          have := List.length_filter_le (fun j => decide (j ≠ i)) ((List.range k).take r)
          rw [List.length_take, List.length_range] at this
          omega
        · rw [upd_same, List.take_add_one, hrr]
          simp [nv, List.filter_append, hri']
    rintro H8 ⟨e8, hE8⟩
    rw [hln0, List.take_of_length_le (by simp)] at hE8
    have kc8 := kc7.trans (KC.of e8 (C := Tb))
    have hT8 := e8 _ _ hT7
    have nET : E ≠ Tb := fun z => by subst z; rw [hT7] at hE; cases hE
    have hothers : ∀ j, j ∈ ((List.range k).filter fun j => decide (j ≠ i)) → j < k ∧ j ≠ i := fun j hj => by simpa using hj
    have hol : ((List.range k).filter fun j => decide (j ≠ i)).length ≤ k := by
      have := List.length_filter_le (fun j => decide (j ≠ i)) (List.range k)
      rw [List.length_range] at this
      exact this
    refine ⟨E, rfl, ⟨_, SqL.of hE8⟩, ?_⟩
    have hrow : rowL k f i = ((List.range k).filter fun j => decide (j ≠ i)).map (meet f i) := rfl
    generalize ((List.range k).filter fun j => decide (j ≠ i)) = os at *
    refine for_list (K := K) (a := E) (xs := nv nm os) (fun r σ' H' => (∃ x7 x8 x9, σ' = [some v, some (.ref ln), some (.ref lw), some (.ref d), some (.ref Tb), x5, some (.str (nm i)), x7, x8, x9, none, none]) ∧ KC Tb H8 H' ∧ H' Tb = some (.lst (iv ((List.range k).map (size f) ++ ((List.range k).take i).flatMap (rowL k f) ++ (os.take r).map (meet f i))))) ⟨⟨_, _, _, rfl⟩, fun _ _ _ e => e, by simpa using hT8⟩ (fun i σ' H' _ h => SqL.of (h.2.1 _ _ nET hE8)) ?_ ?_
    · rintro r y σ' H9 hy ⟨⟨x7', x8', x9', rfl⟩, kc9', hT9⟩
      obtain ⟨j, hj, rfl⟩ : ∃ j, os[r]? = some j ∧ V.str (nm j) = y := by
        simp only [nv, List.getElem?_map] at hy
        cases z : os[r]? with
        | none => rw [z] at hy; cases hy
        | some j => rw [z] at hy; exact ⟨j, rfl, by simpa using hy⟩
      obtain ⟨hjk, hji⟩ := hothers j (List.mem_of_getElem? hj)
      have hro : r < os.length := (List.getElem?_eq_some_iff.mp hj).1
      have kc9 := kc8.trans kc9'
      have tk9 := kctk kc9
      refine ⟨_, rfl, _, rfl, _, rfl, _, rfl, _, rfl, lw, ln, d, i, j, f, ws, L, rfl, kclw kc9, hws.imp fun x t ⟨a, e, h⟩ => ⟨a, e, tk9 _ _ h⟩, hset, kcln kc9, kcd kc9, fun z => hji z.symm, hmem i hi, hmem j hjk, hmd, hltk, hL14, fun H10 e10 => ?_⟩
      have kc10 := kc9.trans (KC.of e10 (C := Tb))
      refine ⟨_, rfl, _, rfl, _, rfl, v, f, i, j, rfl, hf.keep (kctk kc10), by omega, hmod, fun z => hji z.symm, hmem i hi, hmem j hjk, fun H11 e11 => ?_⟩
      have kc11 := kc10.trans (KC.of e11 (C := Tb))
      have hT11 := e11 _ _ (e10 _ _ hT9)
      refine ⟨_, rfl, rfl, _, rfl, ifDF (decide_eq_false (fun z => nomatch z)) ?_⟩
      refine ⟨_, rfl, .int (meet f i j : Int), .ty "bool", .type "int", .type "bool", false, rfl, .ty _, .base (.int _), kit_ty (by decide +kernel), false, rfl, ifDF rfl ?_⟩
      refine ⟨_, rfl, _, rfl, rfl, _, rfl, ifDF (by simp) ?_⟩
      refine ⟨_, rfl, .inl ⟨rfl, _, SqL.of hT11⟩, _, rfl, Tb, _, _, rfl, rfl, hT11, lt_line ?_, ⟨_, _, _, rfl⟩, ?_, ?_⟩
      · simp only [List.length_map, List.length_append, List.length_range, List.length_take]
        have h1 : (((List.range k).take i).flatMap (rowL k f)).length ≤ 8 * 8 := by
          have h2 := flat_len (f := rowL k f) (b := 8) ((List.range k).take i) fun x _ => by
            have := List.length_filter_le (fun j => decide (j ≠ x)) (List.range k)
            rw [List.length_range] at this
            unfold rowL
            rw [List.length_map]
            omega
          rw [List.length_take, List.length_range] at h2
          have h3 : min i k * 8 ≤ 8 * 8 := Nat.mul_le_mul_right _ (by omega)
          omega
        omega
      · intro b o nb e
        rw [upd_ne nb]
        exact (KC.of (C := Tb) (e10.trans e11)) _ _ nb (kc9' _ _ nb e)
      · rw [upd_same, List.take_add_one, hj]
        simp
    · rintro σ' H9 ⟨⟨x7', x8', x9', rfl⟩, kc9', hT9⟩
      have hosl : (nv nm os).length = os.length := by simp [nv]
      rw [hosl, List.take_length] at hT9
      refine ⟨⟨_, _, _, _, rfl⟩, kc8.trans kc9', ?_⟩
      rw [hT9, List.take_add_one, hri]
      simp [hrow]
  · rintro σ' H7 ⟨⟨x6, x7, x8, x9, rfl⟩, kc7, hT7⟩
    rw [hln0, List.take_of_length_le (by simp)] at hT7
    have hd7 := kcd kc7
    refine ⟨_, rfl, d, _, rfl, DPut.k (k := Sum.inr "none") hd7 (lt_line ?_), ?_⟩
    · simp only [sz, List.length_map]; omega
    have tk8 := TK.updL (o' := .dK (putK (sz nm f f.names) (Sum.inr "none") (V.int 0))) hd7 (fun _ z => by cases z)
    have e8 : Same H (upd H7 d (.dK (putK (sz nm f f.names) (Sum.inr "none") (V.int 0)))) := same_updN (kcsame kc7) nd1
    have hT8 : upd H7 d (.dK (putK (sz nm f f.names) (Sum.inr "none") (V.int 0))) Tb = some (.lst (iv ((List.range k).map (size f) ++ (List.range k).flatMap (rowL k f)))) := by rw [upd_ne ndT.symm]; exact hT7
    generalize upd H7 d (.dK (putK (sz nm f f.names) (Sum.inr "none") (V.int 0))) = H8 at *
    refine ⟨_, rfl, v, f, rfl, hf.keep (TK.of e8), by omega, hmod, fun d3 H9 e9 nd3 hd3 => ?_⟩
    refine ⟨d3, _, rfl, hd3, _, rfl, ln, _, rfl, .inl (SqL.of (e9 _ _ (e8 _ _ hln))), rfl, _, rfl, ifDT (decide_eq_true ?_) ⟨_, rfl, q Tb H9 (e8.trans e9) nTb (e9 _ _ hT8)⟩⟩
    rw [hln0]
    simp [sz, hnlen]
end
end Nf

/-! ## L15 -/
set_option Elab.async false
set_option linter.all false
set_option maxRecDepth 100000
set_option maxHeartbeats 4000000
/-! one formula right -/
namespace Nf
open PySem PySem.Spec PyProof.Rows L2
open LamX (CodeO TabS TabB ExtN)
theorem Md.norm {f : F} (h : Md f) : Md (normF f) := by
  have hp := names_normF f
  refine ⟨(norm_normF h.wf h.nd).wf, hp.nodup_iff.mpr h.nd, by rw [hp.length_eq]; exact h.len, fun i hi => ?_⟩
  rw [(table_normF h.wf h.nd).sizes i hi]
  exact h.le i (hp.mem_iff.mp hi)
theorem size_normF {f : F} (h : Md f) (i : Nat) : size (normF f) i = size f i := by
  have hp := names_normF f
  by_cases hi : i ∈ (normF f).names
  · exact (table_normF h.wf h.nd).sizes i hi
  · rw [size_zero _ hi, size_zero _ fun z => hi (hp.mem_iff.mpr z)]
theorem leI_trans (a b c : List Int) (h1 : leI a b = true) (h2 : leI b c = true) : leI a c = true := by
  simp only [leI, decide_eq_true_eq] at *
  exact List.le_trans h1 h2
theorem leI_total (a b : List Int) : (leI a b || leI b a) = true := by
  simp only [leI, Bool.or_eq_true, decide_eq_true_eq]
  exact List.le_total _ _
theorem leI_anti (a b : List Int) (h1 : leI a b = true) (h2 : leI b a = true) : a = b := by
  simp only [leI, decide_eq_true_eq] at h1 h2
  exact List.le_antisymm h1 h2
/-- the sorted list of a set of ways -/
structure Srt (k : Nat) (S : W → Prop) (L : List (List Int)) : Prop where
  set : IsSet k S L
  le : L.Pairwise fun a b => leI a b = true
theorem Srt.of {k : Nat} {S : W → Prop} {L : List (List Int)} (h : IsSet k S L) : Srt k S (L.mergeSort leI) := by
  have p := List.mergeSort_perm L leI
  exact ⟨⟨p.nodup_iff.mpr h.1, fun t => p.mem_iff.trans (h.2 t)⟩, List.pairwise_mergeSort leI_trans leI_total L⟩
theorem Srt.eq {k : Nat} {S T : W → Prop} {L M : List (List Int)} (a : Srt k S L) (b : Srt k T M) (h : ∀ w, S w ↔ T w) : L = M :=
  perm_sorted_eq leI_anti (perm_of_mem a.set.1 b.set.1 fun x => (a.set.2 x).trans (((b.set.2 x).trans ⟨fun ⟨w, h1, h2⟩ => ⟨w, (h w).mpr h1, h2⟩, fun ⟨w, h1, h2⟩ => ⟨w, (h w).mp h1, h2⟩⟩).symm)) a.le b.le
theorem sc_law_one_right : FnScope ["_law_formula_here", "_law_names_here", "_law_ways", "_law_told"] ["_law_formula_here", "_law_names_here", "_law_ways"] (defScope s_law_one_right) := ⟨rfl, rfl, rfl, by decide +kernel, rfl, by decide +kernel, by decide +kernel⟩
def spOne (nm : Nat → Str) (k cap : Nat) (Pt : Addr) : Sp := fun vs H Q _ => ∃ (v : V) (ln lw : Addr) (f : F) (ws : List V) (L : List (List Int)), vs = [v, .ref ln, .ref lw] ∧ FV nm H f v ∧ H ln = some (.lst (nv nm (List.range k))) ∧ H lw = some (.lst ws) ∧ All2 (IsT' H) ws L ∧ Srt k (Way f) L ∧
  Md f ∧ f.names.Perm (List.range k) ∧ 1 ≤ k ∧ k ≤ 8 ∧ (∀ i, size f i ≤ cap) ∧ cap ≤ 60 ∧ (cap + 1) ^ k ≤ 14000000 ∧ TabS H Pt jQ ∧ ∀ (H' : Hp), ExtN H H' → TabS H' Pt jQ → Q (.bl true) H'
section
variable {P : Program} {w : World} {K : PySem.W.Frag} {mg : Str → Option Value} {base : Heap} {nm : Nat → Str}
theorem ok_law_one_right {k cap : Nat} {Pt : Addr} (T : Txt K mg) (N : Nm nm k) (TB : TabB base mg (He.cT K ("joined", none)).1 Pt) : Kept P w K mg base 34 "_law_one_right" ["_law_formula_here", "_law_names_here", "_law_ways"] (spOne nm k cap Pt) := by
  have GN : Kept P w K mg base 33 "normal" ["formula"] (spNormal nm k 12 Pt) := ok_normal T N 12 TB
  have GNK := kw_normal T GN
  have GC := (ok_check (P := P) (w := w) (base := base) T N).mono (show 4 ≤ 33 by omega)
  have GK := (ok_kinds_of (P := P) (w := w) (base := base) T N 13).mono (show 13 + 1 ≤ 33 by omega)
  have GL := (ok_law_least (P := P) (w := w) (base := base) T N 13).mono (show 13 ≤ 33 by omega)
  have GW := (ok_law_laid (P := P) (w := w) (base := base) (cap := cap) T N 13).mono (show 13 + 1 ≤ 33 by omega)
  have GM := (ok_meeting (P := P) (w := w) (base := base) T N 13).mono (show 13 ≤ 33 by omega)
  have GMK := kw_meeting T GM
  obtain ⟨fd, FD⟩ := T.f_law_one_right
  refine kept_of FD T.m_law_one_right sc_law_one_right (fun _ _ _ _ _ _ us hl => match us, hl with | [_, _, _], _ => rfl) (fun vs H Q E h => ?_) (fun cdv A outer s H vs Q E hr h => ?_)
  · obtain ⟨v, ln, lw, f, ws, L, rfl, _⟩ := h; rfl
  obtain ⟨v, ln, lw, f, ws, L, rfl, hf, hln, hlw, hws, hset, hmd, hpm, hk1, hk8, hcs, hc60, hcap, tab, q⟩ := h
  have nd := sc_law_one_right.nd
  refine ⟨_, (pss_cons (ps_set (i := 3) nd rfl (Or.inl rfl) (pe_kc GN hr rfl (pa_cons (pv 0) pa_nil)))
    (pss_cons (ps_if (PW.pt (pw_or (pt_cmpR op_notN (pe_kc GC hr rfl (pa_cons (pv 3) pa_nil)) pe_non (nomark _)) (pw_or (pt_cmpR (op_neD hr.units) (pe_kc GK hr rfl (pa_cons (pv 3) pa_nil)) (pe_callTy call_tuple_of (by rfl) T.z_tuple (by decide +kernel) (pa_cons (pv 1) pa_nil)) (nomark _)) (pw_or1 (pt_cmpR op_ne (pe_kc GL hr rfl (pa_cons (pv 3) pa_nil)) (pe_ix ix_list (pv 1) pe_int (fun _ _ => rfl)) (nomark _)))))) (pss_one (ps_ret pe_bl)) pss_nil)
    (pss_cons (ps_if (PW.pt (pw_or (pt_cmpR (op_neD hr.units) (pe_callB (cr_sortT hr.units) (by rfl) T.z_sorted (by decide +kernel) (pa_cons (pe_callTy (call_list_dT rfl) (by rfl) T.z_list (by decide +kernel) (pa_cons (pe_kc GW hr rfl (pa_cons (pv 3) (pa_cons (pv 1) pa_nil))) pa_nil)) pa_nil)) (pv 2) (nomark _)) (pw_or (pt_cmpR (op_neD hr.units) (pe_kc GN hr rfl (pa_cons (pv 3) pa_nil)) (pv 3) (nomark _)) (pw_or1 (pt_cmpR (op_neD hr.units) (pe_kck GNK hr rfl (pk_cons (pv 0) pk_nil)) (pv 3) (nomark _)))))) (pss_one (ps_ret pe_bl)) pss_nil)
    (pss_one (ps_ret (pe_or (pe_cmpR op_eq (pe_callB call_len_seq (by rfl) T.z_len PySem.boot_len (pa_cons (pv 1) pa_nil)) pe_int (nomark _)) (pe_one (pe_cmpR op_eq (pe_kck GMK hr rfl (pk_cons (pe_ix ix_list (pv 1) pe_int (fun _ _ => rfl)) (pk_cons (pe_ix ix_list (pv 1) (pe_un un_neg pe_int) (fun _ _ => rfl)) (pk_cons (pv 3) pk_nil)))) (pe_kc GM hr rfl (pa_cons (pv 0) (pa_cons (pe_ix ix_list (pv 1) pe_int (fun _ _ => rfl)) (pa_cons (pe_ix ix_list (pv 1) (pe_un un_neg pe_int) (fun _ _ => rfl)) pa_nil)))) (nomark _))))))))), ?_⟩
  have hmod := hmd.mod hpm
  have hd12 := hmd.dep
  have hg := hmd.norm
  have gpm : (normF f).names.Perm (List.range k) := (names_normF f).trans hpm
  have gmod := hg.mod gpm
  have gdep : dep (normF f) ≤ 12 := Nat.le_trans ((dep_normT f 1).2 rfl) hd12
  have gnorm := norm_normF hmd.wf hmd.nd
  have gidem := normF_idem hmd.wf hmd.nd
  have gsz := size_normF hmd
  have gtab := table_normF hmd.wf hmd.nd
  have gway : ∀ w, Way (normF f) w ↔ Way f w := way_normF hmd.wf
  have hln0 : (nv nm (List.range k)).length = k := by simp [nv]
  have hrk : ∀ i ∈ List.range k, i < k := fun i hi => by simpa using hi
  have hidx : ∀ x, x < k → (nv nm (List.range k))[x]? = some (V.str (nm x)) := fun x hx => by
    simp only [nv, List.getElem?_map]
    rw [List.getElem?_range hx]
    rfl
  have hlast : atI (nv nm (List.range k)) (-1) = some (V.str (nm (k - 1))) := by
    have : nv nm (List.range k) = nv nm (List.range (k - 1)) ++ [V.str (nm (k - 1))] := by
      conv => lhs; rw [show k = k - 1 + 1 by omega, List.range_succ]
      simp [nv]
    rw [this]
    exact atI_last _ _
  have gmem : ∀ x, x < k → x ∈ (normF f).names := fun x hx => gpm.mem_iff.mpr (by simpa using hx)
  have fmem : ∀ x, x < k → x ∈ f.names := fun x hx => hpm.mem_iff.mpr (by simpa using hx)
  have gle : least (normF f) = 0 := lmin_eq (gmem 0 (by omega)) fun y _ => Nat.zero_le y
  have glt : ∀ i ∈ (normF f).names, i < k := gmod.lt
  refine ⟨_, rfl, v, f, rfl, hf, hd12, hmod, tab, fun vt H1 e1 t1 hvt => ?_⟩
  have hln1 := e1 _ _ hln (fun _ z => by cases z)
  have hlw1 := e1 _ _ hlw (fun _ z => by cases z)
  have hws1 : All2 (IsT' H1) ws L := hws.imp fun x t ⟨a, e, h⟩ => ⟨a, e, TK.ext e1 _ _ h⟩
  -- the first line
  refine ⟨_, rfl, vt, normF f, rfl, hvt, ⟨hg.wf, hg.nd, glt, fun i hi => by rw [Nat.one_mul]; exact hg.le i hi⟩, hg.len, fun H2 e2 => ?_⟩
  refine ⟨rfl, _, rfl, ifDF rfl ?_⟩
  refine ⟨_, rfl, vt, normF f, rfl, hvt.keep (TK.of e2), by omega, by omega, gpm, fun p3 H3 e3 np3 hp3 => ?_⟩
  refine ⟨_, rfl, ln, _, rfl, .inl ⟨SqL.of (e3 _ _ (e2 _ _ hln1)), fun p4 hp4 => ?_⟩⟩
  have e4 := same_upd (o := .tup (nv nm (List.range k))) hp4
  have hp34 := e4 _ _ hp3
  have hp44 : upd H3 p4 (.tup (nv nm (List.range k))) p4 = some (.tup (nv nm (List.range k))) := upd_same
  generalize upd H3 p4 (.tup (nv nm (List.range k))) = H4 at *
  rw [nv_str] at hp34 hp44
  refine ⟨.tuple _, .tuple _, .tup (SqT.of hp34) (dpAll_strs K _ _), .tup (SqT.of hp44) (dpAll_strs K _ _), shaped_strsT N hrk, shaped_strsT N hrk, _, rfl, ifDF ?_ ?_⟩
  · have : PyData.eqv (.tuple (((List.range k).map nm).map .str)) (.tuple (((List.range k).map nm).map .str)) = true := by
      simp only [PyData.eqv]
      exact (eqvAll_map PyData.str eqv_str _ _).mpr rfl
    rw [this]
    rfl
  have e14 : ExtN H1 H4 := ExtN.of ((e2.trans e3).trans e4)
  refine ⟨_, rfl, vt, normF f, rfl, hvt.keep (TK.ext e14), by omega, gnorm, glt, by have := hg.len; omega, fun H5 e5 => ?_⟩
  have e15 : Same H1 H5 := ((e2.trans e3).trans e4).trans e5
  refine ⟨_, rfl, ln, _, 0, _, rfl, rfl, SqL.of (e15 _ _ hln1), atI_nat (hidx 0 (by omega)), rfl, _, rfl, ifDF (by rw [gle]; simp) ?_⟩
  -- the second line: its ways
  refine ⟨_, rfl, _, rfl, vt, ln, normF f, rfl, hvt.keep (TK.of e15), e15 _ _ hln1, by omega, hg.wf, hg.nd, glt, fun i => by rw [gsz]; exact hcs i, by have := hg.len; omega, hk1, hk8, hc60, hcap, fun D L2 H6 e6 nD hD hset2 => ?_⟩
  refine ⟨D, dv L2, rfl, .inl hD, fun l7 bs hl7 hks => ?_⟩
  have e7 := same_upd (o := .lst (bs.map V.ref)) hl7
  have hk7 : All2 (IsT K (upd H6 l7 (.lst (bs.map V.ref)))) (bs.map V.ref) L2 := (keys_ref hks).imp fun x t ⟨a, e, h⟩ => ⟨a, e, SqT.of (e7 _ _ h)⟩
  refine ⟨l7, bs.map V.ref, L2, rfl, SqL.of upd_same, hk7, fun ns hns => ?_, fun ys p8 hys np8 => ?_⟩
  · obtain ⟨w, _, rfl⟩ := (hset2.2 ns).mp hns
    intro z
    have := vec_len k w
    rw [z] at this
    simp at this
    omega
  have e8 := same_upd (o := .lst ys) np8
  have eL : L2.mergeSort leI = L := (Srt.of hset2).eq hset fun w => gway w
  rw [eL] at hys
  have hys8 : All2 (IsT K (upd (upd H6 l7 (.lst (bs.map V.ref))) p8 (.lst ys))) ys L := hys.imp fun x t ⟨a, e, h⟩ => ⟨a, e, sqT_same e8 h⟩
  have e18 : Same H1 (upd (upd H6 l7 (.lst (bs.map V.ref))) p8 (.lst ys)) := ((e15.trans e6).trans e7).trans e8
  have hp88 : upd (upd H6 l7 (.lst (bs.map V.ref))) p8 (.lst ys) p8 = some (.lst ys) := upd_same
  generalize upd (upd H6 l7 (.lst (bs.map V.ref))) p8 (.lst ys) = H8 at *
  refine ⟨_, rfl, .list _, .list _, .lst (SqL.of hp88) (dp_tups hys8), .lst (SqL.of (e18 _ _ hlw1)) (dp_tups (hws1.imp fun x t ⟨a, e, h⟩ => ⟨a, e, SqT.of (e18 _ _ h)⟩)), shaped_dIs _, shaped_dIs _, _, rfl, ifDF ?_ ?_⟩
  · have : PyData.eqv (.list (L.map dI)) (.list (L.map dI)) = true := by
      simp only [PyData.eqv]
      exact (eqvAll_map dI eqv_dI _ _).mpr rfl
    rw [this]
    rfl
  have t8 := TabS.ext t1 e18
  have selfeq : PyData.eqv (encF nm (normF f)) (encF nm (normF f)) = true := (encF_eqv N _ glt _ glt).mpr rfl
  have gshape : SeqAt.shaped (encF nm (normF f)) = true := encF_shaped N glt (by omega)
  -- normal(told)
  refine ⟨_, rfl, vt, normF f, rfl, hvt.keep (TK.of e18), gdep, gmod, t8, fun v9 H9 e9 t9 hv9 => ?_⟩
  rw [gidem] at hv9
  have e19 : ExtN H1 H9 := (ExtN.of e18).trans e9
  refine ⟨_, rfl, _, _, FV.dp _ _ hv9, FV.dp _ _ (hvt.keep (TK.ext e19)), gshape, gshape, _, rfl, ifDF (by rw [selfeq]; rfl) ?_⟩
  -- normal(formula = ..)
  refine ⟨_, rfl, rfl, v, f, rfl, hf.keep (TK.ext (e1.trans e19)), hd12, hmod, t9, fun v10 H10 e10 t10 hv10 => ?_⟩
  have e110 := e19.trans e10
  refine ⟨_, rfl, _, _, FV.dp _ _ hv10, FV.dp _ _ (hvt.keep (TK.ext e110)), gshape, gshape, _, rfl, ifDF (by rw [selfeq]; rfl) ?_⟩
  have hln10 := e110 _ _ hln1 (fun _ z => by cases z)
  have hln11 : H10 ln = some (.lst (nv nm (List.range k))) := hln10
  refine ⟨_, rfl, ln, _, rfl, .inl (SqL.of hln11), rfl, _, rfl, ?_⟩
  rw [hln0]
  by_cases hone : k = 1
  · refine ifDT (by rw [hone]; exact decide_eq_true rfl) (q H10 (e1.trans e110) t10)
  · refine ifDF (decide_eq_false (fun z => hone (by have := V.int.inj z; omega))) ?_
    refine ⟨_, rfl, ln, _, 0, _, rfl, rfl, SqL.of hln11, atI_nat (hidx 0 (by omega)), _, rfl, 1, rfl, ln, _, -1, _, rfl, rfl, SqL.of hln11, hlast, _, rfl, rfl, ?_⟩
    refine ⟨vt, normF f, 0, k - 1, rfl, hvt.keep (TK.ext e110), by omega, gmod, by omega, gmem 0 (by omega), gmem (k - 1) (by omega), fun H11 e11 => ?_⟩
    have hln12 := e11 _ _ hln11
    refine ⟨_, rfl, _, rfl, ln, _, 0, _, rfl, rfl, SqL.of hln12, atI_nat (hidx 0 (by omega)), _, rfl, 1, rfl, ln, _, -1, _, rfl, rfl, SqL.of hln12, hlast, ?_⟩
    refine ⟨v, f, 0, k - 1, rfl, (hf.keep (TK.ext (e1.trans e110))).keep (TK.of e11), by omega, hmod, by omega, fmem 0 (by omega), fmem (k - 1) (by omega), fun H12 e12 => ?_⟩
    refine ⟨rfl, ?_⟩
    have em := gtab.meets 0 (gmem 0 (by omega)) (k - 1) (gmem (k - 1) (by omega)) (by omega)
    rw [em, decide_eq_true rfl]
    exact q H12 ((e1.trans e110).trans (ExtN.of (e11.trans e12))) (TabS.ext t10 (e11.trans e12))
end
end Nf

/-! ## L16 -/
set_option Elab.async false
set_option linter.all false
set_option maxRecDepth 100000
set_option maxHeartbeats 4000000
/-! the law -/
namespace Nf
open PySem PySem.Spec PyProof.Rows L2
open LamX (CodeO TabS TabB ExtN)
/-! ### sorted(xs), xs a list of tuples of whole numbers: what is told of the items goes along -/
def rSortTP (K : PySem.W.Frag) : List V → Hp → VK → Prop := fun vs H Q => ∃ (a : Addr) (xs : List V) (ks : List (List Int)), vs = [.ref a] ∧ SqL K H a xs ∧ All2 (IsT' H) xs ks ∧ (∀ ns ∈ ks, ns ≠ []) ∧
  ∀ (ys : List V) (p : Addr), All2 (IsT' H) ys (ks.mergeSort leI) → H p = none → Q (.ref p) (upd H p (.lst ys))
section
variable {X : Cx}
theorem cr_sortTP (hu : X.A.units + 64 < cLine) : CallR X (.builtin "sorted") (rSortTP X.K) := by
  intro pins s σ H vs us Q I r h
  obtain ⟨a, xs, ks, rfl, hs, hk, hne, q⟩ := h
  obtain ⟨its, rv, hl, hz⟩ := I.list hs
  rw [Vals.ref1 r]
  have er : ∀ {xs : List V} {ks : List (List Int)} {its : List Value}, All2 (IsT' H) xs ks → Vals xs its → PySem.W.EachIs (fun v ns => ∃ as, Reads s.heap v (PyData.tuple (ns.map .int)) as) its ks := by
    intro xs ks its h rv
    induction h generalizing its with
    | nil => cases rv; exact .nil
    | cons hx _ ih =>
      cases rv with
      | cons r1 r2 =>
        obtain ⟨t, rfl, ht⟩ := hx
        obtain ⟨as, e⟩ := Dp.reads I _ _ _ (Dp.tup (SqT.of ht) (dpAll_ints _ _ _)) r1
        exact .cons ⟨as, e⟩ (ih r2)
  have ei : ∀ {xs : List V} {ks : List (List Int)} {its : List Value}, All2 (IsT' H) xs ks → Vals xs its → PySem.W.EachIs (fun v ns => ∃ t, v = Value.ref t ∧ H t = some (.tup (ns.map V.int))) its ks := by
    intro xs ks its h rv
    induction h generalizing its with
    | nil => cases rv; exact .nil
    | cons hx _ ih =>
      cases rv with
      | cons r1 r2 =>
        obtain ⟨t, rfl, ht⟩ := hx
        cases r1
        exact .cons ⟨t, rfl, ht⟩ (ih r2)
  have back : ∀ {out : List Value} {ls : List (List Int)}, PySem.W.EachIs (fun v ns => ∃ t, v = Value.ref t ∧ H t = some (.tup (ns.map V.int))) out ls → ∃ ys : List V, Vals ys out ∧ All2 (IsT' H) ys ls := by
    intro out ls h
    induction h with
    | nil => exact ⟨[], .nil, .nil⟩
    | cons hx _ ih =>
      obtain ⟨ys, a, b⟩ := ih
      obtain ⟨t, rfl, ht⟩ := hx
      exact ⟨.ref t :: ys, .cons rfl a, .cons ⟨t, rfl, ht⟩ b⟩
  have hln : ks.length ≤ sizeLine := by rw [← hk.length]; exact hz
  have hd : ∀ ns ∈ ks, X.A.units + 2 + (PyData.tuple (ns.map PyData.int)).depth < cLine := fun ns _ => by
    simp only [PyData.depth, PySem.W.depth_ints]
    omega
  refine PySem.W.sorted_data (enc := fun ns : List Int => PyData.tuple (ns.map .int)) hl.isList (ei hk rv) (er hk rv) (PySem.W.AllAlike.of fun a b => ?_) (.inl fun d hd => ?_) hln hd fun out ho eo => ?_
  · simp only [PySem.W.alike]; exact PySem.W.alike_ints a b
  · obtain ⟨ns, hn, rfl⟩ := List.mem_map.mp hd
    cases ns with
    | nil => exact absurd rfl (hne _ hn)
    | cons n r => exact ⟨_, _, rfl⟩
  · rw [dataLe_tups] at eo
    obtain ⟨ys, v1, v2⟩ := back eo
    obtain ⟨ep, he'⟩ := PyProof.Rows.sortedAll_at s.heap its out.toArray
    have hly : ys.length ≤ sizeLine := by rw [v2.length, List.length_mergeSort]; exact hln
    exact ⟨.ref _, upd H (s.heap.objs.size + 1) (.lst ys), I.laid (t' := s.toks) (fun _ _ => PyProof.Rows.sortedAll_old) (Nat.le_succ _) ⟨hly, out, ep, v1, he'⟩, rfl, q ys _ v2 (I.hok.fresh (Nat.le_succ _))⟩
end
theorem TabS.ds {h c : Addr} {H H' : Hp} {Pt : Addr} {q : Str} (s : HS h c H) (d : DS h c H H') (t : TabS H Pt q) : TabS H' Pt q := by
  obtain ⟨_, ns, st, a, a2, _⟩ := s
  obtain ⟨ps, h1, h2, h3⟩ := t
  refine ⟨ps, d.kp _ _ (ne_of h1 a (fun z => by cases z)) (ne_of h1 a2 (fun z => by cases z)) h1, h2, fun pos cv hc => ?_⟩
  obtain ⟨x, e, hx⟩ := h3 pos cv hc
  exact ⟨x, e, d.kp _ _ (ne_of hx a (fun z => by cases z)) (ne_of hx a2 (fun z => by cases z)) hx⟩
/-! ### the plain law -/
theorem ways_of_lists {k : Nat} {f g : F} {L M : List (List Int)} (pf : f.names.Perm (List.range k)) (pg : g.names.Perm (List.range k)) (a : Srt k (Way f) L) (b : Srt k (Way g) M) : L = M ↔ ∀ w, Way f w ↔ Way g w := by
  refine ⟨fun e w => ?_, fun h => a.eq b h⟩
  have key : ∀ {f g : F} {L : List (List Int)}, f.names.Perm (List.range k) → g.names.Perm (List.range k) → IsSet k (Way f) L → IsSet k (Way g) L → Way f w → Way g w := by
    intro f g L pf pg a b hw
    obtain ⟨v, hv, e⟩ := (b.2 _).mp ((a.2 _).mpr ⟨w, hw, rfl⟩)
    have : w = v := by
      funext i
      by_cases hi : i < k
      · exact vec_at e hi
      · rw [way_out f (fun z => hi (by simpa using pf.mem_iff.mp z)) w hw, way_out g (fun z => hi (by simpa using pg.mem_iff.mp z)) v hv]
    rw [this]
    exact hv
  subst e
  exact ⟨key pf pg a.set b.set, key pg pf b.set a.set⟩
theorem flatMap_inj {α β : Type} {f g : α → List β} : ∀ {l : List α}, (∀ x ∈ l, (f x).length = (g x).length) → l.flatMap f = l.flatMap g → ∀ x ∈ l, f x = g x
  | [], _, _, x, hx => by cases hx
  | a :: l, h, e, x, hx => by
    rw [List.flatMap_cons, List.flatMap_cons] at e
    obtain ⟨e1, e2⟩ := List.append_inj e (h a List.mem_cons_self)
    rcases List.mem_cons.mp hx with rfl | hx
    · exact e1
    · exact flatMap_inj (fun y hy => h y (List.mem_cons_of_mem _ hy)) e2 x hx
theorem tables_iff {k : Nat} {f g : F} (mf : Md f) (mg : Md g) (pf : f.names.Perm (List.range k)) (pg : g.names.Perm (List.range k)) : tableL k f = tableL k g ↔ ∀ w, Way f w ↔ Way g w := by
  have hs : ∀ i, i ∈ f.names ↔ i ∈ g.names := fun i => pf.mem_iff.trans pg.mem_iff.symm
  have hr : ∀ i, i ∈ f.names ↔ i < k := fun i => by rw [pf.mem_iff]; simp
  rw [← (law_core mf.wf mg.wf mf.nd mg.nd hs).2]
  constructor
  · intro e
    obtain ⟨e1, e2⟩ := List.append_inj e (by simp)
    have h1 := List.map_inj_left.mp e1
    have h2 := flatMap_inj (fun x _ => by simp [rowL]) e2
    refine ⟨hs, fun i hi => h1 i (by simpa using (hr i).mp hi), fun i hi j hj hij => ?_⟩
    have h3 := h2 i (by simpa using (hr i).mp hi)
    exact List.map_inj_left.mp h3 j (by simp only [List.mem_filter, List.mem_range, decide_eq_true_eq]; exact ⟨(hr j).mp hj, fun z => hij z.symm⟩)
  · intro t
    unfold tableL
    congr 1
    · exact List.map_congr_left fun i hi => t.sizes i ((hr i).mpr (by simpa using hi))
    · refine congrArg List.flatten (List.map_congr_left fun i hi => ?_)
      refine List.map_congr_left fun j hj => ?_
      simp only [List.mem_filter, List.mem_range, decide_eq_true_eq] at hj
      exact t.meets i ((hr i).mpr (by simpa using hi)) j ((hr j).mpr hj.1) fun z => hj.2 z.symm
/-! ### bounds by the number of names -/
def roomOf (k : Nat) : Nat := [4, 4, 4, 4, 3, 2, 1, 1, 1].getD k 1
def b1 (k : Nat) : Nat := if k ≤ 4 then 30 else if k = 5 then 2 else 1
def capOf (k : Nat) : Nat := if k ≤ 4 then 60 else if k = 5 then 4 else 1
theorem bounds : ∀ k, k ≤ 8 → 1 ≤ roomOf k ∧ roomOf k ≤ 4 ∧ roomOf k ≤ b1 k ∧ b1 k ≤ capOf k ∧ capOf k ≤ 60 ∧ (k < 6 → 2 * b1 k ≤ capOf k) ∧ (capOf k + 1) ^ k ≤ 14000000 := by decide +kernel
theorem map_perm {α β : Type} {f : α → β} {l : List α} {ys : List β} (h : ys.Perm (l.map f)) : ∃ ds : List α, ds.Perm l ∧ ys = ds.map f := by
  have h1 : ∀ l : List α, All2 (fun a b => b = f a) l (l.map f) := fun l => by
    induction l with
    | nil => exact .nil
    | cons a l ih => exact .cons rfl ih
  obtain ⟨ds, pd, hd⟩ := All2.perm h.symm (h1 l)
  refine ⟨ds, pd, ?_⟩
  clear pd h
  induction hd with
  | nil => rfl
  | cons e _ ih => rw [e, ih]; rfl
theorem sc_law : FnScope ["_law_script", "_law_heap_here", "_law_names_here", "_law_room", "_law_first", "_law_kind", "_law_second", "_law_some", "_law_more", "_law_one", "_law_other_here"] ["_law_script"] (defScope s_law) := ⟨rfl, rfl, rfl, by decide +kernel, rfl, by decide +kernel, by decide +kernel⟩
def spLaw (K : PySem.W.Frag) (Pt : Addr) : Sp := fun vs H Q _ => ∃ (a : Addr) (ns : List Int), vs = [.ref a] ∧ SqL K H a (ns.map V.int) ∧ TabS H Pt jQ ∧ ∀ (H' : Hp), Q (.bl true) H'
/-- names with a number of them and a bound -/
def NK : Type := {p : (Nat → Str) × Nat × Nat // Nm p.1 p.2.1}
def nk0 : NK := ⟨(fun _ => "", 0, 0), ⟨fun i h => absurd h (Nat.not_lt_zero i), fun i j _ h => absurd h (Nat.not_lt_zero j)⟩⟩
section
variable {P : Program} {w : World} {K : PySem.W.Frag} {mg : Str → Option Value} {base : Heap}
theorem ok_law {Pt : Addr} (T : Txt K mg) (TB : TabB base mg (He.cT K ("joined", none)).1 Pt) : Kept P w K mg base 35 "law" ["_law_script"] (spLaw K Pt) := by
  have GH := (ok_law_heap (P := P) (w := w) (base := base) T).mono (show 1 ≤ 34 by omega)
  have GD := (kept_ex ((0, 0) : Addr × Addr) fun i => ok_law_draw (P := P) (w := w) (base := base) (h := i.1) (c := i.2) T).mono (show 1 ≤ 34 by omega)
  have GP := (kept_ex ((0, 0) : Addr × Addr) fun i => ok_law_pick (P := P) (w := w) (base := base) (h := i.1) (c := i.2) T).mono (show 2 ≤ 34 by omega)
  have GNm := (kept_ex ((0, 0) : Addr × Addr) fun i => ok_law_names (P := P) (w := w) (base := base) (h := i.1) (c := i.2) T).mono (show 3 ≤ 34 by omega)
  have GM := (kept_ex ((0, 0) : Addr × Addr) fun i => ok_law_mixed (P := P) (w := w) (base := base) (h := i.1) (c := i.2) T).mono (show 2 ≤ 34 by omega)
  have GF := (kept_ex (((0, 0), fun _ => "") : (Addr × Addr) × (Nat → Str)) fun i => ok_law_formula (P := P) (w := w) (base := base) (nm := i.2) (h := i.1.1) (c := i.1.2) T 13).mono (show 13 + 2 ≤ 34 by omega)
  have GDp := (kept_ex (((0, 0), fun _ => "") : (Addr × Addr) × (Nat → Str)) fun i => ok_law_deep (P := P) (w := w) (base := base) (nm := i.2) (h := i.1.1) (c := i.1.2) T).mono (show 3 ≤ 34 by omega)
  have GO := (kept_ex (((0, 0), fun _ => "") : (Addr × Addr) × (Nat → Str)) fun i => ok_law_other (P := P) (w := w) (base := base) (nm := i.2) (h := i.1.1) (c := i.1.2) T 13).mono (show 13 + 16 ≤ 34 by omega)
  have GCh := (kept_ex (((0, 0), fun _ => "") : (Addr × Addr) × (Nat → Str)) fun i => ok_law_changed (P := P) (w := w) (base := base) (nm := i.2) (h := i.1.1) (c := i.1.2) T).mono (show 14 ≤ 34 by omega)
  have GW := (kept_ex nk0 fun i => ok_law_laid (P := P) (w := w) (base := base) (cap := i.1.2.2) T i.2 13).mono (show 13 + 1 ≤ 34 by omega)
  have GR := kept_ex nk0 fun i => ok_law_one_right (P := P) (w := w) (base := base) (cap := i.1.2.2) T i.2 TB
  have GT := (kept_ex nk0 fun i => ok_law_table (P := P) (w := w) (base := base) T i.2).mono (show 14 ≤ 34 by omega)
  have GN := (kept_ex nk0 fun i => ok_normal (P := P) (w := w) T i.2 12 TB).mono (show 12 + 1 + (12 + 7) + 1 ≤ 34 by omega)
  obtain ⟨fd, FD⟩ := T.f_law
  refine kept_of FD T.m_law sc_law (fun _ _ _ _ _ _ us hl => match us, hl with | [_], _ => rfl) (fun vs H Q E h => ?_) (fun cdv A outer s H vs Q E hr h => ?_)
  · obtain ⟨a, ns, rfl, _⟩ := h; rfl
  obtain ⟨a, ns, rfl, ha, tab, q⟩ := h
  have nd := sc_law.nd
  refine ⟨_, (pss_cons (ps_set (i := 1) nd rfl (Or.inl rfl) (pe_kc GH hr rfl (pa_cons (pv 0) pa_nil)))
    (pss_cons (ps_set (i := 2) nd rfl (Or.inl rfl) (pe_kc GNm hr rfl (pa_cons (pv 1) (pa_cons (pe_kc GP hr rfl (pa_cons (pv 1) (pa_cons (pe_lst (pa_cons pe_int (pa_cons pe_int (pa_cons pe_int (pa_cons pe_int (pa_cons pe_int (pa_cons pe_int (pa_cons pe_int (pa_cons pe_int (pa_cons pe_int (pa_cons pe_int (pa_cons (pe_op op_addN pe_int (pe_kc GD hr rfl (pa_cons (pv 1) (pa_cons pe_int pa_nil)))) pa_nil)))))))))))) pa_nil))) pa_nil))))
    (pss_cons (ps_set (i := 3) nd rfl (Or.inl rfl) (pe_ix ix_list (pe_lst (pa_cons pe_int (pa_cons pe_int (pa_cons pe_int (pa_cons pe_int (pa_cons pe_int (pa_cons pe_int (pa_cons pe_int (pa_cons pe_int (pa_cons pe_int pa_nil)))))))))) (pe_callB call_len_seq (by rfl) T.z_len PySem.boot_len (pa_cons (pv 2) pa_nil)) (fun _ _ => rfl)))
    (pss_cons (ps_set (i := 4) nd rfl (Or.inl rfl) (pe_kc GF hr rfl (pa_cons (pv 1) (pa_cons (pe_kc GM hr rfl (pa_cons (pv 1) (pa_cons (pv 2) pa_nil))) (pa_cons (pv 3) pa_nil)))))
    (pss_cons (ps_if (PW.pt (pw_and (pt_cmpR op_eq (pe_callB call_len_seq (by rfl) T.z_len PySem.boot_len (pa_cons (pv 2) pa_nil)) pe_int (nomark _)) (pw_and1 (pt_cmpR op_eq (pe_kc GD hr rfl (pa_cons (pv 1) (pa_cons pe_int pa_nil))) pe_int (nomark _))))) (pss_one (ps_set (i := 4) nd rfl (Or.inl rfl) (pe_kc GDp hr rfl (pa_cons (pv 1) (pa_cons (pv 2) pa_nil))))) pss_nil)
    (pss_cons (ps_set (i := 5) nd rfl (Or.inl rfl) (pe_kc GD hr rfl (pa_cons (pv 1) (pa_cons (pe_ifExp (pt_cmpR op_lt (pe_callB call_len_seq (by rfl) T.z_len PySem.boot_len (pa_cons (pv 2) pa_nil)) pe_int (nomark _)) pe_int pe_int) pa_nil))))
    (pss_cons (ps_if (pt_cmpR op_eq (pv 5) pe_int (nomark _)) (pss_one (ps_set (i := 6) nd rfl (Or.inl rfl) (pe_kc GF hr rfl (pa_cons (pv 1) (pa_cons (pe_kc GM hr rfl (pa_cons (pv 1) (pa_cons (pv 2) pa_nil))) (pa_cons (pv 3) pa_nil)))))) (pss_one (ps_set (i := 6) nd rfl (Or.inl rfl) (pe_kc GO hr rfl (pa_cons (pv 1) (pa_cons (pe_ifExp (pt_cmpR op_eq (pv 5) pe_int (nomark _)) (pv 4) (pe_ifExp (pt_cmpR op_eq (pv 5) pe_int (nomark _)) (pe_kc GCh hr rfl (pa_cons (pv 1) (pa_cons (pv 4) pa_nil))) (pe_kc GO hr rfl (pa_cons (pv 1) (pa_cons (pv 4) pa_nil))))) pa_nil))))))
    (pss_cons (ps_par (i := 7) (j := 8) rfl nd rfl rfl (by decide) rfl rfl (pa_cons (pe_callB (cr_sortTP hr.units) (by rfl) T.z_sorted (by decide +kernel) (pa_cons (pe_callTy (call_list_dT rfl) (by rfl) T.z_list (by decide +kernel) (pa_cons (pe_kc GW hr rfl (pa_cons (pv 4) (pa_cons (pv 2) pa_nil))) pa_nil)) pa_nil)) (pa_cons (pe_callB (cr_sortTP hr.units) (by rfl) T.z_sorted (by decide +kernel) (pa_cons (pe_callTy (call_list_dT rfl) (by rfl) T.z_list (by decide +kernel) (pa_cons (pe_kc GW hr rfl (pa_cons (pv 6) (pa_cons (pv 2) pa_nil))) pa_nil)) pa_nil)) pa_nil)) (by rfl))
    (pss_cons (ps_if (PW.pt (pw_or (pt_not (pt_val (pe_kc GR hr rfl (pa_cons (pv 4) (pa_cons (pv 2) (pa_cons (pv 7) pa_nil)))))) (pw_or1 (pt_not (pt_val (pe_kc GR hr rfl (pa_cons (pv 6) (pa_cons (pv 2) (pa_cons (pv 8) pa_nil))))))))) (pss_one (ps_ret pe_bl)) pss_nil)
    (pss_cons (ps_par (i := 9) (j := 10) rfl nd rfl rfl (by decide) rfl rfl (pa_cons (pe_kc GT hr rfl (pa_cons (pv 4) (pa_cons (pv 2) (pa_cons (pv 7) pa_nil)))) (pa_cons (pe_kc GT hr rfl (pa_cons (pv 6) (pa_cons (pv 2) (pa_cons (pv 8) pa_nil)))) pa_nil)) (by rfl))
    (pss_cons (ps_if (PW.pt (pw_or (pt_cmpR op_isN (pv 9) pe_non (nomark _)) (pw_or1 (pt_cmpR op_isN (pv 10) pe_non (nomark _))))) (pss_one (ps_ret pe_bl)) pss_nil)
    (pss_one (ps_ret (pe_and (pe_cmpR op_eq (pe_cmpR (op_eqD hr.units) (pe_kc GN hr rfl (pa_cons (pv 4) pa_nil)) (pe_kc GN hr rfl (pa_cons (pv 6) pa_nil)) (nomark _)) (pe_cmpR (op_eqD hr.units) (pv 7) (pv 8) (nomark _)) (nomark _)) (pe_one (pe_cmpR op_eq (pe_cmpR (op_eqD hr.units) (pv 9) (pv 10) (nomark _)) (pe_cmpR (op_eqD hr.units) (pv 7) (pv 8) (nomark _)) (nomark _))))))))))))))))), ?_⟩
  refine ⟨_, rfl, a, ns, rfl, ha, fun h c H1 e1 hs1 nh nc => ?_⟩
  have tab1 := TabS.ext tab e1
  -- the names
  refine ⟨_, rfl, _, rfl, _, rfl, (h, c), 3, rfl, by decide, by decide, hs1, fun r2 H2 hr2 d2 => ⟨6, r2, rfl, rfl, by show 11 ≤ sizeLine; decide, fun l3 hl3 => ?_⟩⟩
  have e3 := same_upd (o := .lst [.int 3, .int 4, .int 2, .int 3, .int 4, .int 1, .int 3, .int 2, .int 4, .int 5, .int ((6 + r2 : Nat) : Int)]) hl3
  have d3 := d2.same e3
  refine ⟨(h, c), l3, _, rfl, upd_same, d2.hs.neh hl3, d2.hs.nec hl3, by show 1 ≤ 11; decide, by show 11 ≤ 1000; decide, d3.hs, fun x H4 hx d4 => ?_⟩
  obtain ⟨k, rfl, hk1, hk8⟩ : ∃ k : Nat, x = .int (k : Int) ∧ 1 ≤ k ∧ k ≤ 8 := by
    simp only [List.mem_cons, List.not_mem_nil, or_false] at hx
    rcases hx with rfl | rfl | rfl | rfl | rfl | rfl | rfl | rfl | rfl | rfl | rfl
    · exact ⟨3, rfl, by decide, by decide⟩
    · exact ⟨4, rfl, by decide, by decide⟩
    · exact ⟨2, rfl, by decide, by decide⟩
    · exact ⟨3, rfl, by decide, by decide⟩
    · exact ⟨4, rfl, by decide, by decide⟩
    · exact ⟨1, rfl, by decide, by decide⟩
    · exact ⟨3, rfl, by decide, by decide⟩
    · exact ⟨2, rfl, by decide, by decide⟩
    · exact ⟨4, rfl, by decide, by decide⟩
    · exact ⟨5, rfl, by decide, by decide⟩
    · exact ⟨6 + r2, rfl, by omega, by omega⟩
  clear hx
  have d4' := d3.trans d4
  refine ⟨(h, c), k, rfl, hk1, hk8, d4'.hs, fun nm ln H5 hN d5 nln hln => ?_⟩
  have d15 := d4'.trans d5
  have hs5 := d15.hs
  have lh := d4'.hs.neh nln
  have lc := d4'.hs.nec nln
  have tab5 := TabS.ds hs1 d15 tab1
  clear d2 e3 d3 d4 d4' d5 d15 nln tab1 e1 hs1 nh nc hl3
  obtain ⟨bd1, bd2, bd3, bd4, bd5, bd6, bd7⟩ := bounds k hk8
  have hln0 : (nv nm (List.range k)).length = k := by simp [nv]
  -- the room
  refine ⟨by show 9 ≤ sizeLine; decide, fun l6 hl6 => ?_⟩
  have e6 := same_upd (o := .lst [.int 4, .int 4, .int 4, .int 4, .int 3, .int 2, .int 1, .int 1, .int 1]) hl6
  have hroom : ([.int 4, .int 4, .int 4, .int 4, .int 3, .int 2, .int 1, .int 1, .int 1] : List V)[k]? = some (.int (roomOf k : Int)) := by
    have : ∀ k, k ≤ 8 → ([.int 4, .int 4, .int 4, .int 4, .int 3, .int 2, .int 1, .int 1, .int 1] : List V)[k]? = some (.int (roomOf k : Int)) := by decide +kernel
    exact this k hk8
  refine ⟨_, rfl, ln, _, rfl, .inl (SqL.of (e6 _ _ hln)), ?_⟩
  rw [hln0]
  refine ⟨l6, _, (k : Int), _, rfl, rfl, SqL.of upd_same, atI_nat hroom, ?_⟩
  have d6 := DS.of hs5 e6
  generalize upd H5 l6 (.lst [.int 4, .int 4, .int 4, .int 4, .int 3, .int 2, .int 1, .int 1, .int 1]) = H6 at *
  have keepln : ∀ {H' : Hp}, DS h c H5 H' → H' ln = some (.lst (nv nm (List.range k))) := fun d => d.kp _ _ lh lc hln
  -- a formula by the draws, from names mixed
  have drawn : ∀ (H' : Hp) (ys : List V) (p : Addr), ys.Perm (nv nm (List.range k)) → ∃ ns : List Nat, ns.Perm (List.range k) ∧ ys = nv nm ns := fun H' ys p hy => by
    obtain ⟨ds, pd, e⟩ := map_perm hy
    exact ⟨ds, pd, e⟩
  refine ⟨_, rfl, _, rfl, _, rfl, (h, c), ln, _, rfl, keepln d6, lh, lc, by rw [hln0]; omega, d6.hs, fun p7 ys7 H7 hy7 d7 np7 hp7 => ?_⟩
  obtain ⟨n7, pn7, rfl⟩ := drawn H7 ys7 p7 hy7
  have n7l : n7.length = k := by rw [pn7.length_eq, List.length_range]
  have d67 := d6.trans d7
  refine ⟨_, rfl, ((h, c), nm), p7, n7, roomOf k, rfl, hp7, d6.hs.neh np7, d6.hs.nec np7, by intro z; rw [z] at n7l; simp at n7l; omega, pn7.nodup_iff.mpr List.nodup_range, by omega, bd1, by omega, by omega, d7.hs, fun v1 f1 H8 d8 hv1 hfn1 hfw1 hfs1 => ?_⟩
  have sizes_of_names : ∀ (g : F) (b : Nat), g.names.Perm (List.range k) → (∀ i ∈ g.names, size g i ≤ b) → ∀ i, size g i ≤ b := fun g b _ hg i => by
    by_cases hi : i ∈ g.names
    · exact hg i hi
    · rw [size_zero g hi]; exact Nat.zero_le _
  have md : ∀ (g : F), Wf g → g.names.Perm (List.range k) → (∀ i, size g i ≤ capOf k) → Md g := fun g hw hp hb =>
    ⟨hw, hp.nodup_iff.mpr List.nodup_range, by rw [hp.length_eq, List.length_range]; exact hk8, fun i _ => by have := hb i; omega⟩
  have drawnok : ∀ (g : F) (ns : List Nat), g.names = ns → ns.Perm (List.range k) → (∀ i ∈ ns, size g i ≤ roomOf k) → g.names.Perm (List.range k) ∧ ∀ i, size g i ≤ b1 k := fun g ns e p hb => by
    have hp : g.names.Perm (List.range k) := by rw [e]; exact p
    refine ⟨hp, sizes_of_names g (b1 k) hp fun i hi => ?_⟩
    have := hb i (by rw [← e]; exact hi)
    omega
  -- behind the deep ones
  refine seq_q (fun σ' H' => ∃ (v : V) (f : F), σ' = [some (.ref a), some (.ref h), some (.ref ln), some (.int (roomOf k : Int)), some v, none, none, none, none, none, none] ∧ DS h c H5 H' ∧ FV nm H' f v ∧ Wf f ∧ f.names.Perm (List.range k) ∧ ∀ i, size f i ≤ b1 k) ?_ fun tail => ?_
  · rintro σ' H9 ⟨v, f, rfl, d9, hv, hfw, hfp, hfs⟩
    have fmd := md f hfw hfp fun i => Nat.le_trans (hfs i) bd4
    -- the kind
    refine seq_of (fun σ' H' => ∃ r : Nat, σ' = [some (.ref a), some (.ref h), some (.ref ln), some (.int (roomOf k : Int)), some v, some (.int (r : Int)), none, none, none, none, none] ∧ DS h c H5 H' ∧ FV nm H' f v ∧ r < 4 ∧ (6 ≤ k → r < 2)) ?_ fun tail => ?_
    · rintro σ' H10 ⟨r, rfl, d10, hv10, hr4, hr2⟩
      -- the second
      refine seq_of (fun σ' H' => ∃ (v2 : V) (g : F), σ' = [some (.ref a), some (.ref h), some (.ref ln), some (.int (roomOf k : Int)), some v, some (.int (r : Int)), some v2, none, none, none, none] ∧ DS h c H5 H' ∧ FV nm H' f v ∧ FV nm H' g v2 ∧ Wf g ∧ g.names.Perm (List.range k) ∧ ∀ i, size g i ≤ capOf k) ?_ fun tail => ?_
      · rintro σ' H11 ⟨v2, g, rfl, d11, hv11, hg11, hgw, hgp, hgs⟩
        have gmd := md g hgw hgp hgs
        have hln11 := keepln d11
        have tab11 := TabS.ds hs5 d11 tab5
        have flt : ∀ i ∈ f.names, i < k := fun i hi => by simpa using hfp.mem_iff.mp hi
        have glt : ∀ i ∈ g.names, i < k := fun i hi => by simpa using hgp.mem_iff.mp hi
        have fcap : ∀ i, size f i ≤ capOf k := fun i => Nat.le_trans (hfs i) bd4
        have vne : ∀ (S : W → Prop) (L : List (List Int)), IsSet k S L → ∀ ns ∈ L, ns ≠ [] := fun S L hset ns hns z => by
          obtain ⟨w, _, e⟩ := (hset.2 ns).mp hns
          have := vec_len k w
          rw [← e, z] at this
          simp at this
          omega
        -- the ways of the first
        refine ⟨_, rfl, _, rfl, ⟨(nm, k, capOf k), hN⟩, v, ln, f, rfl, hv11, hln11, by have := fmd.dep; omega, hfw, fmd.nd, flt, fcap, by have := fmd.len; omega, hk1, hk8, bd5, bd7, fun D1 L1 H12 e12 nD1 hD1 hset1 => ?_⟩
        refine ⟨D1, dv L1, rfl, .inl hD1, fun l13 bs1 hl13 hks1 => ?_⟩
        have e13 := same_upd (o := .lst (bs1.map V.ref)) hl13
        refine ⟨l13, bs1.map V.ref, L1, rfl, SqL.of upd_same, (keys_ref hks1).imp fun x t ⟨a, e, h⟩ => ⟨a, e, e13 _ _ h⟩, vne _ _ hset1, fun ys1 lw1 hys1 nlw1 => ?_⟩
        have e14 := same_upd (o := .lst ys1) nlw1
        have hlw1 : upd (upd H12 l13 (.lst (bs1.map V.ref))) lw1 (.lst ys1) lw1 = some (.lst ys1) := upd_same
        have hys1 : All2 (IsT' (upd (upd H12 l13 (.lst (bs1.map V.ref))) lw1 (.lst ys1))) ys1 (L1.mergeSort leI) := hys1.imp fun x t ⟨a, e, h⟩ => ⟨a, e, e14 _ _ h⟩
        have eA : Same H11 (upd (upd H12 l13 (.lst (bs1.map V.ref))) lw1 (.lst ys1)) := (e12.trans e13).trans e14
        generalize upd (upd H12 l13 (.lst (bs1.map V.ref))) lw1 (.lst ys1) = H14 at *
        -- the ways of the second
        refine ⟨_, rfl, _, rfl, ⟨(nm, k, capOf k), hN⟩, v2, ln, g, rfl, hg11.keep (TK.of eA), eA _ _ hln11, by have := gmd.dep; omega, hgw, gmd.nd, glt, hgs, by have := gmd.len; omega, hk1, hk8, bd5, bd7, fun D2 L2 H15 e15 nD2 hD2 hset2 => ?_⟩
        refine ⟨D2, dv L2, rfl, .inl hD2, fun l16 bs2 hl16 hks2 => ?_⟩
        have e16 := same_upd (o := .lst (bs2.map V.ref)) hl16
        refine ⟨l16, bs2.map V.ref, L2, rfl, SqL.of upd_same, (keys_ref hks2).imp fun x t ⟨a, e, h⟩ => ⟨a, e, e16 _ _ h⟩, vne _ _ hset2, fun ys2 lw2 hys2 nlw2 => ?_⟩
        have e17 := same_upd (o := .lst ys2) nlw2
        have hlw2 : upd (upd H15 l16 (.lst (bs2.map V.ref))) lw2 (.lst ys2) lw2 = some (.lst ys2) := upd_same
        have hys2 : All2 (IsT' (upd (upd H15 l16 (.lst (bs2.map V.ref))) lw2 (.lst ys2))) ys2 (L2.mergeSort leI) := hys2.imp fun x t ⟨a, e, h⟩ => ⟨a, e, e17 _ _ h⟩
        have eB : Same H14 (upd (upd H15 l16 (.lst (bs2.map V.ref))) lw2 (.lst ys2)) := (e15.trans e16).trans e17
        have hlw1' := eB _ _ hlw1
        have hys1' : All2 (IsT' (upd (upd H15 l16 (.lst (bs2.map V.ref))) lw2 (.lst ys2))) ys1 (L1.mergeSort leI) := hys1.imp fun x t ⟨a, e, h⟩ => ⟨a, e, eB _ _ h⟩
        have eC := eA.trans eB
        generalize upd (upd H15 l16 (.lst (bs2.map V.ref))) lw2 (.lst ys2) = H17 at *
        have srt1 := Srt.of hset1
        have srt2 := Srt.of hset2
        have len1 : (L1.mergeSort leI).length ≤ 14000000 := Nat.le_trans (srt1.set.len fun w hw i => Nat.le_trans (way_le f fmd.nd w hw) (fcap i)) bd7
        have len2 : (L2.mergeSort leI).length ≤ 14000000 := Nat.le_trans (srt2.set.len fun w hw i => Nat.le_trans (way_le g gmd.nd w hw) (hgs i)) bd7
        generalize L1.mergeSort leI = M1 at *
        generalize L2.mergeSort leI = M2 at *
        refine ⟨_, _, rfl, ?_⟩
        have hv17 := hv11.keep (TK.of eC)
        have hg17 := hg11.keep (TK.of eC)
        have hln17 := eC _ _ hln11
        have tab17 := TabS.ext tab11 eC
        -- each right
        refine ⟨_, rfl, _, rfl, _, rfl, ⟨(nm, k, capOf k), hN⟩, v, ln, lw1, f, ys1, M1, rfl, hv17, hln17, hlw1', hys1', srt1, fmd, hfp, hk1, hk8, fcap, bd5, bd7, tab17, fun H18 x18 t18 => ⟨true, rfl, ifDF rfl ?_⟩⟩
        have k18 : ∀ {b : Addr} {zs : List V}, H17 b = some (.lst zs) → H18 b = some (.lst zs) := fun z => x18 _ _ z (fun _ y => by cases y)
        refine ⟨_, rfl, _, rfl, _, rfl, ⟨(nm, k, capOf k), hN⟩, v2, ln, lw2, g, ys2, M2, rfl, hg17.keep (TK.ext x18), k18 hln17, k18 hlw2, hys2.imp fun x t ⟨a, e, h⟩ => ⟨a, e, TK.ext x18 _ _ h⟩, srt2, gmd, hgp, hk1, hk8, hgs, bd5, bd7, t18, fun H19 x19 t19 => ⟨true, rfl, ifDF rfl ?_⟩⟩
        have x179 := x18.trans x19
        have k19 : ∀ {b : Addr} {zs : List V}, H17 b = some (.lst zs) → H19 b = some (.lst zs) := fun z => x179 _ _ z (fun _ y => by cases y)
        have hv19 := hv17.keep (TK.ext x179)
        have hg19 := hg17.keep (TK.ext x179)
        have hys19 : All2 (IsT' H19) ys1 M1 := hys1'.imp fun x t ⟨a, e, h⟩ => ⟨a, e, TK.ext x179 _ _ h⟩
        have hzs19 : All2 (IsT' H19) ys2 M2 := hys2.imp fun x t ⟨a, e, h⟩ => ⟨a, e, TK.ext x179 _ _ h⟩
        -- the tables
        refine ⟨_, rfl, _, rfl, _, rfl, ⟨(nm, k, capOf k), hN⟩, v, ln, lw1, f, ys1, M1, rfl, hv19, k19 hln17, k19 hlw1', hys19, srt1.set, fmd, hfp, hk8, len1, fun T1 H20 e20 nT1 hT1 => ?_⟩
        refine ⟨_, rfl, _, rfl, _, rfl, ⟨(nm, k, capOf k), hN⟩, v2, ln, lw2, g, ys2, M2, rfl, hg19.keep (TK.of e20), e20 _ _ (k19 hln17), e20 _ _ (k19 hlw2), hzs19.imp fun x t ⟨a, e, h⟩ => ⟨a, e, e20 _ _ h⟩, srt2.set, gmd, hgp, hk8, len2, fun T2 H21 e21 nT2 hT2 => ⟨_, _, rfl, ?_⟩⟩
        refine ⟨_, rfl, rfl, _, rfl, ifDF (decide_eq_false (fun z => nomatch z)) ?_⟩
        refine ⟨_, rfl, rfl, _, rfl, ifDF (decide_eq_false (fun z => nomatch z)) ?_⟩
        have e1921 := e20.trans e21
        have t21 := TabS.ext t19 e1921
        -- the law itself
        have hcore := law_core fmd.wf gmd.wf fmd.nd gmd.nd (fun i => hfp.mem_iff.trans hgp.mem_iff.symm)
        have hlists := ways_of_lists hfp hgp srt1 srt2
        have htabs := tables_iff fmd gmd hfp hgp
        refine ⟨_, rfl, ⟨(nm, k, capOf k), hN⟩, v, f, rfl, hv19.keep (TK.of e1921), fmd.dep, fmd.mod hfp, t21, fun n1 H22 x22 t22 hn1 => ?_⟩
        refine ⟨_, rfl, ⟨(nm, k, capOf k), hN⟩, v2, g, rfl, (hg19.keep (TK.of e1921)).keep (TK.ext x22), gmd.dep, gmd.mod hgp, t22, fun n2 H23 x23 t23 hn2 => ?_⟩
        have nflt : ∀ i ∈ (normF f).names, i < k := fun i hi => flt i ((names_normF f).mem_iff.mp hi)
        have nglt : ∀ i ∈ (normF g).names, i < k := fun i hi => glt i ((names_normF g).mem_iff.mp hi)
        have nfd : dep (normF f) ≤ 31 := by have := (dep_normT f 1).2 rfl; have := fmd.dep; unfold normF; omega
        have ngd : dep (normF g) ≤ 31 := by have := (dep_normT g 1).2 rfl; have := gmd.dep; unfold normF; omega
        refine ⟨_, _, FV.dp _ _ (hn1.keep (TK.ext x23)), FV.dp _ _ hn2, encF_shaped hN nflt nfd, encF_shaped hN nglt ngd, ?_⟩
        have x213 := x22.trans x23
        have kk23 : ∀ {b : Addr} {zs : List V}, H21 b = some (.lst zs) → H23 b = some (.lst zs) := fun z => x213 _ _ z (fun _ y => by cases y)
        have k23 : ∀ {b : Addr} {zs : List V}, H17 b = some (.lst zs) → H23 b = some (.lst zs) := fun z => kk23 (e1921 _ _ (k19 z))
        have hys23 : All2 (IsT K H23) ys1 M1 := hys19.imp fun x t ⟨a, e, h⟩ => ⟨a, e, SqT.of (TK.ext x213 _ _ (e1921 _ _ h))⟩
        have hzs23 : All2 (IsT K H23) ys2 M2 := hzs19.imp fun x t ⟨a, e, h⟩ => ⟨a, e, SqT.of (TK.ext x213 _ _ (e1921 _ _ h))⟩
        have lists : ∀ R : VK, R (.bl (PyData.eqv (.list (M1.map dI)) (.list (M2.map dI)))) H23 → tOp (rEqD K) (tVar 7) (tVar 8) [some (.ref a), some (.ref h), some (.ref ln), some (.int (roomOf k : Int)), some v, some (.int (r : Int)), some v2, some (.ref lw1), some (.ref lw2), some (.ref T1), some (.ref T2)] H23 R := fun R hR =>
          ⟨_, rfl, _, rfl, _, _, .lst (SqL.of (k23 hlw1')) (dp_tups hys23), .lst (SqL.of (k23 hlw2)) (dp_tups hzs23), shaped_dIs _, shaped_dIs _, hR⟩
        refine lists _ ?_
        have q1 : PyData.eqv (encF nm (normF f)) (encF nm (normF g)) = PyData.eqv (.list (M1.map dI)) (.list (M2.map dI)) := by
          rw [Bool.eq_iff_iff, encF_eqv hN _ nflt _ nglt]
          simp only [PyData.eqv]
          rw [eqvAll_map dI eqv_dI, hlists]
          exact hcore.1
        refine ⟨rfl, true, by rw [q1]; simp, ifDT rfl ?_⟩
        have hiv : ∀ l : List Nat, iv l = (l.map fun n : Nat => (n : Int)).map V.int := fun l => by simp [List.map_map, Function.comp_def]
        have hT1' := kk23 (e21 _ _ hT1)
        have hT2' := kk23 hT2
        have dpn : ∀ l : List Nat, DpAll K H23 (iv l) (l.map fun n : Nat => PyData.int (n : Int)) := fun l => dp_nats K H23 l
        refine ⟨_, rfl, _, rfl, _, _, .lst (SqL.of hT1') (dpn _), .lst (SqL.of hT2') (dpn _), shaped_ints _, shaped_ints _, ?_⟩
        refine lists _ ?_
        have q2 : PyData.eqv (.list ((tableL k f).map fun n : Nat => PyData.int (n : Int))) (.list ((tableL k g).map fun n : Nat => PyData.int (n : Int))) = PyData.eqv (.list (M1.map dI)) (.list (M2.map dI)) := by
          rw [Bool.eq_iff_iff]
          simp only [PyData.eqv]
          rw [eqvAll_map dI eqv_dI, eqvAll_map (fun n : Nat => PyData.int (n : Int)) (fun a b => by simp [PyData.eqv]; try omega), hlists]
          exact htabs
        refine ⟨rfl, ?_⟩
        rw [q2]
        simp only [decide_true]
        exact q H23
      · refine ⟨_, rfl, rfl, _, rfl, ?_⟩
        by_cases hr0 : r = 0
        · subst hr0
          refine ifDT (decide_eq_true rfl) ?_
          refine ⟨_, rfl, _, rfl, _, rfl, (h, c), ln, _, rfl, keepln d10, lh, lc, by rw [hln0]; omega, d10.hs, fun p11 ys11 H11 hy11 d11 np11 hp11 => ?_⟩
          obtain ⟨n11, pn11, rfl⟩ := drawn H11 ys11 p11 hy11
          have n11l : n11.length = k := by rw [pn11.length_eq, List.length_range]
          refine ⟨_, rfl, ((h, c), nm), p11, n11, roomOf k, rfl, hp11, d10.hs.neh np11, d10.hs.nec np11, by intro z; rw [z] at n11l; simp at n11l; omega, pn11.nodup_iff.mpr List.nodup_range, by omega, bd1, by omega, by omega, d11.hs, fun v2 g H12 d12 hv2 hgn hgw hgs => ?_⟩
          obtain ⟨hgp, hgb⟩ := drawnok g n11 hgn pn11 hgs
          exact tail _ _ ⟨v2, g, rfl, (d10.trans d11).trans d12, hv10.ds d10.hs (d11.trans d12), hv2, hgw, hgp, fun i => Nat.le_trans (hgb i) bd4⟩
        · refine ifDF (decide_eq_false (fun z => hr0 (by have := V.int.inj z; omega))) ?_
          -- another way to write a formula
          have rest : ∀ (H11 : Hp) (u : V) (f' : F), DS h c H5 H11 → FV nm H11 f v → FV nm H11 f' u → Md f' → f'.names.Perm (List.range k) → (∀ i, size f' i ≤ capOf k) →
              spOther nm h c 13 [.ref h, u] H11 (fun v2 H' => ∃ (g : F), DS h c H5 H' ∧ FV nm H' f v ∧ FV nm H' g v2 ∧ Wf g ∧ g.names.Perm (List.range k) ∧ ∀ i, size g i ≤ capOf k) E0 := fun H11 u f' d11 hv11 hu hm hp hz =>
            ⟨u, f', rfl, hu, by have := hm.dep; omega, hm, d11.hs, fun v2 g H12 d12 hv2 hsc => ⟨g, d11.trans d12, hv11.ds d11.hs d12, hv2, hsc.wf, hsc.nm.trans hp, fun i => by rw [hsc.sz, Nat.one_mul]; exact hz i⟩⟩
          have mono : ∀ (H11 : Hp) (u : V) (Q1 Q2 : VK), (∀ x H', Q1 x H' → Q2 x H') → spOther nm h c 13 [.ref h, u] H11 Q1 E0 → spOther nm h c 13 [.ref h, u] H11 Q2 E0 := fun H11 u Q1 Q2 hq ⟨x, f', e, a1, a2, a3, a4, a5⟩ => ⟨x, f', e, a1, a2, a3, a4, fun v' g H' b1 b2 b3 => hq _ _ (a5 v' g H' b1 b2 b3)⟩
          have fcap : ∀ i, size f i ≤ capOf k := fun i => Nat.le_trans (hfs i) bd4
          refine ⟨_, rfl, _, rfl, rfl, _, rfl, ?_⟩
          by_cases hr1 : r = 1
          · subst hr1
            refine ifDT (decide_eq_true rfl) ⟨_, rfl, ((h, c), nm), ?_⟩
            exact mono _ _ _ _ (fun x H' ⟨g, z⟩ => tail _ _ ⟨x, g, rfl, z⟩) (rest H10 v f d10 hv10 hv10 fmd hfp fcap)
          · refine ifDF (decide_eq_false (fun z => hr1 (by have := V.int.inj z; omega))) ?_
            refine ⟨_, rfl, rfl, _, rfl, ?_⟩
            by_cases hr2' : r = 2
            · subst hr2'
              have hk6 : k < 6 := by
                rcases Nat.lt_or_ge k 6 with z | z
                · exact z
                · exact absurd (hr2 z) (by decide)
              refine ifDT (decide_eq_true rfl) ?_
              refine ⟨_, rfl, _, rfl, ((h, c), nm), v, f, rfl, hv10, fmd, d10.hs, fun v' f' H11 d11 hv' hrp => ⟨((h, c), nm), ?_⟩⟩
              have hp' : f'.names.Perm (List.range k) := by rw [hrp.nm]; exact hfp
              have hz' : ∀ i, size f' i ≤ capOf k := fun i => by
                have := hrp.sz i
                have := hfs i
                have := bd6 hk6
                omega
              exact mono _ _ _ _ (fun x H' ⟨g, z⟩ => tail _ _ ⟨x, g, rfl, z⟩) (rest H11 v' f' (d10.trans d11) (hv10.ds d10.hs d11) hv' (md f' hrp.wf hp' hz') hp' hz')
            · refine ifDF (decide_eq_false (fun z => hr2' (by have := V.int.inj z; omega))) ?_
              refine ⟨_, rfl, _, rfl, ((h, c), nm), v, f, rfl, hv10, by have := fmd.dep; omega, fmd, d10.hs, fun v' f' H11 d11 hv' hsc => ⟨((h, c), nm), ?_⟩⟩
              have hp' : f'.names.Perm (List.range k) := hsc.nm.trans hfp
              have hz' : ∀ i, size f' i ≤ capOf k := fun i => by rw [hsc.sz, Nat.one_mul]; exact fcap i
              exact mono _ _ _ _ (fun x H' ⟨g, z⟩ => tail _ _ ⟨x, g, rfl, z⟩) (rest H11 v' f' (d10.trans d11) (hv10.ds d10.hs d11) hv' (fmd.of hsc) hp' hz')
    · refine ⟨_, rfl, _, rfl, ln, _, rfl, .inl (SqL.of (keepln d9)), _, _, rfl, rfl, _, rfl, ?_⟩
      rw [hln0]
      by_cases hk6 : k < 6
      · refine ifDT (decide_eq_true (by omega)) ?_
        refine ⟨(h, c), 4, rfl, by decide, by decide, d9.hs, fun r H10 hr d10 => ?_⟩
        exact tail _ _ ⟨r, rfl, d9.trans d10, hv.ds d9.hs d10, hr, fun z => by omega⟩
      · refine ifDF (decide_eq_false (by omega)) ?_
        refine ⟨(h, c), 2, rfl, by decide, by decide, d9.hs, fun r H10 hr d10 => ?_⟩
        exact tail _ _ ⟨r, rfl, d9.trans d10, hv.ds d9.hs d10, by omega, fun _ => hr⟩
  · obtain ⟨hfp1, hfb1⟩ := drawnok f1 n7 hfn1 pn7 hfs1
    have d58 := d67.trans d8
    refine ⟨_, rfl, ln, _, rfl, .inl (SqL.of (keepln d58)), rfl, _, rfl, ?_⟩
    rw [hln0]
    by_cases hk4 : k = 4
    · refine ifDT (by rw [hk4]; exact decide_eq_true rfl) ?_
      refine ⟨_, rfl, (h, c), 3, rfl, by decide, by decide, d58.hs, fun r H9 hr d9 => ⟨rfl, _, rfl, ?_⟩⟩
      by_cases hr0 : r = 0
      · subst hr0
        refine ifDT (decide_eq_true rfl) ?_
        have d59 := d58.trans d9
        refine ⟨_, rfl, _, rfl, ((h, c), nm), ln, rfl, by rw [keepln d59, hk4], lh, lc, d59.hs, fun v g H10 d10 hv hgw hgp hgs => ?_⟩
        exact tail _ _ ⟨v, g, rfl, d59.trans d10, hv, hgw, by rw [hk4]; exact hgp, fun i => by have := hgs i; rw [hk4]; exact this⟩
      · refine ifDF (decide_eq_false (fun z => hr0 (by have := V.int.inj z; omega))) (tail _ _ ⟨v1, f1, rfl, d58.trans d9, hv1.ds d58.hs d9, hfw1, hfp1, hfb1⟩)
    · exact ifDF (decide_eq_false (fun z => hk4 (by have := V.int.inj z; omega))) (ifDF rfl (tail _ _ ⟨v1, f1, rfl, d58, hv1, hfw1, hfp1, hfb1⟩))
end
end Nf

/-! ## L17 -/
set_option Elab.async false
set_option linter.all false
set_option maxRecDepth 100000
set_option maxHeartbeats 0
/-! the head -/
namespace Nf
open PySem PySem.Spec PyProof.Rows L2
def d_is_integer : He.DefD := ⟨("is_integer", none), "is_integer", "is_integer", defArgs s_is_integer, defBody s_is_integer, defScope s_is_integer, [], []⟩
def d_is_number : He.DefD := ⟨("is_number", none), "is_number", "is_number", defArgs s_is_number, defBody s_is_number, defScope s_is_number, [], []⟩
def d_is_name : He.DefD := ⟨("is_name", none), "is_name", "is_name", defArgs s_is_name, defBody s_is_name, defScope s_is_name, [], []⟩
def d_parts_of : He.DefD := ⟨("parts_of", none), "parts_of", "parts_of", defArgs s_parts_of, defBody s_parts_of, defScope s_parts_of, [], []⟩
def d_check_formula : He.DefD := ⟨("check_formula", none), "check_formula", "check_formula", defArgs s_check_formula, defBody s_check_formula, defScope s_check_formula, [], []⟩
def d_names_in : He.DefD := ⟨("names_in", none), "names_in", "names_in", defArgs s_names_in, defBody s_names_in, defScope s_names_in, [], []⟩
def d_kinds_of : He.DefD := ⟨("kinds_of", none), "kinds_of", "kinds_of", defArgs s_kinds_of, defBody s_kinds_of, defScope s_kinds_of, [], []⟩
def d_sizes_of : He.DefD := ⟨("sizes_of", none), "sizes_of", "sizes_of", defArgs s_sizes_of, defBody s_sizes_of, defScope s_sizes_of, [], []⟩
def d_meeting : He.DefD := ⟨("meeting", none), "meeting", "meeting", defArgs s_meeting, defBody s_meeting, defScope s_meeting, [], []⟩
def d_joined : He.DefD := ⟨("joined", none), "joined", "joined", defArgs s_joined, defBody s_joined, defScope s_joined, [], []⟩
def d_normal_times : He.DefD := ⟨("normal_times", none), "normal_times", "normal_times", defArgs s_normal_times, defBody s_normal_times, defScope s_normal_times, [], []⟩
def d_normal : He.DefD := ⟨("normal", none), "normal", "normal", defArgs s_normal, defBody s_normal, defScope s_normal, [], []⟩
def d_law_heap : He.DefD := ⟨("_law_heap", none), "_law_heap", "_law_heap", defArgs s_law_heap, defBody s_law_heap, defScope s_law_heap, [], []⟩
def d_law_draw : He.DefD := ⟨("_law_draw", none), "_law_draw", "_law_draw", defArgs s_law_draw, defBody s_law_draw, defScope s_law_draw, [], []⟩
def d_law_pick : He.DefD := ⟨("_law_pick", none), "_law_pick", "_law_pick", defArgs s_law_pick, defBody s_law_pick, defScope s_law_pick, [], []⟩
def d_law_names : He.DefD := ⟨("_law_names", none), "_law_names", "_law_names", defArgs s_law_names, defBody s_law_names, defScope s_law_names, [], []⟩
def d_law_mixed : He.DefD := ⟨("_law_mixed", none), "_law_mixed", "_law_mixed", defArgs s_law_mixed, defBody s_law_mixed, defScope s_law_mixed, [], []⟩
def d_law_formula : He.DefD := ⟨("_law_formula", none), "_law_formula", "_law_formula", defArgs s_law_formula, defBody s_law_formula, defScope s_law_formula, [], []⟩
def d_law_sums : He.DefD := ⟨("_law_sums", none), "_law_sums", "_law_sums", defArgs s_law_sums, defBody s_law_sums, defScope s_law_sums, [], []⟩
def d_law_laid : He.DefD := ⟨("_law_laid", none), "_law_laid", "_law_laid", defArgs s_law_laid, defBody s_law_laid, defScope s_law_laid, [], []⟩
def d_law_parts : He.DefD := ⟨("_law_parts", none), "_law_parts", "_law_parts", defArgs s_law_parts, defBody s_law_parts, defScope s_law_parts, [], []⟩
def d_law_replaced : He.DefD := ⟨("_law_replaced", none), "_law_replaced", "_law_replaced", defArgs s_law_replaced, defBody s_law_replaced, defScope s_law_replaced, [], []⟩
def d_law_grouped : He.DefD := ⟨("_law_grouped", none), "_law_grouped", "_law_grouped", defArgs s_law_grouped, defBody s_law_grouped, defScope s_law_grouped, [], []⟩
def d_law_so_many : He.DefD := ⟨("_law_so_many", none), "_law_so_many", "_law_so_many", defArgs s_law_so_many, defBody s_law_so_many, defScope s_law_so_many, [], []⟩
def d_law_other : He.DefD := ⟨("_law_other", none), "_law_other", "_law_other", defArgs s_law_other, defBody s_law_other, defScope s_law_other, [], []⟩
def d_law_changed : He.DefD := ⟨("_law_changed", none), "_law_changed", "_law_changed", defArgs s_law_changed, defBody s_law_changed, defScope s_law_changed, [], []⟩
def d_law_deep : He.DefD := ⟨("_law_deep", none), "_law_deep", "_law_deep", defArgs s_law_deep, defBody s_law_deep, defScope s_law_deep, [], []⟩
def d_law_least : He.DefD := ⟨("_law_least", none), "_law_least", "_law_least", defArgs s_law_least, defBody s_law_least, defScope s_law_least, [], []⟩
def d_law_met : He.DefD := ⟨("_law_met", none), "_law_met", "_law_met", defArgs s_law_met, defBody s_law_met, defScope s_law_met, [], []⟩
def d_law_table : He.DefD := ⟨("_law_table", none), "_law_table", "_law_table", defArgs s_law_table, defBody s_law_table, defScope s_law_table, [], []⟩
def d_law_one_right : He.DefD := ⟨("_law_one_right", none), "_law_one_right", "_law_one_right", defArgs s_law_one_right, defBody s_law_one_right, defScope s_law_one_right, [], []⟩
def d_law : He.DefD := ⟨("law", none), "law", "law", defArgs s_law, defBody s_law, defScope s_law, [], []⟩
def fn : List He.DefD := [d_is_integer, d_is_number, d_is_name, d_parts_of, d_check_formula, d_names_in, d_kinds_of, d_sizes_of, d_meeting, d_joined, d_normal_times, d_normal, d_law_heap, d_law_draw, d_law_pick, d_law_names, d_law_mixed, d_law_formula, d_law_sums, d_law_laid, d_law_parts, d_law_replaced, d_law_grouped, d_law_so_many, d_law_other, d_law_changed, d_law_deep, d_law_least, d_law_met, d_law_table, d_law_one_right, d_law]
def fa : List He.Fa := [He.Fa.glo "is_integer", He.Fa.glo "is_number", He.Fa.glo "is_name", He.Fa.glo "parts_of", He.Fa.glo "check_formula", He.Fa.glo "names_in", He.Fa.glo "kinds_of", He.Fa.glo "sizes_of", He.Fa.glo "meeting", He.Fa.glo "joined", He.Fa.glo "normal_times", He.Fa.glo "normal", He.Fa.glo "_law_heap", He.Fa.glo "_law_draw", He.Fa.glo "_law_pick", He.Fa.glo "_law_names", He.Fa.glo "_law_mixed", He.Fa.glo "_law_formula", He.Fa.glo "_law_sums", He.Fa.glo "_law_laid", He.Fa.glo "_law_parts", He.Fa.glo "_law_replaced", He.Fa.glo "_law_grouped", He.Fa.glo "_law_so_many", He.Fa.glo "_law_other", He.Fa.glo "_law_changed", He.Fa.glo "_law_deep", He.Fa.glo "_law_least", He.Fa.glo "_law_met", He.Fa.glo "_law_table", He.Fa.glo "_law_one_right", He.Fa.glo "law", He.Fa.free "isinstance", He.Fa.free "int", He.Fa.free "bool", He.Fa.free "str", He.Fa.free "len", He.Fa.free "all", He.Fa.free "tuple", He.Fa.free "reversed", He.Fa.free "sorted", He.Fa.free "min", He.Fa.free "max", He.Fa.free "abs", He.Fa.free "range", He.Fa.free "list", He.Fa.free "dict", .int "LONGEST_NAME" 5, .int "MOST_AMOUNT" 60, .int "MOST_KINDS" 8, .str "LETTERS" "abcdefghijklmnopqrstuvwxyz"]
def tf : List He.Defn := [("joined", none)]
def loose : List PySem.Str := [("PoolError" : PySem.Str), ("InvalidFormula" : PySem.Str), ("LETTERS" : PySem.Str), ("LONGEST_NAME" : PySem.Str), ("MOST_AMOUNT" : PySem.Str), ("MOST_KINDS" : PySem.Str), ("is_integer" : PySem.Str), ("is_number" : PySem.Str), ("is_name" : PySem.Str), ("parts_of" : PySem.Str), ("check_formula" : PySem.Str), ("names_in" : PySem.Str), ("kinds_of" : PySem.Str), ("sizes_of" : PySem.Str), ("meeting" : PySem.Str), ("joined" : PySem.Str), ("normal_times" : PySem.Str), ("normal" : PySem.Str), ("_law_heap" : PySem.Str), ("_law_draw" : PySem.Str), ("_law_pick" : PySem.Str), ("_law_names" : PySem.Str), ("_law_mixed" : PySem.Str), ("_law_formula" : PySem.Str), ("_law_sums" : PySem.Str), ("_law_laid" : PySem.Str), ("_law_parts" : PySem.Str), ("_law_replaced" : PySem.Str), ("_law_grouped" : PySem.Str), ("_law_so_many" : PySem.Str), ("_law_other" : PySem.Str), ("_law_changed" : PySem.Str), ("_law_deep" : PySem.Str), ("_law_least" : PySem.Str), ("_law_met" : PySem.Str), ("_law_table" : PySem.Str), ("_law_one_right" : PySem.Str)]

abbrev R : PySem.W.OpenRow := PySem.W.OpenLaw.row PySem.Challenge.rw_asmany_k13_whole_normal_formulas_by_thei
def ts0 : List He.Tab := []
abbrev hk : PySem.W.Hook := He.hookX 4 fa fn ts0 tf (fun _ => true)
def ob (s : PySem.W.SharedT) : He.AlX := He.obsX 4 fa fn ts0 tf (fun _ => true) (HandSHeadRun.getT s)
theorem ob_eq (s : PySem.W.SharedT) : ob s = hk.obs s.abs := He.obsX_eq (HandSHeadRun.getT_eq s)
theorem run (w : World) : HandSHeadRun.RunEq R (PySem.W.view R.prog [41]) hk ob 3000 loose w := by
  intro os
  kernel_rfl
theorem txt_of {w : World} {K : PySem.W.Frag} {h : Heap} {mg : Str → Option Value} (X : K.In h) (G : h.Ns mainGlobals mg) (c : He.SaysX fa fn ts0 tf (fun _ => true) w h K) : Txt K mg where
  m_is_integer := He.glo_ok X G (c.t.d.fact 0 (f := .glo "is_integer") rfl)
  f_is_integer := c.t.d.def_ 0 (d := d_is_integer) rfl
  m_is_number := He.glo_ok X G (c.t.d.fact 1 (f := .glo "is_number") rfl)
  f_is_number := c.t.d.def_ 1 (d := d_is_number) rfl
  m_is_name := He.glo_ok X G (c.t.d.fact 2 (f := .glo "is_name") rfl)
  f_is_name := c.t.d.def_ 2 (d := d_is_name) rfl
  m_parts_of := He.glo_ok X G (c.t.d.fact 3 (f := .glo "parts_of") rfl)
  f_parts_of := c.t.d.def_ 3 (d := d_parts_of) rfl
  m_check_formula := He.glo_ok X G (c.t.d.fact 4 (f := .glo "check_formula") rfl)
  f_check_formula := c.t.d.def_ 4 (d := d_check_formula) rfl
  m_names_in := He.glo_ok X G (c.t.d.fact 5 (f := .glo "names_in") rfl)
  f_names_in := c.t.d.def_ 5 (d := d_names_in) rfl
  m_kinds_of := He.glo_ok X G (c.t.d.fact 6 (f := .glo "kinds_of") rfl)
  f_kinds_of := c.t.d.def_ 6 (d := d_kinds_of) rfl
  m_sizes_of := He.glo_ok X G (c.t.d.fact 7 (f := .glo "sizes_of") rfl)
  f_sizes_of := c.t.d.def_ 7 (d := d_sizes_of) rfl
  m_meeting := He.glo_ok X G (c.t.d.fact 8 (f := .glo "meeting") rfl)
  f_meeting := c.t.d.def_ 8 (d := d_meeting) rfl
  m_joined := He.glo_ok X G (c.t.d.fact 9 (f := .glo "joined") rfl)
  f_joined := by
    obtain ⟨fd, F⟩ := c.t.d.def_ 9 (d := d_joined) rfl
    obtain ⟨oc, od, dV, kV, doc, pm, an, cdv, ct, osl, e1, lk, hcd, _, _⟩ := F.ex
    obtain ⟨cc, rfl⟩ := He.codeIn_ref hcd
    refine ⟨fd, F, ?_⟩
    have e : fd.code = .ref cc := by rw [e1]
    rw [show (He.cT K ("joined", none)).1 = cc from He.codeOf_eq (p := ("joined", none)) lk e]; exact e
  m_normal_times := He.glo_ok X G (c.t.d.fact 10 (f := .glo "normal_times") rfl)
  f_normal_times := c.t.d.def_ 10 (d := d_normal_times) rfl
  m_normal := He.glo_ok X G (c.t.d.fact 11 (f := .glo "normal") rfl)
  f_normal := c.t.d.def_ 11 (d := d_normal) rfl
  m_law_heap := He.glo_ok X G (c.t.d.fact 12 (f := .glo "_law_heap") rfl)
  f_law_heap := c.t.d.def_ 12 (d := d_law_heap) rfl
  m_law_draw := He.glo_ok X G (c.t.d.fact 13 (f := .glo "_law_draw") rfl)
  f_law_draw := c.t.d.def_ 13 (d := d_law_draw) rfl
  m_law_pick := He.glo_ok X G (c.t.d.fact 14 (f := .glo "_law_pick") rfl)
  f_law_pick := c.t.d.def_ 14 (d := d_law_pick) rfl
  m_law_names := He.glo_ok X G (c.t.d.fact 15 (f := .glo "_law_names") rfl)
  f_law_names := c.t.d.def_ 15 (d := d_law_names) rfl
  m_law_mixed := He.glo_ok X G (c.t.d.fact 16 (f := .glo "_law_mixed") rfl)
  f_law_mixed := c.t.d.def_ 16 (d := d_law_mixed) rfl
  m_law_formula := He.glo_ok X G (c.t.d.fact 17 (f := .glo "_law_formula") rfl)
  f_law_formula := c.t.d.def_ 17 (d := d_law_formula) rfl
  m_law_sums := He.glo_ok X G (c.t.d.fact 18 (f := .glo "_law_sums") rfl)
  f_law_sums := c.t.d.def_ 18 (d := d_law_sums) rfl
  m_law_laid := He.glo_ok X G (c.t.d.fact 19 (f := .glo "_law_laid") rfl)
  f_law_laid := c.t.d.def_ 19 (d := d_law_laid) rfl
  m_law_parts := He.glo_ok X G (c.t.d.fact 20 (f := .glo "_law_parts") rfl)
  f_law_parts := c.t.d.def_ 20 (d := d_law_parts) rfl
  m_law_replaced := He.glo_ok X G (c.t.d.fact 21 (f := .glo "_law_replaced") rfl)
  f_law_replaced := c.t.d.def_ 21 (d := d_law_replaced) rfl
  m_law_grouped := He.glo_ok X G (c.t.d.fact 22 (f := .glo "_law_grouped") rfl)
  f_law_grouped := c.t.d.def_ 22 (d := d_law_grouped) rfl
  m_law_so_many := He.glo_ok X G (c.t.d.fact 23 (f := .glo "_law_so_many") rfl)
  f_law_so_many := c.t.d.def_ 23 (d := d_law_so_many) rfl
  m_law_other := He.glo_ok X G (c.t.d.fact 24 (f := .glo "_law_other") rfl)
  f_law_other := c.t.d.def_ 24 (d := d_law_other) rfl
  m_law_changed := He.glo_ok X G (c.t.d.fact 25 (f := .glo "_law_changed") rfl)
  f_law_changed := c.t.d.def_ 25 (d := d_law_changed) rfl
  m_law_deep := He.glo_ok X G (c.t.d.fact 26 (f := .glo "_law_deep") rfl)
  f_law_deep := c.t.d.def_ 26 (d := d_law_deep) rfl
  m_law_least := He.glo_ok X G (c.t.d.fact 27 (f := .glo "_law_least") rfl)
  f_law_least := c.t.d.def_ 27 (d := d_law_least) rfl
  m_law_met := He.glo_ok X G (c.t.d.fact 28 (f := .glo "_law_met") rfl)
  f_law_met := c.t.d.def_ 28 (d := d_law_met) rfl
  m_law_table := He.glo_ok X G (c.t.d.fact 29 (f := .glo "_law_table") rfl)
  f_law_table := c.t.d.def_ 29 (d := d_law_table) rfl
  m_law_one_right := He.glo_ok X G (c.t.d.fact 30 (f := .glo "_law_one_right") rfl)
  f_law_one_right := c.t.d.def_ 30 (d := d_law_one_right) rfl
  m_law := He.glo_ok X G (c.t.d.fact 31 (f := .glo "law") rfl)
  f_law := c.t.d.def_ 31 (d := d_law) rfl
  z_isinstance := He.free_ok X G (c.t.d.fact 32 (f := .free "isinstance") rfl)
  z_int := He.free_ok X G (c.t.d.fact 33 (f := .free "int") rfl)
  z_bool := He.free_ok X G (c.t.d.fact 34 (f := .free "bool") rfl)
  z_str := He.free_ok X G (c.t.d.fact 35 (f := .free "str") rfl)
  z_len := He.free_ok X G (c.t.d.fact 36 (f := .free "len") rfl)
  z_all := He.free_ok X G (c.t.d.fact 37 (f := .free "all") rfl)
  z_tuple := He.free_ok X G (c.t.d.fact 38 (f := .free "tuple") rfl)
  z_reversed := He.free_ok X G (c.t.d.fact 39 (f := .free "reversed") rfl)
  z_sorted := He.free_ok X G (c.t.d.fact 40 (f := .free "sorted") rfl)
  z_min := He.free_ok X G (c.t.d.fact 41 (f := .free "min") rfl)
  z_max := He.free_ok X G (c.t.d.fact 42 (f := .free "max") rfl)
  z_abs := He.free_ok X G (c.t.d.fact 43 (f := .free "abs") rfl)
  z_range := He.free_ok X G (c.t.d.fact 44 (f := .free "range") rfl)
  z_list := He.free_ok X G (c.t.d.fact 45 (f := .free "list") rfl)
  z_dict := He.free_ok X G (c.t.d.fact 46 (f := .free "dict") rfl)
  c_LN := He.int_ok X G (c.t.d.fact 47 (f := .int "LONGEST_NAME" 5) rfl)
  c_MA := He.int_ok X G (c.t.d.fact 48 (f := .int "MOST_AMOUNT" 60) rfl)
  c_MK := He.int_ok X G (c.t.d.fact 49 (f := .int "MOST_KINDS" 8) rfl)
  c_LE := He.str_ok X G (c.t.d.fact 50 (f := .str "LETTERS" "abcdefghijklmnopqrstuvwxyz") rfl)

open LamX in
/-- what the walk asks of the law -/
theorem law_at {w : World} {K : PySem.W.Frag} {mg : Str → Option Value} {fa0 : Addr} {h : Heap} (KX : K.In h) (G : h.Ns mainGlobals mg) (hmg : mg ("law" : Str) = some (.ref fa0)) (c : He.SaysX fa fn ts0 tf (fun _ => true) w h K) :
    LawAtS PySem.Challenge.rw_asmany_k13_whole_normal_formulas_by_thei w K CX0 35 63 "_law_script" mg fa0 h := by
  have T := txt_of KX G c
  obtain ⟨fd, FD⟩ := T.f_law
  have m := T.m_law
  rw [m] at hmg
  cases hmg
  have hin : (("joined", none) : He.Defn) ∈ tf := List.mem_singleton.mpr rfl
  have b := FunD.bindsA (ps := ["_law_script"]) FD fun _ _ _ _ _ _ us hl => match us, hl with | [_], _ => rfl
  refine ⟨fd, [He.cT K ("joined", none)], spLaw K (He.cT K ("joined", none)).2, ?_, ?_, ?_, fun s u => b s [u] rfl, ?_, ?_⟩
  · intro p hp
    rw [List.mem_singleton.mp hp]
    exact c.empty _ hin
  · intro p hp
    rw [List.mem_singleton.mp hp]
    exact c.out _ hin
  · intro p hp
    rw [List.mem_singleton.mp hp]
    exact PySem.W.codeHd_of_K KX (c.hd _ hin)
  · intro H a ns _ _ ht hS
    exact ⟨a, ns, rfl, hS, TabS.nil (ht _ (List.mem_singleton.mpr rfl)), fun _ => rfl⟩
  · intro base _ _ hTB
    have TB := hTB _ (List.mem_singleton.mpr rfl)
    obtain ⟨f, fd', hm, _, _, ⟨oc', od', osl', lk'⟩, FO⟩ := ok_law (P := PySem.W.OpenLaw.prog PySem.Challenge.rw_asmany_k13_whole_normal_formulas_by_thei) (w := w) (base := base) T TB
    rw [m] at hm
    cases hm
    obtain ⟨oc, od, osl, lk⟩ := look_of FD
    rw [lk] at lk'
    cases lk'
    exact FO
end Nf
open PySem PySem.W PySem.Calls PyProof.Rows
theorem PySem.Challenge.cw_asmany_k13_whole_normal_formulas_by_thei_holds : PySem.Challenge.rw_asmany_k13_whole_normal_formulas_by_thei.Holds := by
  w_on; o_law
  refine HandSHeadRun.head_any (r := OpenLaw.row PySem.Challenge.rw_asmany_k13_whole_normal_formulas_by_thei) (q := view (OpenLaw.row PySem.Challenge.rw_asmany_k13_whole_normal_formulas_by_thei).prog [41]) (H := Nf.hk) (ob := Nf.ob) (M := 3000) (loose := Nf.loose) (d := HandSHeadRun.topDef (OpenLaw.row PySem.Challenge.rw_asmany_k13_whole_normal_formulas_by_thei).prog 41) (kwd := []) Nf.ob_eq
    (by kernel_rfl) (fun s => by kernel_rfl) Nf.run (by kernel_rfl) (by kernel_rfl) (by kernel_rfl) (by rfl) (by first | assumption | decide +kernel) (by decide +kernel) ⟨rfl, rfl, rfl, rfl, rfl, by decide +kernel⟩ ?hw ?hc
  case hw => w_witness2
  case hc =>
    refine LamX.walk_ofTsE (l := PySem.Challenge.rw_asmany_k13_whole_normal_formulas_by_thei) (n := 63) (k := 35) (x := "_law_script") (CX := fun _ => L2.CX0) rfl (by decide) (by kernel_rfl) ⟨rfl, by decide, by decide⟩ ?F (fun _ _ _ _ _ z => z)
    intro w mg fa h Y G hmg0
    obtain ⟨K, KX, c⟩ := Y
    have hmg : mg ("law" : PySem.Str) = some (.ref fa) := by
      have e : (HandSHeadRun.topDef (OpenLaw.row PySem.Challenge.rw_asmany_k13_whole_normal_formulas_by_thei).prog 41).name = ("law" : PySem.Str) := by kernel_rfl
      rw [← e]
      exact hmg0
    exact ⟨K, KX, Nf.law_at KX G hmg c⟩
