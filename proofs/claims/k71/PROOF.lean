import PyProof.Rows.All
import Wide.All
import OpenK.AllK
import Wide.FinOn
import KE.KStateDown
import HandS.Base
import HandS.Call
import HandS.Ends
import HandS.More
import HandS.Words
import HandS.WordsExc
import HandS.Defaults
import HandS.Head0
import HandS.Head1
import HandS.Head2
import HandS.HeadEnd
import HandS.HeadHook1
import HandS.HeadHook2
import PySem.Challenge.RW_pursewebs_k71_whole_both_halves_meet
import HandS.ForMost
import HandS.Exc
import HandS.TryOnly
import HandS.TryMany
import HandS.ExcOwn
import HandS.Evl
import HandS.Slots
import HandS.SlotsOwn
import HandS.Property
import HandS.ClsMeth
import HandS.IsInst
import HandS.Conv
import HandS.Strs
import HandS.TupMul
import HandS.Small
import HandS.FStr
import HandS.RaiseMore
import HandS.CallLocal
import HandS.Wide
import HandS.SortInts
import HandS.SetFor
import HandS.Star
import PyProof.InstNe
import KE.KOpsOwn
import KE.KOwnIter
import HandS.Flow
set_option Elab.async false
/-! ### PwMath -/
section
set_option autoImplicit false
set_option linter.all false
/-! the mathematics of the row for ever, in plain Lean -/
namespace Pw

/-- a due: none, ("chips", x), ("less", x) -/
inductive Du where
  | none | chips (x : Int) | less (x : Int)
  deriving DecidableEq

def Du.num (d : Du) (K : Int) : Int := match d with
  | .none => K
  | .chips x => min x K
  | .less x => max 0 (K - x)
def Du.nn : Du → Prop
  | .none => True
  | .chips x => 0 ≤ x
  | .less x => 0 ≤ x

/-- the least, the greatest of X over a list of stands -/
def lo : List Nat → (Nat → Int) → Int
  | [], _ => 0
  | [a], X => X a
  | a :: b :: r, X => min (X a) (lo (b :: r) X)
def hi : List Nat → (Nat → Int) → Int
  | [], _ => 0
  | [a], X => X a
  | a :: b :: r, X => max (X a) (hi (b :: r) X)
def half (m x y : Int) : Int := if m = 1 then (x + max x y) / 2 else (min x y + y + 1) / 2

theorem lo_mem : ∀ (l : List Nat) (X : Nat → Int), l ≠ [] → ∃ v ∈ l, lo l X = X v
  | [], _, h => absurd rfl h
  | [a], X, _ => ⟨a, by simp, rfl⟩
  | a :: b :: r, X, _ => by
    obtain ⟨v, hv, e⟩ := lo_mem (b :: r) X (by simp)
    show ∃ v ∈ a :: b :: r, min (X a) (lo (b :: r) X) = X v
    by_cases h : X a ≤ lo (b :: r) X
    · exact ⟨a, by simp, by omega⟩
    · exact ⟨v, List.mem_cons_of_mem _ hv, by omega⟩
theorem lo_le : ∀ (l : List Nat) (X : Nat → Int) (v : Nat), v ∈ l → lo l X ≤ X v
  | [], _, _, h => by simp at h
  | [a], X, v, h => by
    have e : v = a := by simpa using h
    subst e
    exact Int.le_refl _
  | a :: b :: r, X, v, h => by
    show min (X a) (lo (b :: r) X) ≤ X v
    rcases List.mem_cons.mp h with e | h
    · subst e; omega
    · have := lo_le (b :: r) X v h
      omega
theorem lo_uniq {l : List Nat} {X : Nat → Int} {m : Int} (h1 : ∃ v ∈ l, m = X v) (h2 : ∀ v ∈ l, m ≤ X v) : m = lo l X := by
  obtain ⟨v, hv, e⟩ := h1
  have hne : l ≠ [] := by intro z; subst z; simp at hv
  obtain ⟨u, hu, eu⟩ := lo_mem l X hne
  have a := lo_le l X v hv
  have b := h2 u hu
  omega
theorem hi_mem : ∀ (l : List Nat) (X : Nat → Int), l ≠ [] → ∃ v ∈ l, hi l X = X v
  | [], _, h => absurd rfl h
  | [a], X, _ => ⟨a, by simp, rfl⟩
  | a :: b :: r, X, _ => by
    obtain ⟨v, hv, e⟩ := hi_mem (b :: r) X (by simp)
    show ∃ v ∈ a :: b :: r, max (X a) (hi (b :: r) X) = X v
    by_cases h : hi (b :: r) X ≤ X a
    · exact ⟨a, by simp, by omega⟩
    · exact ⟨v, List.mem_cons_of_mem _ hv, by omega⟩
theorem hi_ge : ∀ (l : List Nat) (X : Nat → Int) (v : Nat), v ∈ l → X v ≤ hi l X
  | [], _, _, h => by simp at h
  | [a], X, v, h => by
    have e : v = a := by simpa using h
    subst e
    exact Int.le_refl _
  | a :: b :: r, X, v, h => by
    show X v ≤ max (X a) (hi (b :: r) X)
    rcases List.mem_cons.mp h with e | h
    · subst e; omega
    · have := hi_ge (b :: r) X v h
      omega
theorem hi_uniq {l : List Nat} {X : Nat → Int} {m : Int} (h1 : ∃ v ∈ l, m = X v) (h2 : ∀ v ∈ l, X v ≤ m) : m = hi l X := by
  obtain ⟨v, hv, e⟩ := h1
  have hne : l ≠ [] := by intro z; subst z; simp at hv
  obtain ⟨u, hu, eu⟩ := hi_mem l X hne
  have a := hi_ge l X v hv
  have b := h2 u hu
  omega
theorem lo_same {l l' : List Nat} {X : Nat → Int} (h : ∀ v, v ∈ l ↔ v ∈ l') : lo l X = lo l' X := by
  by_cases hl : l = []
  · have hl' : l' = [] := by
      cases l' with
      | nil => rfl
      | cons a r => have := (h a).mpr (by simp); rw [hl] at this; simp at this
    rw [hl, hl']
  · obtain ⟨v, hv, e⟩ := lo_mem l X hl
    exact lo_uniq ⟨v, (h v).mp hv, e⟩ fun u hu => lo_le l X u ((h u).mpr hu)
theorem hi_same {l l' : List Nat} {X : Nat → Int} (h : ∀ v, v ∈ l ↔ v ∈ l') : hi l X = hi l' X := by
  by_cases hl : l = []
  · have hl' : l' = [] := by
      cases l' with
      | nil => rfl
      | cons a r => have := (h a).mpr (by simp); rw [hl] at this; simp at this
    rw [hl, hl']
  · obtain ⟨v, hv, e⟩ := hi_mem l X hl
    exact hi_uniq ⟨v, (h v).mp hv, e⟩ fun u hu => hi_ge l X u ((h u).mpr hu)
theorem lo_mono {l : List Nat} {X Y : Nat → Int} (h : ∀ v ∈ l, X v ≤ Y v) : lo l X ≤ lo l Y := by
  by_cases hl : l = []
  · subst hl; exact Int.le_refl _
  · obtain ⟨v, hv, e⟩ := lo_mem l Y hl
    have := lo_le l X v hv
    have := h v hv
    omega
theorem hi_mono {l : List Nat} {X Y : Nat → Int} (h : ∀ v ∈ l, X v ≤ Y v) : hi l X ≤ hi l Y := by
  by_cases hl : l = []
  · subst hl; exact Int.le_refl _
  · obtain ⟨v, hv, e⟩ := hi_mem l X hl
    have := hi_ge l Y v hv
    have := h v hv
    omega
theorem lo_add {l : List Nat} {X : Nat → Int} (i : Int) (hl : l ≠ []) : lo l (fun v => X v + i) = lo l X + i := by
  obtain ⟨v, hv, e⟩ := lo_mem l X hl
  refine (lo_uniq ⟨v, hv, ?_⟩ fun u hu => ?_).symm
  · omega
  · have := lo_le l X u hu
    omega
theorem hi_add {l : List Nat} {X : Nat → Int} (i : Int) (hl : l ≠ []) : hi l (fun v => X v + i) = hi l X + i := by
  obtain ⟨v, hv, e⟩ := hi_mem l X hl
  refine (hi_uniq ⟨v, hv, ?_⟩ fun u hu => ?_).symm
  · omega
  · have := hi_ge l X u hu
    omega
theorem half_mono {m x y x' y' : Int} (hx : x ≤ x') (hy : y ≤ y') : half m x y ≤ half m x' y' := by
  unfold half
  split <;> omega
theorem half_add {m x y : Int} (i : Int) : half m (x + i) (y + i) = half m x y + i := by
  unfold half
  split <;> omega

structure Web where
  n : Nat
  s1 : Nat → List Nat
  s2 : Nat → List Nat
  mark : Nat → Int
  due : Nat → Du

structure Web.Ok (W : Web) : Prop where
  n1 : 1 ≤ W.n
  n5 : W.n ≤ 5
  in1 : ∀ v, v < W.n → ∀ w ∈ W.s1 v, w < W.n
  in2 : ∀ v, v < W.n → ∀ w ∈ W.s2 v, w < W.n
  len1 : ∀ v, v < W.n → (W.s1 v).length ≤ 100
  len2 : ∀ v, v < W.n → (W.s2 v).length ≤ 100
  both : ∀ v, v < W.n → (W.s1 v = [] ↔ W.s2 v = [])
  mks : ∀ v, v < W.n → W.mark v = 1 ∨ W.mark v = 2
  dn : ∀ v, v < W.n → (W.due v).nn

def Web.mv (W : Web) (v : Nat) : Bool := !(W.s1 v).isEmpty
theorem Web.mv_iff {W : Web} {v : Nat} : W.mv v = true ↔ W.s1 v ≠ [] := by
  unfold Web.mv
  cases W.s1 v <;> simp
theorem Web.mv_not {W : Web} {v : Nat} : W.mv v = false ↔ W.s1 v = [] := by
  unfold Web.mv
  cases W.s1 v <;> simp
/-- the price at a stand with steps -/
def Web.pr (W : Web) (X : Nat → Int) (v : Nat) : Int := half (W.mark v) (lo (W.s1 v) X) (hi (W.s2 v) X)

section
variable {W : Web}
theorem Web.Ok.s2ne (o : W.Ok) {v : Nat} (hv : v < W.n) (hm : W.mv v = true) : W.s2 v ≠ [] := fun e => (Web.mv_iff.mp hm) ((o.both v hv).mpr e)
theorem pr_mono (o : W.Ok) {X Y : Nat → Int} {v : Nat} (hv : v < W.n) (h : ∀ w, w < W.n → X w ≤ Y w) : W.pr X v ≤ W.pr Y v :=
  half_mono (lo_mono fun w hw => h w (o.in1 v hv w hw)) (hi_mono fun w hw => h w (o.in2 v hv w hw))
theorem pr_add (o : W.Ok) {X : Nat → Int} {v : Nat} (i : Int) (hv : v < W.n) (hm : W.mv v = true) : W.pr (fun w => X w + i) v = W.pr X v + i := by
  unfold Web.pr
  rw [lo_add i (Web.mv_iff.mp hm), hi_add i (o.s2ne hv hm), half_add]
theorem pr_congr (o : W.Ok) {X Y : Nat → Int} {v : Nat} (hv : v < W.n) (h : ∀ w, w < W.n → X w = Y w) : W.pr X v = W.pr Y v :=
  Int.le_antisymm (pr_mono o hv fun w hw => Int.le_of_eq (h w hw)) (pr_mono o hv fun w hw => Int.le_of_eq (h w hw).symm)
/-- prices of rows under Y + i -/
theorem pr_le_add (o : W.Ok) {X Y : Nat → Int} {v : Nat} (i : Int) (hv : v < W.n) (hm : W.mv v = true) (h : ∀ w, w < W.n → X w ≤ Y w + i) : W.pr X v ≤ W.pr Y v + i := by
  rw [← pr_add o i hv hm]
  exact pr_mono o hv h
theorem pr_le (o : W.Ok) {X : Nat → Int} {K : Int} {v : Nat} (hv : v < W.n) (hm : W.mv v = true) (h : ∀ w, w < W.n → X w ≤ K) : W.pr X v ≤ K := by
  have e : W.pr (fun _ => 0) v = 0 := by
    unfold Web.pr
    obtain ⟨a, _, ea⟩ := lo_mem (W.s1 v) (fun _ => 0) (Web.mv_iff.mp hm)
    obtain ⟨b, _, eb⟩ := hi_mem (W.s2 v) (fun _ => 0) (o.s2ne hv hm)
    rw [ea, eb]
    unfold half
    split <;> omega
  have := pr_le_add o (X := X) (Y := fun _ => 0) K hv hm (fun w hw => by have := h w hw; show X w ≤ 0 + K; omega)
  omega
theorem pr_ge (o : W.Ok) {X : Nat → Int} {v : Nat} (hv : v < W.n) (hm : W.mv v = true) (h : ∀ w, w < W.n → 0 ≤ X w) : 0 ≤ W.pr X v := by
  have e : W.pr (fun _ => 0) v = 0 := by
    unfold Web.pr
    obtain ⟨a, _, ea⟩ := lo_mem (W.s1 v) (fun _ => 0) (Web.mv_iff.mp hm)
    obtain ⟨b, _, eb⟩ := hi_mem (W.s2 v) (fun _ => 0) (o.s2ne hv hm)
    rw [ea, eb]
    unfold half
    split <;> omega
  have := pr_mono o hv (X := fun _ => 0) (Y := X) h
  omega
end

theorem num_le {d : Du} (h : d.nn) {K : Int} (hK : 0 ≤ K) : d.num K ≤ K := by
  cases d <;> simp only [Du.num, Du.nn] at * <;> omega
theorem num_ge {d : Du} (h : d.nn) {K : Int} (hK : 0 ≤ K) : 0 ≤ d.num K := by
  cases d <;> simp only [Du.num, Du.nn] at * <;> omega
theorem num_up {d : Du} {K : Int} : d.num K ≤ d.num (K + 1) ∧ d.num (K + 1) ≤ d.num K + 1 := by
  cases d <;> simp only [Du.num] <;> omega

/-! ### rounds -/
/-- Y is admitted by Z -/
structure Adm (W : Web) (c : Nat → Bool) (K : Int) (top Z Y : Nat → Int) : Prop where
  ends : ∀ v, v < W.n → W.mv v = false → Y v ≤ (W.due v).num K
  calls : ∀ v, v < W.n → W.mv v = true → c v = true → Y v ≤ W.pr Z v
  tops : ∀ v, v < W.n → W.mv v = true → c v = false → Y v ≤ top v
  free : ∀ v, v < W.n → W.mv v = true → c v = false → Y v ≤ W.pr Y v
structure IsRnd (W : Web) (c : Nat → Bool) (K : Int) (top Z Y : Nat → Int) : Prop where
  adm : Adm W c K top Z Y
  great : ∀ Y', Adm W c K top Z Y' → ∀ v, v < W.n → Y' v ≤ Y v
  ends : ∀ v, v < W.n → W.mv v = false → Y v = (W.due v).num K
  calls : ∀ v, v < W.n → W.mv v = true → c v = true → Y v = W.pr Z v
/-- the state of a round's reckoning -/
structure RInv (W : Web) (c : Nat → Bool) (K : Int) (top Z Y : Nat → Int) : Prop where
  ends : ∀ v, v < W.n → W.mv v = false → Y v = (W.due v).num K
  calls : ∀ v, v < W.n → W.mv v = true → c v = true → Y v = W.pr Z v
  tops : ∀ v, v < W.n → W.mv v = true → c v = false → Y v ≤ top v
  great : ∀ Y', Adm W c K top Z Y' → ∀ v, v < W.n → Y' v ≤ Y v
  nn : ∀ v, v < W.n → 0 ≤ Y v

def sumN : Nat → (Nat → Int) → Int
  | 0, _ => 0
  | n + 1, X => sumN n X + X n
theorem sumN_le : ∀ {n : Nat} {X Y : Nat → Int}, (∀ v, v < n → X v ≤ Y v) → sumN n X ≤ sumN n Y
  | 0, _, _, _ => Int.le_refl _
  | n + 1, X, Y, h => by
    have a := sumN_le (n := n) (X := X) (Y := Y) fun v hv => h v (by omega)
    have b := h n (by omega)
    show sumN n X + X n ≤ sumN n Y + Y n
    omega
theorem sumN_lt : ∀ {n : Nat} {X Y : Nat → Int}, (∀ v, v < n → X v ≤ Y v) → (∃ v, v < n ∧ X v ≠ Y v) → sumN n X + 1 ≤ sumN n Y
  | 0, _, _, _, h => by obtain ⟨v, hv, _⟩ := h; omega
  | n + 1, X, Y, h, ⟨v, hv, ne⟩ => by
    have b := h n (by omega)
    show sumN n X + X n + 1 ≤ sumN n Y + Y n
    by_cases e : v = n
    · subst e
      have a := sumN_le (n := v) (X := X) (Y := Y) fun u hu => h u (by omega)
      omega
    · have a := sumN_lt (n := n) (X := X) (Y := Y) (fun u hu => h u (by omega)) ⟨v, by omega, ne⟩
      omega
theorem sumN_nn {n : Nat} {X : Nat → Int} (h : ∀ v, v < n → 0 ≤ X v) : 0 ≤ sumN n X := by
  have e : ∀ m : Nat, sumN m (fun _ => 0) = 0 := fun m => by
    induction m with
    | zero => rfl
    | succ m ih => show sumN m (fun _ => 0) + 0 = 0; rw [ih]; rfl
  have := sumN_le (n := n) (X := fun _ => 0) (Y := X) h
  rw [e] at this
  exact this
theorem sumN_const {n : Nat} {K : Int} : sumN n (fun _ => K) = n * K := by
  induction n with
  | zero => simp [sumN]
  | succ n ih =>
    show sumN n (fun _ => K) + K = ((n + 1 : Nat) : Int) * K
    rw [ih, Int.natCast_add, Int.add_mul]
    omega
theorem sumN_top {n : Nat} {X : Nat → Int} {K : Int} (h : ∀ v, v < n → X v ≤ K) : sumN n X ≤ n * K := by
  have := sumN_le (n := n) (X := X) (Y := fun _ => K) h
  rw [sumN_const] at this
  exact this
theorem sumN_congr {n : Nat} {X Y : Nat → Int} (h : ∀ v, v < n → X v = Y v) : sumN n X = sumN n Y :=
  Int.le_antisymm (sumN_le fun v hv => Int.le_of_eq (h v hv)) (sumN_le fun v hv => Int.le_of_eq (h v hv).symm)

section
variable {W : Web} {c : Nat → Bool} {K : Int} {top Z Y : Nat → Int}
/-- the reckoning's start -/
theorem RInv.start (o : W.Ok) (hK : 0 ≤ K) (hZ : ∀ v, v < W.n → 0 ≤ Z v) (ht : ∀ v, v < W.n → 0 ≤ top v)
    (h1 : ∀ v, v < W.n → W.mv v = false → Y v = (W.due v).num K) (h2 : ∀ v, v < W.n → W.mv v = true → c v = true → Y v = W.pr Z v)
    (h3 : ∀ v, v < W.n → W.mv v = true → c v = false → Y v = top v) : RInv W c K top Z Y where
  ends := h1
  calls := h2
  tops := fun v hv hm hc => Int.le_of_eq (h3 v hv hm hc)
  great := fun Y' a v hv => by
    cases hm : W.mv v with
    | false => rw [h1 v hv hm]; exact a.ends v hv hm
    | true =>
      cases hc : c v with
      | true => rw [h2 v hv hm hc]; exact a.calls v hv hm hc
      | false => rw [h3 v hv hm hc]; exact a.tops v hv hm hc
  nn := fun v hv => by
    cases hm : W.mv v with
    | false => rw [h1 v hv hm]; exact num_ge (o.dn v hv) hK
    | true =>
      cases hc : c v with
      | true => rw [h2 v hv hm hc]; exact pr_ge o hv hm hZ
      | false => rw [h3 v hv hm hc]; exact ht v hv
/-- a step of it -/
theorem RInv.step (o : W.Ok) {Y' : Nat → Int} (I : RInv W c K top Z Y) (h0 : ∀ v, v < W.n → (W.mv v = true → c v = true) → Y' v = Y v)
    (h1 : ∀ v, v < W.n → W.mv v = true → c v = false → Y' v = min (Y v) (W.pr Y v)) : RInv W c K top Z Y' where
  ends := fun v hv hm => by rw [h0 v hv (fun q => by rw [hm] at q; cases q)]; exact I.ends v hv hm
  calls := fun v hv hm hc => by rw [h0 v hv (fun _ => hc)]; exact I.calls v hv hm hc
  tops := fun v hv hm hc => by
    have := I.tops v hv hm hc
    have := h1 v hv hm hc
    omega
  great := fun U a v hv => by
    have g := I.great U a
    by_cases hm : W.mv v = true → c v = true
    · rw [h0 v hv hm]; exact g v hv
    · have hm1 : W.mv v = true := by cases q : W.mv v <;> simp_all
      have hc1 : c v = false := by cases q : c v <;> simp_all
      rw [h1 v hv hm1 hc1]
      have a1 := a.free v hv hm1 hc1
      have a2 := pr_mono o hv (X := U) (Y := Y) g
      have a3 := g v hv
      omega
  nn := fun v hv => by
    by_cases hm : W.mv v = true → c v = true
    · rw [h0 v hv hm]; exact I.nn v hv
    · have hm1 : W.mv v = true := by cases q : W.mv v <;> simp_all
      have hc1 : c v = false := by cases q : c v <;> simp_all
      rw [h1 v hv hm1 hc1]
      have := I.nn v hv
      have := pr_ge o hv hm1 I.nn
      omega
/-- its end -/
theorem RInv.stop (I : RInv W c K top Z Y) (h : ∀ v, v < W.n → W.mv v = true → c v = false → Y v ≤ W.pr Y v) : IsRnd W c K top Z Y where
  adm := ⟨fun v hv hm => Int.le_of_eq (I.ends v hv hm), fun v hv hm hc => Int.le_of_eq (I.calls v hv hm hc), I.tops, h⟩
  great := I.great
  ends := I.ends
  calls := I.calls
theorem IsRnd.nn (o : W.Ok) (hK : 0 ≤ K) (hZ : ∀ v, v < W.n → 0 ≤ Z v) (ht : ∀ v, v < W.n → 0 ≤ top v) (r : IsRnd W c K top Z Y) : ∀ v, v < W.n → 0 ≤ Y v :=
  r.great (fun _ => 0) ⟨fun v hv _ => num_ge (o.dn v hv) hK, fun v hv hm _ => pr_ge o hv hm hZ, fun v hv _ _ => ht v hv, fun v hv hm _ => pr_ge o hv hm fun _ _ => Int.le_refl _⟩
theorem IsRnd.uniq {Y' : Nat → Int} (a : IsRnd W c K top Z Y) (b : IsRnd W c K top Z Y') : ∀ v, v < W.n → Y v = Y' v := fun v hv =>
  Int.le_antisymm (b.great Y a.adm v hv) (a.great Y' b.adm v hv)
theorem IsRnd.le (o : W.Ok) (hK : 0 ≤ K) (hZ : ∀ v, v < W.n → Z v ≤ K) (ht : ∀ v, v < W.n → top v ≤ K) (r : IsRnd W c K top Z Y) : ∀ v, v < W.n → Y v ≤ K := fun v hv => by
  cases hm : W.mv v with
  | false => rw [r.ends v hv hm]; exact num_le (o.dn v hv) hK
  | true =>
    cases hc : c v with
    | true => rw [r.calls v hv hm hc]; exact pr_le o hv hm hZ
    | false => exact Int.le_trans (r.adm.tops v hv hm hc) (ht v hv)
/-- with the greatest top the round is a solution -/
theorem IsRnd.free (o : W.Ok) (hK : 0 ≤ K) (hZ : ∀ v, v < W.n → Z v ≤ K) (r : IsRnd W c K (fun _ => K) Z Y) : ∀ v, v < W.n → W.mv v = true → c v = false → Y v = W.pr Y v := fun v hv hm hc => by
  refine Int.le_antisymm (r.adm.free v hv hm hc) ?_
  have hY := r.le o hK hZ (fun _ _ => Int.le_refl _)
  have up : ∀ w, w < W.n → Y w ≤ (if W.mv w = true ∧ c w = false then W.pr Y w else Y w) := fun w hw => by
    by_cases h : W.mv w = true ∧ c w = false
    · rw [if_pos h]; exact r.adm.free w hw h.1 h.2
    · rw [if_neg h]; exact Int.le_refl _
  have g := r.great (fun w => if W.mv w = true ∧ c w = false then W.pr Y w else Y w) ⟨fun w hw h => ?_, fun w hw h h' => ?_, fun w hw h h' => ?_, fun w hw h h' => ?_⟩ v hv
  · rw [if_pos ⟨hm, hc⟩] at g
    exact g
  · rw [if_neg (fun q => by rw [h] at q; cases q.1)]; exact r.adm.ends w hw h
  · rw [if_neg (fun q => by rw [h'] at q; cases q.2)]; exact r.adm.calls w hw h h'
  · rw [if_pos ⟨h, h'⟩]; exact pr_le o hw h hY
  · rw [if_pos ⟨h, h'⟩]; exact pr_mono o hw up
theorem Adm.congr (o : W.Ok) {Z' Y' : Nat → Int} (a : Adm W c K top Z Y) (hZ : ∀ v, v < W.n → Z v ≤ Z' v) (hY : ∀ v, v < W.n → Y' v = Y v) : Adm W c K top Z' Y' where
  ends := fun v hv hm => by rw [hY v hv]; exact a.ends v hv hm
  calls := fun v hv hm hc => by rw [hY v hv]; exact Int.le_trans (a.calls v hv hm hc) (pr_mono o hv hZ)
  tops := fun v hv hm hc => by rw [hY v hv]; exact a.tops v hv hm hc
  free := fun v hv hm hc => by rw [hY v hv, pr_congr o hv hY]; exact a.free v hv hm hc
theorem IsRnd.congr (o : W.Ok) {Z' Y' : Nat → Int} (r : IsRnd W c K top Z Y) (hZ : ∀ v, v < W.n → Z v = Z' v) (hY : ∀ v, v < W.n → Y v = Y' v) : IsRnd W c K top Z' Y' where
  adm := r.adm.congr o (fun v hv => Int.le_of_eq (hZ v hv)) fun v hv => (hY v hv).symm
  great := fun U a v hv => by rw [← hY v hv]; exact r.great U (a.congr o (fun w hw => Int.le_of_eq (hZ w hw).symm) fun _ _ => rfl) v hv
  ends := fun v hv hm => by rw [← hY v hv]; exact r.ends v hv hm
  calls := fun v hv hm hc => by rw [← hY v hv, ← pr_congr o hv hZ]; exact r.calls v hv hm hc
/-- there is a round -/
theorem rnd_ex (o : W.Ok) (hK : 0 ≤ K) (hZ : ∀ v, v < W.n → 0 ≤ Z v) (ht : ∀ v, v < W.n → 0 ≤ top v) : ∃ Y, IsRnd W c K top Z Y := by
  have go : ∀ (m : Nat) (Y : Nat → Int), RInv W c K top Z Y → sumN W.n Y ≤ m → ∃ Y, IsRnd W c K top Z Y := by
    intro m
    induction m with
    | zero =>
      intro Y I hs
      refine ⟨Y, I.stop fun v hv hm hc => ?_⟩
      have z : Y v = 0 := by
        by_cases e : Y v = 0
        · exact e
        · have := sumN_lt (n := W.n) (X := fun _ => 0) (Y := Y) I.nn ⟨v, hv, fun q => e q.symm⟩
          rw [sumN_const] at this
          omega
      rw [z]
      exact pr_ge o hv hm I.nn
    | succ m ih =>
      intro Y I hs
      by_cases h : ∀ v, v < W.n → W.mv v = true → c v = false → Y v ≤ W.pr Y v
      · exact ⟨Y, I.stop h⟩
      · let Y' : Nat → Int := fun v => if W.mv v = true ∧ c v = false then min (Y v) (W.pr Y v) else Y v
        have I' : RInv W c K top Z Y' := I.step o (fun v hv q => if_neg fun ⟨a, b⟩ => by rw [q a] at b; cases b) (fun v hv a b => if_pos ⟨a, b⟩)
        have ex : ∃ v, v < W.n ∧ Y' v ≠ Y v := by
          refine Classical.byContradiction fun ne => h fun v hv hm hc => ?_
          have e : Y' v = Y v := Classical.byContradiction fun q => ne ⟨v, hv, q⟩
          have e2 : Y' v = min (Y v) (W.pr Y v) := if_pos ⟨hm, hc⟩
          omega
        have le : ∀ v, v < W.n → Y' v ≤ Y v := fun v hv => by
          by_cases q : W.mv v = true ∧ c v = false
          · have e2 : Y' v = min (Y v) (W.pr Y v) := if_pos q
            omega
          · have e2 : Y' v = Y v := if_neg q
            omega
        exact ih Y' I' (by have := sumN_lt le ex; omega)
  let Y0 : Nat → Int := fun v => if W.mv v = true then (if c v = true then W.pr Z v else top v) else (W.due v).num K
  have I0 : RInv W c K top Z Y0 := RInv.start o hK hZ ht (fun v hv hm => if_neg (by rw [hm]; simp)) (fun v hv hm hc => by show (if W.mv v = true then (if c v = true then W.pr Z v else top v) else (W.due v).num K) = _; rw [if_pos hm, if_pos hc])
    (fun v hv hm hc => by show (if W.mv v = true then (if c v = true then W.pr Z v else top v) else (W.due v).num K) = _; rw [if_pos hm, if_neg (by rw [hc]; simp)])
  exact go (sumN W.n Y0).toNat Y0 I0 (by omega)
end

open Classical in
/-- the round of Z, with the greatest top -/
noncomputable def rnd (W : Web) (c : Nat → Bool) (K : Int) (Z : Nat → Int) : Nat → Int := if h : ∃ Y, IsRnd W c K (fun _ => K) Z Y then h.choose else fun _ => 0
theorem rnd_is {W : Web} {c : Nat → Bool} {K : Int} {Z : Nat → Int} (o : W.Ok) (hK : 0 ≤ K) (hZ : ∀ v, v < W.n → 0 ≤ Z v) : IsRnd W c K (fun _ => K) Z (rnd W c K Z) := by
  have h := rnd_ex (c := c) (top := fun _ => K) o hK hZ fun _ _ => hK
  unfold rnd
  rw [dif_pos h]
  exact h.choose_spec

/-! ### the row for ever -/
/-- nothing that Z admits is above it -/
def Pre (W : Web) (c : Nat → Bool) (K : Int) (Z : Nat → Int) : Prop := ∀ Y, Adm W c K (fun _ => K) Z Y → ∀ v, v < W.n → Y v ≤ Z v
structure IsFev (W : Web) (c : Nat → Bool) (K : Int) (X : Nat → Int) : Prop where
  nn : ∀ v, v < W.n → 0 ≤ X v
  le : ∀ v, v < W.n → X v ≤ K
  rnd : IsRnd W c K (fun _ => K) X X
  least : ∀ Z, (∀ v, v < W.n → 0 ≤ Z v) → Pre W c K Z → ∀ v, v < W.n → X v ≤ Z v

section
variable {W : Web} {c : Nat → Bool} {K : Int} {X : Nat → Int}
theorem IsRnd.pre {Z : Nat → Int} (r : IsRnd W c K (fun _ => K) Z Z) : Pre W c K Z := r.great
theorem IsFev.uniq {X' : Nat → Int} (a : IsFev W c K X) (b : IsFev W c K X') : ∀ v, v < W.n → X v = X' v := fun v hv =>
  Int.le_antisymm (a.least X' b.nn b.rnd.pre v hv) (b.least X a.nn a.rnd.pre v hv)
theorem IsFev.congr (o : W.Ok) {X' : Nat → Int} (a : IsFev W c K X) (h : ∀ v, v < W.n → X v = X' v) : IsFev W c K X' where
  nn := fun v hv => by rw [← h v hv]; exact a.nn v hv
  le := fun v hv => by rw [← h v hv]; exact a.le v hv
  rnd := a.rnd.congr o h h
  least := fun Z z p v hv => by rw [← h v hv]; exact a.least Z z p v hv
/-- how a row is shown to be it -/
theorem IsFev.mk' (o : W.Ok) (hK : 0 ≤ K) {top Y : Nat → Int} (h0 : ∀ v, v < W.n → 0 ≤ X v) (hX : ∀ v, v < W.n → X v ≤ K) (ht : ∀ v, v < W.n → 0 ≤ top v) (htK : ∀ v, v < W.n → top v ≤ K)
    (r : IsRnd W c K top X Y) (hT : ∀ Y', Adm W c K (fun _ => K) X Y' → ∀ v, v < W.n → Y' v ≤ top v) (le : ∀ v, v < W.n → Y v ≤ X v)
    (least : ∀ Z, (∀ v, v < W.n → 0 ≤ Z v) → Pre W c K Z → ∀ v, v < W.n → X v ≤ Z v) : IsFev W c K X := by
  have big : ∀ Y', Adm W c K (fun _ => K) X Y' → ∀ v, v < W.n → Y' v ≤ Y v := fun Y' a => r.great Y' ⟨a.ends, a.calls, fun v hv _ _ => hT Y' a v hv, a.free⟩
  have adm : Adm W c K (fun _ => K) X Y := ⟨r.adm.ends, r.adm.calls, fun v hv hm hc => Int.le_trans (r.adm.tops v hv hm hc) (htK v hv), r.adm.free⟩
  have nnY := r.nn o hK h0 ht
  have preY : Pre W c K Y := fun Y' a => big Y' (a.congr o le fun _ _ => rfl)
  have e : ∀ v, v < W.n → Y v = X v := fun v hv => Int.le_antisymm (le v hv) (least Y nnY preY v hv)
  have r' : IsRnd W c K (fun _ => K) X Y := ⟨adm, big, r.ends, r.calls⟩
  exact ⟨h0, hX, r'.congr o (fun _ _ => rfl) e, least⟩
/-- at K = 0 it is 0 -/
theorem IsFev.zero (o : W.Ok) : IsFev W c 0 (fun _ => 0) where
  nn := fun _ _ => Int.le_refl _
  le := fun _ _ => Int.le_refl _
  rnd := by
    have hz : ∀ v, v < W.n → W.mv v = true → W.pr (fun _ => 0) v = 0 := fun v hv hm => Int.le_antisymm (pr_le o hv hm fun _ _ => Int.le_refl _) (pr_ge o hv hm fun _ _ => Int.le_refl _)
    have hd : ∀ v, v < W.n → (W.due v).num 0 = 0 := fun v hv => Int.le_antisymm (num_le (o.dn v hv) (Int.le_refl _)) (num_ge (o.dn v hv) (Int.le_refl _))
    refine ⟨⟨fun v hv _ => Int.le_of_eq (hd v hv).symm, fun v hv hm _ => Int.le_of_eq (hz v hv hm).symm, fun _ _ _ _ => Int.le_refl _, fun v hv hm _ => Int.le_of_eq (hz v hv hm).symm⟩, fun Y a v hv => ?_, fun v hv _ => (hd v hv).symm, fun v hv hm _ => (hz v hv hm).symm⟩
    cases hm : W.mv v with
    | false => have := a.ends v hv hm; rw [hd v hv] at this; exact this
    | true =>
      cases hc : c v with
      | true => have := a.calls v hv hm hc; rw [hz v hv hm] at this; exact this
      | false => exact a.tops v hv hm hc
  least := fun Z h _ => h
end

/-! ### one chip more -/
section
variable {W : Web} {c : Nat → Bool} {K : Int} {X now : Nat → Int}
/-- what a row under X + 1 admits is under X + 1 -/
theorem chip_top (o : W.Ok) (hK : 0 ≤ K) (f : IsFev W c K X) (hn : ∀ v, v < W.n → now v ≤ X v + 1) : ∀ Y, Adm W c (K + 1) (fun _ => K + 1) now Y → ∀ v, v < W.n → Y v ≤ X v + 1 := fun Y a v hv => by
  have b : Adm W c K (fun _ => K) X (fun w => Y w + (-1)) := by
    refine ⟨fun w hw hm => ?_, fun w hw hm hc => ?_, fun w hw hm hc => ?_, fun w hw hm hc => ?_⟩
    · have := a.ends w hw hm
      have := (num_up (d := W.due w) (K := K)).2
      omega
    · have h1 := a.calls w hw hm hc
      have h2 := pr_le_add o (X := now) (Y := X) 1 hw hm hn
      omega
    · have := a.tops w hw hm hc
      omega
    · rw [pr_add o (-1) hw hm]
      have := a.free w hw hm hc
      omega
  have := f.rnd.great _ b v hv
  omega
/-- what a row under all pre-fixed rows admits is under them -/
theorem chip_least (o : W.Ok) {top Y : Nat → Int} {K : Int} (r : Adm W c K top now Y) (ht : ∀ v, v < W.n → top v ≤ K)
    (l : ∀ Z, (∀ v, v < W.n → 0 ≤ Z v) → Pre W c K Z → ∀ v, v < W.n → now v ≤ Z v) : ∀ Z, (∀ v, v < W.n → 0 ≤ Z v) → Pre W c K Z → ∀ v, v < W.n → Y v ≤ Z v := fun Z z p =>
  p Y (Adm.congr (top := fun _ => K) o ⟨r.ends, r.calls, fun v hv hm hc => Int.le_trans (r.tops v hv hm hc) (ht v hv), r.free⟩ (l Z z p) fun _ _ => rfl)
/-- the row for ever at K is under the pre-fixed rows at K + 1 -/
theorem chip_start (o : W.Ok) (f : IsFev W c K X) : ∀ Z, (∀ v, v < W.n → 0 ≤ Z v) → Pre W c (K + 1) Z → ∀ v, v < W.n → X v ≤ Z v := fun Z z p =>
  f.least Z z fun Y a => p Y ⟨fun v hv hm => Int.le_trans (a.ends v hv hm) (num_up (d := W.due v) (K := K)).1, a.calls, fun v hv hm hc => by have := a.tops v hv hm hc; omega, a.free⟩
/-- the rising's end -/
theorem chip_end (o : W.Ok) (hK : 0 ≤ K) (f : IsFev W c K X) (r : Nat → Bool) {Y : Nat → Int}
    (hY : IsRnd W c (K + 1) (fun v => X v + 1) (fun v => X v + if r v = true then 1 else 0) Y) (hno : ∀ v, v < W.n → r v = false → Y v ≤ X v)
    (l : ∀ Z, (∀ v, v < W.n → 0 ≤ Z v) → Pre W c (K + 1) Z → ∀ v, v < W.n → (X v + if r v = true then 1 else 0) ≤ Z v) : IsFev W c (K + 1) (fun v => X v + if r v = true then 1 else 0) := by
  have up : ∀ v, v < W.n → (X v + if r v = true then 1 else 0) ≤ X v + 1 := fun v _ => by split <;> omega
  have dn : ∀ v, X v ≤ (X v + if r v = true then 1 else 0) := fun v => by split <;> omega
  refine IsFev.mk' (top := fun v => X v + 1) o (by omega) (fun v hv => ?_) (fun v hv => ?_) (fun v hv => ?_) (fun v hv => ?_) hY (chip_top o hK f up) (fun v hv => ?_) l
  · have := f.nn v hv; have := dn v; omega
  · have := f.le v hv; have := up v hv; omega
  · have := f.nn v hv; omega
  · have := f.le v hv; omega
  · have := chip_top o hK f up Y ⟨hY.adm.ends, hY.adm.calls, fun v hv hm hc => by have := hY.adm.tops v hv hm hc; have := f.le v hv; omega, hY.adm.free⟩ v hv
    cases q : r v with
    | true => rw [if_pos rfl]; exact this
    | false => rw [if_neg (by simp)]; have := hno v hv q; omega
end
end Pw
end
/-! ### PwMatB -/
section
set_option autoImplicit false
set_option linter.all false
/-! the mathematics of ranks, counts and verdicts, in plain Lean -/
namespace Pw
def add1 (b : Nat → Bool) (X : Nat → Int) (v : Nat) : Int := if b v = true then X v + 1 else X v
def sub1 (b : Nat → Bool) (X : Nat → Int) (v : Nat) : Int := if b v = true then X v - 1 else X v
def cnt (n : Nat) (S : Nat → Bool) : Nat := ((List.range n).filter S).length
theorem flt_le : ∀ (l : List Nat) (p q : Nat → Bool), (∀ v, p v = true → q v = true) → (l.filter p).length ≤ (l.filter q).length
  | [], _, _, _ => Nat.le_refl _
  | a :: l, p, q, h => by
    have ih := flt_le l p q h
    cases e : p a with
    | true =>
      rw [List.filter_cons_of_pos e, List.filter_cons_of_pos (h a e), List.length_cons, List.length_cons]
      omega
    | false =>
      rw [List.filter_cons_of_neg (by rw [e]; simp)]
      cases e2 : q a with
      | true => rw [List.filter_cons_of_pos e2, List.length_cons]; omega
      | false => rw [List.filter_cons_of_neg (by rw [e2]; simp)]; exact ih
theorem flt_lt : ∀ (l : List Nat) (p q : Nat → Bool), (∀ v, p v = true → q v = true) → (∃ v ∈ l, q v = true ∧ p v = false) → (l.filter p).length < (l.filter q).length
  | [], _, _, _, h => by obtain ⟨v, hv, _⟩ := h; simp at hv
  | a :: l, p, q, h, ⟨v, hv, h1, h2⟩ => by
    have le := flt_le l p q h
    by_cases ea : v = a
    · subst ea
      rw [List.filter_cons_of_neg (by rw [h2]; simp), List.filter_cons_of_pos h1, List.length_cons]
      omega
    · have hv' : v ∈ l := by
        rcases List.mem_cons.mp hv with e | e
        · exact absurd e ea
        · exact e
      have ih := flt_lt l p q h ⟨v, hv', h1, h2⟩
      cases e : p a with
      | true =>
        rw [List.filter_cons_of_pos e, List.filter_cons_of_pos (h a e), List.length_cons, List.length_cons]
        omega
      | false =>
        rw [List.filter_cons_of_neg (by rw [e]; simp)]
        cases e2 : q a with
        | true => rw [List.filter_cons_of_pos e2, List.length_cons]; omega
        | false => rw [List.filter_cons_of_neg (by rw [e2]; simp)]; exact ih
theorem cnt_le {n : Nat} {S : Nat → Bool} : cnt n S ≤ n := by
  unfold cnt
  have := List.length_filter_le S (List.range n)
  rw [List.length_range] at this
  exact this
theorem cnt_pos {n : Nat} {S : Nat → Bool} {v : Nat} (hv : v < n) (h : S v = true) : 1 ≤ cnt n S := by
  have := flt_lt (List.range n) (fun _ => false) S (fun _ z => by cases z) ⟨v, List.mem_range.mpr hv, h, rfl⟩
  unfold cnt
  omega

/-! ### peeling a set -/
section
variable (S0 : Nat → Bool) (out : (Nat → Bool) → Nat → Bool)
def lev : Nat → Nat → Bool
  | 0 => S0
  | i + 1 => fun v => lev i v && !out (lev i) v
def rkk : Nat → Nat → Int
  | 0 => fun _ => 0
  | i + 1 => fun v => if (lev S0 out i v && out (lev S0 out i) v) = true then (i : Int) + 1 else rkk i v
def Stuck (S : Nat → Bool) : Prop := ∀ v, S v = true → out S v = false
variable {S0 out}
theorem lev_down {i : Nat} {v : Nat} (h : lev S0 out (i + 1) v = true) : lev S0 out i v = true := (Bool.and_eq_true_iff.mp h).1
theorem lev_anti {i j : Nat} {v : Nat} (hij : i ≤ j) (h : lev S0 out j v = true) : lev S0 out i v = true := by
  induction j with
  | zero => have : i = 0 := by omega
            subst this; exact h
  | succ j ih =>
    by_cases e : i = j + 1
    · subst e; exact h
    · exact ih (by omega) (lev_down h)
theorem stuck_next {i : Nat} (h : Stuck out (lev S0 out i)) : lev S0 out (i + 1) = lev S0 out i ∧ rkk S0 out (i + 1) = rkk S0 out i := by
  constructor
  · funext v
    show (lev S0 out i v && !out (lev S0 out i) v) = lev S0 out i v
    cases e : lev S0 out i v with
    | false => rfl
    | true => rw [h v e]; rfl
  · funext v
    show (if (lev S0 out i v && out (lev S0 out i) v) = true then (i : Int) + 1 else rkk S0 out i v) = rkk S0 out i v
    refine if_neg fun z => ?_
    obtain ⟨a, b⟩ := Bool.and_eq_true_iff.mp z
    rw [h v a] at b
    cases b
theorem stuck_on {i : Nat} (h : Stuck out (lev S0 out i)) : ∀ d, lev S0 out (i + d) = lev S0 out i ∧ rkk S0 out (i + d) = rkk S0 out i
  | 0 => ⟨rfl, rfl⟩
  | d + 1 => by
    obtain ⟨a, b⟩ := stuck_on h d
    have h' : Stuck out (lev S0 out (i + d)) := by rw [a]; exact h
    obtain ⟨c, e⟩ := stuck_next h'
    exact ⟨by rw [← a]; exact c, by rw [← b]; exact e⟩
theorem stuck_same {i j : Nat} (hi : Stuck out (lev S0 out i)) (hj : Stuck out (lev S0 out j)) : lev S0 out i = lev S0 out j ∧ rkk S0 out i = rkk S0 out j := by
  rcases Nat.le_total i j with h | h
  · obtain ⟨d, rfl⟩ := Nat.exists_eq_add_of_le h
    obtain ⟨a, b⟩ := stuck_on hi d
    exact ⟨a.symm, b.symm⟩
  · obtain ⟨d, rfl⟩ := Nat.exists_eq_add_of_le h
    exact stuck_on hj d
theorem lev_lt {n i : Nat} (hS : ∀ v, S0 v = true → v < n) (h : ∃ v, lev S0 out i v = true ∧ out (lev S0 out i) v = true) : cnt n (lev S0 out (i + 1)) < cnt n (lev S0 out i) := by
  obtain ⟨v, h1, h2⟩ := h
  refine flt_lt (List.range n) _ _ (fun _ => lev_down) ⟨v, List.mem_range.mpr (hS v (lev_anti (Nat.zero_le i) h1)), h1, ?_⟩
  show (lev S0 out i v && !out (lev S0 out i) v) = false
  rw [h1, h2]
  rfl
theorem lev_cnt {n : Nat} (hS : ∀ v, S0 v = true → v < n) : ∀ i, Stuck out (lev S0 out i) ∨ cnt n (lev S0 out i) + i ≤ cnt n S0
  | 0 => .inr (Nat.le_refl _)
  | i + 1 => by
    by_cases st : Stuck out (lev S0 out i)
    · exact .inl (by rw [(stuck_next st).1]; exact st)
    · have ex : ∃ v, lev S0 out i v = true ∧ out (lev S0 out i) v = true := Classical.byContradiction fun ne => st fun v hv => by
        cases e : out (lev S0 out i) v with
        | false => rfl
        | true => exact absurd ⟨v, hv, e⟩ ne
      have := lev_lt hS ex
      rcases lev_cnt hS i with h | h
      · exact absurd h st
      · exact .inr (by omega)
theorem lev_end {n : Nat} (hS : ∀ v, S0 v = true → v < n) : Stuck out (lev S0 out n) := by
  rcases lev_cnt (out := out) hS n with h | h
  · exact h
  · intro v hv
    have := cnt_pos (hS v (lev_anti (Nat.zero_le n) hv)) hv
    have := cnt_le (n := n) (S := S0)
    omega
theorem rkk_spec {i v : Nat} : (lev S0 out i v = true → rkk S0 out i v = 0) ∧ (lev S0 out i v = false → ∀ j : Nat, (j : Int) + 1 ≤ rkk S0 out i v ↔ lev S0 out j v = true) ∧ 0 ≤ rkk S0 out i v := by
  induction i with
  | zero =>
    refine ⟨fun _ => rfl, fun h j => ⟨fun z => ?_, fun z => ?_⟩, Int.le_refl _⟩
    · have e : rkk S0 out 0 v = 0 := rfl
      omega
    · rw [lev_anti (Nat.zero_le j) z] at h
      cases h
  | succ i ih =>
    obtain ⟨i1, i2, i3⟩ := ih
    have e1 : lev S0 out (i + 1) v = (lev S0 out i v && !out (lev S0 out i) v) := rfl
    have e2 : rkk S0 out (i + 1) v = if (lev S0 out i v && out (lev S0 out i) v) = true then (i : Int) + 1 else rkk S0 out i v := rfl
    cases a : lev S0 out i v with
    | false =>
      rw [a] at e1 e2
      rw [e2, if_neg (by simp)]
      refine ⟨fun z => ?_, fun _ => i2 a, i3⟩
      rw [e1] at z
      cases z
    | true =>
      cases b : out (lev S0 out i) v with
      | false =>
        rw [a, b] at e1 e2
        rw [e2, if_neg (by simp)]
        refine ⟨fun _ => i1 a, fun z => ?_, i3⟩
        rw [e1] at z
        cases z
      | true =>
        rw [a, b] at e1 e2
        rw [e2, if_pos (by rfl)]
        refine ⟨fun z => ?_, fun z j => ⟨fun h => lev_anti (by omega) a, fun h => ?_⟩, by omega⟩
        · rw [e1] at z
          cases z
        · by_cases q : j ≤ i
          · omega
          · have := lev_anti (i := i + 1) (by omega) h
            rw [z] at this
            cases this
theorem rkk_iff {i : Nat} (h : ∀ v, lev S0 out i v = false) (v j : Nat) : (j : Int) + 1 ≤ rkk S0 out i v ↔ lev S0 out j v = true := rkk_spec.2.1 (h v) j
theorem rkk_nn {i v : Nat} : 0 ≤ rkk S0 out i v := rkk_spec.2.2
theorem rkk_le {n i : Nat} (hS : ∀ v, S0 v = true → v < n) (h : ∀ v, lev S0 out i v = false) (v : Nat) : rkk S0 out i v ≤ cnt n S0 := by
  have nn := rkk_nn (S0 := S0) (out := out) (i := i) (v := v)
  by_cases z : rkk S0 out i v = 0
  · omega
  · obtain ⟨j, hj⟩ : ∃ j : Nat, rkk S0 out i v = (j : Int) + 1 := ⟨(rkk S0 out i v - 1).toNat, by omega⟩
    have l1 := (rkk_iff h v j).mp (by omega)
    have l2 : lev S0 out (j + 1) v = false := by
      cases e : lev S0 out (j + 1) v with
      | false => rfl
      | true =>
        have := (rkk_iff h v (j + 1)).mpr e
        omega
    have := cnt_pos (hS v (lev_anti (Nat.zero_le j) l1)) l1
    rcases lev_cnt (out := out) hS j with st | c
    · rw [(stuck_next st).1, l1] at l2
      cases l2
    · omega
end

/-! ### ranks and counts -/
section
variable (W : Web) (c : Nat → Bool) (K : Int) (X : Nat → Int)
def lr0 (v : Nat) : Bool := decide (v < W.n) && (W.mv v && (!c v && decide (X v < K)))
def outR (S : Nat → Bool) (v : Nat) : Bool := decide (W.pr (add1 S X) v ≤ X v)
def lc0 (v : Nat) : Bool := decide (v < W.n) && (W.mv v && decide (1 ≤ X v))
noncomputable def outC (S : Nat → Bool) (v : Nat) : Bool := decide (X v ≤ rnd W c K (sub1 S X) v)
def lvR (i : Nat) : Nat → Bool := lev (lr0 W c K X) (outR W X) i
def rkR (i : Nat) : Nat → Int := rkk (lr0 W c K X) (outR W X) i
noncomputable def lvC (i : Nat) : Nat → Bool := lev (lc0 W X) (outC W c K X) i
noncomputable def rkC (i : Nat) : Nat → Int := rkk (lc0 W X) (outC W c K X) i
variable {W c K X}
theorem lr0_iff {v : Nat} : lr0 W c K X v = true ↔ v < W.n ∧ W.mv v = true ∧ c v = false ∧ X v < K := by
  unfold lr0
  cases W.mv v <;> cases c v <;> simp
theorem lc0_iff {v : Nat} : lc0 W X v = true ↔ v < W.n ∧ W.mv v = true ∧ 1 ≤ X v := by
  unfold lc0
  cases W.mv v <;> simp
theorem add1_ge (S : Nat → Bool) (v : Nat) : X v ≤ add1 S X v := by unfold add1; split <;> omega
theorem sub1_le (S : Nat → Bool) (v : Nat) : sub1 S X v ≤ X v := by unfold sub1; split <;> omega
theorem rk_stuck (o : W.Ok) (f : IsFev W c K X) {S : Nat → Bool} (hS : ∀ v, S v = true → lr0 W c K X v = true) (h : Stuck (outR W X) S) : ∀ v, S v = false := fun v => by
  cases e : S v with
  | false => rfl
  | true =>
    exfalso
    have a : Adm W c K (fun _ => K) X (add1 S X) := by
      refine ⟨fun w hw hm => ?_, fun w hw hm hc => ?_, fun w hw hm hc => ?_, fun w hw hm hc => ?_⟩
      · have : S w ≠ true := fun z => by have := (lr0_iff.mp (hS w z)).2.1; rw [hm] at this; cases this
        rw [show add1 S X w = X w from if_neg this]
        exact Int.le_of_eq (f.rnd.ends w hw hm)
      · have : S w ≠ true := fun z => by have := (lr0_iff.mp (hS w z)).2.2.1; rw [hc] at this; cases this
        rw [show add1 S X w = X w from if_neg this]
        exact Int.le_of_eq (f.rnd.calls w hw hm hc)
      · by_cases z : S w = true
        · rw [show add1 S X w = X w + 1 from if_pos z]
          have := (lr0_iff.mp (hS w z)).2.2.2
          omega
        · rw [show add1 S X w = X w from if_neg z]
          exact f.le w hw
      · by_cases z : S w = true
        · rw [show add1 S X w = X w + 1 from if_pos z]
          have := of_decide_eq_false (h w z)
          omega
        · rw [show add1 S X w = X w from if_neg z]
          exact Int.le_trans (f.rnd.adm.free w hw hm hc) (pr_mono o hw fun u _ => add1_ge S u)
    have := f.rnd.great _ a v (lr0_iff.mp (hS v e)).1
    rw [show add1 S X v = X v + 1 from if_pos e] at this
    omega
theorem rnd_sub (o : W.Ok) (hK : 0 ≤ K) (f : IsFev W c K X) {S : Nat → Bool} (hS : ∀ v, S v = true → 1 ≤ X v) : (∀ v, v < W.n → 0 ≤ sub1 S X v) ∧ IsRnd W c K (fun _ => K) (sub1 S X) (rnd W c K (sub1 S X)) ∧ ∀ v, v < W.n → rnd W c K (sub1 S X) v ≤ X v := by
  have z0 : ∀ v, v < W.n → 0 ≤ sub1 S X v := fun v hv => by
    have := f.nn v hv
    unfold sub1
    by_cases e : S v = true
    · have := hS v e
      rw [if_pos e]
      omega
    · rw [if_neg e]
      omega
  have r := rnd_is (c := c) o hK z0
  exact ⟨z0, r, f.rnd.great _ (r.adm.congr o (fun v _ => sub1_le S v) fun _ _ => rfl)⟩
theorem ct_stuck (o : W.Ok) (hK : 0 ≤ K) (f : IsFev W c K X) {S : Nat → Bool} (hS : ∀ v, S v = true → lc0 W X v = true) (h : Stuck (outC W c K X) S) : ∀ v, S v = false := fun v => by
  cases e : S v with
  | false => rfl
  | true =>
    exfalso
    obtain ⟨z0, r, le⟩ := rnd_sub o hK f (S := S) fun w hw => (lc0_iff.mp (hS w hw)).2.2
    have p : Pre W c K (sub1 S X) := fun U a w hw => by
      have g := r.great U a w hw
      have l := le w hw
      by_cases z : S w = true
      · have := of_decide_eq_false (h w z)
        rw [show sub1 S X w = X w - 1 from if_pos z]
        omega
      · rw [show sub1 S X w = X w from if_neg z]
        omega
    have := f.least _ z0 p v (lc0_iff.mp (hS v e)).1
    rw [show sub1 S X v = X v - 1 from if_pos e] at this
    omega
theorem lvR_in {i v : Nat} (h : lvR W c K X i v = true) : lr0 W c K X v = true := lev_anti (Nat.zero_le i) h
theorem lvC_in {i v : Nat} (h : lvC W c K X i v = true) : lc0 W X v = true := lev_anti (Nat.zero_le i) h
theorem lr0_lt : ∀ v, lr0 W c K X v = true → v < W.n := fun v h => (lr0_iff.mp h).1
theorem lc0_lt : ∀ v, lc0 W X v = true → v < W.n := fun v h => (lc0_iff.mp h).1
theorem lvR_end (o : W.Ok) (f : IsFev W c K X) : ∀ v, lvR W c K X W.n v = false := rk_stuck o f (fun _ => lvR_in) (lev_end lr0_lt)
theorem lvC_end (o : W.Ok) (hK : 0 ≤ K) (f : IsFev W c K X) : ∀ v, lvC W c K X W.n v = false := ct_stuck o hK f (fun _ => lvC_in) (lev_end lc0_lt)
theorem rkR_le (o : W.Ok) (f : IsFev W c K X) (v : Nat) : rkR W c K X W.n v ≤ cnt W.n W.mv :=
  Int.le_trans (rkk_le lr0_lt (lvR_end o f) v) (Int.ofNat_le.mpr (flt_le _ _ _ fun v h => (lr0_iff.mp h).2.1))
theorem rkC_le (o : W.Ok) (hK : 0 ≤ K) (f : IsFev W c K X) (v : Nat) : rkC W c K X W.n v ≤ cnt W.n W.mv :=
  Int.le_trans (rkk_le lc0_lt (lvC_end o hK f) v) (Int.ofNat_le.mpr (flt_le _ _ _ fun v h => (lc0_iff.mp h).2.1))
end

/-! ### verdicts -/
section
variable (W : Web) (c : Nat → Bool) (K : Int) (X : Nat → Int) (r : Nat → Int)
def ge (r : Nat → Int) (i : Int) (w : Nat) : Bool := decide (i ≤ r w)
def abv (v : Nat) : Bool :=
  if W.mv v = true then (if c v = true then decide (r v = 0) && decide (W.pr X v ≤ X v) else if r v = 0 then decide (X v = K) else decide (W.pr (add1 (ge r (r v)) X) v ≤ X v))
  else decide (r v = 0) && decide ((W.due v).num K ≤ X v)
def lst (v : Nat) : Int := if c v = true then r v else r v + 1
def blw (v : Nat) : Bool :=
  if W.mv v = true then (if X v = 0 ∨ r v = 0 then decide (X v = r v) else decide (X v ≤ W.pr (sub1 (ge r (lst c r v)) X) v))
  else decide (r v = 0) && decide (X v ≤ (W.due v).num K)
variable {W c K X r}
theorem abv_fev (o : W.Ok) (f : IsFev W c K X) : ∀ v, v < W.n → abv W c K X (rkR W c K X W.n) v = true := fun v hv => by
  have em := lvR_end o f
  have z : ∀ u, lr0 W c K X u = false → rkR W c K X W.n u = 0 := fun u hu => by
    have nn := rkk_nn (S0 := lr0 W c K X) (out := outR W X) (i := W.n) (v := u)
    by_cases e : rkR W c K X W.n u = 0
    · exact e
    · have e' : (0 : Int) ≤ rkR W c K X W.n u := nn
      have := (rkk_iff em u 0).mp (show ((0 : Nat) : Int) + 1 ≤ rkR W c K X W.n u by omega)
      have this : lr0 W c K X u = true := this
      rw [hu] at this
      cases this
  have nz : ∀ u, lr0 W c K X u = true → 1 ≤ rkR W c K X W.n u := fun u hu => by
    have := (rkk_iff em u 0).mpr hu
    have this : ((0 : Nat) : Int) + 1 ≤ rkR W c K X W.n u := this
    omega
  unfold abv
  cases hm : W.mv v with
  | false =>
    rw [if_neg (by simp), z v (by cases e : lr0 W c K X v with
      | false => rfl
      | true => have := (lr0_iff.mp e).2.1; rw [hm] at this; cases this)]
    have := f.rnd.ends v hv hm
    simp only [decide_true, Bool.true_and]
    exact decide_eq_true (by omega)
  | true =>
    rw [if_pos rfl]
    cases hc : c v with
    | true =>
      rw [if_pos rfl, z v (by cases e : lr0 W c K X v with
        | false => rfl
        | true => have := (lr0_iff.mp e).2.2.1; rw [hc] at this; cases this)]
      have := f.rnd.calls v hv hm hc
      simp only [decide_true, Bool.true_and]
      exact decide_eq_true (by omega)
    | false =>
      rw [if_neg (by simp)]
      by_cases q : rkR W c K X W.n v = 0
      · rw [if_pos q]
        have : ¬ lr0 W c K X v = true := fun e => by have := nz v e; omega
        have l := f.le v hv
        refine decide_eq_true ?_
        by_cases e : X v < K
        · exact absurd (lr0_iff.mpr ⟨hv, hm, hc, e⟩) this
        · omega
      · rw [if_neg q]
        have nn := rkk_nn (S0 := lr0 W c K X) (out := outR W X) (i := W.n) (v := v)
        obtain ⟨j, hj⟩ : ∃ j : Nat, rkR W c K X W.n v = (j : Int) + 1 := ⟨(rkR W c K X W.n v - 1).toNat, by
          have e' : (0 : Int) ≤ rkR W c K X W.n v := nn
          omega⟩
        have e1 : ge (rkR W c K X W.n) (rkR W c K X W.n v) = lvR W c K X j := by
          funext w
          unfold ge
          rw [hj]
          cases e : lvR W c K X j w with
          | true => exact decide_eq_true ((rkk_iff em w j).mpr e)
          | false => exact decide_eq_false fun h => by have := (rkk_iff em w j).mp h; have this : lvR W c K X j w = true := this; rw [e] at this; cases this
        rw [e1]
        have l1 : lvR W c K X j v = true := (rkk_iff em v j).mp (by have : rkk (lr0 W c K X) (outR W X) W.n v = (j : Int) + 1 := hj; omega)
        have l2 : lvR W c K X (j + 1) v = false := by
          cases e : lvR W c K X (j + 1) v with
          | false => rfl
          | true =>
            have := (rkk_iff em v (j + 1)).mpr e
            have h2 : rkk (lr0 W c K X) (outR W X) W.n v = (j : Int) + 1 := hj
            omega
        have e3 : lvR W c K X (j + 1) v = (lvR W c K X j v && !outR W X (lvR W c K X j) v) := rfl
        rw [e3, l1] at l2
        have e4 : outR W X (lvR W c K X j) v = true := by simpa using l2
        exact e4
theorem blw_fev (o : W.Ok) (hK : 0 ≤ K) (f : IsFev W c K X) : ∀ v, v < W.n → blw W c K X (rkC W c K X W.n) v = true := fun v hv => by
  have em := lvC_end o hK f
  have z : ∀ u, lc0 W X u = false → rkC W c K X W.n u = 0 := fun u hu => by
    have nn := rkk_nn (S0 := lc0 W X) (out := outC W c K X) (i := W.n) (v := u)
    by_cases e : rkC W c K X W.n u = 0
    · exact e
    · have e' : (0 : Int) ≤ rkC W c K X W.n u := nn
      have := (rkk_iff em u 0).mp (show ((0 : Nat) : Int) + 1 ≤ rkC W c K X W.n u by omega)
      have this : lc0 W X u = true := this
      rw [hu] at this
      cases this
  have nz : ∀ u, lc0 W X u = true → 1 ≤ rkC W c K X W.n u := fun u hu => by
    have := (rkk_iff em u 0).mpr hu
    have this : ((0 : Nat) : Int) + 1 ≤ rkC W c K X W.n u := this
    omega
  unfold blw
  cases hm : W.mv v with
  | false =>
    rw [if_neg (by simp), z v (by cases e : lc0 W X v with
      | false => rfl
      | true => have := (lc0_iff.mp e).2.1; rw [hm] at this; cases this)]
    have := f.rnd.ends v hv hm
    simp only [decide_true, Bool.true_and]
    exact decide_eq_true (by omega)
  | true =>
    rw [if_pos rfl]
    have x0 := f.nn v hv
    by_cases q : X v = 0 ∨ rkC W c K X W.n v = 0
    · rw [if_pos q]
      refine decide_eq_true ?_
      by_cases e : lc0 W X v = true
      · have a := nz v e
        have b := (lc0_iff.mp e).2.2
        omega
      · have a := z v (by simpa using e)
        by_cases b : 1 ≤ X v
        · exact absurd (lc0_iff.mpr ⟨hv, hm, b⟩) e
        · omega
    · rw [if_neg q]
      have nn : (0 : Int) ≤ rkC W c K X W.n v := rkk_nn (S0 := lc0 W X) (out := outC W c K X) (i := W.n) (v := v)
      obtain ⟨j, hj⟩ : ∃ j : Nat, rkC W c K X W.n v = (j : Int) + 1 := ⟨(rkC W c K X W.n v - 1).toNat, by omega⟩
      have hge : ∀ i : Nat, ge (rkC W c K X W.n) ((i : Int) + 1) = lvC W c K X i := fun i => by
        funext w
        unfold ge
        cases e : lvC W c K X i w with
        | true => exact decide_eq_true ((rkk_iff em w i).mpr e)
        | false => exact decide_eq_false fun h => by have := (rkk_iff em w i).mp h; have this : lvC W c K X i w = true := this; rw [e] at this; cases this
      have l1 : lvC W c K X j v = true := (rkk_iff em v j).mp (by have : rkk (lc0 W X) (outC W c K X) W.n v = (j : Int) + 1 := hj; omega)
      have l2 : lvC W c K X (j + 1) v = false := by
        cases e : lvC W c K X (j + 1) v with
        | false => rfl
        | true =>
          have := (rkk_iff em v (j + 1)).mpr e
          have h2 : rkk (lc0 W X) (outC W c K X) W.n v = (j : Int) + 1 := hj
          omega
      have e3 : ∀ w, lvC W c K X (j + 1) w = (lvC W c K X j w && !outC W c K X (lvC W c K X j) w) := fun _ => rfl
      rw [e3, l1] at l2
      have e4 : outC W c K X (lvC W c K X j) v = true := by simpa using l2
      have e5 := of_decide_eq_true e4
      obtain ⟨z0, R, le⟩ := rnd_sub o hK f (S := lvC W c K X j) fun w hw => (lc0_iff.mp (lvC_in hw)).2.2
      refine decide_eq_true ?_
      cases hc : c v with
      | true =>
        rw [show lst c (rkC W c K X W.n) v = (j : Int) + 1 by unfold lst; rw [if_pos hc, hj], hge]
        have := R.calls v hv hm hc
        omega
      | false =>
        rw [show lst c (rkC W c K X W.n) v = ((j + 1 : Nat) : Int) + 1 by unfold lst; rw [if_neg (by rw [hc]; simp), hj]; omega, hge]
        have a1 := R.adm.free v hv hm hc
        have a2 : W.pr (rnd W c K (sub1 (lvC W c K X j) X)) v ≤ W.pr (sub1 (lvC W c K X (j + 1)) X) v := pr_mono o hv fun w hw => by
          have l := le w hw
          by_cases q2 : lvC W c K X (j + 1) w = true
          · rw [show sub1 (lvC W c K X (j + 1)) X w = X w - 1 from if_pos q2]
            rw [e3] at q2
            have q3 := (Bool.and_eq_true_iff.mp q2).2
            have q4 : outC W c K X (lvC W c K X j) w = false := by simpa using q3
            have := of_decide_eq_false q4
            omega
          · rw [show sub1 (lvC W c K X (j + 1)) X w = X w from if_neg q2]
            exact l
        omega
/-- the greatest of a function over the stands of a set -/
theorem pick_max (n : Nat) (g : Nat → Int) (S : Nat → Prop) [DecidablePred S] (h : ∃ v, v < n ∧ S v) : ∃ v, v < n ∧ S v ∧ ∀ w, w < n → S w → g w ≤ g v := by
  induction n with
  | zero => obtain ⟨v, hv, _⟩ := h; omega
  | succ n ih =>
    by_cases h' : ∃ v, v < n ∧ S v
    · obtain ⟨v, hv, sv, m⟩ := ih h'
      by_cases q : S n ∧ g v < g n
      · refine ⟨n, by omega, q.1, fun w hw sw => ?_⟩
        by_cases e : w = n
        · subst e; exact Int.le_refl _
        · have := m w (by omega) sw; omega
      · refine ⟨v, by omega, sv, fun w hw sw => ?_⟩
        by_cases e : w = n
        · subst e
          by_cases e2 : g v < g w
          · exact absurd ⟨sw, e2⟩ q
          · omega
        · exact m w (by omega) sw
    · obtain ⟨v, hv, sv⟩ := h
      have e : v = n := by
        by_cases e : v = n
        · exact e
        · exact absurd ⟨v, by omega, sv⟩ h'
      subst e
      refine ⟨v, hv, sv, fun w hw sw => ?_⟩
      by_cases e : w = v
      · subst e; exact Int.le_refl _
      · exact absurd ⟨w, by omega, sw⟩ h'
theorem upper_half (o : W.Ok) {Y : Nat → Int} (hK : ∀ v, v < W.n → Y v ≤ K) (h : ∀ v, v < W.n → abv W c K Y r v = true) : Pre W c K Y := fun U a => by
  refine Classical.byContradiction fun ne => ?_
  have ne' : ∃ v, v < W.n ∧ Y v < U v := Classical.byContradiction fun q => ne fun v hv => by
    by_cases e : U v ≤ Y v
    · exact e
    · exact absurd ⟨v, hv, by omega⟩ q
  obtain ⟨v0, hv0, p0⟩ := ne'
  obtain ⟨t, ht, _, mt⟩ := pick_max W.n (fun v => U v - Y v) (fun _ => True) ⟨v0, hv0, trivial⟩
  obtain ⟨m, hm⟩ : ∃ m, m = U t - Y t := ⟨_, rfl⟩
  have m1 : 1 ≤ m := by have := mt v0 hv0 trivial; omega
  obtain ⟨v, hv, sv, mn⟩ := pick_max W.n (fun v => - r v) (fun v => U v - Y v = m) ⟨t, ht, hm.symm⟩
  have hab := h v hv
  unfold abv at hab
  cases hmv : W.mv v with
  | false =>
    rw [hmv, if_neg (by simp)] at hab
    have h2 := of_decide_eq_true (Bool.and_eq_true_iff.mp hab).2
    have := a.ends v hv hmv
    omega
  | true =>
    rw [hmv, if_pos rfl] at hab
    cases hc : c v with
    | true =>
      rw [hc, if_pos rfl] at hab
      have h2 := of_decide_eq_true (Bool.and_eq_true_iff.mp hab).2
      have := a.calls v hv hmv hc
      omega
    | false =>
      rw [hc, if_neg (by simp)] at hab
      by_cases q : r v = 0
      · rw [if_pos q] at hab
        have := of_decide_eq_true hab
        have := a.tops v hv hmv hc
        omega
      · rw [if_neg q] at hab
        have h2 := of_decide_eq_true hab
        have h3 := a.free v hv hmv hc
        have h4 := pr_le_add o (X := U) (Y := add1 (ge r (r v)) Y) (m - 1) hv hmv fun w hw => by
          have l := mt w hw trivial
          by_cases e : U w - Y w = m
          · have := mn w hw e
            rw [show add1 (ge r (r v)) Y w = Y w + 1 from if_pos (decide_eq_true (by omega))]
            omega
          · have := add1_ge (X := Y) (ge r (r v)) w
            omega
        omega
theorem lower_half (o : W.Ok) {Y : Nat → Int} (f : IsFev W c K X) (hK : ∀ v, v < W.n → Y v ≤ K) (h : ∀ v, v < W.n → blw W c K Y r v = true) : ∀ v, v < W.n → Y v ≤ X v := by
  refine Classical.byContradiction fun ne => ?_
  have ne' : ∃ v, v < W.n ∧ X v < Y v := Classical.byContradiction fun q => ne fun v hv => by
    by_cases e : Y v ≤ X v
    · exact e
    · exact absurd ⟨v, hv, by omega⟩ q
  obtain ⟨v0, hv0, p0⟩ := ne'
  obtain ⟨t, ht, _, mt⟩ := pick_max W.n (fun v => Y v - X v) (fun _ => True) ⟨v0, hv0, trivial⟩
  obtain ⟨m, hm⟩ : ∃ m, m = Y t - X t := ⟨_, rfl⟩
  have m1 : 1 ≤ m := by have := mt v0 hv0 trivial; omega
  obtain ⟨u, hu, su, mn⟩ := pick_max W.n (fun v => - r v) (fun v => Y v - X v = m) ⟨t, ht, hm.symm⟩
  -- what the lower half says at a stand of the set
  have at_ : ∀ v, v < W.n → Y v - X v = m → W.mv v = true ∧ Y v ≤ W.pr (sub1 (ge r (lst c r v)) Y) v := fun v hv e => by
    have hb := h v hv
    unfold blw at hb
    cases hmv : W.mv v with
    | false =>
      rw [hmv, if_neg (by simp)] at hb
      have h2 := of_decide_eq_true (Bool.and_eq_true_iff.mp hb).2
      have := f.rnd.ends v hv hmv
      omega
    | true =>
      rw [hmv, if_pos rfl] at hb
      have x0 := f.nn v hv
      by_cases q : Y v = 0 ∨ r v = 0
      · rw [if_pos q] at hb
        have := of_decide_eq_true hb
        omega
      · rw [if_neg q] at hb
        exact ⟨rfl, of_decide_eq_true hb⟩
  -- the stands of the set with the least count
  have fr : ∀ v, v < W.n → Y v - X v = m → r v = r u → c v = false := fun v hv e er => by
    cases hc : c v with
    | false => rfl
    | true =>
      obtain ⟨hmv, le⟩ := at_ v hv e
      rw [show lst c r v = r u by unfold lst; rw [if_pos hc, er]] at le
      have h4 := pr_le_add o (X := sub1 (ge r (r u)) Y) (Y := X) (m - 1) hv hmv fun w hw => by
        have l := mt w hw trivial
        by_cases e2 : Y w - X w = m
        · have := mn w hw e2
          rw [show sub1 (ge r (r u)) Y w = Y w - 1 from if_pos (decide_eq_true (by omega))]
          omega
        · have := sub1_le (X := Y) (ge r (r u)) w
          omega
      have := f.rnd.calls v hv hmv hc
      omega
  obtain ⟨B, hB⟩ : ∃ B : Nat → Bool, B = fun w => decide (Y w - X w = m) && decide (r w = r u) := ⟨_, rfl⟩
  have Biff : ∀ w, B w = true ↔ (Y w - X w = m ∧ r w = r u) := fun w => by rw [hB]; simp
  have a : Adm W c K (fun _ => K) X (add1 B X) := by
    refine ⟨fun w hw hmv => ?_, fun w hw hmv hc => ?_, fun w hw hmv hc => ?_, fun w hw hmv hc => ?_⟩
    · have : ¬ B w = true := fun z => by
        have := (at_ w hw ((Biff w).mp z).1).1
        rw [hmv] at this
        cases this
      rw [show add1 B X w = X w from if_neg this]
      exact Int.le_of_eq (f.rnd.ends w hw hmv)
    · have : ¬ B w = true := fun z => by
        have := fr w hw ((Biff w).mp z).1 ((Biff w).mp z).2
        rw [hc] at this
        cases this
      rw [show add1 B X w = X w from if_neg this]
      exact Int.le_of_eq (f.rnd.calls w hw hmv hc)
    · by_cases z : B w = true
      · rw [show add1 B X w = X w + 1 from if_pos z]
        have := ((Biff w).mp z).1
        have := hK w hw
        omega
      · rw [show add1 B X w = X w from if_neg z]
        exact f.le w hw
    · by_cases z : B w = true
      · rw [show add1 B X w = X w + 1 from if_pos z]
        obtain ⟨z1, z2⟩ := (Biff w).mp z
        have le := (at_ w hw z1).2
        rw [show lst c r w = r u + 1 by unfold lst; rw [if_neg (by rw [hc]; simp), z2]] at le
        have h4 := pr_le_add o (X := sub1 (ge r (r u + 1)) Y) (Y := add1 B X) (m - 1) hw hmv fun x hx => by
          have l := mt x hx trivial
          by_cases e2 : Y x - X x = m
          · have mm := mn x hx e2
            by_cases e3 : r x = r u
            · rw [show add1 B X x = X x + 1 from if_pos ((Biff x).mpr ⟨e2, e3⟩)]
              have := sub1_le (X := Y) (ge r (r u + 1)) x
              omega
            · rw [show sub1 (ge r (r u + 1)) Y x = Y x - 1 from if_pos (decide_eq_true (by omega))]
              have := add1_ge (X := X) B x
              omega
          · have := sub1_le (X := Y) (ge r (r u + 1)) x
            have := add1_ge (X := X) B x
            omega
        omega
      · rw [show add1 B X w = X w from if_neg z]
        exact Int.le_trans (f.rnd.adm.free w hw hmv hc) (pr_mono o hw fun x _ => add1_ge B x)
  have := f.rnd.great _ a u hu
  rw [show add1 B X u = X u + 1 from if_pos ((Biff u).mpr ⟨su, rfl⟩)] at this
  omega
/-- a row of which both halves find nothing is the row for ever -/
theorem meet (o : W.Ok) {Y r1 r2 : Nat → Int} (f : IsFev W c K X) (h0 : ∀ v, v < W.n → 0 ≤ Y v) (hK : ∀ v, v < W.n → Y v ≤ K) (h1 : ∀ v, v < W.n → abv W c K Y r1 v = true) (h2 : ∀ v, v < W.n → blw W c K Y r2 v = true) : ∀ v, v < W.n → Y v = X v := fun v hv =>
  Int.le_antisymm (lower_half o f hK h2 v hv) (f.least Y h0 (upper_half o hK h1) v hv)
end
end Pw
end
/-! ### PwHead -/
section
set_option Elab.async false
set_option linter.all false
set_option maxRecDepth 100000
set_option maxHeartbeats 0
namespace PwH
open PySem PySem.Spec PyProof.Rows L2
def top (i : Nat) : Stmt := PySem.Challenge.pw_pursewebs_k71_whole_both_halves_meet.main.body.getD i (.Pass ⟨0, 0, 0, 0⟩)
abbrev s_is_integer : Stmt := (top 8)
abbrev s_need_integer : Stmt := (top 9)
abbrev s_need_list : Stmt := (top 10)
abbrev s_need_from : Stmt := (top 11)
abbrev s_need_between : Stmt := (top 12)
abbrev s_need_up_to : Stmt := (top 13)
abbrev s_need_integers : Stmt := (top 14)
abbrev s_as_stands : Stmt := (top 15)
abbrev s_has_due_kind : Stmt := (top 18)
abbrev s_has_due_range : Stmt := (top 19)
abbrev s_kept_due : Stmt := (top 20)
abbrev s_due_at : Stmt := (top 21)
abbrev s_due_row : Stmt := (top 22)
abbrev s_half_of : Stmt := (top 24)
abbrev s__look_kinds : Stmt := (top 27)
abbrev s__look_stand : Stmt := (top 28)
abbrev s__look_web : Stmt := (top 29)
abbrev s_Web_init : Stmt := (inClass (top 30) 1)
abbrev s_Web_size : Stmt := (inClass (top 30) 5)
abbrev s_Web_first : Stmt := (inClass (top 30) 6)
abbrev s_Web_second : Stmt := (inClass (top 30) 7)
abbrev s_Web_marks : Stmt := (inClass (top 30) 8)
abbrev s_Web_dues : Stmt := (inClass (top 30) 9)
abbrev s_Web_moving : Stmt := (inClass (top 30) 11)
abbrev s_Web_eq : Stmt := (inClass (top 30) 14)
abbrev s_Web_invert : Stmt := (inClass (top 30) 15)
abbrev s_need_web : Stmt := (top 31)
abbrev s_need_moving : Stmt := (top 32)
abbrev s_need_row : Stmt := (top 35)
abbrev s_price_low : Stmt := (top 36)
abbrev s_price_high : Stmt := (top 37)
abbrev s_price_at : Stmt := (top 38)
abbrev s_call_kinds : Stmt := (top 41)
abbrev s_call_set : Stmt := (top 42)
abbrev s_call_bounds : Stmt := (top 43)
abbrev s_round_under : Stmt := (top 44)
abbrev s_round_of : Stmt := (top 45)
abbrev s_call_fall_out : Stmt := (top 47)
abbrev s_call_count_out : Stmt := (top 48)
abbrev s_forever_rising : Stmt := (top 50)
abbrev s_forever_risen : Stmt := (top 51)
abbrev s_forever_by_rises : Stmt := (top 52)
abbrev s_Verdict_init : Stmt := (inClass (top 54) 1)
abbrev s_Verdict_faults : Stmt := (inClass (top 54) 2)
abbrev s_Verdict_bool : Stmt := (inClass (top 54) 3)
abbrev s_Verdict_iter : Stmt := (inClass (top 54) 4)
abbrev s_Verdict_eq : Stmt := (inClass (top 54) 5)
abbrev s_raised_row : Stmt := (top 56)
abbrev s_need_ranks : Stmt := (top 57)
abbrev s_lessened_row : Stmt := (top 59)
abbrev s_call_above : Stmt := (top 60)
abbrev s_call_below : Stmt := (top 61)
abbrev s_call_above_at : Stmt := (top 62)
abbrev s_call_below_at : Stmt := (top 63)
abbrev s_call_half_look : Stmt := (top 64)
abbrev s_half_above : Stmt := (top 65)
abbrev s_half_below : Stmt := (top 66)
abbrev s_CallPaper_init : Stmt := (inClass (top 67) 1)
abbrev s_CallPaper_of : Stmt := (inClass (top 67) 2)
abbrev s_CallPaper_web : Stmt := (inClass (top 67) 3)
abbrev s_CallPaper_chips : Stmt := (inClass (top 67) 4)
abbrev s_CallPaper_calls : Stmt := (inClass (top 67) 5)
abbrev s_CallPaper_row : Stmt := (inClass (top 67) 6)
abbrev s_CallPaper_ranks : Stmt := (inClass (top 67) 7)
abbrev s_CallPaper_counts : Stmt := (inClass (top 67) 8)
abbrev s_CallPaper_eq : Stmt := (inClass (top 67) 9)
abbrev s_CallPaper_judged : Stmt := (inClass (top 67) 10)
abbrev s__law_pot : Stmt := (top 69)
abbrev s__law_draw : Stmt := (top 70)
abbrev s__law_whole : Stmt := (top 71)
abbrev s__law_is_row : Stmt := (top 72)
abbrev s__law_lot : Stmt := (top 73)
abbrev s__law_due : Stmt := (top 74)
abbrev s__law_marks : Stmt := (top 75)
abbrev s__law_path : Stmt := (top 76)
abbrev s__law_web : Stmt := (top 77)
abbrev s__law_due_at : Stmt := (top 78)
abbrev s__law_half : Stmt := (top 79)
abbrev s__law_low : Stmt := (top 80)
abbrev s__law_high : Stmt := (top 81)
abbrev s__law_price : Stmt := (top 82)
abbrev s__law_calls : Stmt := (top 83)
abbrev s__law_round : Stmt := (top 84)
abbrev s__law_forever : Stmt := (top 85)
abbrev s__law_built : Stmt := (top 86)
abbrev s__law_above : Stmt := (top 87)
abbrev s__law_below : Stmt := (top 88)
abbrev s__law_call_ranks : Stmt := (top 89)
abbrev s__law_call_counts : Stmt := (top 90)
abbrev s__law_parts : Stmt := (top 91)
abbrev s__law_judged : Stmt := (top 92)
abbrev s__law_code : Stmt := (top 93)
abbrev s__law_alike : Stmt := (top 94)
abbrev s__law_refusals : Stmt := (top 95)
abbrev s_law : Stmt := (top 96)
/-- a property's getter, a classmethod's def -/
def gg (K : PySem.W.Frag) (p : Addr) : Addr := match PySem.W.recIn K p "property" with
  | some (.ref g :: _) => g
  | _ => 0
def gc (K : PySem.W.Frag) (p : Addr) : Addr := match PySem.W.recIn K p "classmethod" with
  | some (.ref g :: _) => g
  | _ => 0
/-- one def: where it stands -/
structure DefX where
  at_ : PySem.W.Frag → Addr
  name : Str
  qual : Str
  st : Stmt
  dfl : List He.Dv := []
def fnX (K : PySem.W.Frag) (a : Addr) : He.FnW := match K.lookup a with
  | some ⟨_, _, .func fd, _⟩ => some (fd.name, fd.qualname, fd.params, fd.body, fd.scope, fd.globals, fd.closure, fd.builtins)
  | _ => none
def DefX.val (d : DefX) : He.FnW := some (d.name, d.qual, defArgs d.st, .stmts (defBody d.st), defScope d.st, mainGlobals, [], builtinsNs)
def DefX.dvs (K : PySem.W.Frag) (d : DefX) : List V := d.dfl.map (He.Dv.v K)
def DefX.ok (K : PySem.W.Frag) (d : DefX) : Bool := PySem.W.keepIn K (.ref (d.at_ K)) && (match K.lookup (d.at_ K) with
  | some ⟨_, _, .func fd, _⟩ => PySem.W.codeIn K fd.code d.qual && He.dflB K fd.defaults (d.dvs K)
  | _ => false)
/-- the def stands at f -/
abbrev Fn (K : PySem.W.Frag) (x qual : Str) (st : Stmt) (dvs : List V) (f : Addr) (fd : FuncData) : Prop := FunD K x qual (defArgs st) (defBody st) (defScope st) dvs [] f fd
theorem DefX.funD {K : PySem.W.Frag} {d : DefX} (e : fnX K (d.at_ K) = d.val) (c : d.ok K = true) : ∃ fd, Fn K d.name d.qual d.st (d.dvs K) (d.at_ K) fd := by
  obtain ⟨kp, c2⟩ := He.ba c
  unfold fnX at e
  cases q : K.lookup (d.at_ K) with
  | none =>
    rw [q] at c2
    cases c2
  | some o =>
    obtain ⟨oc, od, dt, osl⟩ := o
    rw [q] at c2 e
    cases dt with
    | func fd =>
      obtain ⟨n1, n2, n3, n4, n5, n6, n7, n8, n9, n10, n11, n12, n13, n14, n15⟩ := fd
      have e2 : (some (n1, n2, n3, n4, n5, n6, n7, n15) : He.FnW) = some (d.name, d.qual, defArgs d.st, .stmts (defBody d.st), defScope d.st, mainGlobals, [], builtinsNs) := e
      simp only [Option.some.injEq, Prod.mk.injEq] at e2
      obtain ⟨h1, h2, h3, h4, h5, h6, h7, h8⟩ := e2
      subst h1 h2 h3 h4 h5 h6 h7 h8
      have c3 : (PySem.W.codeIn K n13 d.qual && He.dflB K n8 (d.dvs K)) = true := c2
      obtain ⟨k1, k2⟩ := He.ba c3
      exact ⟨_, ⟨oc, od, n8, n9, n10, n11, n12, n13, n14, osl, rfl, q, k1, He.dflB_ok k2, .inl rfl⟩, kp⟩
    | _ => cases c2

def as0 : List Addr := [3, 31, 44, 56, 68, 80, 332, 487, 643, 6, 0, 30, 43, 55, 67, 79, 331, 486, 642, 220, 231, 242, 575, 222, 233, 244, 577, 2, 4, 21]
def as1 : List Addr := [89, 96, 103, 110, 117, 124, 131, 138, 145, 152, 159, 166, 171, 178, 185, 192, 199, 348, 355, 361, 366, 371, 378, 385, 392, 400, 405, 412, 417, 422]
def as2 : List Addr := [427, 432, 439, 495, 502, 507, 514, 521, 526, 531, 538, 545, 552, 658, 665, 672, 679, 686, 693, 698, 705, 710, 717, 724, 729, 734, 741, 746, 751, 756]
def as3 : List Addr := [761, 766, 771, 776, 781, 788, 793, 800, 805, 810, 815, 20, 88, 95, 102, 109, 116, 123, 130, 137, 144, 151, 158, 165, 170, 177, 184, 191, 198, 347]
def as4 : List Addr := [354, 360, 365, 370, 377, 384, 391, 399, 404, 411, 416, 421, 426, 431, 438, 494, 501, 506, 513, 520, 525, 530, 537, 544, 551, 657, 664, 671, 678, 685]
def as5 : List Addr := [692, 697, 704, 709, 716, 723, 728, 733, 740, 745, 750, 755, 760, 765, 770, 775, 780, 787, 792, 799, 804, 809, 814, 16, 19, 32, 84, 87, 91, 94]
def as6 : List Addr := [98, 101, 105, 108, 112, 115, 119, 122, 126, 129, 133, 136, 140, 143, 147, 150, 154, 157, 161, 164, 168, 169, 173, 176, 180, 183, 187, 190, 194, 197]
def as7 : List Addr := [212, 221, 232, 243, 252, 260, 268, 276, 284, 292, 300, 308, 316, 323, 328, 333, 334, 335, 336, 337, 338, 339, 343, 346, 350, 353, 358, 359, 363, 364]
def as8 : List Addr := [368, 369, 373, 376, 380, 383, 387, 390, 395, 398, 402, 403, 407, 410, 414, 415, 419, 420, 424, 425, 429, 430, 434, 437, 454, 462, 469, 476, 483, 488]
def as9 : List Addr := [492, 493, 497, 500, 504, 505, 509, 512, 516, 519, 523, 524, 528, 529, 533, 536, 540, 543, 547, 550, 567, 576, 585, 593, 601, 609, 617, 625, 632, 639]
def as10 : List Addr := [644, 645, 646, 647, 648, 649, 653, 656, 660, 663, 667, 670, 674, 677, 681, 684, 688, 691, 695, 696, 700, 703, 707, 708, 712, 715, 719, 722, 726, 727]
def as11 : List Addr := [731, 732, 736, 739, 743, 744, 748, 749, 753, 754, 758, 759, 763, 764, 768, 769, 773, 774, 778, 779, 783, 786, 790, 791, 795, 798, 802, 803, 807, 808]
def as12 : List Addr := [812, 813, 211, 219, 230, 241, 251, 259, 267, 275, 283, 291, 299, 307, 315, 322, 327, 453, 461, 468, 475, 482, 566, 574, 584, 592, 600, 608, 616, 624]
def as13 : List Addr := [631, 638, 209, 210, 218, 229, 240, 250, 258, 266, 274, 282, 290, 298, 306, 314, 318, 321, 325, 326, 449, 452, 460, 464, 467, 471, 474, 478, 481, 562]
def as14 : List Addr := [565, 573, 583, 591, 599, 607, 615, 623, 627, 630, 634, 637, 356, 393, 15, 17, 18, 29, 42, 54, 66, 78, 83, 85, 86, 90, 92, 93, 97, 99]
def as15 : List Addr := [100, 104, 106, 107, 111, 113, 114, 118, 120, 121, 125, 127, 128, 132, 134, 135, 139, 141, 142, 146, 148, 149, 153, 155, 156, 160, 162, 163, 167, 172]
def as16 : List Addr := [174, 175, 179, 181, 182, 186, 188, 189, 193, 195, 196, 207, 329, 342, 344, 345, 349, 351, 352, 357, 362, 367, 372, 374, 375, 379, 381, 382, 386, 388]
def as17 : List Addr := [389, 394, 396, 397, 401, 406, 408, 409, 413, 418, 423, 428, 433, 435, 436, 447, 484, 491, 496, 498, 499, 503, 508, 510, 511, 515, 517, 518, 522, 527]
def as18 : List Addr := [532, 534, 535, 539, 541, 542, 546, 548, 549, 560, 640, 652, 654, 655, 659, 661, 662, 666, 668, 669, 673, 675, 676, 680, 682, 683, 687, 689, 690, 694]
def as19 : List Addr := [699, 701, 702, 706, 711, 713, 714, 718, 720, 721, 725, 730, 735, 737, 738, 742, 747, 752, 757, 762, 767, 772, 777, 782, 784, 785, 789, 794, 796, 797]
def as20 : List Addr := [801, 806, 811, 208, 223, 234, 317, 319, 320, 324, 448, 450, 451, 463, 465, 466, 470, 472, 473, 477, 479, 480, 561, 563, 564, 626, 628, 629, 633, 635]
def as21 : List Addr := [636]
def asL : List Addr := as0 ++ as1 ++ as2 ++ as3 ++ as4 ++ as5 ++ as6 ++ as7 ++ as8 ++ as9 ++ as10 ++ as11 ++ as12 ++ as13 ++ as14 ++ as15 ++ as16 ++ as17 ++ as18 ++ as19 ++ as20 ++ as21
/-! ### the Hook -/
abbrev AlP : Type := Bool × List He.FnW
def obsP (ex : PySem.W.Frag → Bool) (fn : List DefX) (K : PySem.W.Frag) : AlP := (ex K && fn.all fun d => d.ok K, fn.map fun d => fnX K (d.at_ K))
def valP (fn : List DefX) : AlP := (true, fn.map DefX.val)
def SaysP (ex : PySem.W.Frag → Bool) (fn : List DefX) (K : PySem.W.Frag) : Prop := obsP ex fn K = valP fn
def obsPG (n : Nat) (ex : PySem.W.Frag → Bool) (fn : List DefX) (g : Addr → Option Obj) : AlP := obsP ex fn (He.frG g asL)
def hookP (n : Nat) (ex : PySem.W.Frag → Bool) (fn : List DefX) : PySem.W.Hook where
  α := AlP
  obs := fun s => obsPG n ex fn s.heap.get?
  val := fun _ => valP fn
  says := fun _ h => ∃ K : PySem.W.Frag, K.In h ∧ SaysP ex fn K
  of := fun _ _ e => ⟨_, He.frG_in, e⟩
  keeps := fun _ _ _ ⟨K, hK, c⟩ k => ⟨K, PySem.W.Frag.In.keeps hK k, c⟩
theorem obsPG_eq {n : Nat} {ex : PySem.W.Frag → Bool} {fn : List DefX} {g : Addr → Option Obj} {s : Shared} (h : ∀ a, g a = s.heap.get? a) : obsPG n ex fn g = (hookP n ex fn).obs s := by
  have e : g = s.heap.get? := funext h
  rw [e] <;> rfl
section
variable {ex : PySem.W.Frag → Bool} {fn : List DefX} {K : PySem.W.Frag}
theorem SaysP.exs (c : SaysP ex fn K) : ex K = true := (He.ba (show (ex K && fn.all fun d => d.ok K) = true from congrArg (fun z : AlP => z.1) c)).1
theorem SaysP.def_ (c : SaysP ex fn K) (i : Nat) {d : DefX} (h : fn[i]? = some d) : ∃ fd, Fn K d.name d.qual d.st (d.dvs K) (d.at_ K) fd := by
  have c2 := (He.ba (show (ex K && fn.all fun d => d.ok K) = true from congrArg (fun z : AlP => z.1) c)).2
  have e : fn.map (fun d => fnX K (d.at_ K)) = fn.map DefX.val := congrArg (fun z : AlP => z.2) c
  have e2 : (fn.map fun d => fnX K (d.at_ K))[i]? = (fn.map DefX.val)[i]? := by rw [e]
  rw [List.getElem?_map, List.getElem?_map, h] at e2
  exact DefX.funD (Option.some.inj e2) (List.all_eq_true.mp c2 d (List.mem_of_getElem? h))
end
def d_is_integer : DefX := ⟨(fun K => He.ga K "is_integer"), "is_integer", "is_integer", s_is_integer, []⟩
def d_need_integer : DefX := ⟨(fun K => He.ga K "need_integer"), "need_integer", "need_integer", s_need_integer, []⟩
def d_need_list : DefX := ⟨(fun K => He.ga K "need_list"), "need_list", "need_list", s_need_list, []⟩
def d_need_from : DefX := ⟨(fun K => He.ga K "need_from"), "need_from", "need_from", s_need_from, []⟩
def d_need_between : DefX := ⟨(fun K => He.ga K "need_between"), "need_between", "need_between", s_need_between, []⟩
def d_need_up_to : DefX := ⟨(fun K => He.ga K "need_up_to"), "need_up_to", "need_up_to", s_need_up_to, []⟩
def d_need_integers : DefX := ⟨(fun K => He.ga K "need_integers"), "need_integers", "need_integers", s_need_integers, []⟩
def d_as_stands : DefX := ⟨(fun K => He.ga K "as_stands"), "as_stands", "as_stands", s_as_stands, []⟩
def d_has_due_kind : DefX := ⟨(fun K => He.ga K "has_due_kind"), "has_due_kind", "has_due_kind", s_has_due_kind, []⟩
def d_has_due_range : DefX := ⟨(fun K => He.ga K "has_due_range"), "has_due_range", "has_due_range", s_has_due_range, []⟩
def d_kept_due : DefX := ⟨(fun K => He.ga K "kept_due"), "kept_due", "kept_due", s_kept_due, []⟩
def d_due_at : DefX := ⟨(fun K => He.ga K "due_at"), "due_at", "due_at", s_due_at, []⟩
def d_due_row : DefX := ⟨(fun K => He.ga K "due_row"), "due_row", "due_row", s_due_row, []⟩
def d_half_of : DefX := ⟨(fun K => He.ga K "half_of"), "half_of", "half_of", s_half_of, []⟩
def d__look_kinds : DefX := ⟨(fun K => He.ga K "_look_kinds"), "_look_kinds", "_look_kinds", s__look_kinds, []⟩
def d__look_stand : DefX := ⟨(fun K => He.ga K "_look_stand"), "_look_stand", "_look_stand", s__look_stand, []⟩
def d__look_web : DefX := ⟨(fun K => He.ga K "_look_web"), "_look_web", "_look_web", s__look_web, []⟩
def d_Web_init : DefX := ⟨(fun K => He.ma K (He.ga K "Web") "__init__"), "__init__", "Web.__init__", s_Web_init, []⟩
def d_Web_size : DefX := ⟨(fun K => gg K (He.ma K (He.ga K "Web") "size")), "size", "Web.size", s_Web_size, []⟩
def d_Web_first : DefX := ⟨(fun K => gg K (He.ma K (He.ga K "Web") "first")), "first", "Web.first", s_Web_first, []⟩
def d_Web_second : DefX := ⟨(fun K => gg K (He.ma K (He.ga K "Web") "second")), "second", "Web.second", s_Web_second, []⟩
def d_Web_marks : DefX := ⟨(fun K => gg K (He.ma K (He.ga K "Web") "marks")), "marks", "Web.marks", s_Web_marks, []⟩
def d_Web_dues : DefX := ⟨(fun K => gg K (He.ma K (He.ga K "Web") "dues")), "dues", "Web.dues", s_Web_dues, []⟩
def d_Web_moving : DefX := ⟨(fun K => gg K (He.ma K (He.ga K "Web") "moving")), "moving", "Web.moving", s_Web_moving, []⟩
def d_Web_eq : DefX := ⟨(fun K => He.ma K (He.ga K "Web") "__eq__"), "__eq__", "Web.__eq__", s_Web_eq, []⟩
def d_Web_invert : DefX := ⟨(fun K => He.ma K (He.ga K "Web") "__invert__"), "__invert__", "Web.__invert__", s_Web_invert, []⟩
def d_need_web : DefX := ⟨(fun K => He.ga K "need_web"), "need_web", "need_web", s_need_web, []⟩
def d_need_moving : DefX := ⟨(fun K => He.ga K "need_moving"), "need_moving", "need_moving", s_need_moving, []⟩
def d_need_row : DefX := ⟨(fun K => He.ga K "need_row"), "need_row", "need_row", s_need_row, [.non]⟩
def d_price_low : DefX := ⟨(fun K => He.ga K "price_low"), "price_low", "price_low", s_price_low, []⟩
def d_price_high : DefX := ⟨(fun K => He.ga K "price_high"), "price_high", "price_high", s_price_high, []⟩
def d_price_at : DefX := ⟨(fun K => He.ga K "price_at"), "price_at", "price_at", s_price_at, []⟩
def d_call_kinds : DefX := ⟨(fun K => He.ga K "call_kinds"), "call_kinds", "call_kinds", s_call_kinds, []⟩
def d_call_set : DefX := ⟨(fun K => He.ga K "call_set"), "call_set", "call_set", s_call_set, []⟩
def d_call_bounds : DefX := ⟨(fun K => He.ga K "call_bounds"), "call_bounds", "call_bounds", s_call_bounds, [.int 60]⟩
def d_round_under : DefX := ⟨(fun K => He.ga K "round_under"), "round_under", "round_under", s_round_under, []⟩
def d_round_of : DefX := ⟨(fun K => He.ga K "round_of"), "round_of", "round_of", s_round_of, []⟩
def d_call_fall_out : DefX := ⟨(fun K => He.ga K "call_fall_out"), "call_fall_out", "call_fall_out", s_call_fall_out, []⟩
def d_call_count_out : DefX := ⟨(fun K => He.ga K "call_count_out"), "call_count_out", "call_count_out", s_call_count_out, []⟩
def d_forever_rising : DefX := ⟨(fun K => He.ga K "forever_rising"), "forever_rising", "forever_rising", s_forever_rising, []⟩
def d_forever_risen : DefX := ⟨(fun K => He.ga K "forever_risen"), "forever_risen", "forever_risen", s_forever_risen, []⟩
def d_forever_by_rises : DefX := ⟨(fun K => He.ga K "forever_by_rises"), "forever_by_rises", "forever_by_rises", s_forever_by_rises, []⟩
def d_Verdict_init : DefX := ⟨(fun K => He.ma K (He.ga K "Verdict") "__init__"), "__init__", "Verdict.__init__", s_Verdict_init, []⟩
def d_Verdict_faults : DefX := ⟨(fun K => gg K (He.ma K (He.ga K "Verdict") "faults")), "faults", "Verdict.faults", s_Verdict_faults, []⟩
def d_Verdict_bool : DefX := ⟨(fun K => He.ma K (He.ga K "Verdict") "__bool__"), "__bool__", "Verdict.__bool__", s_Verdict_bool, []⟩
def d_Verdict_iter : DefX := ⟨(fun K => He.ma K (He.ga K "Verdict") "__iter__"), "__iter__", "Verdict.__iter__", s_Verdict_iter, []⟩
def d_Verdict_eq : DefX := ⟨(fun K => He.ma K (He.ga K "Verdict") "__eq__"), "__eq__", "Verdict.__eq__", s_Verdict_eq, []⟩
def d_raised_row : DefX := ⟨(fun K => He.ga K "raised_row"), "raised_row", "raised_row", s_raised_row, []⟩
def d_need_ranks : DefX := ⟨(fun K => He.ga K "need_ranks"), "need_ranks", "need_ranks", s_need_ranks, []⟩
def d_lessened_row : DefX := ⟨(fun K => He.ga K "lessened_row"), "lessened_row", "lessened_row", s_lessened_row, []⟩
def d_call_above : DefX := ⟨(fun K => He.ga K "call_above"), "call_above", "call_above", s_call_above, []⟩
def d_call_below : DefX := ⟨(fun K => He.ga K "call_below"), "call_below", "call_below", s_call_below, []⟩
def d_call_above_at : DefX := ⟨(fun K => He.ga K "call_above_at"), "call_above_at", "call_above_at", s_call_above_at, []⟩
def d_call_below_at : DefX := ⟨(fun K => He.ga K "call_below_at"), "call_below_at", "call_below_at", s_call_below_at, []⟩
def d_call_half_look : DefX := ⟨(fun K => He.ga K "call_half_look"), "call_half_look", "call_half_look", s_call_half_look, []⟩
def d_half_above : DefX := ⟨(fun K => He.ga K "half_above"), "half_above", "half_above", s_half_above, []⟩
def d_half_below : DefX := ⟨(fun K => He.ga K "half_below"), "half_below", "half_below", s_half_below, []⟩
def d_CallPaper_init : DefX := ⟨(fun K => He.ma K (He.ga K "CallPaper") "__init__"), "__init__", "CallPaper.__init__", s_CallPaper_init, []⟩
def d_CallPaper_of : DefX := ⟨(fun K => gc K (He.ma K (He.ga K "CallPaper") "of")), "of", "CallPaper.of", s_CallPaper_of, []⟩
def d_CallPaper_web : DefX := ⟨(fun K => gg K (He.ma K (He.ga K "CallPaper") "web")), "web", "CallPaper.web", s_CallPaper_web, []⟩
def d_CallPaper_chips : DefX := ⟨(fun K => gg K (He.ma K (He.ga K "CallPaper") "chips")), "chips", "CallPaper.chips", s_CallPaper_chips, []⟩
def d_CallPaper_calls : DefX := ⟨(fun K => gg K (He.ma K (He.ga K "CallPaper") "calls")), "calls", "CallPaper.calls", s_CallPaper_calls, []⟩
def d_CallPaper_row : DefX := ⟨(fun K => gg K (He.ma K (He.ga K "CallPaper") "row")), "row", "CallPaper.row", s_CallPaper_row, []⟩
def d_CallPaper_ranks : DefX := ⟨(fun K => gg K (He.ma K (He.ga K "CallPaper") "ranks")), "ranks", "CallPaper.ranks", s_CallPaper_ranks, []⟩
def d_CallPaper_counts : DefX := ⟨(fun K => gg K (He.ma K (He.ga K "CallPaper") "counts")), "counts", "CallPaper.counts", s_CallPaper_counts, []⟩
def d_CallPaper_eq : DefX := ⟨(fun K => He.ma K (He.ga K "CallPaper") "__eq__"), "__eq__", "CallPaper.__eq__", s_CallPaper_eq, []⟩
def d_CallPaper_judged : DefX := ⟨(fun K => He.ma K (He.ga K "CallPaper") "judged"), "judged", "CallPaper.judged", s_CallPaper_judged, []⟩
def d__law_pot : DefX := ⟨(fun K => He.ga K "_law_pot"), "_law_pot", "_law_pot", s__law_pot, []⟩
def d__law_draw : DefX := ⟨(fun K => He.ga K "_law_draw"), "_law_draw", "_law_draw", s__law_draw, []⟩
def d__law_whole : DefX := ⟨(fun K => He.ga K "_law_whole"), "_law_whole", "_law_whole", s__law_whole, []⟩
def d__law_is_row : DefX := ⟨(fun K => He.ga K "_law_is_row"), "_law_is_row", "_law_is_row", s__law_is_row, []⟩
def d__law_lot : DefX := ⟨(fun K => He.ga K "_law_lot"), "_law_lot", "_law_lot", s__law_lot, []⟩
def d__law_due : DefX := ⟨(fun K => He.ga K "_law_due"), "_law_due", "_law_due", s__law_due, []⟩
def d__law_marks : DefX := ⟨(fun K => He.ga K "_law_marks"), "_law_marks", "_law_marks", s__law_marks, []⟩
def d__law_path : DefX := ⟨(fun K => He.ga K "_law_path"), "_law_path", "_law_path", s__law_path, []⟩
def d__law_web : DefX := ⟨(fun K => He.ga K "_law_web"), "_law_web", "_law_web", s__law_web, []⟩
def d__law_due_at : DefX := ⟨(fun K => He.ga K "_law_due_at"), "_law_due_at", "_law_due_at", s__law_due_at, []⟩
def d__law_half : DefX := ⟨(fun K => He.ga K "_law_half"), "_law_half", "_law_half", s__law_half, []⟩
def d__law_low : DefX := ⟨(fun K => He.ga K "_law_low"), "_law_low", "_law_low", s__law_low, []⟩
def d__law_high : DefX := ⟨(fun K => He.ga K "_law_high"), "_law_high", "_law_high", s__law_high, []⟩
def d__law_price : DefX := ⟨(fun K => He.ga K "_law_price"), "_law_price", "_law_price", s__law_price, []⟩
def d__law_calls : DefX := ⟨(fun K => He.ga K "_law_calls"), "_law_calls", "_law_calls", s__law_calls, []⟩
def d__law_round : DefX := ⟨(fun K => He.ga K "_law_round"), "_law_round", "_law_round", s__law_round, []⟩
def d__law_forever : DefX := ⟨(fun K => He.ga K "_law_forever"), "_law_forever", "_law_forever", s__law_forever, []⟩
def d__law_built : DefX := ⟨(fun K => He.ga K "_law_built"), "_law_built", "_law_built", s__law_built, []⟩
def d__law_above : DefX := ⟨(fun K => He.ga K "_law_above"), "_law_above", "_law_above", s__law_above, []⟩
def d__law_below : DefX := ⟨(fun K => He.ga K "_law_below"), "_law_below", "_law_below", s__law_below, []⟩
def d__law_call_ranks : DefX := ⟨(fun K => He.ga K "_law_call_ranks"), "_law_call_ranks", "_law_call_ranks", s__law_call_ranks, []⟩
def d__law_call_counts : DefX := ⟨(fun K => He.ga K "_law_call_counts"), "_law_call_counts", "_law_call_counts", s__law_call_counts, []⟩
def d__law_parts : DefX := ⟨(fun K => He.ga K "_law_parts"), "_law_parts", "_law_parts", s__law_parts, []⟩
def d__law_judged : DefX := ⟨(fun K => He.ga K "_law_judged"), "_law_judged", "_law_judged", s__law_judged, []⟩
def d__law_code : DefX := ⟨(fun K => He.ga K "_law_code"), "_law_code", "_law_code", s__law_code, []⟩
def d__law_alike : DefX := ⟨(fun K => He.ga K "_law_alike"), "_law_alike", "_law_alike", s__law_alike, []⟩
def d__law_refusals : DefX := ⟨(fun K => He.ga K "_law_refusals"), "_law_refusals", "_law_refusals", s__law_refusals, []⟩
def d_law : DefX := ⟨(fun K => He.ga K "law"), "law", "law", s_law, []⟩
def fns0 : List DefX := [d_is_integer, d_need_integer, d_need_list, d_need_from, d_need_between, d_need_up_to, d_need_integers, d_as_stands, d_has_due_kind, d_has_due_range, d_kept_due, d_due_at, d_due_row, d_half_of, d__look_kinds, d__look_stand, d__look_web, d_Web_init, d_Web_size, d_Web_first, d_Web_second, d_Web_marks, d_Web_dues, d_Web_moving, d_Web_eq, d_Web_invert, d_need_web, d_need_moving, d_need_row, d_price_low]
def fns1 : List DefX := [d_price_high, d_price_at, d_call_kinds, d_call_set, d_call_bounds, d_round_under, d_round_of, d_call_fall_out, d_call_count_out, d_forever_rising, d_forever_risen, d_forever_by_rises, d_Verdict_init, d_Verdict_faults, d_Verdict_bool, d_Verdict_iter, d_Verdict_eq, d_raised_row, d_need_ranks, d_lessened_row, d_call_above, d_call_below, d_call_above_at, d_call_below_at, d_call_half_look, d_half_above, d_half_below, d_CallPaper_init, d_CallPaper_of, d_CallPaper_web]
def fns2 : List DefX := [d_CallPaper_chips, d_CallPaper_calls, d_CallPaper_row, d_CallPaper_ranks, d_CallPaper_counts, d_CallPaper_eq, d_CallPaper_judged, d__law_pot, d__law_draw, d__law_whole, d__law_is_row, d__law_lot, d__law_due, d__law_marks, d__law_path, d__law_web, d__law_due_at, d__law_half, d__law_low, d__law_high, d__law_price, d__law_calls, d__law_round, d__law_forever, d__law_built, d__law_above, d__law_below, d__law_call_ranks, d__law_call_counts, d__law_parts]
def fns3 : List DefX := [d__law_judged, d__law_code, d__law_alike, d__law_refusals, d_law]
def fns : List DefX := fns0 ++ fns1 ++ fns2 ++ fns3
/-! ### facts -/
def dB (p : Prop) [Decidable p] : Bool := decide p
/-- a class with slots -/
def sclsB (K : PySem.W.Frag) (C : Addr) : Bool := PySem.W.plainGet K C Str.empty && (PySem.W.isClsIn K C && (PySem.W.plainOver K C && He.eqO (PySem.W.findIn K (.ref C) "__setattr__") (some (some (.builtin "object.__setattr__")))))
def slotB (K : PySem.W.Frag) (C : Addr) (f : Str) (i : Nat) : Bool := He.eqO (PySem.W.findIn K (.ref C) f) (some (some (.ref (He.ma K C f)))) && (He.eqO (PySem.W.specialIn K (.ref (He.ma K C f)) "__get__") (some (some (.builtin "member_descriptor.__get__"))) && (decide (PySem.W.takesIn K (.ref (He.ma K C f)) = some true) && (decide (PySem.W.typeIn K (.ref (He.ma K C f)) = some (.type "member_descriptor")) && decide (PySem.W.slotIn K (He.ma K C f) C = some i))))
def propB (K : PySem.W.Frag) (C : Addr) (f : Str) : Bool := He.eqO (PySem.W.findIn K (.ref C) f) (some (some (.ref (He.ma K C f)))) && (He.eqO (PySem.W.specialIn K (.ref (He.ma K C f)) "__get__") (some (some (.builtin "property.__get__"))) && (decide (PySem.W.takesIn K (.ref (He.ma K C f)) = some true) && (match PySem.W.recIn K (He.ma K C f) "property" with
  | some (.ref g :: _) => decide (gg K (He.ma K C f) = g)
  | _ => false)))
def mkB (K : PySem.W.Frag) (C : Addr) : Bool := PySem.W.makesIn K C && (He.eqO (PySem.W.findIn K (.ref C) "__init__") (some (some (.ref (He.ma K C "__init__")))) && (PySem.W.isFn K (.ref (He.ma K C "__init__")) && PySem.W.keepIn K (.ref C)))
def methB (K : PySem.W.Frag) (C : Addr) (m : Str) : Bool := He.eqO (PySem.W.findIn K (.ref C) m) (some (some (.ref (He.ma K C m)))) && (PySem.W.isFn K (.ref (He.ma K C m)) && PySem.W.keepIn K (.ref (He.ma K C m)))
def nonB (K : PySem.W.Frag) (C : Addr) (m : Str) : Bool := He.eqO (PySem.W.findIn K (.ref C) m) (some none)
def excB (K : PySem.W.Frag) (C : Addr) : Bool := PySem.W.excIn K C [.type "Exception", .type "BaseException", .type "object"] "Exception.__new__" && (PySem.W.keepIn K (.ref C) && (decide (PySem.W.subIn K (.ref C) (.type "BaseException") = some true) && decide (PySem.W.typeIn K (.ref C) = some (.type "type"))))
def exmB (K : PySem.W.Frag) (C D : Addr) (b : Bool) : Bool := decide (PySem.W.exmOne K (.ref C) (.ref D) = some b)
def kitB (K : PySem.W.Frag) (C D : Addr) : Bool := decide (PySem.W.kitOne K (.ref C) (.ref D) = some true)
def kitLB (K : PySem.W.Frag) (D : Addr) : Bool := decide (PySem.W.kitOne K (.type "list") (.ref D) = some false) && PySem.W.notFirst K D (.type "list")
def cmB (K : PySem.W.Frag) (C : Addr) (m : Str) : Bool := PySem.W.readsIn K C (.type "type") && (He.eqO (PySem.W.specialIn K (.ref C) "__getattribute__") (some (some (.builtin "type.__getattribute__"))) && (PySem.W.fnIn K (gc K (He.ma K C m)) && ((match PySem.W.findCls K (.ref C) (.type "type") m with
  | some (.get (.builtin b) (.ref p) .none (.ref C')) => decide (b = "classmethod.__get__") && (decide (p = He.ma K C m) && decide (C' = C))
  | _ => false) && (match PySem.W.recIn K (He.ma K C m) "classmethod" with
  | some (.ref g :: _) => decide (gc K (He.ma K C m) = g)
  | _ => false))))
def neB (K : PySem.W.Frag) (C : Addr) : Bool := match K.lookup C with
  | some ⟨.type "type", _, .cls cd, sl⟩ => (match cd.mro, sl.toList with
    | [.ref C', .type "object"], [_, _, _, _, some (.builtin n), _] => decide (C' = C) && (decide (n = "object.__new__") && (!cd.hasDel && (PySem.W.nsOkIn K cd.ns && (He.eqO (PySem.W.nsIn K cd.ns "__ne__") (some none) && He.eqO (PySem.W.nsIn K cd.ns "__eq__") (some (some (.ref (He.ma K C "__eq__"))))))))
    | _, _ => false)
  | _ => false
def isiB (K : PySem.W.Frag) (C : Addr) : Bool := He.eqO (PySem.W.findIn K (.ref C) "__class__") (some (some (.builtin "object.__class__"))) && (He.eqO (PySem.W.specialIn K (.builtin "object.__class__") "__get__") (some (some (.builtin "getset_descriptor.__get__"))) && (decide (PySem.W.takesIn K (.builtin "object.__class__") = some true) && decide (PySem.W.mroIn K C (.type "object") = some true)))
def faG : List He.Fa := [.glo "_wall", .glo "PurseError", .glo "WrongKind", .glo "WrongNumber", .glo "WrongWeb", .glo "TooMuch", .glo "is_integer", .glo "need_integer", .glo "need_list", .glo "need_from", .glo "need_between", .glo "need_up_to", .glo "need_integers", .glo "as_stands", .glo "has_due_kind", .glo "has_due_range", .glo "kept_due", .glo "due_at", .glo "due_row", .glo "half_of", .glo "_look_kinds", .glo "_look_stand", .glo "_look_web", .glo "Web", .glo "need_web", .glo "need_moving", .glo "need_row", .glo "price_low", .glo "price_high", .glo "price_at", .glo "call_kinds", .glo "call_set", .glo "call_bounds", .glo "round_under", .glo "round_of", .glo "call_fall_out", .glo "call_count_out", .glo "forever_rising", .glo "forever_risen", .glo "forever_by_rises"]
def faG2 : List He.Fa := [.glo "Verdict", .glo "raised_row", .glo "need_ranks", .glo "lessened_row", .glo "call_above", .glo "call_below", .glo "call_above_at", .glo "call_below_at", .glo "call_half_look", .glo "half_above", .glo "half_below", .glo "CallPaper", .glo "_law_pot", .glo "_law_draw", .glo "_law_whole", .glo "_law_is_row", .glo "_law_lot", .glo "_law_due", .glo "_law_marks", .glo "_law_path", .glo "_law_web", .glo "_law_due_at", .glo "_law_half", .glo "_law_low", .glo "_law_high", .glo "_law_price", .glo "_law_calls", .glo "_law_round", .glo "_law_forever", .glo "_law_built", .glo "_law_above", .glo "_law_below", .glo "_law_call_ranks", .glo "_law_call_counts", .glo "_law_parts", .glo "_law_judged", .glo "_law_code", .glo "_law_alike", .glo "_law_refusals", .glo "law"]
def faF : List He.Fa := [.free "all", .free "bool", .free "int", .free "isinstance", .free "iter", .free "len", .free "list", .free "max", .free "min", .free "range", .free "set", .free "sorted", .free "str", .free "tuple"]
def faI : List He.Fa := [.int "GREATEST_DUE" (10 ^ 40), .int "FAR_CHIPS" (10 ^ 40), .int "MOST_STANDS" 60]
def exP0 (K : PySem.W.Frag) : Bool := (faG.all fun f => f.ok K) && ((faG2.all fun f => f.ok K) && ((faF.all fun f => f.ok K) && (sclsB K (He.ga K "Web") && (isiB K (He.ga K "Web") && (slotB K (He.ga K "Web") "_dues" 0 && (slotB K (He.ga K "Web") "_ends" 1 && (slotB K (He.ga K "Web") "_first" 2 && (slotB K (He.ga K "Web") "_greatest_due" 3 && (slotB K (He.ga K "Web") "_marks" 4 && (slotB K (He.ga K "Web") "_moving" 5 && (slotB K (He.ga K "Web") "_second" 6 && (sclsB K (He.ga K "Verdict") && (isiB K (He.ga K "Verdict") && (slotB K (He.ga K "Verdict") "_faults" 0 && (sclsB K (He.ga K "CallPaper") && (isiB K (He.ga K "CallPaper") && (slotB K (He.ga K "CallPaper") "_calls" 0 && (slotB K (He.ga K "CallPaper") "_chips" 1 && (slotB K (He.ga K "CallPaper") "_counts" 2 && (slotB K (He.ga K "CallPaper") "_ranks" 3 && (slotB K (He.ga K "CallPaper") "_row" 4 && (slotB K (He.ga K "CallPaper") "_web" 5 && (propB K (He.ga K "Web") "size")))))))))))))))))))))))
def exP1 (K : PySem.W.Frag) : Bool := propB K (He.ga K "Web") "first" && (propB K (He.ga K "Web") "second" && (propB K (He.ga K "Web") "marks" && (propB K (He.ga K "Web") "dues" && (propB K (He.ga K "Web") "moving" && (propB K (He.ga K "Verdict") "faults" && (propB K (He.ga K "CallPaper") "web" && (propB K (He.ga K "CallPaper") "chips" && (propB K (He.ga K "CallPaper") "calls" && (propB K (He.ga K "CallPaper") "row" && (propB K (He.ga K "CallPaper") "ranks" && (propB K (He.ga K "CallPaper") "counts" && (mkB K (He.ga K "Web") && (mkB K (He.ga K "Verdict") && (mkB K (He.ga K "CallPaper") && (methB K (He.ga K "Web") "__eq__" && (methB K (He.ga K "Web") "__invert__" && (methB K (He.ga K "Verdict") "__bool__" && (methB K (He.ga K "Verdict") "__iter__" && (methB K (He.ga K "CallPaper") "__eq__" && (methB K (He.ga K "CallPaper") "judged" && (nonB K (He.ga K "Verdict") "__len__" && (nonB K (He.ga K "Verdict") "__length_hint__" && (excB K (He.ga K "WrongKind") && (excB K (He.ga K "WrongNumber")))))))))))))))))))))))))
def exP2 (K : PySem.W.Frag) : Bool := excB K (He.ga K "WrongWeb") && (excB K (He.ga K "TooMuch") && (exmB K (He.ga K "WrongKind") (He.ga K "WrongKind") true && (exmB K (He.ga K "WrongKind") (He.ga K "WrongNumber") false && (exmB K (He.ga K "WrongKind") (He.ga K "WrongWeb") false && (exmB K (He.ga K "WrongKind") (He.ga K "TooMuch") false && (exmB K (He.ga K "WrongNumber") (He.ga K "WrongKind") false && (exmB K (He.ga K "WrongNumber") (He.ga K "WrongNumber") true && (exmB K (He.ga K "WrongNumber") (He.ga K "WrongWeb") false && (exmB K (He.ga K "WrongNumber") (He.ga K "TooMuch") false && (exmB K (He.ga K "WrongWeb") (He.ga K "WrongKind") false && (exmB K (He.ga K "WrongWeb") (He.ga K "WrongNumber") false && (exmB K (He.ga K "WrongWeb") (He.ga K "WrongWeb") true && (exmB K (He.ga K "WrongWeb") (He.ga K "TooMuch") false && (exmB K (He.ga K "TooMuch") (He.ga K "WrongKind") false && (exmB K (He.ga K "TooMuch") (He.ga K "WrongNumber") false && (exmB K (He.ga K "TooMuch") (He.ga K "WrongWeb") false && (exmB K (He.ga K "TooMuch") (He.ga K "TooMuch") true && (kitB K (He.ga K "Web") (He.ga K "Web") && (kitB K (He.ga K "CallPaper") (He.ga K "CallPaper") && (kitLB K (He.ga K "CallPaper") && (cmB K (He.ga K "CallPaper") "of" && (neB K (He.ga K "Web") && (neB K (He.ga K "CallPaper") && ((faI.all fun f => f.ok K)))))))))))))))))))))))))
def exB (K : PySem.W.Frag) : Bool := exP0 K && (exP1 K && exP2 K)
def nms0 : List PySem.Str := ["_wall", "PurseError", "WrongKind", "WrongNumber", "WrongWeb", "TooMuch", "is_integer", "need_integer", "need_list", "need_from", "need_between", "need_up_to", "need_integers", "as_stands", "GREATEST_DUE", "has_due_kind", "has_due_range", "kept_due", "due_at", "due_row"]
def nms1 : List PySem.Str := ["half_of", "MOST_STANDS", "_look_kinds", "_look_stand", "_look_web", "Web", "need_web", "need_moving", "FAR_CHIPS", "need_row", "price_low", "price_high", "price_at", "CALL_CHIPS", "call_kinds", "call_set", "call_bounds", "round_under", "round_of", "call_fall_out"]
def nms2 : List PySem.Str := ["call_count_out", "forever_rising", "forever_risen", "forever_by_rises", "Verdict", "raised_row", "need_ranks", "lessened_row", "call_above", "call_below", "call_above_at", "call_below_at", "call_half_look", "half_above", "half_below", "CallPaper", "_law_pot", "_law_draw", "_law_whole", "_law_is_row"]
def nms3 : List PySem.Str := ["_law_lot", "_law_due", "_law_marks", "_law_path", "_law_web", "_law_due_at", "_law_half", "_law_low", "_law_high", "_law_price", "_law_calls", "_law_round", "_law_forever", "_law_built", "_law_above", "_law_below", "_law_call_ranks", "_law_call_counts", "_law_parts", "_law_judged"]
def nms4 : List PySem.Str := ["_law_code", "_law_alike", "_law_refusals", "law"]
def nms : List PySem.Str := nms0 ++ nms1 ++ nms2 ++ nms3 ++ nms4
abbrev R : PySem.W.OpenRow := PySem.W.OpenLaw.row PySem.Challenge.rw_pursewebs_k71_whole_both_halves_meet
abbrev hk : PySem.W.Hook := hookP 5 exB fns
def ob (s : PySem.W.SharedT) : AlP := obsPG 5 exB fns (HandSHeadRun.getT s)
theorem ob_eq (s : PySem.W.SharedT) : ob s = hk.obs s.abs := obsPG_eq (HandSHeadRun.getT_eq s)
end PwH
end
/-! ### PwRun -/
section
set_option Elab.async false
set_option linter.all false
set_option maxRecDepth 100000
set_option maxHeartbeats 0
/-! the kernel's runs of the top -/
namespace PwH
open PySem PySem.W PySem.Calls PyProof.Rows HandSHeadRun
noncomputable abbrev eF (w : World) (os : OsState) := endF (stepQ (denQ tabQ) R.prog w) 8000 R.prog w os
def kf (s : PySem.W.SharedT) : PySem.W.Frag := He.frG (HandSHeadRun.getT s) asL
theorem run0 (w : World) (os : OsState) : (eF w os).map (fun s => ((looksF R.prog (boot_heap w.params) s.abs, seenQ (PySem.W.view R.prog [96]) nms (importedModules R.prog.main.body) (fun s => xlAt (PySem.W.view R.prog [96]) [] s && recOk R.toRowW.records s) s.abs), (fns.all (fun d => d.ok (kf s)), fns.map fun d => fnX (kf s) (d.at_ (kf s))))) = some ((true, openGood (PySem.W.view R.prog [96]) nms), (true, fns.map DefX.val)) := by kernel_rfl
theorem run1 (w : World) (os : OsState) : (eF w os).map (fun s => exB (kf s)) = some true := by kernel_rfl
theorem runX (w : World) (x : Option SharedT) (h0 : x.map (fun s => ((looksF R.prog (boot_heap w.params) s.abs, seenQ (PySem.W.view R.prog [96]) nms (importedModules R.prog.main.body) (fun s => xlAt (PySem.W.view R.prog [96]) [] s && recOk R.toRowW.records s) s.abs), (fns.all (fun d => d.ok (kf s)), fns.map fun d => fnX (kf s) (d.at_ (kf s))))) = some ((true, openGood (PySem.W.view R.prog [96]) nms), (true, fns.map DefX.val)))
    (h1 : x.map (fun s => exB (kf s)) = some true) :
    x.map (fun s => (looksF R.prog (boot_heap w.params) s.abs, seenQ (PySem.W.view R.prog [96]) nms (importedModules R.prog.main.body) (fun s => xlAt (PySem.W.view R.prog [96]) [] s && recOk R.toRowW.records s) s.abs, ob s)) = some (true, openGood (PySem.W.view R.prog [96]) nms, hk.val w) := by
  cases x with
  | none => cases h0
  | some s =>
    obtain ⟨e0, e1⟩ := Prod.mk.inj (Option.some.inj h0)
    obtain ⟨e2, e3⟩ := Prod.mk.inj e0
    obtain ⟨e4, e5⟩ := Prod.mk.inj e1
    have e6 : exB (kf s) = true := Option.some.inj h1
    have e7 : ob s = hk.val w := by
      show (exB (kf s) && fns.all (fun d => d.ok (kf s)), fns.map fun d => fnX (kf s) (d.at_ (kf s))) = (true, fns.map DefX.val)
      rw [e4, e5, e6]
      rfl
    show some (looksF R.prog (boot_heap w.params) s.abs, seenQ (PySem.W.view R.prog [96]) nms (importedModules R.prog.main.body) (fun s => xlAt (PySem.W.view R.prog [96]) [] s && recOk R.toRowW.records s) s.abs, ob s) = _
    rw [e2, e3, e7]
    exact rfl
theorem run (w : World) : HandSHeadRun.RunEq R (PySem.W.view R.prog [96]) hk ob 8000 nms w := fun os => runX w (eF w os) (run0 w os) (run1 w os)
end PwH
end
/-! ### PwK -/
section
set_option linter.all false
/-! ranks and counts hang on the row's stands alone -/
namespace Pw
section
variable {S0 S0' : Nat → Bool} {out out' : (Nat → Bool) → Nat → Bool}
theorem lev_congr (h0 : S0 = S0') (h : ∀ S : Nat → Bool, (∀ v, S v = true → S0 v = true) → ∀ v, S0 v = true → out S v = out' S v) : ∀ i, lev S0 out i = lev S0' out' i ∧ rkk S0 out i = rkk S0' out' i := by
  subst h0
  intro i
  induction i with
  | zero => exact ⟨rfl, rfl⟩
  | succ i ih =>
    have key : ∀ v, lev S0 out i v = true → out (lev S0 out i) v = out' (lev S0 out' i) v := fun v hv => by
      rw [← ih.1]
      exact h _ (fun u hu => lev_anti (Nat.zero_le i) hu) v (lev_anti (Nat.zero_le i) hv)
    constructor
    · funext v
      show (lev S0 out i v && !out (lev S0 out i) v) = (lev S0 out' i v && !out' (lev S0 out' i) v)
      cases e : lev S0 out i v with
      | true => rw [key v e, ← ih.1, e]
      | false => rw [← ih.1, e]; rfl
    · funext v
      show (if (lev S0 out i v && out (lev S0 out i) v) = true then (i : Int) + 1 else rkk S0 out i v) = (if (lev S0 out' i v && out' (lev S0 out' i) v) = true then (i : Int) + 1 else rkk S0 out' i v)
      cases e : lev S0 out i v with
      | true => rw [key v e, ← ih.2, ← ih.1, e]
      | false =>
        have e' : lev S0 out' i v = false := by rw [← ih.1]; exact e
        rw [← ih.2, e']
        simp
end
section
variable {W : Web} {c : Nat → Bool} {K : Int} {X X' : Nat → Int}
theorem rkR_congr (o : W.Ok) (h : ∀ v, v < W.n → X v = X' v) (i : Nat) : rkR W c K X i = rkR W c K X' i := by
  refine (lev_congr ?_ ?_ i).2
  · funext v
    unfold lr0
    by_cases hv : v < W.n
    · rw [h v hv]
    · rw [decide_eq_false hv]; rfl
  · intro S _ v hv
    have hv := (lr0_iff.mp hv).1
    unfold outR
    have e : W.pr (add1 S X) v = W.pr (add1 S X') v := pr_congr o hv fun w hw => by unfold add1; rw [h w hw]
    rw [e, h v hv]
theorem rkC_congr (o : W.Ok) (hK : 0 ≤ K) (f : IsFev W c K X) (h : ∀ v, v < W.n → X v = X' v) (i : Nat) : rkC W c K X i = rkC W c K X' i := by
  have f' := f.congr o h
  have e0 : lc0 W X = lc0 W X' := by
    funext v
    unfold lc0
    by_cases hv : v < W.n
    · rw [h v hv]
    · rw [decide_eq_false hv]; rfl
  refine (lev_congr e0 ?_ i).2
  intro S hS v hv
  have hv := (lc0_iff.mp hv).1
  have a := (rnd_sub o hK f (S := S) fun u hu => (lc0_iff.mp (hS u hu)).2.2).2.1
  have b := (rnd_sub o hK f' (S := S) fun u hu => by
    have := lc0_iff.mp (hS u hu)
    rw [← h u this.1]
    exact this.2.2).2.1
  have e := (a.congr o (fun w hw => show sub1 S X w = sub1 S X' w by unfold sub1; rw [h w hw]) (fun _ _ => rfl)).uniq b v hv
  unfold outC
  rw [e, h v hv]
end
end Pw
end
/-! ### PwWk -/
section
set_option linter.all false
set_option maxRecDepth 100000
set_option maxHeartbeats 4000000
/-! the walk's own words: readings that are the meaning itself, and what they come to -/
namespace Wk
open PySem PySem.Spec PyProof.Rows L2 Evl Pw

/-! ### readings that are the meaning itself -/
section
variable {X : Cx} {e : Expr} {es : List Expr} {sts : List Stmt} {σ : L2.St} {H : Hp} {v : V} {t : TE} {tt : TT} {ta : TA} {ts : TS}
def WE (X : Cx) (e : Expr) : TE := fun σ H Q => ∀ (pins : List (Addr × Obj)) (s : Shared), Inv X pins σ H s → wpAny (model X.prog X.w) X.A (eval e X.env) (EP X pins σ Q) X.xe s
def WT (X : Cx) (e : Expr) : TT := fun σ H Q => ∀ (pins : List (Addr × Obj)) (s : Shared), Inv X pins σ H s → wpAny (model X.prog X.w) X.A (isTrue e X.env (eval e X.env)) (TP X pins σ Q) X.xe s
def WA (X : Cx) (es : List Expr) : TA := fun σ H Q => ∀ (pos : Pos) (pins : List (Addr × Obj)) (s : Shared), Inv X pins σ H s → wpAny (model X.prog X.w) X.A (spliced (backTo pos (starEach es X.env))) (AP X pins σ Q) X.xe s
def WS (X : Cx) (sts : List Stmt) : TS := fun D σ H => ∀ (pins : List (Addr × Obj)) (s : Shared), Inv X pins σ H s → wpAny (model X.prog X.w) X.A (execs sts X.env) (SP X pins D) X.xe s
theorem peW : PE X e (WE X e) := ⟨fun pins s _ _ _ I h => h pins s I⟩
theorem ptW : PT X e (WT X e) := ⟨fun pins s _ _ _ I h => h pins s I⟩
theorem paW : PA X es (WA X es) := ⟨fun pos pins s _ _ _ I h => h pos pins s I⟩
theorem pssW : PSs X sts (WS X sts) := ⟨fun pins s _ _ _ I h => h pins s I⟩
theorem ofE {Q : VK} (h : PE X e t) (q : t σ H Q) : WE X e σ H Q := fun pins s I => h.run pins s σ H Q I q
theorem ofT {Q : Bool → Hp → Prop} (h : PT X e tt) (q : tt σ H Q) : WT X e σ H Q := fun pins s I => h.run pins s σ H Q I q
theorem ofA {Q : List V → Hp → Prop} (h : PA X es ta) (q : ta σ H Q) : WA X es σ H Q := fun pos pins s I => h.run pos pins s σ H Q I q
theorem ofS {D : Ends} (h : PSs X sts ts) (q : ts D σ H) : WS X sts D σ H := fun pins s I => h.run pins s σ H D I q

/-- e comes to v (the heap may grow); to a new list, a new tuple of xs; a test; arguments -/
abbrev VE (X : Cx) (e : Expr) (σ : L2.St) (H : Hp) (v : V) : Prop := Ev (WE X e) σ H v
abbrev VL (X : Cx) (e : Expr) (σ : L2.St) (H : Hp) (xs : List V) : Prop := EvL (WE X e) σ H xs
abbrev VU (X : Cx) (e : Expr) (σ : L2.St) (H : Hp) (xs : List V) : Prop := EvU (WE X e) σ H xs
abbrev VT (X : Cx) (e : Expr) (σ : L2.St) (H : Hp) (b : Bool) : Prop := EvT (WT X e) σ H b
abbrev VA (X : Cx) (es : List Expr) (σ : L2.St) (H : Hp) (vs : List V) : Prop := EvA (WA X es) σ H vs
/-- e comes to something of which P is true, in the heap behind it -/
def EvD (te : TE) (σ : L2.St) (H : Hp) (P : V → Hp → Prop) : Prop := ∀ H1, Ex H H1 → ∀ Q : VK, (∀ u H2, Ex H1 H2 → P u H2 → Q u H2) → te σ H1 Q
abbrev VD (X : Cx) (e : Expr) (σ : L2.St) (H : Hp) (P : V → Hp → Prop) : Prop := EvD (WE X e) σ H P
theorem lift (h : PE X e t) (q : Ev t σ H v) : VE X e σ H v := fun H1 e1 Q k => ofE h (q H1 e1 Q k)
theorem liftL {xs : List V} (h : PE X e t) (q : EvL t σ H xs) : VL X e σ H xs := fun H1 e1 Q k => ofE h (q H1 e1 Q k)
theorem liftU {xs : List V} (h : PE X e t) (q : EvU t σ H xs) : VU X e σ H xs := fun H1 e1 Q k => ofE h (q H1 e1 Q k)
theorem liftT {b : Bool} (h : PT X e tt) (q : EvT tt σ H b) : VT X e σ H b := fun H1 e1 Q k => ofT h (q H1 e1 Q k)
theorem liftA {vs : List V} (h : PA X es ta) (q : EvA ta σ H vs) : VA X es σ H vs := fun H1 e1 Q k => ofA h (q H1 e1 Q k)
theorem liftD {P : V → Hp → Prop} (h : PE X e t) (q : EvD t σ H P) : VD X e σ H P := fun H1 e1 Q k => ofE h (q H1 e1 Q k)
theorem Ev.d {te : TE} (h : Ev te σ H v) : EvD te σ H (fun u _ => u = v) := fun H1 e1 Q k => h H1 e1 Q fun H2 e2 => k v H2 e2 rfl
theorem EvL.d {te : TE} {xs : List V} (h : EvL te σ H xs) : EvD te σ H (fun u H2 => ∃ p, u = .ref p ∧ H2 p = some (.lst xs)) := fun H1 e1 Q k => h H1 e1 Q fun p H2 _ e2 hp => k _ H2 e2 ⟨p, rfl, hp⟩
theorem EvU.d {te : TE} {xs : List V} (h : EvU te σ H xs) : EvD te σ H (fun u H2 => ∃ p, u = .ref p ∧ H2 p = some (.tup xs)) := fun H1 e1 Q k => h H1 e1 Q fun p H2 _ e2 hp => k _ H2 e2 ⟨p, rfl, hp⟩
theorem EvD.imp {te : TE} {P P' : V → Hp → Prop} (h : EvD te σ H P) (k : ∀ u H2, Ex H H2 → P u H2 → P' u H2) : EvD te σ H P' := fun H1 e1 Q q => h H1 e1 Q fun u H2 e2 p => q u H2 e2 (k u H2 (e1.trans e2) p)
end

/-! ### names -/
/-- x stands in the i-th slot -/
def NV (X : Cx) (i : Nat) (x : Str) : Prop := ∀ pos, PE X (.Name x pos) (tVar i)
structure LV (X : Cx) (i : Nat) (x : Str) : Prop where
  nd : X.N.Nodup
  ix : X.N[i]? = some x
  loc : Loc X.env.scope x
  fn : X.fn x = true ∨ X.env.scope.names.lookup x = some .local

section
variable {X : Cx} {e a b c o : Expr} {es : List Expr} {sts rest : List Stmt} {σ : L2.St} {H H' : Hp} {u v x y z : V} {i j : Int} {k l : Bool} {pos p p2 p3 : Pos} {n : Nat} {s f : Str} {q : Addr} {xs ys vs : List V}

theorem v_name (h : NV X n s) (hs : σ[n]? = some (some v)) : VE X (.Name s pos) σ H v := lift (h pos) (ev_var hs)
theorem v_int {m : Nat} : VE X (.Constant (.int i) m pos) σ H (.int i) := lift pe_int ev_c
theorem v_non {m : Nat} : VE X (.Constant .none m pos) σ H .non := lift pe_non ev_c
theorem v_bl {m : Nat} : VE X (.Constant (.bool k) m pos) σ H (.bl k) := lift pe_bl ev_c
theorem v_str {m : Nat} : VE X (.Constant (.str s) m pos) σ H (.str s) := lift pe_str ev_c
theorem v_add (ha : VE X a σ H (.int i)) (hb : VE X b σ H (.int j)) : VE X (.BinOp a .Add b pos) σ H (.int (i + j)) := lift (pe_op op_add peW peW) (ev_op ha hb rv_I0)
theorem v_sub (ha : VE X a σ H (.int i)) (hb : VE X b σ H (.int j)) : VE X (.BinOp a .Sub b pos) σ H (.int (i - j)) := lift (pe_op op_sub peW peW) (ev_op ha hb rv_I0)
theorem v_mul (ha : VE X a σ H (.int i)) (hb : VE X b σ H (.int j)) (hc : -(2 ^ 64) < j ∧ j < 2 ^ 64) : VE X (.BinOp a .Mult b pos) σ H (.int (i * j)) := lift (pe_op op_mul peW peW) (ev_op ha hb (rv_I (.inr hc)))
theorem v_fdiv (ha : VE X a σ H (.int i)) (hb : VE X b σ H (.int j)) (hc : 0 < j ∧ j < 1073741824) : VE X (.BinOp a .FloorDiv b pos) σ H (.int (i / j)) := lift (pe_op op_fdiv peW peW) (ev_op ha hb (rv_I hc))
theorem v_mod (ha : VE X a σ H (.int i)) (hb : VE X b σ H (.int j)) (hc : 0 < j) : VE X (.BinOp a .Mod b pos) σ H (.int (i % j)) := lift (pe_op op_mod peW peW) (ev_op ha hb (rv_I hc))
theorem v_lt (ha : VE X a σ H (.int i)) (hb : VE X b σ H (.int j)) : VE X (.Compare a [.Lt] [b] pos) σ H (.bl (decide (i < j))) := lift (pe_cmpR op_lt peW peW (nomark _)) (ev_op ha hb rv_I0)
theorem v_le (ha : VE X a σ H (.int i)) (hb : VE X b σ H (.int j)) : VE X (.Compare a [.LtE] [b] pos) σ H (.bl (decide (i ≤ j))) := lift (pe_cmpR op_le peW peW (nomark _)) (ev_op ha hb rv_I0)
theorem v_gt (ha : VE X a σ H (.int i)) (hb : VE X b σ H (.int j)) : VE X (.Compare a [.Gt] [b] pos) σ H (.bl (decide (j < i))) := lift (pe_cmpR op_gt peW peW (nomark _)) (ev_op ha hb rv_I0)
theorem v_ge (ha : VE X a σ H (.int i)) (hb : VE X b σ H (.int j)) : VE X (.Compare a [.GtE] [b] pos) σ H (.bl (decide (j ≤ i))) := lift (pe_cmpR op_ge peW peW (nomark _)) (ev_op ha hb rv_I0)
theorem v_eq (ha : VE X a σ H x) (hb : VE X b σ H y) (hc : scal x y = true) : VE X (.Compare a [.Eq] [b] pos) σ H (.bl (decide (x = y))) := lift (pe_cmpR op_eq peW peW (nomark _)) (ev_op ha hb (rv_eq hc))
theorem v_ne (ha : VE X a σ H x) (hb : VE X b σ H y) (hc : scal x y = true) : VE X (.Compare a [.NotEq] [b] pos) σ H (.bl (!decide (x = y))) := lift (pe_cmpR op_ne peW peW (nomark _)) (ev_op ha hb (rv_ne hc))
theorem v_eqI (ha : VE X a σ H (.int i)) (hb : VE X b σ H (.int j)) : VE X (.Compare a [.Eq] [b] pos) σ H (.bl (decide (i = j))) := by
  have h := v_eq (pos := pos) ha hb rfl
  have e : decide (V.int i = V.int j) = decide (i = j) := by simp
  rw [e] at h
  exact h
theorem v_neI (ha : VE X a σ H (.int i)) (hb : VE X b σ H (.int j)) : VE X (.Compare a [.NotEq] [b] pos) σ H (.bl (!decide (i = j))) := by
  have h := v_ne (pos := pos) ha hb rfl
  have e : decide (V.int i = V.int j) = decide (i = j) := by simp
  rw [e] at h
  exact h
theorem v_isN (ha : VE X a σ H x) {m : Nat} : VE X (.Compare a [.Is] [.Constant .none m p] pos) σ H (.bl (decide (x = .non))) := lift (pe_cmpR op_isN peW pe_non (nomark _)) (ev_op ha ev_c (rv_val fun H1 _ Q q => ⟨rfl, q⟩))
theorem v_notN (ha : VE X a σ H x) {m : Nat} : VE X (.Compare a [.IsNot] [.Constant .none m p] pos) σ H (.bl (!decide (x = .non))) := lift (pe_cmpR op_notN peW pe_non (nomark _)) (ev_op ha ev_c (rv_val fun H1 _ Q q => ⟨rfl, q⟩))

/-! ### lists and tuples -/
/-- a list or a tuple of xs is to be read at q -/
def Sq (K : PySem.W.Frag) (H : Hp) (q : Addr) (xs : List V) : Prop := SqL K H q xs ∨ SqT K H q xs
theorem Sq.ex {K : PySem.W.Frag} (e : Ex H H') (h : Sq K H q xs) : Sq K H' q xs := h.imp (ex_l e) (ex_t e)
theorem Sq.ls {K : PySem.W.Frag} (h : H q = some (.lst xs)) : Sq K H q xs := .inl (sq_of h)
theorem Sq.tp {K : PySem.W.Frag} (h : H q = some (.tup xs)) : Sq K H q xs := .inr (st_of h)
theorem v_ix (ha : VE X a σ H (.ref q)) (hb : VE X b σ H (.int (n : Int))) (h : Sq X.K H q xs) (hv : xs[n]? = some v) (hp : PlainIx b := by intro _ _; rfl) : VE X (.Subscript a b pos) σ H v :=
  lift (pe_ix ix_seq peW peW hp) (ev_op ha hb fun H1 e1 Q k => by
    have z : atI xs (n : Int) = some v := atI_nat hv
    rcases h with h | h
    · exact .inl ⟨q, xs, (n : Int), v, rfl, rfl, ex_l e1 h, z, k H1 (Ex.refl H1)⟩
    · exact .inr (.inl ⟨q, xs, (n : Int), v, rfl, rfl, ex_t e1 h, z, k H1 (Ex.refl H1)⟩))
theorem t_val (h : VE X e σ H (.bl k)) (he : ∀ whole, isTrue e X.env whole = (do let v ← whole; standAt e.pos; holding [v] (truthy v)) := by intro _; rfl) : VT X e σ H k := liftT (pt_val peW he) (et_B h)
theorem t_lt (ha : VE X a σ H (.int i)) (hb : VE X b σ H (.int j)) : VT X (.Compare a [.Lt] [b] pos) σ H (decide (i < j)) := liftT (pt_cmpR op_lt peW peW (nomark _)) (et_test (ev_op ha hb rv_I0))
theorem t_le (ha : VE X a σ H (.int i)) (hb : VE X b σ H (.int j)) : VT X (.Compare a [.LtE] [b] pos) σ H (decide (i ≤ j)) := liftT (pt_cmpR op_le peW peW (nomark _)) (et_test (ev_op ha hb rv_I0))
theorem t_gt (ha : VE X a σ H (.int i)) (hb : VE X b σ H (.int j)) : VT X (.Compare a [.Gt] [b] pos) σ H (decide (j < i)) := liftT (pt_cmpR op_gt peW peW (nomark _)) (et_test (ev_op ha hb rv_I0))
theorem t_ge (ha : VE X a σ H (.int i)) (hb : VE X b σ H (.int j)) : VT X (.Compare a [.GtE] [b] pos) σ H (decide (j ≤ i)) := liftT (pt_cmpR op_ge peW peW (nomark _)) (et_test (ev_op ha hb rv_I0))
theorem t_eq (ha : VE X a σ H x) (hb : VE X b σ H y) (hc : scal x y = true) : VT X (.Compare a [.Eq] [b] pos) σ H (decide (x = y)) := liftT (pt_cmpR op_eq peW peW (nomark _)) (et_test (ev_op ha hb (rv_eq hc)))
theorem t_ne (ha : VE X a σ H x) (hb : VE X b σ H y) (hc : scal x y = true) : VT X (.Compare a [.NotEq] [b] pos) σ H (!decide (x = y)) := liftT (pt_cmpR op_ne peW peW (nomark _)) (et_test (ev_op ha hb (rv_ne hc)))
theorem t_eqI (ha : VE X a σ H (.int i)) (hb : VE X b σ H (.int j)) : VT X (.Compare a [.Eq] [b] pos) σ H (decide (i = j)) := by
  have h := t_eq (pos := pos) ha hb rfl
  have e : decide (V.int i = V.int j) = decide (i = j) := by simp
  rw [e] at h
  exact h
theorem t_neI (ha : VE X a σ H (.int i)) (hb : VE X b σ H (.int j)) : VT X (.Compare a [.NotEq] [b] pos) σ H (!decide (i = j)) := by
  have h := t_ne (pos := pos) ha hb rfl
  have e : decide (V.int i = V.int j) = decide (i = j) := by simp
  rw [e] at h
  exact h
theorem t_isN (ha : VE X a σ H x) {m : Nat} : VT X (.Compare a [.Is] [.Constant .none m p] pos) σ H (decide (x = .non)) := liftT (pt_cmpR op_isN peW pe_non (nomark _)) (et_test (ev_op ha ev_c (rv_val fun H1 _ Q q => ⟨rfl, q⟩)))
theorem t_notN (ha : VE X a σ H x) {m : Nat} : VT X (.Compare a [.IsNot] [.Constant .none m p] pos) σ H (!decide (x = .non)) := liftT (pt_cmpR op_notN peW pe_non (nomark _)) (et_test (ev_op ha ev_c (rv_val fun H1 _ Q q => ⟨rfl, q⟩)))
theorem rv_in {K : PySem.W.Frag} {neg : Bool} (h : Sq K H q xs) (hx : flatV x = true) (hxs : xs.all flatV = true) : RV (rIn K neg) x (.ref q) H (.bl (if neg then !inV x xs else inV x xs)) := by
  rcases h with h | h
  · exact rv_inL h hx hxs
  · exact rv_inT h hx hxs
theorem v_inS (ha : VE X a σ H x) (hb : VE X b σ H (.ref q)) (h : Sq X.K H q xs) (hx : flatV x = true) (hxs : xs.all flatV = true) (hm : behindInMarks .In b = false := by rfl) : VE X (.Compare a [.In] [b] pos) σ H (.bl (inV x xs)) := lift (pe_cmpR op_in_seq peW peW hm) (ev_op ha hb (rv_in h hx hxs))
theorem v_niS (ha : VE X a σ H x) (hb : VE X b σ H (.ref q)) (h : Sq X.K H q xs) (hx : flatV x = true) (hxs : xs.all flatV = true) (hm : behindInMarks .NotIn b = false := by rfl) : VE X (.Compare a [.NotIn] [b] pos) σ H (.bl (!inV x xs)) := lift (pe_cmpR op_notIn_seq peW peW hm) (ev_op ha hb (rv_in h hx hxs))
theorem t_inS (ha : VE X a σ H x) (hb : VE X b σ H (.ref q)) (h : Sq X.K H q xs) (hx : flatV x = true) (hxs : xs.all flatV = true) (hm : behindInMarks .In b = false := by rfl) : VT X (.Compare a [.In] [b] pos) σ H (inV x xs) := liftT (pt_cmpR op_in_seq peW peW hm) (et_test (ev_op ha hb (rv_in h hx hxs)))
theorem t_niS (ha : VE X a σ H x) (hb : VE X b σ H (.ref q)) (h : Sq X.K H q xs) (hx : flatV x = true) (hxs : xs.all flatV = true) (hm : behindInMarks .NotIn b = false := by rfl) : VT X (.Compare a [.NotIn] [b] pos) σ H (!inV x xs) := liftT (pt_cmpR op_notIn_seq peW peW hm) (et_test (ev_op ha hb (rv_in h hx hxs)))
/-! and, or, not, if else -/
theorem v_and (ha : VE X a σ H (.bl k)) (hb : k = true → VE X (.BoolOp .And (b :: es) pos) σ H (.bl l)) : VE X (.BoolOp .And (a :: b :: es) pos) σ H (.bl (k && l)) := lift (pe_and peW peW) (ev_andV ha hb)
theorem v_or (ha : VE X a σ H (.bl k)) (hb : k = false → VE X (.BoolOp .Or (b :: es) pos) σ H (.bl l)) : VE X (.BoolOp .Or (a :: b :: es) pos) σ H (.bl (k || l)) := lift (pe_or peW peW) (ev_orV ha hb)
theorem v_one {op : BoolOp} (h : VE X a σ H v) : VE X (.BoolOp op [a] pos) σ H v := lift (pe_one peW) h
theorem v_not (ha : VE X a σ H (.bl k)) : VE X (.UnaryOp .Not a pos) σ H (.bl (!k)) := lift (pe_not peW) (ev_notV ha)
/-- a test in a chain -/
def WP (X : Cx) (e : Expr) : TT := fun σ H Q => ∀ (wh : Sem Value) (pins : List (Addr × Obj)) (s : Shared), Inv X pins σ H s → wpAny (model X.prog X.w) X.A (isTrue e X.env wh) (TP X pins σ Q) X.xe s
theorem pwW : PW X e (WP X e) := ⟨fun wh pins s _ _ _ I h => h wh pins s I⟩
abbrev VP (X : Cx) (e : Expr) (σ : L2.St) (H : Hp) (b : Bool) : Prop := EvT (WP X e) σ H b
theorem liftP {tt : TT} (h : PW X e tt) (q : EvT tt σ H k) : VP X e σ H k := fun H1 e1 Q g wh pins s I => h.run wh pins s σ H1 Q I (q H1 e1 Q g)
theorem t_bool (h : VP X e σ H k) : VT X e σ H k := liftT pwW.pt h
theorem p_and1 (h : VT X a σ H k) : VP X (.BoolOp .And [a] pos) σ H k := liftP (pw_and1 ptW) h
theorem p_or1 (h : VT X a σ H k) : VP X (.BoolOp .Or [a] pos) σ H k := liftP (pw_or1 ptW) h
theorem p_and (ha : VT X a σ H k) (hb : k = true → VP X (.BoolOp .And (b :: es) pos) σ H l) : VP X (.BoolOp .And (a :: b :: es) pos) σ H (k && l) := liftP (pw_and ptW pwW) (et_and ha hb)
theorem p_or (ha : VT X a σ H k) (hb : k = false → VP X (.BoolOp .Or (b :: es) pos) σ H l) : VP X (.BoolOp .Or (a :: b :: es) pos) σ H (k || l) := liftP (pw_or ptW pwW) (et_or ha hb)
theorem t_not (h : VT X a σ H k) : VT X (.UnaryOp .Not a pos) σ H (!k) := liftT (pt_not ptW) (et_not h)
theorem v_if (h : VT X c σ H k) (h1 : k = true → VE X a σ H v) (h2 : k = false → VE X b σ H v) : VE X (.IfExp c a b pos) σ H v := lift (pe_ifExp ptW peW peW) (ev_if h h1 h2)
theorem v_ite {k : Bool} (h : VT X c σ H k) (h1 : k = true → VE X a σ H u) (h2 : k = false → VE X b σ H v) : VE X (.IfExp c a b pos) σ H (if k = true then u else v) := by
  refine v_if h (fun e => ?_) (fun e => ?_)
  · rw [e, if_pos rfl]; exact h1 e
  · rw [e, if_neg (by simp)]; exact h2 e
/-- a list's, a tuple's truth -/
theorem t_seq (h : VE X e σ H (.ref q)) (hs : Sq X.K H q xs) (he : ∀ whole, isTrue e X.env whole = (do let v ← whole; standAt e.pos; holding [v] (truthy v)) := by intro _; rfl) : VT X e σ H (!xs.isEmpty) :=
  liftT (pt_truth peW he) fun H1 e1 Q g => h H1 e1 _ fun H2 e2 => ⟨!xs.isEmpty, by
    rcases hs with hs | hs
    · exact .inl ⟨xs, ex_l (e1.trans e2) hs, rfl⟩
    · exact .inr (.inl ⟨xs, ex_t (e1.trans e2) hs, rfl⟩), g H2 e2⟩

/-! ### arguments, calls -/
theorem a_nil : VA X [] σ H [] := liftA pa_nil ea_nil
theorem a_cons (h : VE X e σ H v) (hr : VA X es σ H vs) (hs : starEach (e :: es) X.env = (false, eval e X.env) :: starEach es X.env := by rfl) : VA X (e :: es) σ H (v :: vs) := liftA (pa_cons peW paW hs) (ea_cons h hr)
end

/-! ### the program's defs -/
/-- the def of the module's name x keeps sp -/
structure Dn (P : Program) (w : World) (K : PySem.W.Frag) (mg : Str → Option Value) (base : Heap) (k : Nat) (x : Str) (dvs : List V) (sp : Sp) : Prop where
  ex : ∃ (f : Addr) (fd : FuncData) (ps : List Str) (ds : List Value), FnOk P w K mg base (L2.CX P w) k f fd ps sp ∧ mg x = some (.ref f) ∧ PySem.W.keepIn K (.ref f) = true ∧ Binds K fd ps ds ∧ Vals dvs ds
section
variable {X : Cx} {e a b c o : Expr} {es : List Expr} {sts rest : List Stmt} {σ : L2.St} {H H' : Hp} {u v x y z : V} {i j : Int} {k l : Bool} {pos p p2 p3 : Pos} {n m : Nat} {s f : Str} {q : Addr} {xs ys vs dvs : List V} {sp : Sp}
theorem pe_dn {E : XK} {ta : TA} (D : Dn X.prog X.w X.K X.mg X.base m s dvs sp) (hr : Room m X.A) (hx : Passes (L2.CX X.prog X.w) X E) (ha : PA X (e :: es) ta) (hg : Gl X s := by rfl) (hdb : (s == ("__debug__" : Str)) = false := by decide)
    (he : starEach (e :: es) X.env = (false, eval e X.env) :: starEach es X.env := by rfl) (hpl : (backTo pos (starEach es X.env)).any (·.1) = false := by rfl) : PE X (.Call (.Name s p) (e :: es) [] pos) (tCall sp dvs E ta) := by
  obtain ⟨g, fd, ps, ds, F, hm, hk, hb, hd⟩ := D.ex
  exact pe_call F hr hg hm hk hb hd hx ha hdb he hpl
theorem v_call (D : Dn X.prog X.w X.K X.mg X.base m s dvs sp) (hr : Room m X.A) (ha : VA X (e :: es) σ H vs) (hs : SpV sp (vs ++ dvs) H z) (hg : Gl X s := by rfl) (hdb : (s == ("__debug__" : Str)) = false := by decide)
    (he : starEach (e :: es) X.env = (false, eval e X.env) :: starEach es X.env := by rfl) (hpl : (backTo pos (starEach es X.env)).any (·.1) = false := by rfl) : VE X (.Call (.Name s p) (e :: es) [] pos) σ H z :=
  lift (pe_dn D hr passL paW hg hdb he hpl) (ev_call ha hs)
/-- a promise kept with P of the answer -/
def SpD (sp : Sp) (vs : List V) (H : Hp) (P : V → Hp → Prop) : Prop := ∀ H1, Ex H H1 → ∀ Q : VK, (∀ u H2, Ex H1 H2 → P u H2 → Q u H2) → ∀ E : XK, sp vs H1 Q E
theorem v_callD {P : V → Hp → Prop} (D : Dn X.prog X.w X.K X.mg X.base m s dvs sp) (hr : Room m X.A) (ha : VA X (e :: es) σ H vs) (hs : SpD sp (vs ++ dvs) H P) (hg : Gl X s := by rfl) (hdb : (s == ("__debug__" : Str)) = false := by decide)
    (he : starEach (e :: es) X.env = (false, eval e X.env) :: starEach es X.env := by rfl) (hpl : (backTo pos (starEach es X.env)).any (·.1) = false := by rfl) : VD X (.Call (.Name s p) (e :: es) [] pos) σ H P :=
  liftD (pe_dn D hr passL paW hg hdb he hpl) fun H1 e1 Q g => ha H1 e1 _ fun H2 e2 => hs H2 (e1.trans e2) Q (fun u H3 e3 hu => g u H3 (e2.trans e3) hu) _
theorem v_callL (D : Dn X.prog X.w X.K X.mg X.base m s dvs sp) (hr : Room m X.A) (ha : VA X (e :: es) σ H vs) (hs : SpL sp (vs ++ dvs) H xs) (hg : Gl X s := by rfl) (hdb : (s == ("__debug__" : Str)) = false := by decide)
    (he : starEach (e :: es) X.env = (false, eval e X.env) :: starEach es X.env := by rfl) (hpl : (backTo pos (starEach es X.env)).any (·.1) = false := by rfl) : VL X (.Call (.Name s p) (e :: es) [] pos) σ H xs :=
  liftL (pe_dn D hr passL paW hg hdb he hpl) (el_call ha hs)
/-- a call that may raise, as a statement: E is the def's own wish -/
theorem w_callX {E : XK} {D0 : Ends} (D : Dn X.prog X.w X.K X.mg X.base m s dvs sp) (hr : Room m X.A) (hx : Passes (L2.CX X.prog X.w) X E) (ha : VA X (e :: es) σ H vs) (hs : ∀ H1, Ex H H1 → sp (vs ++ dvs) H1 (fun _ H2 => WS X rest D0 σ H2) E) (hg : Gl X s := by rfl) (hdb : (s == ("__debug__" : Str)) = false := by decide)
    (he : starEach (e :: es) X.env = (false, eval e X.env) :: starEach es X.env := by rfl) (hpl : (backTo pos (starEach es X.env)).any (·.1) = false := by rfl) (hsw : swapsWith (.Call (.Name s p) (e :: es) [] pos) none p2.line X.env = pure false := by rfl) :
    WS X (.Expr (.Call (.Name s p) (e :: es) [] pos) p2 :: rest) D0 σ H :=
  ofS (pss_cons (ps_expr (pe_dn D hr hx paW hg hdb he hpl) hsw) pssW) (ha H (Ex.refl H) _ fun H1 e1 => hs H1 e1)

/-! ### statements -/
variable {D0 : Ends}
theorem w_nil (h : D0.nx σ H) : WS X [] D0 σ H := ofS pss_nil h
theorem w_cons {st : Stmt} {t : TS} (h : PS X st t) (q : t { D0 with nx := fun σ' H' => WS X rest D0 σ' H' } σ H) : WS X (st :: rest) D0 σ H := ofS (pss_cons h pssW) q
theorem w_set (lv : LV X n s) (h : VE X e σ H v) (k : ∀ H1, Ex H H1 → WS X rest D0 (σ.set n (some v)) H1) (hs : swapsWith e (some (.Name s p)) pos.line X.env = pure false := by rfl) : WS X (.Assign [.Name s p] e pos :: rest) D0 σ H :=
  w_cons (ps_set lv.nd lv.ix lv.loc peW hs lv.fn) (s_asg h k)
theorem w_setL (lv : LV X n s) (h : VL X e σ H xs) (k : ∀ q H1, H q = none → Ex H H1 → H1 q = some (.lst xs) → WS X rest D0 (σ.set n (some (.ref q))) H1) (hs : swapsWith e (some (.Name s p)) pos.line X.env = pure false := by rfl) : WS X (.Assign [.Name s p] e pos :: rest) D0 σ H :=
  w_cons (ps_set lv.nd lv.ix lv.loc peW hs lv.fn) (s_asgL h k)
theorem w_setU (lv : LV X n s) (h : VU X e σ H xs) (k : ∀ q H1, H q = none → Ex H H1 → H1 q = some (.tup xs) → WS X rest D0 (σ.set n (some (.ref q))) H1) (hs : swapsWith e (some (.Name s p)) pos.line X.env = pure false := by rfl) : WS X (.Assign [.Name s p] e pos :: rest) D0 σ H :=
  w_cons (ps_set lv.nd lv.ix lv.loc peW hs lv.fn) (s_asgU h k)
theorem w_setD {P : V → Hp → Prop} (lv : LV X n s) (h : VD X e σ H P) (k : ∀ u H1, Ex H H1 → P u H1 → WS X rest D0 (σ.set n (some u)) H1) (hs : swapsWith e (some (.Name s p)) pos.line X.env = pure false := by rfl) : WS X (.Assign [.Name s p] e pos :: rest) D0 σ H :=
  w_cons (ps_set lv.nd lv.ix lv.loc peW hs lv.fn) (h H (Ex.refl H) _ fun u H1 e1 hp => k u H1 e1 hp)
theorem w_ret (h : VE X e σ H v) (k : ∀ H1, Ex H H1 → D0.rt v H1) : WS X (.Return (some e) pos :: rest) D0 σ H := w_cons (ps_ret peW) (s_ret h k)
theorem w_retL (h : VL X e σ H xs) (k : ∀ q H1, H q = none → Ex H H1 → H1 q = some (.lst xs) → D0.rt (.ref q) H1) : WS X (.Return (some e) pos :: rest) D0 σ H := w_cons (ps_ret peW) (s_retL h k)
theorem w_retU (h : VU X e σ H xs) (k : ∀ q H1, H q = none → Ex H H1 → H1 q = some (.tup xs) → D0.rt (.ref q) H1) : WS X (.Return (some e) pos :: rest) D0 σ H := w_cons (ps_ret peW) (s_retU h k)
theorem w_retD {P : V → Hp → Prop} (h : VD X e σ H P) (k : ∀ u H1, Ex H H1 → P u H1 → D0.rt u H1) : WS X (.Return (some e) pos :: rest) D0 σ H := w_cons (ps_ret peW) (h H (Ex.refl H) _ fun u H1 e1 hp => k u H1 e1 hp)
theorem w_if {st1 st2 : List Stmt} (h : VT X c σ H k) (h1 : k = true → ∀ H1, Ex H H1 → WS X st1 { D0 with nx := fun σ' H' => WS X rest D0 σ' H' } σ H1) (h2 : k = false → ∀ H1, Ex H H1 → WS X st2 { D0 with nx := fun σ' H' => WS X rest D0 σ' H' } σ H1) : WS X (.If c st1 st2 pos :: rest) D0 σ H :=
  w_cons (ps_if ptW pssW pssW) (s_if h h1 h2)
/-- if c: .. (no else, nothing goes on behind the branch) -/
theorem w_when {st1 : List Stmt} (h : VT X c σ H k) (h1 : k = true → ∀ H1, Ex H H1 → WS X st1 { D0 with nx := fun σ' H' => WS X rest D0 σ' H' } σ H1) (h2 : k = false → ∀ H1, Ex H H1 → WS X rest D0 σ H1) : WS X (.If c st1 [] pos :: rest) D0 σ H :=
  w_if h h1 fun e H1 e1 => w_nil (h2 e H1 e1)
theorem w_break (h : D0.bk σ H) : WS X (.Break pos :: rest) D0 σ H := w_cons ps_break h
end

/-! ### a def's body -/
theorem fn_dn {P : Program} {w : World} {K : PySem.W.Frag} {mg : Str → Option Value} {base : Heap} {x : Str} {st : Stmt} {N ps : List Str} {k : Nat} {sp : Sp}
    (hF : ∃ (f : Addr) (fd : FuncData), FunD K x x (defArgs st) (defBody st) (defScope st) [] [] f fd ∧ mg x = some (.ref f)) (S : FnScope N ps (defScope st)) (len : ∀ vs H Q E, sp vs H Q E → vs.length = ps.length)
    (hb : ∀ (kV doc pm : Value) (an : Option Addr) (cdv ct : Value) (us : List Value), us.length = ps.length → bindArgs (PySem.W.fnOf x x (defArgs st) (defBody st) (defScope st) .none kV doc pm an cdv ct) ⟨us, []⟩ = pure (ps.zip us))
    (h : ∀ (f : Addr) (cdv : Value) (A : Around) (outer : List Env) (s : Shared) (H : Hp) (vs : List V) (Q : VK) (E : XK), Room k (A.deeper (envOfC x (defScope st) s.heap.objs.size f cdv)) → sp vs H Q E →
      WS (cxOf (L2.CX P w) P w K mg base N x (defScope st) f cdv A outer s H E) (defBody st) { nx := fun _ H' => Q .non H', rt := Q } (start N vs) H) : Dn P w K mg base (k + 1) x [] sp := by
  obtain ⟨f, fd, F, hm⟩ := hF
  exact ⟨⟨f, fd, ps, [], F.ok S len fun cdv A outer s H vs Q E hr hs => ⟨_, pssW, h f cdv A outer s H vs Q E hr hs⟩, hm, F.kp, F.bindsN hb, .nil⟩⟩
end Wk
end
/-! ### PwWl -/
section
set_option linter.all false
set_option maxRecDepth 100000
set_option maxHeartbeats 4000000
/-! the walk's own words, second part: names, loops, comprehensions, built-ins -/
namespace Wk
open PySem PySem.Spec PyProof.Rows L2 Evl Pw
/-- the built-ins that the program uses stand as at the boot -/
structure Fre (mg : Str → Option Value) : Prop where
  all_ : mg "all" = none
  bool_ : mg "bool" = none
  int_ : mg "int" = none
  isi : mg "isinstance" = none
  iter_ : mg "iter" = none
  len : mg "len" = none
  list_ : mg "list" = none
  max_ : mg "max" = none
  min_ : mg "min" = none
  range_ : mg "range" = none
  set_ : mg "set" = none
  sorted_ : mg "sorted" = none
  str_ : mg "str" = none
  tuple_ : mg "tuple" = none
section
variable {X : Cx} {e a b c o it elt : Expr} {es ifs : List Expr} {sts rest body : List Stmt} {σ : L2.St} {H H' H0 : Hp} {u v x y z : V} {i j : Int} {k l : Bool} {pos p p2 p3 : Pos} {n m : Nat} {s f : Str} {q : Addr} {xs ys vs dvs : List V} {sp : Sp} {D0 : Ends} {sc : Scope}
/-- the name in the n-th slot -/
theorem vn (n : Nat) (hN : X.N[n]? = some s := by rfl) (hv : Vis X.env.scope s := by first | exact Or.inl rfl | exact Or.inr (Or.inl rfl) | exact Or.inr (Or.inr rfl)) (hs : σ[n]? = some (some v) := by rfl)
    (hd : (s == ("__debug__" : Str)) = false := by decide) (hcd : (s == ("__classdict__" : Str)) = false := by decide) : VE X (.Name s pos) σ H v := lift (pe_var hN hv hd hcd) (ev_var hs)
/-- a local name, a captured one, as a target -/
theorem lv (S : X.N.Nodup) (n : Nat) (hN : X.N[n]? = some s := by rfl) (hl : Loc X.env.scope s := by first | exact Or.inl rfl | exact Or.inr rfl) (hf : X.fn s = true ∨ X.env.scope.names.lookup s = some .local := by first | exact .inl rfl | exact .inr rfl) : LV X n s := ⟨S, hN, hl, hf⟩
/-- a constant of the module -/
theorem v_gl {u : Value} (hm : X.mg s = some u) (r : RelV v u) (hg : Gl X s := by rfl) (hd : (s == ("__debug__" : Str)) = false := by decide) : VE X (.Name s pos) σ H v := lift (pe_glob hg hm r hd) ev_c

/-! ### built-ins -/
theorem v_bi {id : String} {r : List V → Hp → VK → Prop} (hc : CallR X (.builtin id) r) (hm : X.mg s = none) (hv : bootBuiltins s = some (.builtin id)) (ha : VA X (e :: es) σ H vs) (hr : RC r vs H z) (hg : Gl X s := by rfl) (hn : s ≠ "__name__" := by decide) (hdb : (s == ("__debug__" : Str)) = false := by decide)
    (he : starEach (e :: es) X.env = (false, eval e X.env) :: starEach es X.env := by rfl) (hpl : (backTo pos (starEach es X.env)).any (·.1) = false := by rfl) : VE X (.Call (.Name s p) (e :: es) [] pos) σ H z :=
  lift (pe_callB hc hg hm hv paW hn hdb he hpl) (ev_cb ha hr)
theorem v_biL {id : String} {r : List V → Hp → VK → Prop} (hc : CallR X (.builtin id) r) (hm : X.mg s = none) (hv : bootBuiltins s = some (.builtin id)) (ha : VA X (e :: es) σ H vs) (hr : RCL r vs H xs) (hg : Gl X s := by rfl) (hn : s ≠ "__name__" := by decide) (hdb : (s == ("__debug__" : Str)) = false := by decide)
    (he : starEach (e :: es) X.env = (false, eval e X.env) :: starEach es X.env := by rfl) (hpl : (backTo pos (starEach es X.env)).any (·.1) = false := by rfl) : VL X (.Call (.Name s p) (e :: es) [] pos) σ H xs :=
  liftL (pe_callB hc hg hm hv paW hn hdb he hpl) (el_cb ha hr)
theorem v_ty {T : String} {r : List V → Hp → VK → Prop} (hc : CallR X (.type T) r) (hm : X.mg s = none) (hv : bootBuiltins s = some (.type T)) (ha : VA X (e :: es) σ H vs) (hr : RC r vs H z) (hg : Gl X s := by rfl) (hn : s ≠ "__name__" := by decide) (hdb : (s == ("__debug__" : Str)) = false := by decide)
    (he : starEach (e :: es) X.env = (false, eval e X.env) :: starEach es X.env := by rfl) (hpl : (backTo pos (starEach es X.env)).any (·.1) = false := by rfl) : VE X (.Call (.Name s p) (e :: es) [] pos) σ H z :=
  lift (pe_callTy hc hg hm hv paW hn hdb he hpl) (ev_cb ha hr)
/-- what such a call brings, by P -/
theorem v_tyD {T : String} {r : List V → Hp → VK → Prop} {P : V → Hp → Prop} (hc : CallR X (.type T) r) (hm : X.mg s = none) (hv : bootBuiltins s = some (.type T)) (ha : VA X (e :: es) σ H vs) (hr : ∀ H1, Ex H H1 → ∀ Q : VK, (∀ u H2, Ex H1 H2 → P u H2 → Q u H2) → r vs H1 Q) (hg : Gl X s := by rfl) (hn : s ≠ "__name__" := by decide) (hdb : (s == ("__debug__" : Str)) = false := by decide)
    (he : starEach (e :: es) X.env = (false, eval e X.env) :: starEach es X.env := by rfl) (hpl : (backTo pos (starEach es X.env)).any (·.1) = false := by rfl) : VD X (.Call (.Name s p) (e :: es) [] pos) σ H P :=
  liftD (pe_callTy hc hg hm hv paW hn hdb he hpl) fun H1 e1 Q g => ha H1 e1 _ fun H2 e2 => hr H2 (e1.trans e2) Q fun u H3 e3 hu => g u H3 (e2.trans e3) hu
/-- the argument any value of which P is true -/
theorem v_ty1 {T : String} {r : List V → Hp → VK → Prop} {P P' : V → Hp → Prop} (hc : CallR X (.type T) r) (hm : X.mg s = none) (hv : bootBuiltins s = some (.type T)) (ha : VD X e σ H P) (hr : ∀ u H1, Ex H H1 → P u H1 → ∀ Q : VK, (∀ v H2, Ex H1 H2 → P' v H2 → Q v H2) → r [u] H1 Q) (hg : Gl X s := by rfl) (hn : s ≠ "__name__" := by decide) (hdb : (s == ("__debug__" : Str)) = false := by decide)
    (he : starEach [e] X.env = (false, eval e X.env) :: starEach [] X.env := by rfl) (hpl : (backTo pos (starEach [] X.env)).any (·.1) = false := by rfl) : VD X (.Call (.Name s p) [e] [] pos) σ H P' :=
  liftD (pe_callTy hc hg hm hv (pa_cons peW pa_nil he) hn hdb he hpl) fun H1 e1 Q g => ha H1 e1 _ fun u H2 e2 hu => hr u H2 (e1.trans e2) hu Q fun v H3 e3 hv => g v H3 (e2.trans e3) hv
theorem v_bi1 {id : String} {r : List V → Hp → VK → Prop} {P P' : V → Hp → Prop} (hc : CallR X (.builtin id) r) (hm : X.mg s = none) (hv : bootBuiltins s = some (.builtin id)) (ha : VD X e σ H P) (hr : ∀ u H1, Ex H H1 → P u H1 → ∀ Q : VK, (∀ v H2, Ex H1 H2 → P' v H2 → Q v H2) → r [u] H1 Q) (hg : Gl X s := by rfl) (hn : s ≠ "__name__" := by decide) (hdb : (s == ("__debug__" : Str)) = false := by decide)
    (he : starEach [e] X.env = (false, eval e X.env) :: starEach [] X.env := by rfl) (hpl : (backTo pos (starEach [] X.env)).any (·.1) = false := by rfl) : VD X (.Call (.Name s p) [e] [] pos) σ H P' :=
  liftD (pe_callB hc hg hm hv (pa_cons peW pa_nil he) hn hdb he hpl) fun H1 e1 Q g => ha H1 e1 _ fun u H2 e2 hu => hr u H2 (e1.trans e2) hu Q fun v H3 e3 hv => g v H3 (e2.trans e3) hv
/-- a value that does not hang on the heap, from a P -/
theorem vdv (h : VD X e σ H (fun u _ => u = v)) : VE X e σ H v := fun H1 e1 Q g => h H1 e1 Q fun u H2 e2 hu => by rw [hu]; exact g H2 e2

theorem v_max2 (fr : Fre X.mg) (ha : VE X a σ H (.int i)) (hb : VE X b σ H (.int j)) (hg : Gl X "max" := by rfl) (hc : X.calm = true := by rfl)
    (hs : starEach [a, b] X.env = (false, eval a X.env) :: starEach [b] X.env := by rfl) (hs2 : starEach [b] X.env = (false, eval b X.env) :: starEach [] X.env := by rfl) (hpl : (backTo pos (starEach [b] X.env)).any (·.1) = false := by rfl) : VE X (.Call (.Name "max" p) [a, b] [] pos) σ H (.int (max i j)) :=
  lift (pe_callB (call_max2 hc) hg fr.max_ boot_max paW (by decide) (by decide) hs hpl) (ev_cb (a_cons ha (a_cons hb a_nil hs2) hs) fun H1 _ Q q => ⟨i, j, rfl, by
    have e : (if j > i then j else i) = max i j := by omega
    rw [e]; exact q H1 (Ex.refl H1)⟩)
theorem v_min2 (fr : Fre X.mg) (ha : VE X a σ H (.int i)) (hb : VE X b σ H (.int j)) (hg : Gl X "min" := by rfl) (hc : X.calm = true := by rfl)
    (hs : starEach [a, b] X.env = (false, eval a X.env) :: starEach [b] X.env := by rfl) (hs2 : starEach [b] X.env = (false, eval b X.env) :: starEach [] X.env := by rfl) (hpl : (backTo pos (starEach [b] X.env)).any (·.1) = false := by rfl) : VE X (.Call (.Name "min" p) [a, b] [] pos) σ H (.int (min i j)) :=
  lift (pe_callB (call_min2 hc) hg fr.min_ boot_min paW (by decide) (by decide) hs hpl) (ev_cb (a_cons ha (a_cons hb a_nil hs2) hs) fun H1 _ Q q => ⟨i, j, rfl, by
    have e : (if j < i then j else i) = min i j := by omega
    rw [e]; exact q H1 (Ex.refl H1)⟩)
theorem v_len (fr : Fre X.mg) (ha : VE X a σ H (.ref q)) (h : Sq X.K H q xs) (hg : Gl X "len" := by rfl) (hs : starEach [a] X.env = (false, eval a X.env) :: starEach [] X.env := by rfl) (hpl : (backTo pos (starEach [] X.env)).any (·.1) = false := by rfl) :
    VE X (.Call (.Name "len" p) [a] [] pos) σ H (.int (xs.length : Int)) :=
  v_bi call_len_seq fr.len PySem.boot_len (a_cons ha a_nil hs) (fun H1 e1 Q g => ⟨q, xs, rfl, h.ex e1, g H1 (Ex.refl H1)⟩) hg (by decide) (by decide) hs hpl
/-- int of an int, of a bool -/
theorem v_int1 (fr : Fre X.mg) (ha : VE X a σ H (.int i)) (hg : Gl X "int" := by rfl) (hs : starEach [a] X.env = (false, eval a X.env) :: starEach [] X.env := by rfl) (hpl : (backTo pos (starEach [] X.env)).any (·.1) = false := by rfl) :
    VE X (.Call (.Name "int" p) [a] [] pos) σ H (.int i) :=
  v_ty call_int1 fr.int_ PyProof.Rows.boot_int (a_cons ha a_nil hs) (fun H1 e1 Q g => .inl ⟨i, rfl, g H1 (Ex.refl H1)⟩) hg (by decide) (by decide) hs hpl
theorem v_intB (fr : Fre X.mg) (ha : VE X a σ H (.bl k)) (hg : Gl X "int" := by rfl) (hs : starEach [a] X.env = (false, eval a X.env) :: starEach [] X.env := by rfl) (hpl : (backTo pos (starEach [] X.env)).any (·.1) = false := by rfl) :
    VE X (.Call (.Name "int" p) [a] [] pos) σ H (.int (if k = true then 1 else 0)) :=
  v_ty call_int1 fr.int_ PyProof.Rows.boot_int (a_cons ha a_nil hs) (fun H1 e1 Q g => .inr ⟨k, rfl, g H1 (Ex.refl H1)⟩) hg (by decide) (by decide) hs hpl
/-- list(xs), tuple(a new list), of a list or tuple -/
theorem v_list (fr : Fre X.mg) (ha : VE X a σ H (.ref q)) (h : Sq X.K H q xs) (hg : Gl X "list" := by rfl) (hs : starEach [a] X.env = (false, eval a X.env) :: starEach [] X.env := by rfl) (hpl : (backTo pos (starEach [] X.env)).any (·.1) = false := by rfl) :
    VL X (.Call (.Name "list" p) [a] [] pos) σ H xs :=
  liftL (pe_callTy call_list_of hg fr.list_ PyProof.Rows.boot_list paW (by decide) (by decide) hs hpl) (el_cb (a_cons ha a_nil hs) fun H1 e1 Q g => ⟨q, xs, rfl, h.ex e1, fun l hl => g l _ hl (Ex.new hl) upd_same⟩)
theorem v_tupL (fr : Fre X.mg) (ha : VL X a σ H xs) (hg : Gl X "tuple" := by rfl) (hs : starEach [a] X.env = (false, eval a X.env) :: starEach [] X.env := by rfl) (hpl : (backTo pos (starEach [] X.env)).any (·.1) = false := by rfl) :
    VU X (.Call (.Name "tuple" p) [a] [] pos) σ H xs := fun H1 e1 Q g =>
  ofE (pe_callTy call_tuple_of hg fr.tuple_ PyProof.Rows.boot_tuple (pa_cons peW pa_nil hs) (by decide) (by decide) hs hpl) (ha H1 e1 _ fun q H2 hq e2 h2 => ⟨q, xs, rfl, .inl ⟨sq_of h2, fun l hl => g l _ (fresh_back e2 hl) (e2.trans (Ex.new hl)) upd_same⟩⟩)
/-- tuple(xs) of a list or tuple that stands: a tuple, it may be the same -/
theorem v_tupS (fr : Fre X.mg) (ha : VE X a σ H (.ref q)) (h : Sq X.K H q xs) (hg : Gl X "tuple" := by rfl) (hs : starEach [a] X.env = (false, eval a X.env) :: starEach [] X.env := by rfl) (hpl : (backTo pos (starEach [] X.env)).any (·.1) = false := by rfl) :
    VD X (.Call (.Name "tuple" p) [a] [] pos) σ H (fun u H2 => ∃ r, u = .ref r ∧ SqT X.K H2 r xs) := fun H1 e1 Q g =>
  ofE (pe_callTy call_tuple_of hg fr.tuple_ PyProof.Rows.boot_tuple (pa_cons peW pa_nil hs) (by decide) (by decide) hs hpl) (ha H1 e1 _ fun H2 e2 => by
    rcases h with h | h
    · exact ⟨q, xs, rfl, .inl ⟨ex_l (e1.trans e2) h, fun l hl => g _ _ (e2.trans (Ex.new hl)) ⟨l, rfl, st_of upd_same⟩⟩⟩
    · exact ⟨q, xs, rfl, .inr ⟨ex_t (e1.trans e2) h, g _ _ e2 ⟨q, rfl, ex_t (e1.trans e2) h⟩⟩⟩)
/-- min, max of a new list of ints -/
theorem v_minL (fr : Fre X.mg) {ns : List Int} (ha : VL X a σ H (ns.map V.int)) (hne : 0 < ns.length) (hi : i ∈ ns) (hle : ∀ y ∈ ns, i ≤ y) (hg : Gl X "min" := by rfl) (hc : X.calm = true := by rfl) (hs : starEach [a] X.env = (false, eval a X.env) :: starEach [] X.env := by rfl) (hpl : (backTo pos (starEach [] X.env)).any (·.1) = false := by rfl) :
    VE X (.Call (.Name "min" p) [a] [] pos) σ H (.int i) := fun H1 e1 Q g =>
  ofE (pe_callB (cr_min hc) hg fr.min_ boot_min (pa_cons peW pa_nil hs) (by decide) (by decide) hs hpl) (ha H1 e1 _ fun q H2 hq e2 h2 => ⟨q, ns, rfl, sq_of h2, hne, fun m hm hl => by
    have e : m = i := Int.le_antisymm (hl i hi) (hle m hm)
    rw [e]
    exact g H2 e2⟩)
theorem v_maxL (fr : Fre X.mg) {ns : List Int} (ha : VL X a σ H (ns.map V.int)) (hne : 0 < ns.length) (hi : i ∈ ns) (hle : ∀ y ∈ ns, y ≤ i) (hg : Gl X "max" := by rfl) (hc : X.calm = true := by rfl) (hs : starEach [a] X.env = (false, eval a X.env) :: starEach [] X.env := by rfl) (hpl : (backTo pos (starEach [] X.env)).any (·.1) = false := by rfl) :
    VE X (.Call (.Name "max" p) [a] [] pos) σ H (.int i) := fun H1 e1 Q g =>
  ofE (pe_callB (cr_max hc) hg fr.max_ boot_max (pa_cons peW pa_nil hs) (by decide) (by decide) hs hpl) (ha H1 e1 _ fun q H2 hq e2 h2 => ⟨q, ns, rfl, sq_of h2, hne, fun m hm hl => by
    have e : m = i := Int.le_antisymm (hle m hm) (hl i hi)
    rw [e]
    exact g H2 e2⟩)
/-- displays -/
theorem v_lst {pos} (h : VA X es σ H vs) (hl : vs.length ≤ 100000) : VL X (.List es pos) σ H vs := liftL (pe_lst paW) (el_lst h hl)
theorem v_tup {pos m} (h : VA X es σ H vs) (hl : vs.length ≤ 100000) : VU X (.Tuple es m pos) σ H vs := liftU (pe_tup paW) (eu_tup h hl)
/-- a new list times an int -/
theorem v_repL (ha : VL X a σ H xs) (hb : VE X b σ H (.int (n : Int))) (hn : n ≤ 100) (hx : xs.length ≤ 100) : VL X (.BinOp a .Mult b pos) σ H (List.replicate n xs).flatten := fun H1 e1 Q g =>
  ofE (pe_op op_rep peW peW) (ha H1 e1 _ fun q H2 hq e2 h2 => hb H2 (e1.trans e2) _ fun H3 e3 => ⟨q, (n : Int), xs, rfl, rfl, e3 _ _ h2, by omega, by omega, by
    rw [show ((n : Int)).toNat = n from rfl]
    exact Nat.le_trans (Nat.mul_le_mul hx hn) (by decide), fun l hl => by
    rw [show ((n : Int)).toNat = n from rfl]
    exact g l _ (fresh_back (e2.trans e3) hl) ((e2.trans e3).trans (Ex.new hl)) upd_same⟩)

/-! ### loops -/
theorem sq_at {K : PySem.W.Frag} (hq : Sq K H q xs) (hk : ∀ o, H q = some o → H' q = some o) : Sq K H' q xs := by
  rcases hq with ((h | ⟨o, h⟩) | h) | ((h | ⟨o, h⟩) | h)
  · exact .inl (.inl (.inl (hk _ h)))
  · exact .inl (.inl (.inr ⟨o, hk _ h⟩))
  · exact .inl (.inr h)
  · exact .inr (.inl (.inl (hk _ h)))
  · exact .inr (.inl (.inr ⟨o, hk _ h⟩))
  · exact .inr (.inr h)
/-- for x in xs: xs a list or a tuple that stands still (as it stands in Hb) -/
theorem w_forS {Hb : Hp} (lw : LV X n s) (h : VE X it σ H (.ref q)) (hq : Sq X.K Hb q xs) (Pv : Nat → L2.St → Hp → Prop) (hk : ∀ i σ' H', Pv i σ' H' → ∀ o, Hb q = some o → H' q = some o) (h0 : ∀ H1, Ex H H1 → Pv 0 σ H1)
    (hs : ∀ i x σ' H', xs[i]? = some x → Pv i σ' H' → WS X body { D0 with nx := Pv (i + 1), ct := Pv (i + 1), bk := fun σ' H' => WS X rest D0 σ' H' } (σ'.set n (some x)) H') (hd : ∀ σ' H', Pv xs.length σ' H' → WS X rest D0 σ' H')
    (hp : PassesOwn (model X.prog X.w) X.A X.env X.xe := by exact passes_of rfl) (hc : X.calm = true := by rfl) (hf : ∀ x, foldedSetIterable it X.env x = pure x := by intro _; rfl) : WS X (.For (.Name s p) it body [] pos :: rest) D0 σ H := by
  have hr : ∀ i σ' H', Pv i σ' H' → Sq X.K H' q xs := fun i σ' H' hP => sq_at hq (hk i σ' H' hP)
  rcases hq with hq | hq
  · have hL : ∀ i σ' H', Pv i σ' H' → SqL X.K H' q xs := fun i σ' H' hP => by
      have z := hk i σ' H' hP
      rcases hq with (hq | ⟨o, hq⟩) | hq
      · exact .inl (.inl (z _ hq))
      · exact .inl (.inr ⟨o, z _ hq⟩)
      · exact .inr hq
    exact w_cons (ps_for hp hc (pi_list peW) (pg_name lw.nd lw.ix lw.loc lw.fn) pssW hf)
      (s_forL (D := { D0 with nx := fun σ' H' => WS X rest D0 σ' H' }) h (hL 0 σ H (h0 H (Ex.refl H))) Pv h0 (fun i σ' H' _ hP => hL i σ' H' hP) (fun i x σ' H' hx hP => hs i x σ' H' hx hP) hd)
  · have hL : ∀ i σ' H', Pv i σ' H' → SqT X.K H' q xs := fun i σ' H' hP => by
      have z := hk i σ' H' hP
      rcases hq with (hq | ⟨o, hq⟩) | hq
      · exact .inl (.inl (z _ hq))
      · exact .inl (.inr ⟨o, z _ hq⟩)
      · exact .inr hq
    exact w_cons (ps_for hp hc (pi_tup peW) (pg_name lw.nd lw.ix lw.loc lw.fn) pssW hf)
      (s_forT (D := { D0 with nx := fun σ' H' => WS X rest D0 σ' H' }) h (hL 0 σ H (h0 H (Ex.refl H))) Pv h0 (fun i σ' H' _ hP => hL i σ' H' hP) (fun i x σ' H' hx hP => hs i x σ' H' hx hP) hd)
/-- for x in range(e) -/
theorem w_forR (fr : Fre X.mg) (lw : LV X n s) (h : VE X a σ H (.int j)) (hj : 0 ≤ j ∧ j ≤ 100000) (Pv : Nat → L2.St → Hp → Prop) (h0 : ∀ H1, Ex H H1 → Pv 0 σ H1)
    (hs : ∀ (i : Nat) σ' H', (i : Int) < j → Pv i σ' H' → WS X body { D0 with nx := Pv (i + 1), ct := Pv (i + 1), bk := fun σ' H' => WS X rest D0 σ' H' } (σ'.set n (some (.int (i : Int)))) H') (hd : ∀ σ' H', Pv j.toNat σ' H' → WS X rest D0 σ' H')
    (hg : Gl X "range" := by rfl) (hp : PassesOwn (model X.prog X.w) X.A X.env X.xe := by exact passes_of rfl) (hc : X.calm = true := by rfl) (hst : starEach [a] X.env = (false, eval a X.env) :: starEach [] X.env := by rfl) (hst2 : starEach [a] X.env = [(false, eval a X.env)] := by rfl)
    (hf : ∀ x, foldedSetIterable (.Call (.Name "range" p2) [a] [] p3) X.env x = pure x := by intro _; rfl) :
    WS X (.For (.Name s p) (.Call (.Name "range" p2) [a] [] p3) body [] pos :: rest) D0 σ H :=
  w_cons (ps_for hp hc (pi_range1 hg fr.range_ paW hst2) (pg_name lw.nd lw.ix lw.loc lw.fn) pssW hf) (s_forR1 (D := { D0 with nx := fun σ' H' => WS X rest D0 σ' H' }) (a_cons h a_nil hst) hj Pv h0 hs hd)
/-- for x in range(2, e) -/
theorem w_forR2 (fr : Fre X.mg) (lw : LV X n s) {lo : Int} (h1 : VE X a σ H (.int lo)) (h2 : VE X b σ H (.int j)) (hj : 0 ≤ lo ∧ lo ≤ 100000 ∧ -100000 ≤ j ∧ j ≤ 100000) (Pv : Nat → L2.St → Hp → Prop) (h0 : ∀ H1, Ex H H1 → Pv 0 σ H1)
    (hs : ∀ (i : Nat) σ' H', lo + (i : Int) < j → Pv i σ' H' → WS X body { D0 with nx := Pv (i + 1), ct := Pv (i + 1), bk := fun σ' H' => WS X rest D0 σ' H' } (σ'.set n (some (.int (lo + (i : Int))))) H') (hd : ∀ σ' H', Pv (j - lo).toNat σ' H' → WS X rest D0 σ' H')
    (hg : Gl X "range" := by rfl) (hp : PassesOwn (model X.prog X.w) X.A X.env X.xe := by exact passes_of rfl) (hc : X.calm = true := by rfl) (hst : starEach [a, b] X.env = [(false, eval a X.env), (false, eval b X.env)] := by rfl) (hst2 : starEach [b] X.env = [(false, eval b X.env)] := by rfl)
    (hst3 : starEach [a, b] X.env = (false, eval a X.env) :: starEach [b] X.env := by rfl) (hst4 : starEach [b] X.env = (false, eval b X.env) :: starEach [] X.env := by rfl)
    (hf : ∀ x, foldedSetIterable (.Call (.Name "range" p2) [a, b] [] p3) X.env x = pure x := by intro _; rfl) :
    WS X (.For (.Name s p) (.Call (.Name "range" p2) [a, b] [] p3) body [] pos :: rest) D0 σ H :=
  w_cons (ps_for hp hc (pi_range2 hg fr.range_ paW hst hst2) (pg_name lw.nd lw.ix lw.loc lw.fn) pssW hf) (s_forR2 (D := { D0 with nx := fun σ' H' => WS X rest D0 σ' H' }) (a_cons h1 (a_cons h2 a_nil hst4) hst3) hj Pv h0 hs hd)
/-- while, by a word that falls -/
theorem w_while (W : Nat → L2.St → Hp → Prop) (m0 : Nat) (h0 : W m0 σ H)
    (hs : ∀ m σ' H', W m σ' H' → ∃ b, VT X c σ' H' b ∧ (b = true → ∀ H1, Ex H' H1 → ∃ N : L2.St → Hp → Prop, (∀ σ2 H2, N σ2 H2 → ∃ m', m' < m ∧ W m' σ2 H2) ∧ WS X body { D0 with nx := N, ct := N, bk := fun σ' H' => WS X rest D0 σ' H' } σ' H1) ∧ (b = false → ∀ H1, Ex H' H1 → WS X rest D0 σ' H1))
    (hp : PassesOwn (model X.prog X.w) X.A X.env X.xe := by exact passes_of rfl) : WS X (.While c body [] pos :: rest) D0 σ H :=
  w_cons (ps_while hp ptW pssW) (s_while (D := { D0 with nx := fun σ' H' => WS X rest D0 σ' H' }) W m0 h0 hs)
/-- name += e -/
theorem w_aug (lw : LV X n s) (hx : σ[n]? = some (some (.int i))) (h : VE X e σ H (.int j)) (k : ∀ H1, Ex H H1 → WS X rest D0 (σ.set n (some (.int (i + j)))) H1) : WS X (.AugAssign (.Name s p) .Add e pos :: rest) D0 σ H :=
  w_cons (ps_aug lw.nd lw.ix lw.loc peW ip_add lw.fn) (s_aug hx h k)
/-- xs.append(e) -/
theorem w_app (hl : H q = some (.lst xs)) (ha : VE X o σ H (.ref q)) (h : VE X e σ H v) (hz : xs.length < 100000) (k : ∀ H1, Ex H H1 → WS X rest D0 σ (upd H1 q (.lst (xs ++ [v]))))
    (hbase : attributeBase o "append" X.env (eval o X.env) = eval o X.env := by rfl)
    (hfew : ((backTo pos (starEach [e] X.env)).all (fun x => !x.1) && (backToKw pos (keywordEach [] X.env)).all (fun x => x.1.isSome) && decide ([e].length + ([] : List Keyword).length + (if ([] : List Keyword).isEmpty then 0 else 1) < 30)) = true := by rfl)
    (hline : (p.endLine == pos.line) = true := by rfl) (hs : starEach [e] X.env = (false, eval e X.env) :: starEach [] X.env := by rfl) (hplain : (backTo pos (starEach [] X.env)).any (·.1) = false := by rfl)
    (hsw : swapsWith (.Call (.Attribute o "append" p) [e] [] pos) none p2.line X.env = pure false := by rfl) :
    WS X (.Expr (.Call (.Attribute o "append" p) [e] [] pos) p2 :: rest) D0 σ H :=
  w_cons (ps_expr (pe_bm PySem.F.plainAttrs_list PySem.F.slot_list_append PySem.F.type_list_append mt_append peW (pa_cons peW pa_nil hs) hbase hfew hline hs hplain) hsw) (s_app (D := { D0 with nx := fun σ' H' => WS X rest D0 σ' H' }) hl ha h hz k)
/-- .. the new item any thing of which P is true -/
theorem w_appD {P : V → Hp → Prop} (hl : H q = some (.lst xs)) (ha : VE X o σ H (.ref q)) (h : VD X e σ H P) (hz : xs.length < 100000) (k : ∀ v H1, Ex H H1 → P v H1 → WS X rest D0 σ (upd H1 q (.lst (xs ++ [v]))))
    (hbase : attributeBase o "append" X.env (eval o X.env) = eval o X.env := by rfl)
    (hfew : ((backTo pos (starEach [e] X.env)).all (fun x => !x.1) && (backToKw pos (keywordEach [] X.env)).all (fun x => x.1.isSome) && decide ([e].length + ([] : List Keyword).length + (if ([] : List Keyword).isEmpty then 0 else 1) < 30)) = true := by rfl)
    (hline : (p.endLine == pos.line) = true := by rfl) (hs : starEach [e] X.env = (false, eval e X.env) :: starEach [] X.env := by rfl) (hplain : (backTo pos (starEach [] X.env)).any (·.1) = false := by rfl)
    (hsw : swapsWith (.Call (.Attribute o "append" p) [e] [] pos) none p2.line X.env = pure false := by rfl) :
    WS X (.Expr (.Call (.Attribute o "append" p) [e] [] pos) p2 :: rest) D0 σ H :=
  w_cons (ps_expr (pe_bm PySem.F.plainAttrs_list PySem.F.slot_list_append PySem.F.type_list_append mt_append peW (pa_cons peW pa_nil hs) hbase hfew hline hs hplain) hsw) (ha H (Ex.refl H) _ fun H1 e1 =>
    ⟨Or.inl ⟨rfl, xs, sq_of (e1 q _ hl)⟩, h H1 e1 _ fun v H2 e2 hv => ⟨q, xs, v, rfl, rfl, e2 q _ (e1 q _ hl), sz_lt hz, k v H2 (e1.trans e2) hv⟩⟩)
/-- xs[i] = e -/
theorem w_setix (hl : H q = some (.lst xs)) (h : VE X e σ H v) (ho : VE X o σ H (.ref q)) (hi : VE X a σ H (.int (n : Int))) (hj : n < xs.length) (k : ∀ H1, Ex H H1 → WS X rest D0 σ (upd H1 q (.lst (xs.set n v))))
    (ha : ∀ v, assign (.Subscript o a p) X.env v = (do
      let ov ← holding [v] (eval o X.env)
      let iv ← holding [v, ov] (eval a X.env)
      standAt p
      holding [v, ov, iv] (setItem ov iv v)
      release [v, ov, iv] []) := by intro _; rfl)
    (hs : swapsWithSole [.Subscript o a p] e pos.line X.env = pure false := by rfl) (hw : swappedStores [.Subscript o a p] e X.env = pure none := by rfl) (h1 : (assignEach [.Subscript o a p] X.env).map (·.2) = [assign (.Subscript o a p) X.env] := by rfl) :
    WS X (.Assign [.Subscript o a p] e pos :: rest) D0 σ H :=
  w_cons (ps_asg peW (pg_sub peW peW set_list ha) hs hw h1) (s_setL (D := { D0 with nx := fun σ' H' => WS X rest D0 σ' H' }) hl h ho hi hj k)
end
end Wk
end
/-! ### PwFacts -/
section
set_option linter.all false
set_option maxRecDepth 100000
set_option maxHeartbeats 4000000
namespace PwH
open PySem PySem.Spec PyProof.Rows L2 Evl Pw Wk
/-- what the top has left -/
structure Hd (K : PySem.W.Frag) (mg : Str → Option Value) : Prop where
  says : SaysP exB fns K
  glo : ∀ x, (He.Fa.glo x).ok K = true → mg x = some (.ref (He.ga K x))
  free : ∀ x, (He.Fa.free x).ok K = true → mg x = none
  nums : ∀ x i, (He.Fa.int x i).ok K = true → ∃ t, mg x = some (.int i t)
section
variable {K : PySem.W.Frag} {mg : Str → Option Value}
theorem Hd.of {h : Heap} (X : K.In h) (G : h.Ns mainGlobals mg) (c : SaysP exB fns K) : Hd K mg := ⟨c, fun _ z => He.glo_ok X G z, fun _ z => He.free_ok X G z, fun _ _ z => He.int_ok X G z⟩
theorem Hd.p0 (T : Hd K mg) : exP0 K = true := (He.ba T.says.exs).1
theorem Hd.p1 (T : Hd K mg) : exP1 K = true := (He.ba (He.ba T.says.exs).2).1
theorem Hd.p2 (T : Hd K mg) : exP2 K = true := (He.ba (He.ba T.says.exs).2).2
theorem Hd.faG (T : Hd K mg) (i : Nat) {f : He.Fa} (h : PwH.faG[i]? = some f) : f.ok K = true := by
  have e := (He.ba T.p0).1
  exact List.all_eq_true.mp e f (List.mem_of_getElem? h)
theorem Hd.faG2 (T : Hd K mg) (i : Nat) {f : He.Fa} (h : PwH.faG2[i]? = some f) : f.ok K = true := by
  have e := (He.ba (He.ba T.p0).2).1
  exact List.all_eq_true.mp e f (List.mem_of_getElem? h)
theorem Hd.faF (T : Hd K mg) (i : Nat) {f : He.Fa} (h : PwH.faF[i]? = some f) : f.ok K = true := by
  have e := (He.ba (He.ba (He.ba T.p0).2).2).1
  exact List.all_eq_true.mp e f (List.mem_of_getElem? h)
theorem Hd.fn (T : Hd K mg) (i : Nat) {d : DefX} {x : Str} (h : fns[i]? = some d) (ha : d.at_ K = He.ga K x) (hd : d.dvs K = []) (hm : mg x = some (.ref (He.ga K x))) : ∃ (f : Addr) (fd : FuncData), FunD K d.name d.qual (defArgs d.st) (defBody d.st) (defScope d.st) [] [] f fd ∧ mg x = some (.ref f) := by
  obtain ⟨fd, F⟩ := T.says.def_ i h
  have F' : FunD K d.name d.qual (defArgs d.st) (defBody d.st) (defScope d.st) (d.dvs K) [] (d.at_ K) fd := F
  rw [hd, ha] at F'
  exact ⟨_, fd, F', hm⟩
theorem Hd.fre (T : Hd K mg) : Fre mg := ⟨T.free _ (T.faF 0 rfl), T.free _ (T.faF 1 rfl), T.free _ (T.faF 2 rfl), T.free _ (T.faF 3 rfl), T.free _ (T.faF 4 rfl), T.free _ (T.faF 5 rfl), T.free _ (T.faF 6 rfl), T.free _ (T.faF 7 rfl), T.free _ (T.faF 8 rfl), T.free _ (T.faF 9 rfl), T.free _ (T.faF 10 rfl), T.free _ (T.faF 11 rfl), T.free _ (T.faF 12 rfl), T.free _ (T.faF 13 rfl)⟩

theorem g__wall (T : Hd K mg) : mg "_wall" = some (.ref (He.ga K "_wall")) := T.glo _ (T.faG 0 rfl)
theorem g_PurseError (T : Hd K mg) : mg "PurseError" = some (.ref (He.ga K "PurseError")) := T.glo _ (T.faG 1 rfl)
theorem g_WrongKind (T : Hd K mg) : mg "WrongKind" = some (.ref (He.ga K "WrongKind")) := T.glo _ (T.faG 2 rfl)
theorem g_WrongNumber (T : Hd K mg) : mg "WrongNumber" = some (.ref (He.ga K "WrongNumber")) := T.glo _ (T.faG 3 rfl)
theorem g_WrongWeb (T : Hd K mg) : mg "WrongWeb" = some (.ref (He.ga K "WrongWeb")) := T.glo _ (T.faG 4 rfl)
theorem g_TooMuch (T : Hd K mg) : mg "TooMuch" = some (.ref (He.ga K "TooMuch")) := T.glo _ (T.faG 5 rfl)
theorem g_is_integer (T : Hd K mg) : mg "is_integer" = some (.ref (He.ga K "is_integer")) := T.glo _ (T.faG 6 rfl)
theorem g_need_integer (T : Hd K mg) : mg "need_integer" = some (.ref (He.ga K "need_integer")) := T.glo _ (T.faG 7 rfl)
theorem g_need_list (T : Hd K mg) : mg "need_list" = some (.ref (He.ga K "need_list")) := T.glo _ (T.faG 8 rfl)
theorem g_need_from (T : Hd K mg) : mg "need_from" = some (.ref (He.ga K "need_from")) := T.glo _ (T.faG 9 rfl)
theorem g_need_between (T : Hd K mg) : mg "need_between" = some (.ref (He.ga K "need_between")) := T.glo _ (T.faG 10 rfl)
theorem g_need_up_to (T : Hd K mg) : mg "need_up_to" = some (.ref (He.ga K "need_up_to")) := T.glo _ (T.faG 11 rfl)
theorem g_need_integers (T : Hd K mg) : mg "need_integers" = some (.ref (He.ga K "need_integers")) := T.glo _ (T.faG 12 rfl)
theorem g_as_stands (T : Hd K mg) : mg "as_stands" = some (.ref (He.ga K "as_stands")) := T.glo _ (T.faG 13 rfl)
theorem g_has_due_kind (T : Hd K mg) : mg "has_due_kind" = some (.ref (He.ga K "has_due_kind")) := T.glo _ (T.faG 14 rfl)
theorem g_has_due_range (T : Hd K mg) : mg "has_due_range" = some (.ref (He.ga K "has_due_range")) := T.glo _ (T.faG 15 rfl)
theorem g_kept_due (T : Hd K mg) : mg "kept_due" = some (.ref (He.ga K "kept_due")) := T.glo _ (T.faG 16 rfl)
theorem g_due_at (T : Hd K mg) : mg "due_at" = some (.ref (He.ga K "due_at")) := T.glo _ (T.faG 17 rfl)
theorem g_due_row (T : Hd K mg) : mg "due_row" = some (.ref (He.ga K "due_row")) := T.glo _ (T.faG 18 rfl)
theorem g_half_of (T : Hd K mg) : mg "half_of" = some (.ref (He.ga K "half_of")) := T.glo _ (T.faG 19 rfl)
theorem g__look_kinds (T : Hd K mg) : mg "_look_kinds" = some (.ref (He.ga K "_look_kinds")) := T.glo _ (T.faG 20 rfl)
theorem g__look_stand (T : Hd K mg) : mg "_look_stand" = some (.ref (He.ga K "_look_stand")) := T.glo _ (T.faG 21 rfl)
theorem g__look_web (T : Hd K mg) : mg "_look_web" = some (.ref (He.ga K "_look_web")) := T.glo _ (T.faG 22 rfl)
theorem g_Web (T : Hd K mg) : mg "Web" = some (.ref (He.ga K "Web")) := T.glo _ (T.faG 23 rfl)
theorem g_need_web (T : Hd K mg) : mg "need_web" = some (.ref (He.ga K "need_web")) := T.glo _ (T.faG 24 rfl)
theorem g_need_moving (T : Hd K mg) : mg "need_moving" = some (.ref (He.ga K "need_moving")) := T.glo _ (T.faG 25 rfl)
theorem g_need_row (T : Hd K mg) : mg "need_row" = some (.ref (He.ga K "need_row")) := T.glo _ (T.faG 26 rfl)
theorem g_price_low (T : Hd K mg) : mg "price_low" = some (.ref (He.ga K "price_low")) := T.glo _ (T.faG 27 rfl)
theorem g_price_high (T : Hd K mg) : mg "price_high" = some (.ref (He.ga K "price_high")) := T.glo _ (T.faG 28 rfl)
theorem g_price_at (T : Hd K mg) : mg "price_at" = some (.ref (He.ga K "price_at")) := T.glo _ (T.faG 29 rfl)
theorem g_call_kinds (T : Hd K mg) : mg "call_kinds" = some (.ref (He.ga K "call_kinds")) := T.glo _ (T.faG 30 rfl)
theorem g_call_set (T : Hd K mg) : mg "call_set" = some (.ref (He.ga K "call_set")) := T.glo _ (T.faG 31 rfl)
theorem g_call_bounds (T : Hd K mg) : mg "call_bounds" = some (.ref (He.ga K "call_bounds")) := T.glo _ (T.faG 32 rfl)
theorem g_round_under (T : Hd K mg) : mg "round_under" = some (.ref (He.ga K "round_under")) := T.glo _ (T.faG 33 rfl)
theorem g_round_of (T : Hd K mg) : mg "round_of" = some (.ref (He.ga K "round_of")) := T.glo _ (T.faG 34 rfl)
theorem g_call_fall_out (T : Hd K mg) : mg "call_fall_out" = some (.ref (He.ga K "call_fall_out")) := T.glo _ (T.faG 35 rfl)
theorem g_call_count_out (T : Hd K mg) : mg "call_count_out" = some (.ref (He.ga K "call_count_out")) := T.glo _ (T.faG 36 rfl)
theorem g_forever_rising (T : Hd K mg) : mg "forever_rising" = some (.ref (He.ga K "forever_rising")) := T.glo _ (T.faG 37 rfl)
theorem g_forever_risen (T : Hd K mg) : mg "forever_risen" = some (.ref (He.ga K "forever_risen")) := T.glo _ (T.faG 38 rfl)
theorem g_forever_by_rises (T : Hd K mg) : mg "forever_by_rises" = some (.ref (He.ga K "forever_by_rises")) := T.glo _ (T.faG 39 rfl)
theorem g_Verdict (T : Hd K mg) : mg "Verdict" = some (.ref (He.ga K "Verdict")) := T.glo _ (T.faG2 0 rfl)
theorem g_raised_row (T : Hd K mg) : mg "raised_row" = some (.ref (He.ga K "raised_row")) := T.glo _ (T.faG2 1 rfl)
theorem g_need_ranks (T : Hd K mg) : mg "need_ranks" = some (.ref (He.ga K "need_ranks")) := T.glo _ (T.faG2 2 rfl)
theorem g_lessened_row (T : Hd K mg) : mg "lessened_row" = some (.ref (He.ga K "lessened_row")) := T.glo _ (T.faG2 3 rfl)
theorem g_call_above (T : Hd K mg) : mg "call_above" = some (.ref (He.ga K "call_above")) := T.glo _ (T.faG2 4 rfl)
theorem g_call_below (T : Hd K mg) : mg "call_below" = some (.ref (He.ga K "call_below")) := T.glo _ (T.faG2 5 rfl)
theorem g_call_above_at (T : Hd K mg) : mg "call_above_at" = some (.ref (He.ga K "call_above_at")) := T.glo _ (T.faG2 6 rfl)
theorem g_call_below_at (T : Hd K mg) : mg "call_below_at" = some (.ref (He.ga K "call_below_at")) := T.glo _ (T.faG2 7 rfl)
theorem g_call_half_look (T : Hd K mg) : mg "call_half_look" = some (.ref (He.ga K "call_half_look")) := T.glo _ (T.faG2 8 rfl)
theorem g_half_above (T : Hd K mg) : mg "half_above" = some (.ref (He.ga K "half_above")) := T.glo _ (T.faG2 9 rfl)
theorem g_half_below (T : Hd K mg) : mg "half_below" = some (.ref (He.ga K "half_below")) := T.glo _ (T.faG2 10 rfl)
theorem g_CallPaper (T : Hd K mg) : mg "CallPaper" = some (.ref (He.ga K "CallPaper")) := T.glo _ (T.faG2 11 rfl)
theorem g__law_pot (T : Hd K mg) : mg "_law_pot" = some (.ref (He.ga K "_law_pot")) := T.glo _ (T.faG2 12 rfl)
theorem g__law_draw (T : Hd K mg) : mg "_law_draw" = some (.ref (He.ga K "_law_draw")) := T.glo _ (T.faG2 13 rfl)
theorem g__law_whole (T : Hd K mg) : mg "_law_whole" = some (.ref (He.ga K "_law_whole")) := T.glo _ (T.faG2 14 rfl)
theorem g__law_is_row (T : Hd K mg) : mg "_law_is_row" = some (.ref (He.ga K "_law_is_row")) := T.glo _ (T.faG2 15 rfl)
theorem g__law_lot (T : Hd K mg) : mg "_law_lot" = some (.ref (He.ga K "_law_lot")) := T.glo _ (T.faG2 16 rfl)
theorem g__law_due (T : Hd K mg) : mg "_law_due" = some (.ref (He.ga K "_law_due")) := T.glo _ (T.faG2 17 rfl)
theorem g__law_marks (T : Hd K mg) : mg "_law_marks" = some (.ref (He.ga K "_law_marks")) := T.glo _ (T.faG2 18 rfl)
theorem g__law_path (T : Hd K mg) : mg "_law_path" = some (.ref (He.ga K "_law_path")) := T.glo _ (T.faG2 19 rfl)
theorem g__law_web (T : Hd K mg) : mg "_law_web" = some (.ref (He.ga K "_law_web")) := T.glo _ (T.faG2 20 rfl)
theorem g__law_due_at (T : Hd K mg) : mg "_law_due_at" = some (.ref (He.ga K "_law_due_at")) := T.glo _ (T.faG2 21 rfl)
theorem g__law_half (T : Hd K mg) : mg "_law_half" = some (.ref (He.ga K "_law_half")) := T.glo _ (T.faG2 22 rfl)
theorem g__law_low (T : Hd K mg) : mg "_law_low" = some (.ref (He.ga K "_law_low")) := T.glo _ (T.faG2 23 rfl)
theorem g__law_high (T : Hd K mg) : mg "_law_high" = some (.ref (He.ga K "_law_high")) := T.glo _ (T.faG2 24 rfl)
theorem g__law_price (T : Hd K mg) : mg "_law_price" = some (.ref (He.ga K "_law_price")) := T.glo _ (T.faG2 25 rfl)
theorem g__law_calls (T : Hd K mg) : mg "_law_calls" = some (.ref (He.ga K "_law_calls")) := T.glo _ (T.faG2 26 rfl)
theorem g__law_round (T : Hd K mg) : mg "_law_round" = some (.ref (He.ga K "_law_round")) := T.glo _ (T.faG2 27 rfl)
theorem g__law_forever (T : Hd K mg) : mg "_law_forever" = some (.ref (He.ga K "_law_forever")) := T.glo _ (T.faG2 28 rfl)
theorem g__law_built (T : Hd K mg) : mg "_law_built" = some (.ref (He.ga K "_law_built")) := T.glo _ (T.faG2 29 rfl)
theorem g__law_above (T : Hd K mg) : mg "_law_above" = some (.ref (He.ga K "_law_above")) := T.glo _ (T.faG2 30 rfl)
theorem g__law_below (T : Hd K mg) : mg "_law_below" = some (.ref (He.ga K "_law_below")) := T.glo _ (T.faG2 31 rfl)
theorem g__law_call_ranks (T : Hd K mg) : mg "_law_call_ranks" = some (.ref (He.ga K "_law_call_ranks")) := T.glo _ (T.faG2 32 rfl)
theorem g__law_call_counts (T : Hd K mg) : mg "_law_call_counts" = some (.ref (He.ga K "_law_call_counts")) := T.glo _ (T.faG2 33 rfl)
theorem g__law_parts (T : Hd K mg) : mg "_law_parts" = some (.ref (He.ga K "_law_parts")) := T.glo _ (T.faG2 34 rfl)
theorem g__law_judged (T : Hd K mg) : mg "_law_judged" = some (.ref (He.ga K "_law_judged")) := T.glo _ (T.faG2 35 rfl)
theorem g__law_code (T : Hd K mg) : mg "_law_code" = some (.ref (He.ga K "_law_code")) := T.glo _ (T.faG2 36 rfl)
theorem g__law_alike (T : Hd K mg) : mg "_law_alike" = some (.ref (He.ga K "_law_alike")) := T.glo _ (T.faG2 37 rfl)
theorem g__law_refusals (T : Hd K mg) : mg "_law_refusals" = some (.ref (He.ga K "_law_refusals")) := T.glo _ (T.faG2 38 rfl)
theorem g_law (T : Hd K mg) : mg "law" = some (.ref (He.ga K "law")) := T.glo _ (T.faG2 39 rfl)
theorem sc_is_integer : FnScope ["thing"] ["thing"] (defScope s_is_integer) := ⟨rfl, rfl, rfl, by decide +kernel, rfl, by decide +kernel, by decide +kernel⟩
theorem F_is_integer (T : Hd K mg) : ∃ (f : Addr) (fd : FuncData), FunD K "is_integer" "is_integer" (defArgs s_is_integer) (defBody s_is_integer) (defScope s_is_integer) [] [] f fd ∧ mg "is_integer" = some (.ref f) := T.fn 0 (d := d_is_integer) rfl rfl rfl (g_is_integer T)
theorem B_is_integer (kV doc pm : Value) (an : Option Addr) (cdv ct : Value) (us : List Value) (hl : us.length = (["thing"] : List Str).length) : bindArgs (PySem.W.fnOf "is_integer" "is_integer" (defArgs s_is_integer) (defBody s_is_integer) (defScope s_is_integer) .none kV doc pm an cdv ct) ⟨us, []⟩ = pure ((["thing"] : List Str).zip us) := match us, hl with | [_], _ => by kernel_rfl
theorem sc_need_integer : FnScope ["thing", "what"] ["thing", "what"] (defScope s_need_integer) := ⟨rfl, rfl, rfl, by decide +kernel, rfl, by decide +kernel, by decide +kernel⟩
theorem F_need_integer (T : Hd K mg) : ∃ (f : Addr) (fd : FuncData), FunD K "need_integer" "need_integer" (defArgs s_need_integer) (defBody s_need_integer) (defScope s_need_integer) [] [] f fd ∧ mg "need_integer" = some (.ref f) := T.fn 1 (d := d_need_integer) rfl rfl rfl (g_need_integer T)
theorem B_need_integer (kV doc pm : Value) (an : Option Addr) (cdv ct : Value) (us : List Value) (hl : us.length = (["thing", "what"] : List Str).length) : bindArgs (PySem.W.fnOf "need_integer" "need_integer" (defArgs s_need_integer) (defBody s_need_integer) (defScope s_need_integer) .none kV doc pm an cdv ct) ⟨us, []⟩ = pure ((["thing", "what"] : List Str).zip us) := match us, hl with | [_, _], _ => by kernel_rfl
theorem sc_need_list : FnScope ["thing", "what"] ["thing", "what"] (defScope s_need_list) := ⟨rfl, rfl, rfl, by decide +kernel, rfl, by decide +kernel, by decide +kernel⟩
theorem F_need_list (T : Hd K mg) : ∃ (f : Addr) (fd : FuncData), FunD K "need_list" "need_list" (defArgs s_need_list) (defBody s_need_list) (defScope s_need_list) [] [] f fd ∧ mg "need_list" = some (.ref f) := T.fn 2 (d := d_need_list) rfl rfl rfl (g_need_list T)
theorem B_need_list (kV doc pm : Value) (an : Option Addr) (cdv ct : Value) (us : List Value) (hl : us.length = (["thing", "what"] : List Str).length) : bindArgs (PySem.W.fnOf "need_list" "need_list" (defArgs s_need_list) (defBody s_need_list) (defScope s_need_list) .none kV doc pm an cdv ct) ⟨us, []⟩ = pure ((["thing", "what"] : List Str).zip us) := match us, hl with | [_, _], _ => by kernel_rfl
theorem sc_need_from : FnScope ["number", "least", "what"] ["number", "least", "what"] (defScope s_need_from) := ⟨rfl, rfl, rfl, by decide +kernel, rfl, by decide +kernel, by decide +kernel⟩
theorem F_need_from (T : Hd K mg) : ∃ (f : Addr) (fd : FuncData), FunD K "need_from" "need_from" (defArgs s_need_from) (defBody s_need_from) (defScope s_need_from) [] [] f fd ∧ mg "need_from" = some (.ref f) := T.fn 3 (d := d_need_from) rfl rfl rfl (g_need_from T)
theorem B_need_from (kV doc pm : Value) (an : Option Addr) (cdv ct : Value) (us : List Value) (hl : us.length = (["number", "least", "what"] : List Str).length) : bindArgs (PySem.W.fnOf "need_from" "need_from" (defArgs s_need_from) (defBody s_need_from) (defScope s_need_from) .none kV doc pm an cdv ct) ⟨us, []⟩ = pure ((["number", "least", "what"] : List Str).zip us) := match us, hl with | [_, _, _], _ => by kernel_rfl
theorem sc_need_between : FnScope ["number", "least", "most", "what"] ["number", "least", "most", "what"] (defScope s_need_between) := ⟨rfl, rfl, rfl, by decide +kernel, rfl, by decide +kernel, by decide +kernel⟩
theorem F_need_between (T : Hd K mg) : ∃ (f : Addr) (fd : FuncData), FunD K "need_between" "need_between" (defArgs s_need_between) (defBody s_need_between) (defScope s_need_between) [] [] f fd ∧ mg "need_between" = some (.ref f) := T.fn 4 (d := d_need_between) rfl rfl rfl (g_need_between T)
theorem B_need_between (kV doc pm : Value) (an : Option Addr) (cdv ct : Value) (us : List Value) (hl : us.length = (["number", "least", "most", "what"] : List Str).length) : bindArgs (PySem.W.fnOf "need_between" "need_between" (defArgs s_need_between) (defBody s_need_between) (defScope s_need_between) .none kV doc pm an cdv ct) ⟨us, []⟩ = pure ((["number", "least", "most", "what"] : List Str).zip us) := match us, hl with | [_, _, _, _], _ => by kernel_rfl
theorem sc_need_up_to : FnScope ["number", "most", "what"] ["number", "most", "what"] (defScope s_need_up_to) := ⟨rfl, rfl, rfl, by decide +kernel, rfl, by decide +kernel, by decide +kernel⟩
theorem F_need_up_to (T : Hd K mg) : ∃ (f : Addr) (fd : FuncData), FunD K "need_up_to" "need_up_to" (defArgs s_need_up_to) (defBody s_need_up_to) (defScope s_need_up_to) [] [] f fd ∧ mg "need_up_to" = some (.ref f) := T.fn 5 (d := d_need_up_to) rfl rfl rfl (g_need_up_to T)
theorem B_need_up_to (kV doc pm : Value) (an : Option Addr) (cdv ct : Value) (us : List Value) (hl : us.length = (["number", "most", "what"] : List Str).length) : bindArgs (PySem.W.fnOf "need_up_to" "need_up_to" (defArgs s_need_up_to) (defBody s_need_up_to) (defScope s_need_up_to) .none kV doc pm an cdv ct) ⟨us, []⟩ = pure ((["number", "most", "what"] : List Str).zip us) := match us, hl with | [_, _, _], _ => by kernel_rfl
theorem sc_need_integers : FnScope ["thing", "what", "one_part"] ["thing", "what"] (defScope s_need_integers) := ⟨rfl, rfl, rfl, by decide +kernel, rfl, by decide +kernel, by decide +kernel⟩
theorem F_need_integers (T : Hd K mg) : ∃ (f : Addr) (fd : FuncData), FunD K "need_integers" "need_integers" (defArgs s_need_integers) (defBody s_need_integers) (defScope s_need_integers) [] [] f fd ∧ mg "need_integers" = some (.ref f) := T.fn 6 (d := d_need_integers) rfl rfl rfl (g_need_integers T)
theorem B_need_integers (kV doc pm : Value) (an : Option Addr) (cdv ct : Value) (us : List Value) (hl : us.length = (["thing", "what"] : List Str).length) : bindArgs (PySem.W.fnOf "need_integers" "need_integers" (defArgs s_need_integers) (defBody s_need_integers) (defScope s_need_integers) .none kV doc pm an cdv ct) ⟨us, []⟩ = pure ((["thing", "what"] : List Str).zip us) := match us, hl with | [_, _], _ => by kernel_rfl
theorem sc_as_stands : FnScope ["thing", "size", "one_stand"] ["thing", "size"] (defScope s_as_stands) := ⟨rfl, rfl, rfl, by decide +kernel, rfl, by decide +kernel, by decide +kernel⟩
theorem F_as_stands (T : Hd K mg) : ∃ (f : Addr) (fd : FuncData), FunD K "as_stands" "as_stands" (defArgs s_as_stands) (defBody s_as_stands) (defScope s_as_stands) [] [] f fd ∧ mg "as_stands" = some (.ref f) := T.fn 7 (d := d_as_stands) rfl rfl rfl (g_as_stands T)
theorem B_as_stands (kV doc pm : Value) (an : Option Addr) (cdv ct : Value) (us : List Value) (hl : us.length = (["thing", "size"] : List Str).length) : bindArgs (PySem.W.fnOf "as_stands" "as_stands" (defArgs s_as_stands) (defBody s_as_stands) (defScope s_as_stands) .none kV doc pm an cdv ct) ⟨us, []⟩ = pure ((["thing", "size"] : List Str).zip us) := match us, hl with | [_, _], _ => by kernel_rfl
theorem sc_has_due_kind : FnScope ["due"] ["due"] (defScope s_has_due_kind) := ⟨rfl, rfl, rfl, by decide +kernel, rfl, by decide +kernel, by decide +kernel⟩
theorem F_has_due_kind (T : Hd K mg) : ∃ (f : Addr) (fd : FuncData), FunD K "has_due_kind" "has_due_kind" (defArgs s_has_due_kind) (defBody s_has_due_kind) (defScope s_has_due_kind) [] [] f fd ∧ mg "has_due_kind" = some (.ref f) := T.fn 8 (d := d_has_due_kind) rfl rfl rfl (g_has_due_kind T)
theorem B_has_due_kind (kV doc pm : Value) (an : Option Addr) (cdv ct : Value) (us : List Value) (hl : us.length = (["due"] : List Str).length) : bindArgs (PySem.W.fnOf "has_due_kind" "has_due_kind" (defArgs s_has_due_kind) (defBody s_has_due_kind) (defScope s_has_due_kind) .none kV doc pm an cdv ct) ⟨us, []⟩ = pure ((["due"] : List Str).zip us) := match us, hl with | [_], _ => by kernel_rfl
theorem sc_has_due_range : FnScope ["due"] ["due"] (defScope s_has_due_range) := ⟨rfl, rfl, rfl, by decide +kernel, rfl, by decide +kernel, by decide +kernel⟩
theorem F_has_due_range (T : Hd K mg) : ∃ (f : Addr) (fd : FuncData), FunD K "has_due_range" "has_due_range" (defArgs s_has_due_range) (defBody s_has_due_range) (defScope s_has_due_range) [] [] f fd ∧ mg "has_due_range" = some (.ref f) := T.fn 9 (d := d_has_due_range) rfl rfl rfl (g_has_due_range T)
theorem B_has_due_range (kV doc pm : Value) (an : Option Addr) (cdv ct : Value) (us : List Value) (hl : us.length = (["due"] : List Str).length) : bindArgs (PySem.W.fnOf "has_due_range" "has_due_range" (defArgs s_has_due_range) (defBody s_has_due_range) (defScope s_has_due_range) .none kV doc pm an cdv ct) ⟨us, []⟩ = pure ((["due"] : List Str).zip us) := match us, hl with | [_], _ => by kernel_rfl
theorem sc_kept_due : FnScope ["due"] ["due"] (defScope s_kept_due) := ⟨rfl, rfl, rfl, by decide +kernel, rfl, by decide +kernel, by decide +kernel⟩
theorem F_kept_due (T : Hd K mg) : ∃ (f : Addr) (fd : FuncData), FunD K "kept_due" "kept_due" (defArgs s_kept_due) (defBody s_kept_due) (defScope s_kept_due) [] [] f fd ∧ mg "kept_due" = some (.ref f) := T.fn 10 (d := d_kept_due) rfl rfl rfl (g_kept_due T)
theorem B_kept_due (kV doc pm : Value) (an : Option Addr) (cdv ct : Value) (us : List Value) (hl : us.length = (["due"] : List Str).length) : bindArgs (PySem.W.fnOf "kept_due" "kept_due" (defArgs s_kept_due) (defBody s_kept_due) (defScope s_kept_due) .none kV doc pm an cdv ct) ⟨us, []⟩ = pure ((["due"] : List Str).zip us) := match us, hl with | [_], _ => by kernel_rfl
theorem sc_due_at : FnScope ["due", "k"] ["due", "k"] (defScope s_due_at) := ⟨rfl, rfl, rfl, by decide +kernel, rfl, by decide +kernel, by decide +kernel⟩
theorem F_due_at (T : Hd K mg) : ∃ (f : Addr) (fd : FuncData), FunD K "due_at" "due_at" (defArgs s_due_at) (defBody s_due_at) (defScope s_due_at) [] [] f fd ∧ mg "due_at" = some (.ref f) := T.fn 11 (d := d_due_at) rfl rfl rfl (g_due_at T)
theorem B_due_at (kV doc pm : Value) (an : Option Addr) (cdv ct : Value) (us : List Value) (hl : us.length = (["due", "k"] : List Str).length) : bindArgs (PySem.W.fnOf "due_at" "due_at" (defArgs s_due_at) (defBody s_due_at) (defScope s_due_at) .none kV doc pm an cdv ct) ⟨us, []⟩ = pure ((["due", "k"] : List Str).zip us) := match us, hl with | [_, _], _ => by kernel_rfl
theorem sc_due_row : FnScope ["dues", "k", "stand"] ["dues", "k"] (defScope s_due_row) := ⟨rfl, rfl, rfl, by decide +kernel, rfl, by decide +kernel, by decide +kernel⟩
theorem F_due_row (T : Hd K mg) : ∃ (f : Addr) (fd : FuncData), FunD K "due_row" "due_row" (defArgs s_due_row) (defBody s_due_row) (defScope s_due_row) [] [] f fd ∧ mg "due_row" = some (.ref f) := T.fn 12 (d := d_due_row) rfl rfl rfl (g_due_row T)
theorem B_due_row (kV doc pm : Value) (an : Option Addr) (cdv ct : Value) (us : List Value) (hl : us.length = (["dues", "k"] : List Str).length) : bindArgs (PySem.W.fnOf "due_row" "due_row" (defArgs s_due_row) (defBody s_due_row) (defScope s_due_row) .none kV doc pm an cdv ct) ⟨us, []⟩ = pure ((["dues", "k"] : List Str).zip us) := match us, hl with | [_, _], _ => by kernel_rfl
theorem sc_half_of : FnScope ["mark", "x", "y"] ["mark", "x", "y"] (defScope s_half_of) := ⟨rfl, rfl, rfl, by decide +kernel, rfl, by decide +kernel, by decide +kernel⟩
theorem F_half_of (T : Hd K mg) : ∃ (f : Addr) (fd : FuncData), FunD K "half_of" "half_of" (defArgs s_half_of) (defBody s_half_of) (defScope s_half_of) [] [] f fd ∧ mg "half_of" = some (.ref f) := T.fn 13 (d := d_half_of) rfl rfl rfl (g_half_of T)
theorem B_half_of (kV doc pm : Value) (an : Option Addr) (cdv ct : Value) (us : List Value) (hl : us.length = (["mark", "x", "y"] : List Str).length) : bindArgs (PySem.W.fnOf "half_of" "half_of" (defArgs s_half_of) (defBody s_half_of) (defScope s_half_of) .none kV doc pm an cdv ct) ⟨us, []⟩ = pure ((["mark", "x", "y"] : List Str).zip us) := match us, hl with | [_, _, _], _ => by kernel_rfl
theorem sc__look_kinds : FnScope ["first", "second", "marks", "dues", "lists", "one_list", "one_due"] ["first", "second", "marks", "dues"] (defScope s__look_kinds) := ⟨rfl, rfl, rfl, by decide +kernel, rfl, by decide +kernel, by decide +kernel⟩
theorem F__look_kinds (T : Hd K mg) : ∃ (f : Addr) (fd : FuncData), FunD K "_look_kinds" "_look_kinds" (defArgs s__look_kinds) (defBody s__look_kinds) (defScope s__look_kinds) [] [] f fd ∧ mg "_look_kinds" = some (.ref f) := T.fn 14 (d := d__look_kinds) rfl rfl rfl (g__look_kinds T)
theorem B__look_kinds (kV doc pm : Value) (an : Option Addr) (cdv ct : Value) (us : List Value) (hl : us.length = (["first", "second", "marks", "dues"] : List Str).length) : bindArgs (PySem.W.fnOf "_look_kinds" "_look_kinds" (defArgs s__look_kinds) (defBody s__look_kinds) (defScope s__look_kinds) .none kV doc pm an cdv ct) ⟨us, []⟩ = pure ((["first", "second", "marks", "dues"] : List Str).zip us) := match us, hl with | [_, _, _, _], _ => by kernel_rfl
theorem sc__look_stand : FnScope ["size", "first", "second", "mark", "due", "one_step"] ["size", "first", "second", "mark", "due"] (defScope s__look_stand) := ⟨rfl, rfl, rfl, by decide +kernel, rfl, by decide +kernel, by decide +kernel⟩
theorem F__look_stand (T : Hd K mg) : ∃ (f : Addr) (fd : FuncData), FunD K "_look_stand" "_look_stand" (defArgs s__look_stand) (defBody s__look_stand) (defScope s__look_stand) [] [] f fd ∧ mg "_look_stand" = some (.ref f) := T.fn 15 (d := d__look_stand) rfl rfl rfl (g__look_stand T)
theorem B__look_stand (kV doc pm : Value) (an : Option Addr) (cdv ct : Value) (us : List Value) (hl : us.length = (["size", "first", "second", "mark", "due"] : List Str).length) : bindArgs (PySem.W.fnOf "_look_stand" "_look_stand" (defArgs s__look_stand) (defBody s__look_stand) (defScope s__look_stand) .none kV doc pm an cdv ct) ⟨us, []⟩ = pure ((["size", "first", "second", "mark", "due"] : List Str).zip us) := match us, hl with | [_, _, _, _, _], _ => by kernel_rfl
theorem sc__look_web : FnScope ["first", "second", "marks", "dues", "size", "at", "one_due"] ["first", "second", "marks", "dues"] (defScope s__look_web) := ⟨rfl, rfl, rfl, by decide +kernel, rfl, by decide +kernel, by decide +kernel⟩
theorem F__look_web (T : Hd K mg) : ∃ (f : Addr) (fd : FuncData), FunD K "_look_web" "_look_web" (defArgs s__look_web) (defBody s__look_web) (defScope s__look_web) [] [] f fd ∧ mg "_look_web" = some (.ref f) := T.fn 16 (d := d__look_web) rfl rfl rfl (g__look_web T)
theorem B__look_web (kV doc pm : Value) (an : Option Addr) (cdv ct : Value) (us : List Value) (hl : us.length = (["first", "second", "marks", "dues"] : List Str).length) : bindArgs (PySem.W.fnOf "_look_web" "_look_web" (defArgs s__look_web) (defBody s__look_web) (defScope s__look_web) .none kV doc pm an cdv ct) ⟨us, []⟩ = pure ((["first", "second", "marks", "dues"] : List Str).zip us) := match us, hl with | [_, _, _, _], _ => by kernel_rfl
theorem sc_Web_init : FnScope ["self", "first", "second", "marks", "dues", "web_steps", "web_due", "web_at"] ["self", "first", "second", "marks", "dues"] (defScope s_Web_init) := ⟨rfl, rfl, rfl, by decide +kernel, rfl, by decide +kernel, by decide +kernel⟩
theorem sc_Web_size : FnScope ["self"] ["self"] (defScope s_Web_size) := ⟨rfl, rfl, rfl, by decide +kernel, rfl, by decide +kernel, by decide +kernel⟩
theorem sc_Web_first : FnScope ["self"] ["self"] (defScope s_Web_first) := ⟨rfl, rfl, rfl, by decide +kernel, rfl, by decide +kernel, by decide +kernel⟩
theorem sc_Web_second : FnScope ["self"] ["self"] (defScope s_Web_second) := ⟨rfl, rfl, rfl, by decide +kernel, rfl, by decide +kernel, by decide +kernel⟩
theorem sc_Web_marks : FnScope ["self"] ["self"] (defScope s_Web_marks) := ⟨rfl, rfl, rfl, by decide +kernel, rfl, by decide +kernel, by decide +kernel⟩
theorem sc_Web_dues : FnScope ["self"] ["self"] (defScope s_Web_dues) := ⟨rfl, rfl, rfl, by decide +kernel, rfl, by decide +kernel, by decide +kernel⟩
theorem sc_Web_moving : FnScope ["self"] ["self"] (defScope s_Web_moving) := ⟨rfl, rfl, rfl, by decide +kernel, rfl, by decide +kernel, by decide +kernel⟩
theorem sc_Web_eq : FnScope ["self", "other"] ["self", "other"] (defScope s_Web_eq) := ⟨rfl, rfl, rfl, by decide +kernel, rfl, by decide +kernel, by decide +kernel⟩
theorem sc_Web_invert : FnScope ["self", "web_mark"] ["self"] (defScope s_Web_invert) := ⟨rfl, rfl, rfl, by decide +kernel, rfl, by decide +kernel, by decide +kernel⟩
theorem sc_need_web : FnScope ["web"] ["web"] (defScope s_need_web) := ⟨rfl, rfl, rfl, by decide +kernel, rfl, by decide +kernel, by decide +kernel⟩
theorem F_need_web (T : Hd K mg) : ∃ (f : Addr) (fd : FuncData), FunD K "need_web" "need_web" (defArgs s_need_web) (defBody s_need_web) (defScope s_need_web) [] [] f fd ∧ mg "need_web" = some (.ref f) := T.fn 26 (d := d_need_web) rfl rfl rfl (g_need_web T)
theorem B_need_web (kV doc pm : Value) (an : Option Addr) (cdv ct : Value) (us : List Value) (hl : us.length = (["web"] : List Str).length) : bindArgs (PySem.W.fnOf "need_web" "need_web" (defArgs s_need_web) (defBody s_need_web) (defScope s_need_web) .none kV doc pm an cdv ct) ⟨us, []⟩ = pure ((["web"] : List Str).zip us) := match us, hl with | [_], _ => by kernel_rfl
theorem sc_need_moving : FnScope ["web", "stand"] ["web", "stand"] (defScope s_need_moving) := ⟨rfl, rfl, rfl, by decide +kernel, rfl, by decide +kernel, by decide +kernel⟩
theorem F_need_moving (T : Hd K mg) : ∃ (f : Addr) (fd : FuncData), FunD K "need_moving" "need_moving" (defArgs s_need_moving) (defBody s_need_moving) (defScope s_need_moving) [] [] f fd ∧ mg "need_moving" = some (.ref f) := T.fn 27 (d := d_need_moving) rfl rfl rfl (g_need_moving T)
theorem B_need_moving (kV doc pm : Value) (an : Option Addr) (cdv ct : Value) (us : List Value) (hl : us.length = (["web", "stand"] : List Str).length) : bindArgs (PySem.W.fnOf "need_moving" "need_moving" (defArgs s_need_moving) (defBody s_need_moving) (defScope s_need_moving) .none kV doc pm an cdv ct) ⟨us, []⟩ = pure ((["web", "stand"] : List Str).zip us) := match us, hl with | [_, _], _ => by kernel_rfl
theorem sc_need_row : FnScope ["web", "row", "most", "x"] ["web", "row", "most"] (defScope s_need_row) := ⟨rfl, rfl, rfl, by decide +kernel, rfl, by decide +kernel, by decide +kernel⟩
theorem sc_price_low : FnScope ["web", "row", "stand", "w"] ["web", "row", "stand"] (defScope s_price_low) := ⟨rfl, rfl, rfl, by decide +kernel, rfl, by decide +kernel, by decide +kernel⟩
theorem F_price_low (T : Hd K mg) : ∃ (f : Addr) (fd : FuncData), FunD K "price_low" "price_low" (defArgs s_price_low) (defBody s_price_low) (defScope s_price_low) [] [] f fd ∧ mg "price_low" = some (.ref f) := T.fn 29 (d := d_price_low) rfl rfl rfl (g_price_low T)
theorem B_price_low (kV doc pm : Value) (an : Option Addr) (cdv ct : Value) (us : List Value) (hl : us.length = (["web", "row", "stand"] : List Str).length) : bindArgs (PySem.W.fnOf "price_low" "price_low" (defArgs s_price_low) (defBody s_price_low) (defScope s_price_low) .none kV doc pm an cdv ct) ⟨us, []⟩ = pure ((["web", "row", "stand"] : List Str).zip us) := match us, hl with | [_, _, _], _ => by kernel_rfl
theorem sc_price_high : FnScope ["web", "row", "stand", "w"] ["web", "row", "stand"] (defScope s_price_high) := ⟨rfl, rfl, rfl, by decide +kernel, rfl, by decide +kernel, by decide +kernel⟩
theorem F_price_high (T : Hd K mg) : ∃ (f : Addr) (fd : FuncData), FunD K "price_high" "price_high" (defArgs s_price_high) (defBody s_price_high) (defScope s_price_high) [] [] f fd ∧ mg "price_high" = some (.ref f) := T.fn 30 (d := d_price_high) rfl rfl rfl (g_price_high T)
theorem B_price_high (kV doc pm : Value) (an : Option Addr) (cdv ct : Value) (us : List Value) (hl : us.length = (["web", "row", "stand"] : List Str).length) : bindArgs (PySem.W.fnOf "price_high" "price_high" (defArgs s_price_high) (defBody s_price_high) (defScope s_price_high) .none kV doc pm an cdv ct) ⟨us, []⟩ = pure ((["web", "row", "stand"] : List Str).zip us) := match us, hl with | [_, _, _], _ => by kernel_rfl
theorem sc_price_at : FnScope ["web", "k", "row", "stand"] ["web", "k", "row", "stand"] (defScope s_price_at) := ⟨rfl, rfl, rfl, by decide +kernel, rfl, by decide +kernel, by decide +kernel⟩
theorem F_price_at (T : Hd K mg) : ∃ (f : Addr) (fd : FuncData), FunD K "price_at" "price_at" (defArgs s_price_at) (defBody s_price_at) (defScope s_price_at) [] [] f fd ∧ mg "price_at" = some (.ref f) := T.fn 31 (d := d_price_at) rfl rfl rfl (g_price_at T)
theorem B_price_at (kV doc pm : Value) (an : Option Addr) (cdv ct : Value) (us : List Value) (hl : us.length = (["web", "k", "row", "stand"] : List Str).length) : bindArgs (PySem.W.fnOf "price_at" "price_at" (defArgs s_price_at) (defBody s_price_at) (defScope s_price_at) .none kV doc pm an cdv ct) ⟨us, []⟩ = pure ((["web", "k", "row", "stand"] : List Str).zip us) := match us, hl with | [_, _, _, _], _ => by kernel_rfl
theorem sc_call_kinds : FnScope ["web", "k", "calls"] ["web", "k", "calls"] (defScope s_call_kinds) := ⟨rfl, rfl, rfl, by decide +kernel, rfl, by decide +kernel, by decide +kernel⟩
theorem F_call_kinds (T : Hd K mg) : ∃ (f : Addr) (fd : FuncData), FunD K "call_kinds" "call_kinds" (defArgs s_call_kinds) (defBody s_call_kinds) (defScope s_call_kinds) [] [] f fd ∧ mg "call_kinds" = some (.ref f) := T.fn 32 (d := d_call_kinds) rfl rfl rfl (g_call_kinds T)
theorem B_call_kinds (kV doc pm : Value) (an : Option Addr) (cdv ct : Value) (us : List Value) (hl : us.length = (["web", "k", "calls"] : List Str).length) : bindArgs (PySem.W.fnOf "call_kinds" "call_kinds" (defArgs s_call_kinds) (defBody s_call_kinds) (defScope s_call_kinds) .none kV doc pm an cdv ct) ⟨us, []⟩ = pure ((["web", "k", "calls"] : List Str).zip us) := match us, hl with | [_, _, _], _ => by kernel_rfl
theorem sc_call_set : FnScope ["web", "k", "calls"] ["web", "k", "calls"] (defScope s_call_set) := ⟨rfl, rfl, rfl, by decide +kernel, rfl, by decide +kernel, by decide +kernel⟩
theorem F_call_set (T : Hd K mg) : ∃ (f : Addr) (fd : FuncData), FunD K "call_set" "call_set" (defArgs s_call_set) (defBody s_call_set) (defScope s_call_set) [] [] f fd ∧ mg "call_set" = some (.ref f) := T.fn 33 (d := d_call_set) rfl rfl rfl (g_call_set T)
theorem B_call_set (kV doc pm : Value) (an : Option Addr) (cdv ct : Value) (us : List Value) (hl : us.length = (["web", "k", "calls"] : List Str).length) : bindArgs (PySem.W.fnOf "call_set" "call_set" (defArgs s_call_set) (defBody s_call_set) (defScope s_call_set) .none kV doc pm an cdv ct) ⟨us, []⟩ = pure ((["web", "k", "calls"] : List Str).zip us) := match us, hl with | [_, _, _], _ => by kernel_rfl
theorem sc_call_bounds : FnScope ["web", "k", "called", "most", "v"] ["web", "k", "called", "most"] (defScope s_call_bounds) := ⟨rfl, rfl, rfl, by decide +kernel, rfl, by decide +kernel, by decide +kernel⟩
theorem sc_round_under : FnScope ["web", "k", "called", "row", "top", "found", "free", "v", "prices", "at", "falling_now"] ["web", "k", "called", "row", "top"] (defScope s_round_under) := ⟨rfl, rfl, rfl, by decide +kernel, rfl, by decide +kernel, by decide +kernel⟩
theorem F_round_under (T : Hd K mg) : ∃ (f : Addr) (fd : FuncData), FunD K "round_under" "round_under" (defArgs s_round_under) (defBody s_round_under) (defScope s_round_under) [] [] f fd ∧ mg "round_under" = some (.ref f) := T.fn 35 (d := d_round_under) rfl rfl rfl (g_round_under T)
theorem B_round_under (kV doc pm : Value) (an : Option Addr) (cdv ct : Value) (us : List Value) (hl : us.length = (["web", "k", "called", "row", "top"] : List Str).length) : bindArgs (PySem.W.fnOf "round_under" "round_under" (defArgs s_round_under) (defBody s_round_under) (defScope s_round_under) .none kV doc pm an cdv ct) ⟨us, []⟩ = pure ((["web", "k", "called", "row", "top"] : List Str).zip us) := match us, hl with | [_, _, _, _, _], _ => by kernel_rfl
theorem sc_round_of : FnScope ["web", "k", "called", "row"] ["web", "k", "called", "row"] (defScope s_round_of) := ⟨rfl, rfl, rfl, by decide +kernel, rfl, by decide +kernel, by decide +kernel⟩
theorem F_round_of (T : Hd K mg) : ∃ (f : Addr) (fd : FuncData), FunD K "round_of" "round_of" (defArgs s_round_of) (defBody s_round_of) (defScope s_round_of) [] [] f fd ∧ mg "round_of" = some (.ref f) := T.fn 36 (d := d_round_of) rfl rfl rfl (g_round_of T)
theorem B_round_of (kV doc pm : Value) (an : Option Addr) (cdv ct : Value) (us : List Value) (hl : us.length = (["web", "k", "called", "row"] : List Str).length) : bindArgs (PySem.W.fnOf "round_of" "round_of" (defArgs s_round_of) (defBody s_round_of) (defScope s_round_of) .none kV doc pm an cdv ct) ⟨us, []⟩ = pure ((["web", "k", "called", "row"] : List Str).zip us) := match us, hl with | [_, _, _, _], _ => by kernel_rfl
theorem sc_call_fall_out : FnScope ["web", "k", "called", "row", "ranks", "v", "left", "turn", "raised", "leaving"] ["web", "k", "called", "row"] (defScope s_call_fall_out) := ⟨rfl, rfl, rfl, by decide +kernel, rfl, by decide +kernel, by decide +kernel⟩
theorem F_call_fall_out (T : Hd K mg) : ∃ (f : Addr) (fd : FuncData), FunD K "call_fall_out" "call_fall_out" (defArgs s_call_fall_out) (defBody s_call_fall_out) (defScope s_call_fall_out) [] [] f fd ∧ mg "call_fall_out" = some (.ref f) := T.fn 37 (d := d_call_fall_out) rfl rfl rfl (g_call_fall_out T)
theorem B_call_fall_out (kV doc pm : Value) (an : Option Addr) (cdv ct : Value) (us : List Value) (hl : us.length = (["web", "k", "called", "row"] : List Str).length) : bindArgs (PySem.W.fnOf "call_fall_out" "call_fall_out" (defArgs s_call_fall_out) (defBody s_call_fall_out) (defScope s_call_fall_out) .none kV doc pm an cdv ct) ⟨us, []⟩ = pure ((["web", "k", "called", "row"] : List Str).zip us) := match us, hl with | [_, _, _, _], _ => by kernel_rfl
theorem sc_call_count_out : FnScope ["web", "k", "called", "row", "counts", "v", "left", "turn", "lessened", "after", "leaving"] ["web", "k", "called", "row"] (defScope s_call_count_out) := ⟨rfl, rfl, rfl, by decide +kernel, rfl, by decide +kernel, by decide +kernel⟩
theorem F_call_count_out (T : Hd K mg) : ∃ (f : Addr) (fd : FuncData), FunD K "call_count_out" "call_count_out" (defArgs s_call_count_out) (defBody s_call_count_out) (defScope s_call_count_out) [] [] f fd ∧ mg "call_count_out" = some (.ref f) := T.fn 38 (d := d_call_count_out) rfl rfl rfl (g_call_count_out T)
theorem B_call_count_out (kV doc pm : Value) (an : Option Addr) (cdv ct : Value) (us : List Value) (hl : us.length = (["web", "k", "called", "row"] : List Str).length) : bindArgs (PySem.W.fnOf "call_count_out" "call_count_out" (defArgs s_call_count_out) (defBody s_call_count_out) (defScope s_call_count_out) .none kV doc pm an cdv ct) ⟨us, []⟩ = pure ((["web", "k", "called", "row"] : List Str).zip us) := match us, hl with | [_, _, _, _], _ => by kernel_rfl
theorem sc_forever_rising : FnScope ["web", "k", "called", "row", "top", "rising", "now", "after", "more", "x", "v"] ["web", "k", "called", "row"] (defScope s_forever_rising) := ⟨rfl, rfl, rfl, by decide +kernel, rfl, by decide +kernel, by decide +kernel⟩
theorem F_forever_rising (T : Hd K mg) : ∃ (f : Addr) (fd : FuncData), FunD K "forever_rising" "forever_rising" (defArgs s_forever_rising) (defBody s_forever_rising) (defScope s_forever_rising) [] [] f fd ∧ mg "forever_rising" = some (.ref f) := T.fn 39 (d := d_forever_rising) rfl rfl rfl (g_forever_rising T)
theorem B_forever_rising (kV doc pm : Value) (an : Option Addr) (cdv ct : Value) (us : List Value) (hl : us.length = (["web", "k", "called", "row"] : List Str).length) : bindArgs (PySem.W.fnOf "forever_rising" "forever_rising" (defArgs s_forever_rising) (defBody s_forever_rising) (defScope s_forever_rising) .none kV doc pm an cdv ct) ⟨us, []⟩ = pure ((["web", "k", "called", "row"] : List Str).zip us) := match us, hl with | [_, _, _, _], _ => by kernel_rfl
theorem sc_forever_risen : FnScope ["web", "k", "called", "row", "rising", "v"] ["web", "k", "called", "row"] (defScope s_forever_risen) := ⟨rfl, rfl, rfl, by decide +kernel, rfl, by decide +kernel, by decide +kernel⟩
theorem F_forever_risen (T : Hd K mg) : ∃ (f : Addr) (fd : FuncData), FunD K "forever_risen" "forever_risen" (defArgs s_forever_risen) (defBody s_forever_risen) (defScope s_forever_risen) [] [] f fd ∧ mg "forever_risen" = some (.ref f) := T.fn 40 (d := d_forever_risen) rfl rfl rfl (g_forever_risen T)
theorem B_forever_risen (kV doc pm : Value) (an : Option Addr) (cdv ct : Value) (us : List Value) (hl : us.length = (["web", "k", "called", "row"] : List Str).length) : bindArgs (PySem.W.fnOf "forever_risen" "forever_risen" (defArgs s_forever_risen) (defBody s_forever_risen) (defScope s_forever_risen) .none kV doc pm an cdv ct) ⟨us, []⟩ = pure ((["web", "k", "called", "row"] : List Str).zip us) := match us, hl with | [_, _, _, _], _ => by kernel_rfl
theorem sc_forever_by_rises : FnScope ["web", "k", "called", "row", "chips"] ["web", "k", "called"] (defScope s_forever_by_rises) := ⟨rfl, rfl, rfl, by decide +kernel, rfl, by decide +kernel, by decide +kernel⟩
theorem F_forever_by_rises (T : Hd K mg) : ∃ (f : Addr) (fd : FuncData), FunD K "forever_by_rises" "forever_by_rises" (defArgs s_forever_by_rises) (defBody s_forever_by_rises) (defScope s_forever_by_rises) [] [] f fd ∧ mg "forever_by_rises" = some (.ref f) := T.fn 41 (d := d_forever_by_rises) rfl rfl rfl (g_forever_by_rises T)
theorem B_forever_by_rises (kV doc pm : Value) (an : Option Addr) (cdv ct : Value) (us : List Value) (hl : us.length = (["web", "k", "called"] : List Str).length) : bindArgs (PySem.W.fnOf "forever_by_rises" "forever_by_rises" (defArgs s_forever_by_rises) (defBody s_forever_by_rises) (defScope s_forever_by_rises) .none kV doc pm an cdv ct) ⟨us, []⟩ = pure ((["web", "k", "called"] : List Str).zip us) := match us, hl with | [_, _, _], _ => by kernel_rfl
theorem sc_Verdict_init : FnScope ["self", "faults", "fault"] ["self", "faults"] (defScope s_Verdict_init) := ⟨rfl, rfl, rfl, by decide +kernel, rfl, by decide +kernel, by decide +kernel⟩
theorem sc_Verdict_faults : FnScope ["self"] ["self"] (defScope s_Verdict_faults) := ⟨rfl, rfl, rfl, by decide +kernel, rfl, by decide +kernel, by decide +kernel⟩
theorem sc_Verdict_bool : FnScope ["self"] ["self"] (defScope s_Verdict_bool) := ⟨rfl, rfl, rfl, by decide +kernel, rfl, by decide +kernel, by decide +kernel⟩
theorem sc_Verdict_iter : FnScope ["self"] ["self"] (defScope s_Verdict_iter) := ⟨rfl, rfl, rfl, by decide +kernel, rfl, by decide +kernel, by decide +kernel⟩
theorem sc_Verdict_eq : FnScope ["self", "other"] ["self", "other"] (defScope s_Verdict_eq) := ⟨rfl, rfl, rfl, by decide +kernel, rfl, by decide +kernel, by decide +kernel⟩
theorem sc_raised_row : FnScope ["row", "ranks", "rank", "v"] ["row", "ranks", "rank"] (defScope s_raised_row) := ⟨rfl, rfl, rfl, by decide +kernel, rfl, by decide +kernel, by decide +kernel⟩
theorem F_raised_row (T : Hd K mg) : ∃ (f : Addr) (fd : FuncData), FunD K "raised_row" "raised_row" (defArgs s_raised_row) (defBody s_raised_row) (defScope s_raised_row) [] [] f fd ∧ mg "raised_row" = some (.ref f) := T.fn 47 (d := d_raised_row) rfl rfl rfl (g_raised_row T)
theorem B_raised_row (kV doc pm : Value) (an : Option Addr) (cdv ct : Value) (us : List Value) (hl : us.length = (["row", "ranks", "rank"] : List Str).length) : bindArgs (PySem.W.fnOf "raised_row" "raised_row" (defArgs s_raised_row) (defBody s_raised_row) (defScope s_raised_row) .none kV doc pm an cdv ct) ⟨us, []⟩ = pure ((["row", "ranks", "rank"] : List Str).zip us) := match us, hl with | [_, _, _], _ => by kernel_rfl
theorem sc_need_ranks : FnScope ["web", "ranks", "rank"] ["web", "ranks"] (defScope s_need_ranks) := ⟨rfl, rfl, rfl, by decide +kernel, rfl, by decide +kernel, by decide +kernel⟩
theorem F_need_ranks (T : Hd K mg) : ∃ (f : Addr) (fd : FuncData), FunD K "need_ranks" "need_ranks" (defArgs s_need_ranks) (defBody s_need_ranks) (defScope s_need_ranks) [] [] f fd ∧ mg "need_ranks" = some (.ref f) := T.fn 48 (d := d_need_ranks) rfl rfl rfl (g_need_ranks T)
theorem B_need_ranks (kV doc pm : Value) (an : Option Addr) (cdv ct : Value) (us : List Value) (hl : us.length = (["web", "ranks"] : List Str).length) : bindArgs (PySem.W.fnOf "need_ranks" "need_ranks" (defArgs s_need_ranks) (defBody s_need_ranks) (defScope s_need_ranks) .none kV doc pm an cdv ct) ⟨us, []⟩ = pure ((["web", "ranks"] : List Str).zip us) := match us, hl with | [_, _], _ => by kernel_rfl
theorem sc_lessened_row : FnScope ["row", "counts", "count", "v"] ["row", "counts", "count"] (defScope s_lessened_row) := ⟨rfl, rfl, rfl, by decide +kernel, rfl, by decide +kernel, by decide +kernel⟩
theorem F_lessened_row (T : Hd K mg) : ∃ (f : Addr) (fd : FuncData), FunD K "lessened_row" "lessened_row" (defArgs s_lessened_row) (defBody s_lessened_row) (defScope s_lessened_row) [] [] f fd ∧ mg "lessened_row" = some (.ref f) := T.fn 49 (d := d_lessened_row) rfl rfl rfl (g_lessened_row T)
theorem B_lessened_row (kV doc pm : Value) (an : Option Addr) (cdv ct : Value) (us : List Value) (hl : us.length = (["row", "counts", "count"] : List Str).length) : bindArgs (PySem.W.fnOf "lessened_row" "lessened_row" (defArgs s_lessened_row) (defBody s_lessened_row) (defScope s_lessened_row) .none kV doc pm an cdv ct) ⟨us, []⟩ = pure ((["row", "counts", "count"] : List Str).zip us) := match us, hl with | [_, _, _], _ => by kernel_rfl
theorem sc_call_above : FnScope ["web", "k", "called", "row", "ranks", "v"] ["web", "k", "called", "row", "ranks", "v"] (defScope s_call_above) := ⟨rfl, rfl, rfl, by decide +kernel, rfl, by decide +kernel, by decide +kernel⟩
theorem F_call_above (T : Hd K mg) : ∃ (f : Addr) (fd : FuncData), FunD K "call_above" "call_above" (defArgs s_call_above) (defBody s_call_above) (defScope s_call_above) [] [] f fd ∧ mg "call_above" = some (.ref f) := T.fn 50 (d := d_call_above) rfl rfl rfl (g_call_above T)
theorem B_call_above (kV doc pm : Value) (an : Option Addr) (cdv ct : Value) (us : List Value) (hl : us.length = (["web", "k", "called", "row", "ranks", "v"] : List Str).length) : bindArgs (PySem.W.fnOf "call_above" "call_above" (defArgs s_call_above) (defBody s_call_above) (defScope s_call_above) .none kV doc pm an cdv ct) ⟨us, []⟩ = pure ((["web", "k", "called", "row", "ranks", "v"] : List Str).zip us) := match us, hl with | [_, _, _, _, _, _], _ => by kernel_rfl
theorem sc_call_below : FnScope ["web", "k", "called", "row", "counts", "v", "least"] ["web", "k", "called", "row", "counts", "v"] (defScope s_call_below) := ⟨rfl, rfl, rfl, by decide +kernel, rfl, by decide +kernel, by decide +kernel⟩
theorem F_call_below (T : Hd K mg) : ∃ (f : Addr) (fd : FuncData), FunD K "call_below" "call_below" (defArgs s_call_below) (defBody s_call_below) (defScope s_call_below) [] [] f fd ∧ mg "call_below" = some (.ref f) := T.fn 51 (d := d_call_below) rfl rfl rfl (g_call_below T)
theorem B_call_below (kV doc pm : Value) (an : Option Addr) (cdv ct : Value) (us : List Value) (hl : us.length = (["web", "k", "called", "row", "counts", "v"] : List Str).length) : bindArgs (PySem.W.fnOf "call_below" "call_below" (defArgs s_call_below) (defBody s_call_below) (defScope s_call_below) .none kV doc pm an cdv ct) ⟨us, []⟩ = pure ((["web", "k", "called", "row", "counts", "v"] : List Str).zip us) := match us, hl with | [_, _, _, _, _, _], _ => by kernel_rfl
theorem sc_call_above_at : FnScope ["web", "k", "called", "row", "ranks", "v"] ["web", "k", "called", "row", "ranks"] (defScope s_call_above_at) := ⟨rfl, rfl, rfl, by decide +kernel, rfl, by decide +kernel, by decide +kernel⟩
theorem F_call_above_at (T : Hd K mg) : ∃ (f : Addr) (fd : FuncData), FunD K "call_above_at" "call_above_at" (defArgs s_call_above_at) (defBody s_call_above_at) (defScope s_call_above_at) [] [] f fd ∧ mg "call_above_at" = some (.ref f) := T.fn 52 (d := d_call_above_at) rfl rfl rfl (g_call_above_at T)
theorem B_call_above_at (kV doc pm : Value) (an : Option Addr) (cdv ct : Value) (us : List Value) (hl : us.length = (["web", "k", "called", "row", "ranks"] : List Str).length) : bindArgs (PySem.W.fnOf "call_above_at" "call_above_at" (defArgs s_call_above_at) (defBody s_call_above_at) (defScope s_call_above_at) .none kV doc pm an cdv ct) ⟨us, []⟩ = pure ((["web", "k", "called", "row", "ranks"] : List Str).zip us) := match us, hl with | [_, _, _, _, _], _ => by kernel_rfl
theorem sc_call_below_at : FnScope ["web", "k", "called", "row", "counts", "v"] ["web", "k", "called", "row", "counts"] (defScope s_call_below_at) := ⟨rfl, rfl, rfl, by decide +kernel, rfl, by decide +kernel, by decide +kernel⟩
theorem F_call_below_at (T : Hd K mg) : ∃ (f : Addr) (fd : FuncData), FunD K "call_below_at" "call_below_at" (defArgs s_call_below_at) (defBody s_call_below_at) (defScope s_call_below_at) [] [] f fd ∧ mg "call_below_at" = some (.ref f) := T.fn 53 (d := d_call_below_at) rfl rfl rfl (g_call_below_at T)
theorem B_call_below_at (kV doc pm : Value) (an : Option Addr) (cdv ct : Value) (us : List Value) (hl : us.length = (["web", "k", "called", "row", "counts"] : List Str).length) : bindArgs (PySem.W.fnOf "call_below_at" "call_below_at" (defArgs s_call_below_at) (defBody s_call_below_at) (defScope s_call_below_at) .none kV doc pm an cdv ct) ⟨us, []⟩ = pure ((["web", "k", "called", "row", "counts"] : List Str).zip us) := match us, hl with | [_, _, _, _, _], _ => by kernel_rfl
theorem sc_call_half_look : FnScope ["web", "k", "calls", "row", "parts", "one_half", "called"] ["web", "k", "calls", "row", "parts"] (defScope s_call_half_look) := ⟨rfl, rfl, rfl, by decide +kernel, rfl, by decide +kernel, by decide +kernel⟩
theorem F_call_half_look (T : Hd K mg) : ∃ (f : Addr) (fd : FuncData), FunD K "call_half_look" "call_half_look" (defArgs s_call_half_look) (defBody s_call_half_look) (defScope s_call_half_look) [] [] f fd ∧ mg "call_half_look" = some (.ref f) := T.fn 54 (d := d_call_half_look) rfl rfl rfl (g_call_half_look T)
theorem B_call_half_look (kV doc pm : Value) (an : Option Addr) (cdv ct : Value) (us : List Value) (hl : us.length = (["web", "k", "calls", "row", "parts"] : List Str).length) : bindArgs (PySem.W.fnOf "call_half_look" "call_half_look" (defArgs s_call_half_look) (defBody s_call_half_look) (defScope s_call_half_look) .none kV doc pm an cdv ct) ⟨us, []⟩ = pure ((["web", "k", "calls", "row", "parts"] : List Str).zip us) := match us, hl with | [_, _, _, _, _], _ => by kernel_rfl
theorem sc_half_above : FnScope ["web", "k", "calls", "row", "ranks", "called"] ["web", "k", "calls", "row", "ranks"] (defScope s_half_above) := ⟨rfl, rfl, rfl, by decide +kernel, rfl, by decide +kernel, by decide +kernel⟩
theorem F_half_above (T : Hd K mg) : ∃ (f : Addr) (fd : FuncData), FunD K "half_above" "half_above" (defArgs s_half_above) (defBody s_half_above) (defScope s_half_above) [] [] f fd ∧ mg "half_above" = some (.ref f) := T.fn 55 (d := d_half_above) rfl rfl rfl (g_half_above T)
theorem B_half_above (kV doc pm : Value) (an : Option Addr) (cdv ct : Value) (us : List Value) (hl : us.length = (["web", "k", "calls", "row", "ranks"] : List Str).length) : bindArgs (PySem.W.fnOf "half_above" "half_above" (defArgs s_half_above) (defBody s_half_above) (defScope s_half_above) .none kV doc pm an cdv ct) ⟨us, []⟩ = pure ((["web", "k", "calls", "row", "ranks"] : List Str).zip us) := match us, hl with | [_, _, _, _, _], _ => by kernel_rfl
theorem sc_half_below : FnScope ["web", "k", "calls", "row", "counts", "called"] ["web", "k", "calls", "row", "counts"] (defScope s_half_below) := ⟨rfl, rfl, rfl, by decide +kernel, rfl, by decide +kernel, by decide +kernel⟩
theorem F_half_below (T : Hd K mg) : ∃ (f : Addr) (fd : FuncData), FunD K "half_below" "half_below" (defArgs s_half_below) (defBody s_half_below) (defScope s_half_below) [] [] f fd ∧ mg "half_below" = some (.ref f) := T.fn 56 (d := d_half_below) rfl rfl rfl (g_half_below T)
theorem B_half_below (kV doc pm : Value) (an : Option Addr) (cdv ct : Value) (us : List Value) (hl : us.length = (["web", "k", "calls", "row", "counts"] : List Str).length) : bindArgs (PySem.W.fnOf "half_below" "half_below" (defArgs s_half_below) (defBody s_half_below) (defScope s_half_below) .none kV doc pm an cdv ct) ⟨us, []⟩ = pure ((["web", "k", "calls", "row", "counts"] : List Str).zip us) := match us, hl with | [_, _, _, _, _], _ => by kernel_rfl
theorem sc_CallPaper_init : FnScope ["self", "web", "k", "calls", "row", "ranks", "counts"] ["self", "web", "k", "calls", "row", "ranks", "counts"] (defScope s_CallPaper_init) := ⟨rfl, rfl, rfl, by decide +kernel, rfl, by decide +kernel, by decide +kernel⟩
theorem sc_CallPaper_of : FnScope ["cls", "web", "k", "calls", "called", "row", "ranks"] ["cls", "web", "k", "calls"] (defScope s_CallPaper_of) := ⟨rfl, rfl, rfl, by decide +kernel, rfl, by decide +kernel, by decide +kernel⟩
theorem sc_CallPaper_web : FnScope ["self"] ["self"] (defScope s_CallPaper_web) := ⟨rfl, rfl, rfl, by decide +kernel, rfl, by decide +kernel, by decide +kernel⟩
theorem sc_CallPaper_chips : FnScope ["self"] ["self"] (defScope s_CallPaper_chips) := ⟨rfl, rfl, rfl, by decide +kernel, rfl, by decide +kernel, by decide +kernel⟩
theorem sc_CallPaper_calls : FnScope ["self"] ["self"] (defScope s_CallPaper_calls) := ⟨rfl, rfl, rfl, by decide +kernel, rfl, by decide +kernel, by decide +kernel⟩
theorem sc_CallPaper_row : FnScope ["self"] ["self"] (defScope s_CallPaper_row) := ⟨rfl, rfl, rfl, by decide +kernel, rfl, by decide +kernel, by decide +kernel⟩
theorem sc_CallPaper_ranks : FnScope ["self"] ["self"] (defScope s_CallPaper_ranks) := ⟨rfl, rfl, rfl, by decide +kernel, rfl, by decide +kernel, by decide +kernel⟩
theorem sc_CallPaper_counts : FnScope ["self"] ["self"] (defScope s_CallPaper_counts) := ⟨rfl, rfl, rfl, by decide +kernel, rfl, by decide +kernel, by decide +kernel⟩
theorem sc_CallPaper_eq : FnScope ["self", "other"] ["self", "other"] (defScope s_CallPaper_eq) := ⟨rfl, rfl, rfl, by decide +kernel, rfl, by decide +kernel, by decide +kernel⟩
theorem sc_CallPaper_judged : FnScope ["self", "above"] ["self"] (defScope s_CallPaper_judged) := ⟨rfl, rfl, rfl, by decide +kernel, rfl, by decide +kernel, by decide +kernel⟩
theorem sc__law_pot : FnScope ["_law_script", "_law_pot_here", "_law_place", "_law_number", "_law_shift", "_law_turn", "_law_mixed"] ["_law_script"] (defScope s__law_pot) := ⟨rfl, rfl, rfl, by decide +kernel, rfl, by decide +kernel, by decide +kernel⟩
theorem F__law_pot (T : Hd K mg) : ∃ (f : Addr) (fd : FuncData), FunD K "_law_pot" "_law_pot" (defArgs s__law_pot) (defBody s__law_pot) (defScope s__law_pot) [] [] f fd ∧ mg "_law_pot" = some (.ref f) := T.fn 67 (d := d__law_pot) rfl rfl rfl (g__law_pot T)
theorem B__law_pot (kV doc pm : Value) (an : Option Addr) (cdv ct : Value) (us : List Value) (hl : us.length = (["_law_script"] : List Str).length) : bindArgs (PySem.W.fnOf "_law_pot" "_law_pot" (defArgs s__law_pot) (defBody s__law_pot) (defScope s__law_pot) .none kV doc pm an cdv ct) ⟨us, []⟩ = pure ((["_law_script"] : List Str).zip us) := match us, hl with | [_], _ => by kernel_rfl
theorem sc__law_draw : FnScope ["_law_pot_here", "_law_many"] ["_law_pot_here", "_law_many"] (defScope s__law_draw) := ⟨rfl, rfl, rfl, by decide +kernel, rfl, by decide +kernel, by decide +kernel⟩
theorem F__law_draw (T : Hd K mg) : ∃ (f : Addr) (fd : FuncData), FunD K "_law_draw" "_law_draw" (defArgs s__law_draw) (defBody s__law_draw) (defScope s__law_draw) [] [] f fd ∧ mg "_law_draw" = some (.ref f) := T.fn 68 (d := d__law_draw) rfl rfl rfl (g__law_draw T)
theorem B__law_draw (kV doc pm : Value) (an : Option Addr) (cdv ct : Value) (us : List Value) (hl : us.length = (["_law_pot_here", "_law_many"] : List Str).length) : bindArgs (PySem.W.fnOf "_law_draw" "_law_draw" (defArgs s__law_draw) (defBody s__law_draw) (defScope s__law_draw) .none kV doc pm an cdv ct) ⟨us, []⟩ = pure ((["_law_pot_here", "_law_many"] : List Str).zip us) := match us, hl with | [_, _], _ => by kernel_rfl
theorem sc__law_whole : FnScope ["_law_thing"] ["_law_thing"] (defScope s__law_whole) := ⟨rfl, rfl, rfl, by decide +kernel, rfl, by decide +kernel, by decide +kernel⟩
theorem F__law_whole (T : Hd K mg) : ∃ (f : Addr) (fd : FuncData), FunD K "_law_whole" "_law_whole" (defArgs s__law_whole) (defBody s__law_whole) (defScope s__law_whole) [] [] f fd ∧ mg "_law_whole" = some (.ref f) := T.fn 69 (d := d__law_whole) rfl rfl rfl (g__law_whole T)
theorem B__law_whole (kV doc pm : Value) (an : Option Addr) (cdv ct : Value) (us : List Value) (hl : us.length = (["_law_thing"] : List Str).length) : bindArgs (PySem.W.fnOf "_law_whole" "_law_whole" (defArgs s__law_whole) (defBody s__law_whole) (defScope s__law_whole) .none kV doc pm an cdv ct) ⟨us, []⟩ = pure ((["_law_thing"] : List Str).zip us) := match us, hl with | [_], _ => by kernel_rfl
theorem sc__law_is_row : FnScope ["_law_thing", "_law_size", "_law_part"] ["_law_thing", "_law_size"] (defScope s__law_is_row) := ⟨rfl, rfl, rfl, by decide +kernel, rfl, by decide +kernel, by decide +kernel⟩
theorem F__law_is_row (T : Hd K mg) : ∃ (f : Addr) (fd : FuncData), FunD K "_law_is_row" "_law_is_row" (defArgs s__law_is_row) (defBody s__law_is_row) (defScope s__law_is_row) [] [] f fd ∧ mg "_law_is_row" = some (.ref f) := T.fn 70 (d := d__law_is_row) rfl rfl rfl (g__law_is_row T)
theorem B__law_is_row (kV doc pm : Value) (an : Option Addr) (cdv ct : Value) (us : List Value) (hl : us.length = (["_law_thing", "_law_size"] : List Str).length) : bindArgs (PySem.W.fnOf "_law_is_row" "_law_is_row" (defArgs s__law_is_row) (defBody s__law_is_row) (defScope s__law_is_row) .none kV doc pm an cdv ct) ⟨us, []⟩ = pure ((["_law_thing", "_law_size"] : List Str).zip us) := match us, hl with | [_, _], _ => by kernel_rfl
theorem sc__law_lot : FnScope ["_law_pot_here", "_law_size", "_law_lot_here", "_law_turn", "_law_step"] ["_law_pot_here", "_law_size"] (defScope s__law_lot) := ⟨rfl, rfl, rfl, by decide +kernel, rfl, by decide +kernel, by decide +kernel⟩
theorem F__law_lot (T : Hd K mg) : ∃ (f : Addr) (fd : FuncData), FunD K "_law_lot" "_law_lot" (defArgs s__law_lot) (defBody s__law_lot) (defScope s__law_lot) [] [] f fd ∧ mg "_law_lot" = some (.ref f) := T.fn 71 (d := d__law_lot) rfl rfl rfl (g__law_lot T)
theorem B__law_lot (kV doc pm : Value) (an : Option Addr) (cdv ct : Value) (us : List Value) (hl : us.length = (["_law_pot_here", "_law_size"] : List Str).length) : bindArgs (PySem.W.fnOf "_law_lot" "_law_lot" (defArgs s__law_lot) (defBody s__law_lot) (defScope s__law_lot) .none kV doc pm an cdv ct) ⟨us, []⟩ = pure ((["_law_pot_here", "_law_size"] : List Str).zip us) := match us, hl with | [_, _], _ => by kernel_rfl
theorem sc__law_due : FnScope ["_law_pot_here", "_law_word"] ["_law_pot_here"] (defScope s__law_due) := ⟨rfl, rfl, rfl, by decide +kernel, rfl, by decide +kernel, by decide +kernel⟩
theorem F__law_due (T : Hd K mg) : ∃ (f : Addr) (fd : FuncData), FunD K "_law_due" "_law_due" (defArgs s__law_due) (defBody s__law_due) (defScope s__law_due) [] [] f fd ∧ mg "_law_due" = some (.ref f) := T.fn 72 (d := d__law_due) rfl rfl rfl (g__law_due T)
theorem B__law_due (kV doc pm : Value) (an : Option Addr) (cdv ct : Value) (us : List Value) (hl : us.length = (["_law_pot_here"] : List Str).length) : bindArgs (PySem.W.fnOf "_law_due" "_law_due" (defArgs s__law_due) (defBody s__law_due) (defScope s__law_due) .none kV doc pm an cdv ct) ⟨us, []⟩ = pure ((["_law_pot_here"] : List Str).zip us) := match us, hl with | [_], _ => by kernel_rfl
theorem sc__law_marks : FnScope ["_law_pot_here", "_law_size", "_law_style", "_law_stand"] ["_law_pot_here", "_law_size"] (defScope s__law_marks) := ⟨rfl, rfl, rfl, by decide +kernel, rfl, by decide +kernel, by decide +kernel⟩
theorem F__law_marks (T : Hd K mg) : ∃ (f : Addr) (fd : FuncData), FunD K "_law_marks" "_law_marks" (defArgs s__law_marks) (defBody s__law_marks) (defScope s__law_marks) [] [] f fd ∧ mg "_law_marks" = some (.ref f) := T.fn 73 (d := d__law_marks) rfl rfl rfl (g__law_marks T)
theorem B__law_marks (kV doc pm : Value) (an : Option Addr) (cdv ct : Value) (us : List Value) (hl : us.length = (["_law_pot_here", "_law_size"] : List Str).length) : bindArgs (PySem.W.fnOf "_law_marks" "_law_marks" (defArgs s__law_marks) (defBody s__law_marks) (defScope s__law_marks) .none kV doc pm an cdv ct) ⟨us, []⟩ = pure ((["_law_pot_here", "_law_size"] : List Str).zip us) := match us, hl with | [_, _], _ => by kernel_rfl
theorem sc__law_path : FnScope ["_law_size", "_law_lots", "_law_stand", "_law_low_here", "_law_high_here"] ["_law_size"] (defScope s__law_path) := ⟨rfl, rfl, rfl, by decide +kernel, rfl, by decide +kernel, by decide +kernel⟩
theorem F__law_path (T : Hd K mg) : ∃ (f : Addr) (fd : FuncData), FunD K "_law_path" "_law_path" (defArgs s__law_path) (defBody s__law_path) (defScope s__law_path) [] [] f fd ∧ mg "_law_path" = some (.ref f) := T.fn 74 (d := d__law_path) rfl rfl rfl (g__law_path T)
theorem B__law_path (kV doc pm : Value) (an : Option Addr) (cdv ct : Value) (us : List Value) (hl : us.length = (["_law_size"] : List Str).length) : bindArgs (PySem.W.fnOf "_law_path" "_law_path" (defArgs s__law_path) (defBody s__law_path) (defScope s__law_path) .none kV doc pm an cdv ct) ⟨us, []⟩ = pure ((["_law_size"] : List Str).zip us) := match us, hl with | [_], _ => by kernel_rfl
theorem sc__law_web : FnScope ["_law_pot_here", "_law_most", "_law_even", "_law_size", "_law_shape", "_law_first", "_law_dues", "_law_stand", "_law_lot_here", "_law_second", "_law_is_end", "_law_due_here"] ["_law_pot_here", "_law_most", "_law_even"] (defScope s__law_web) := ⟨rfl, rfl, rfl, by decide +kernel, rfl, by decide +kernel, by decide +kernel⟩
theorem F__law_web (T : Hd K mg) : ∃ (f : Addr) (fd : FuncData), FunD K "_law_web" "_law_web" (defArgs s__law_web) (defBody s__law_web) (defScope s__law_web) [] [] f fd ∧ mg "_law_web" = some (.ref f) := T.fn 75 (d := d__law_web) rfl rfl rfl (g__law_web T)
theorem B__law_web (kV doc pm : Value) (an : Option Addr) (cdv ct : Value) (us : List Value) (hl : us.length = (["_law_pot_here", "_law_most", "_law_even"] : List Str).length) : bindArgs (PySem.W.fnOf "_law_web" "_law_web" (defArgs s__law_web) (defBody s__law_web) (defScope s__law_web) .none kV doc pm an cdv ct) ⟨us, []⟩ = pure ((["_law_pot_here", "_law_most", "_law_even"] : List Str).zip us) := match us, hl with | [_, _, _], _ => by kernel_rfl
theorem sc__law_due_at : FnScope ["_law_due_here", "_law_k"] ["_law_due_here", "_law_k"] (defScope s__law_due_at) := ⟨rfl, rfl, rfl, by decide +kernel, rfl, by decide +kernel, by decide +kernel⟩
theorem F__law_due_at (T : Hd K mg) : ∃ (f : Addr) (fd : FuncData), FunD K "_law_due_at" "_law_due_at" (defArgs s__law_due_at) (defBody s__law_due_at) (defScope s__law_due_at) [] [] f fd ∧ mg "_law_due_at" = some (.ref f) := T.fn 76 (d := d__law_due_at) rfl rfl rfl (g__law_due_at T)
theorem B__law_due_at (kV doc pm : Value) (an : Option Addr) (cdv ct : Value) (us : List Value) (hl : us.length = (["_law_due_here", "_law_k"] : List Str).length) : bindArgs (PySem.W.fnOf "_law_due_at" "_law_due_at" (defArgs s__law_due_at) (defBody s__law_due_at) (defScope s__law_due_at) .none kV doc pm an cdv ct) ⟨us, []⟩ = pure ((["_law_due_here", "_law_k"] : List Str).zip us) := match us, hl with | [_, _], _ => by kernel_rfl
theorem sc__law_half : FnScope ["_law_mark", "_law_x", "_law_y"] ["_law_mark", "_law_x", "_law_y"] (defScope s__law_half) := ⟨rfl, rfl, rfl, by decide +kernel, rfl, by decide +kernel, by decide +kernel⟩
theorem F__law_half (T : Hd K mg) : ∃ (f : Addr) (fd : FuncData), FunD K "_law_half" "_law_half" (defArgs s__law_half) (defBody s__law_half) (defScope s__law_half) [] [] f fd ∧ mg "_law_half" = some (.ref f) := T.fn 77 (d := d__law_half) rfl rfl rfl (g__law_half T)
theorem B__law_half (kV doc pm : Value) (an : Option Addr) (cdv ct : Value) (us : List Value) (hl : us.length = (["_law_mark", "_law_x", "_law_y"] : List Str).length) : bindArgs (PySem.W.fnOf "_law_half" "_law_half" (defArgs s__law_half) (defBody s__law_half) (defScope s__law_half) .none kV doc pm an cdv ct) ⟨us, []⟩ = pure ((["_law_mark", "_law_x", "_law_y"] : List Str).zip us) := match us, hl with | [_, _, _], _ => by kernel_rfl
theorem sc__law_low : FnScope ["_law_web_here", "_law_row", "_law_stand", "_law_step"] ["_law_web_here", "_law_row", "_law_stand"] (defScope s__law_low) := ⟨rfl, rfl, rfl, by decide +kernel, rfl, by decide +kernel, by decide +kernel⟩
theorem F__law_low (T : Hd K mg) : ∃ (f : Addr) (fd : FuncData), FunD K "_law_low" "_law_low" (defArgs s__law_low) (defBody s__law_low) (defScope s__law_low) [] [] f fd ∧ mg "_law_low" = some (.ref f) := T.fn 78 (d := d__law_low) rfl rfl rfl (g__law_low T)
theorem B__law_low (kV doc pm : Value) (an : Option Addr) (cdv ct : Value) (us : List Value) (hl : us.length = (["_law_web_here", "_law_row", "_law_stand"] : List Str).length) : bindArgs (PySem.W.fnOf "_law_low" "_law_low" (defArgs s__law_low) (defBody s__law_low) (defScope s__law_low) .none kV doc pm an cdv ct) ⟨us, []⟩ = pure ((["_law_web_here", "_law_row", "_law_stand"] : List Str).zip us) := match us, hl with | [_, _, _], _ => by kernel_rfl
theorem sc__law_high : FnScope ["_law_web_here", "_law_row", "_law_stand", "_law_step"] ["_law_web_here", "_law_row", "_law_stand"] (defScope s__law_high) := ⟨rfl, rfl, rfl, by decide +kernel, rfl, by decide +kernel, by decide +kernel⟩
theorem F__law_high (T : Hd K mg) : ∃ (f : Addr) (fd : FuncData), FunD K "_law_high" "_law_high" (defArgs s__law_high) (defBody s__law_high) (defScope s__law_high) [] [] f fd ∧ mg "_law_high" = some (.ref f) := T.fn 79 (d := d__law_high) rfl rfl rfl (g__law_high T)
theorem B__law_high (kV doc pm : Value) (an : Option Addr) (cdv ct : Value) (us : List Value) (hl : us.length = (["_law_web_here", "_law_row", "_law_stand"] : List Str).length) : bindArgs (PySem.W.fnOf "_law_high" "_law_high" (defArgs s__law_high) (defBody s__law_high) (defScope s__law_high) .none kV doc pm an cdv ct) ⟨us, []⟩ = pure ((["_law_web_here", "_law_row", "_law_stand"] : List Str).zip us) := match us, hl with | [_, _, _], _ => by kernel_rfl
theorem sc__law_price : FnScope ["_law_web_here", "_law_k", "_law_row", "_law_stand"] ["_law_web_here", "_law_k", "_law_row", "_law_stand"] (defScope s__law_price) := ⟨rfl, rfl, rfl, by decide +kernel, rfl, by decide +kernel, by decide +kernel⟩
theorem F__law_price (T : Hd K mg) : ∃ (f : Addr) (fd : FuncData), FunD K "_law_price" "_law_price" (defArgs s__law_price) (defBody s__law_price) (defScope s__law_price) [] [] f fd ∧ mg "_law_price" = some (.ref f) := T.fn 80 (d := d__law_price) rfl rfl rfl (g__law_price T)
theorem B__law_price (kV doc pm : Value) (an : Option Addr) (cdv ct : Value) (us : List Value) (hl : us.length = (["_law_web_here", "_law_k", "_law_row", "_law_stand"] : List Str).length) : bindArgs (PySem.W.fnOf "_law_price" "_law_price" (defArgs s__law_price) (defBody s__law_price) (defScope s__law_price) .none kV doc pm an cdv ct) ⟨us, []⟩ = pure ((["_law_web_here", "_law_k", "_law_row", "_law_stand"] : List Str).zip us) := match us, hl with | [_, _, _, _], _ => by kernel_rfl
theorem sc__law_calls : FnScope ["_law_pot_here", "_law_web_here", "_law_moving", "_law_calls_here", "_law_stand"] ["_law_pot_here", "_law_web_here"] (defScope s__law_calls) := ⟨rfl, rfl, rfl, by decide +kernel, rfl, by decide +kernel, by decide +kernel⟩
theorem F__law_calls (T : Hd K mg) : ∃ (f : Addr) (fd : FuncData), FunD K "_law_calls" "_law_calls" (defArgs s__law_calls) (defBody s__law_calls) (defScope s__law_calls) [] [] f fd ∧ mg "_law_calls" = some (.ref f) := T.fn 81 (d := d__law_calls) rfl rfl rfl (g__law_calls T)
theorem B__law_calls (kV doc pm : Value) (an : Option Addr) (cdv ct : Value) (us : List Value) (hl : us.length = (["_law_pot_here", "_law_web_here"] : List Str).length) : bindArgs (PySem.W.fnOf "_law_calls" "_law_calls" (defArgs s__law_calls) (defBody s__law_calls) (defScope s__law_calls) .none kV doc pm an cdv ct) ⟨us, []⟩ = pure ((["_law_pot_here", "_law_web_here"] : List Str).zip us) := match us, hl with | [_, _], _ => by kernel_rfl
theorem sc__law_round : FnScope ["_law_web_here", "_law_k", "_law_calls_here", "_law_row", "_law_after", "_law_stand", "_law_turn", "_law_again", "_law_part"] ["_law_web_here", "_law_k", "_law_calls_here", "_law_row"] (defScope s__law_round) := ⟨rfl, rfl, rfl, by decide +kernel, rfl, by decide +kernel, by decide +kernel⟩
theorem F__law_round (T : Hd K mg) : ∃ (f : Addr) (fd : FuncData), FunD K "_law_round" "_law_round" (defArgs s__law_round) (defBody s__law_round) (defScope s__law_round) [] [] f fd ∧ mg "_law_round" = some (.ref f) := T.fn 82 (d := d__law_round) rfl rfl rfl (g__law_round T)
theorem B__law_round (kV doc pm : Value) (an : Option Addr) (cdv ct : Value) (us : List Value) (hl : us.length = (["_law_web_here", "_law_k", "_law_calls_here", "_law_row"] : List Str).length) : bindArgs (PySem.W.fnOf "_law_round" "_law_round" (defArgs s__law_round) (defBody s__law_round) (defScope s__law_round) .none kV doc pm an cdv ct) ⟨us, []⟩ = pure ((["_law_web_here", "_law_k", "_law_calls_here", "_law_row"] : List Str).zip us) := match us, hl with | [_, _, _, _], _ => by kernel_rfl
theorem sc__law_forever : FnScope ["_law_web_here", "_law_k", "_law_calls_here", "_law_row", "_law_turn", "_law_after", "_law_due_here"] ["_law_web_here", "_law_k", "_law_calls_here"] (defScope s__law_forever) := ⟨rfl, rfl, rfl, by decide +kernel, rfl, by decide +kernel, by decide +kernel⟩
theorem F__law_forever (T : Hd K mg) : ∃ (f : Addr) (fd : FuncData), FunD K "_law_forever" "_law_forever" (defArgs s__law_forever) (defBody s__law_forever) (defScope s__law_forever) [] [] f fd ∧ mg "_law_forever" = some (.ref f) := T.fn 83 (d := d__law_forever) rfl rfl rfl (g__law_forever T)
theorem B__law_forever (kV doc pm : Value) (an : Option Addr) (cdv ct : Value) (us : List Value) (hl : us.length = (["_law_web_here", "_law_k", "_law_calls_here"] : List Str).length) : bindArgs (PySem.W.fnOf "_law_forever" "_law_forever" (defArgs s__law_forever) (defBody s__law_forever) (defScope s__law_forever) .none kV doc pm an cdv ct) ⟨us, []⟩ = pure ((["_law_web_here", "_law_k", "_law_calls_here"] : List Str).zip us) := match us, hl with | [_, _, _], _ => by kernel_rfl
theorem sc__law_built : FnScope ["_law_web_here", "_law_lot_here"] ["_law_web_here"] (defScope s__law_built) := ⟨rfl, rfl, rfl, by decide +kernel, rfl, by decide +kernel, by decide +kernel⟩
theorem F__law_built (T : Hd K mg) : ∃ (f : Addr) (fd : FuncData), FunD K "_law_built" "_law_built" (defArgs s__law_built) (defBody s__law_built) (defScope s__law_built) [] [] f fd ∧ mg "_law_built" = some (.ref f) := T.fn 84 (d := d__law_built) rfl rfl rfl (g__law_built T)
theorem B__law_built (kV doc pm : Value) (an : Option Addr) (cdv ct : Value) (us : List Value) (hl : us.length = (["_law_web_here"] : List Str).length) : bindArgs (PySem.W.fnOf "_law_built" "_law_built" (defArgs s__law_built) (defBody s__law_built) (defScope s__law_built) .none kV doc pm an cdv ct) ⟨us, []⟩ = pure ((["_law_web_here"] : List Str).zip us) := match us, hl with | [_], _ => by kernel_rfl
theorem sc__law_above : FnScope ["_law_web_here", "_law_k", "_law_calls_here", "_law_row", "_law_ranks", "_law_faults", "_law_stand", "_law_good", "_law_raised", "_law_at"] ["_law_web_here", "_law_k", "_law_calls_here", "_law_row", "_law_ranks"] (defScope s__law_above) := ⟨rfl, rfl, rfl, by decide +kernel, rfl, by decide +kernel, by decide +kernel⟩
theorem F__law_above (T : Hd K mg) : ∃ (f : Addr) (fd : FuncData), FunD K "_law_above" "_law_above" (defArgs s__law_above) (defBody s__law_above) (defScope s__law_above) [] [] f fd ∧ mg "_law_above" = some (.ref f) := T.fn 85 (d := d__law_above) rfl rfl rfl (g__law_above T)
theorem B__law_above (kV doc pm : Value) (an : Option Addr) (cdv ct : Value) (us : List Value) (hl : us.length = (["_law_web_here", "_law_k", "_law_calls_here", "_law_row", "_law_ranks"] : List Str).length) : bindArgs (PySem.W.fnOf "_law_above" "_law_above" (defArgs s__law_above) (defBody s__law_above) (defScope s__law_above) .none kV doc pm an cdv ct) ⟨us, []⟩ = pure ((["_law_web_here", "_law_k", "_law_calls_here", "_law_row", "_law_ranks"] : List Str).zip us) := match us, hl with | [_, _, _, _, _], _ => by kernel_rfl
theorem sc__law_below : FnScope ["_law_web_here", "_law_k", "_law_calls_here", "_law_row", "_law_counts", "_law_faults", "_law_stand", "_law_good", "_law_least", "_law_lessened", "_law_at"] ["_law_web_here", "_law_k", "_law_calls_here", "_law_row", "_law_counts"] (defScope s__law_below) := ⟨rfl, rfl, rfl, by decide +kernel, rfl, by decide +kernel, by decide +kernel⟩
theorem F__law_below (T : Hd K mg) : ∃ (f : Addr) (fd : FuncData), FunD K "_law_below" "_law_below" (defArgs s__law_below) (defBody s__law_below) (defScope s__law_below) [] [] f fd ∧ mg "_law_below" = some (.ref f) := T.fn 86 (d := d__law_below) rfl rfl rfl (g__law_below T)
theorem B__law_below (kV doc pm : Value) (an : Option Addr) (cdv ct : Value) (us : List Value) (hl : us.length = (["_law_web_here", "_law_k", "_law_calls_here", "_law_row", "_law_counts"] : List Str).length) : bindArgs (PySem.W.fnOf "_law_below" "_law_below" (defArgs s__law_below) (defBody s__law_below) (defScope s__law_below) .none kV doc pm an cdv ct) ⟨us, []⟩ = pure ((["_law_web_here", "_law_k", "_law_calls_here", "_law_row", "_law_counts"] : List Str).zip us) := match us, hl with | [_, _, _, _, _], _ => by kernel_rfl
theorem sc__law_call_ranks : FnScope ["_law_web_here", "_law_k", "_law_calls_here", "_law_row", "_law_v", "_law_left", "_law_ranks", "_law_turn", "_law_raised", "_law_out", "_law_part", "_law_at"] ["_law_web_here", "_law_k", "_law_calls_here", "_law_row"] (defScope s__law_call_ranks) := ⟨rfl, rfl, rfl, by decide +kernel, rfl, by decide +kernel, by decide +kernel⟩
theorem F__law_call_ranks (T : Hd K mg) : ∃ (f : Addr) (fd : FuncData), FunD K "_law_call_ranks" "_law_call_ranks" (defArgs s__law_call_ranks) (defBody s__law_call_ranks) (defScope s__law_call_ranks) [] [] f fd ∧ mg "_law_call_ranks" = some (.ref f) := T.fn 87 (d := d__law_call_ranks) rfl rfl rfl (g__law_call_ranks T)
theorem B__law_call_ranks (kV doc pm : Value) (an : Option Addr) (cdv ct : Value) (us : List Value) (hl : us.length = (["_law_web_here", "_law_k", "_law_calls_here", "_law_row"] : List Str).length) : bindArgs (PySem.W.fnOf "_law_call_ranks" "_law_call_ranks" (defArgs s__law_call_ranks) (defBody s__law_call_ranks) (defScope s__law_call_ranks) .none kV doc pm an cdv ct) ⟨us, []⟩ = pure ((["_law_web_here", "_law_k", "_law_calls_here", "_law_row"] : List Str).zip us) := match us, hl with | [_, _, _, _], _ => by kernel_rfl
theorem sc__law_call_counts : FnScope ["_law_web_here", "_law_k", "_law_calls_here", "_law_row", "_law_v", "_law_left", "_law_counts", "_law_turn", "_law_lessened", "_law_after", "_law_out", "_law_part", "_law_at"] ["_law_web_here", "_law_k", "_law_calls_here", "_law_row"] (defScope s__law_call_counts) := ⟨rfl, rfl, rfl, by decide +kernel, rfl, by decide +kernel, by decide +kernel⟩
theorem F__law_call_counts (T : Hd K mg) : ∃ (f : Addr) (fd : FuncData), FunD K "_law_call_counts" "_law_call_counts" (defArgs s__law_call_counts) (defBody s__law_call_counts) (defScope s__law_call_counts) [] [] f fd ∧ mg "_law_call_counts" = some (.ref f) := T.fn 88 (d := d__law_call_counts) rfl rfl rfl (g__law_call_counts T)
theorem B__law_call_counts (kV doc pm : Value) (an : Option Addr) (cdv ct : Value) (us : List Value) (hl : us.length = (["_law_web_here", "_law_k", "_law_calls_here", "_law_row"] : List Str).length) : bindArgs (PySem.W.fnOf "_law_call_counts" "_law_call_counts" (defArgs s__law_call_counts) (defBody s__law_call_counts) (defScope s__law_call_counts) .none kV doc pm an cdv ct) ⟨us, []⟩ = pure ((["_law_web_here", "_law_k", "_law_calls_here", "_law_row"] : List Str).zip us) := match us, hl with | [_, _, _, _], _ => by kernel_rfl
theorem sc__law_parts : FnScope ["_law_paper", "_law_built_here", "_law_k", "_law_calls_here", "_law_row", "_law_ranks", "_law_counts"] ["_law_paper", "_law_built_here", "_law_k", "_law_calls_here", "_law_row", "_law_ranks", "_law_counts"] (defScope s__law_parts) := ⟨rfl, rfl, rfl, by decide +kernel, rfl, by decide +kernel, by decide +kernel⟩
theorem F__law_parts (T : Hd K mg) : ∃ (f : Addr) (fd : FuncData), FunD K "_law_parts" "_law_parts" (defArgs s__law_parts) (defBody s__law_parts) (defScope s__law_parts) [] [] f fd ∧ mg "_law_parts" = some (.ref f) := T.fn 89 (d := d__law_parts) rfl rfl rfl (g__law_parts T)
theorem B__law_parts (kV doc pm : Value) (an : Option Addr) (cdv ct : Value) (us : List Value) (hl : us.length = (["_law_paper", "_law_built_here", "_law_k", "_law_calls_here", "_law_row", "_law_ranks", "_law_counts"] : List Str).length) : bindArgs (PySem.W.fnOf "_law_parts" "_law_parts" (defArgs s__law_parts) (defBody s__law_parts) (defScope s__law_parts) .none kV doc pm an cdv ct) ⟨us, []⟩ = pure ((["_law_paper", "_law_built_here", "_law_k", "_law_calls_here", "_law_row", "_law_ranks", "_law_counts"] : List Str).zip us) := match us, hl with | [_, _, _, _, _, _, _], _ => by kernel_rfl
theorem sc__law_judged : FnScope ["_law_paper", "_law_built_here", "_law_web_here", "_law_k", "_law_calls_here", "_law_row", "_law_ranks", "_law_counts", "_law_above_here", "_law_below_here", "_law_faults", "_law_told", "_law_v"] ["_law_paper", "_law_built_here", "_law_web_here", "_law_k", "_law_calls_here", "_law_row", "_law_ranks", "_law_counts"] (defScope s__law_judged) := ⟨rfl, rfl, rfl, by decide +kernel, rfl, by decide +kernel, by decide +kernel⟩
theorem F__law_judged (T : Hd K mg) : ∃ (f : Addr) (fd : FuncData), FunD K "_law_judged" "_law_judged" (defArgs s__law_judged) (defBody s__law_judged) (defScope s__law_judged) [] [] f fd ∧ mg "_law_judged" = some (.ref f) := T.fn 90 (d := d__law_judged) rfl rfl rfl (g__law_judged T)
theorem B__law_judged (kV doc pm : Value) (an : Option Addr) (cdv ct : Value) (us : List Value) (hl : us.length = (["_law_paper", "_law_built_here", "_law_web_here", "_law_k", "_law_calls_here", "_law_row", "_law_ranks", "_law_counts"] : List Str).length) : bindArgs (PySem.W.fnOf "_law_judged" "_law_judged" (defArgs s__law_judged) (defBody s__law_judged) (defScope s__law_judged) .none kV doc pm an cdv ct) ⟨us, []⟩ = pure ((["_law_paper", "_law_built_here", "_law_web_here", "_law_k", "_law_calls_here", "_law_row", "_law_ranks", "_law_counts"] : List Str).zip us) := match us, hl with | [_, _, _, _, _, _, _, _], _ => by kernel_rfl
theorem sc__law_code : FnScope ["_law_built_here", "_law_k", "_law_calls_here", "_law_row", "_law_ranks", "_law_counts", "_law_code_here"] ["_law_built_here", "_law_k", "_law_calls_here", "_law_row", "_law_ranks", "_law_counts"] (defScope s__law_code) := ⟨rfl, rfl, rfl, by decide +kernel, rfl, by decide +kernel, by decide +kernel⟩
theorem F__law_code (T : Hd K mg) : ∃ (f : Addr) (fd : FuncData), FunD K "_law_code" "_law_code" (defArgs s__law_code) (defBody s__law_code) (defScope s__law_code) [] [] f fd ∧ mg "_law_code" = some (.ref f) := T.fn 91 (d := d__law_code) rfl rfl rfl (g__law_code T)
theorem B__law_code (kV doc pm : Value) (an : Option Addr) (cdv ct : Value) (us : List Value) (hl : us.length = (["_law_built_here", "_law_k", "_law_calls_here", "_law_row", "_law_ranks", "_law_counts"] : List Str).length) : bindArgs (PySem.W.fnOf "_law_code" "_law_code" (defArgs s__law_code) (defBody s__law_code) (defScope s__law_code) .none kV doc pm an cdv ct) ⟨us, []⟩ = pure ((["_law_built_here", "_law_k", "_law_calls_here", "_law_row", "_law_ranks", "_law_counts"] : List Str).zip us) := match us, hl with | [_, _, _, _, _, _], _ => by kernel_rfl
theorem sc__law_alike : FnScope ["_law_paper", "_law_built_here", "_law_k", "_law_calls_here", "_law_fields", "_law_field"] ["_law_paper", "_law_built_here", "_law_k", "_law_calls_here"] (defScope s__law_alike) := ⟨rfl, rfl, rfl, by decide +kernel, rfl, by decide +kernel, by decide +kernel⟩
theorem F__law_alike (T : Hd K mg) : ∃ (f : Addr) (fd : FuncData), FunD K "_law_alike" "_law_alike" (defArgs s__law_alike) (defBody s__law_alike) (defScope s__law_alike) [] [] f fd ∧ mg "_law_alike" = some (.ref f) := T.fn 92 (d := d__law_alike) rfl rfl rfl (g__law_alike T)
theorem B__law_alike (kV doc pm : Value) (an : Option Addr) (cdv ct : Value) (us : List Value) (hl : us.length = (["_law_paper", "_law_built_here", "_law_k", "_law_calls_here"] : List Str).length) : bindArgs (PySem.W.fnOf "_law_alike" "_law_alike" (defArgs s__law_alike) (defBody s__law_alike) (defScope s__law_alike) .none kV doc pm an cdv ct) ⟨us, []⟩ = pure ((["_law_paper", "_law_built_here", "_law_k", "_law_calls_here"] : List Str).zip us) := match us, hl with | [_, _, _, _], _ => by kernel_rfl
theorem sc__law_refusals : FnScope ["_law_web_here", "_law_built_here", "_law_k", "_law_calls_here", "_law_row", "_law_ranks", "_law_size", "_law_ends", "_law_stand"] ["_law_web_here", "_law_built_here", "_law_k", "_law_calls_here", "_law_row", "_law_ranks"] (defScope s__law_refusals) := ⟨rfl, rfl, rfl, by decide +kernel, rfl, by decide +kernel, by decide +kernel⟩
theorem F__law_refusals (T : Hd K mg) : ∃ (f : Addr) (fd : FuncData), FunD K "_law_refusals" "_law_refusals" (defArgs s__law_refusals) (defBody s__law_refusals) (defScope s__law_refusals) [] [] f fd ∧ mg "_law_refusals" = some (.ref f) := T.fn 93 (d := d__law_refusals) rfl rfl rfl (g__law_refusals T)
theorem B__law_refusals (kV doc pm : Value) (an : Option Addr) (cdv ct : Value) (us : List Value) (hl : us.length = (["_law_web_here", "_law_built_here", "_law_k", "_law_calls_here", "_law_row", "_law_ranks"] : List Str).length) : bindArgs (PySem.W.fnOf "_law_refusals" "_law_refusals" (defArgs s__law_refusals) (defBody s__law_refusals) (defScope s__law_refusals) .none kV doc pm an cdv ct) ⟨us, []⟩ = pure ((["_law_web_here", "_law_built_here", "_law_k", "_law_calls_here", "_law_row", "_law_ranks"] : List Str).zip us) := match us, hl with | [_, _, _, _, _, _], _ => by kernel_rfl
theorem sc_law : FnScope ["_law_script", "_law_pot_here", "_law_web_here", "_law_size", "_law_k", "_law_calls_here", "_law_built_here", "_law_due_here", "_law_ranks", "_law_counts", "_law_moving", "_law_handed", "_law_paper", "_law_row", "_law_change", "_law_at", "_law_some", "_law_which", "_law_given", "_law_other", "_law_same", "_law_lot_here"] ["_law_script"] (defScope s_law) := ⟨rfl, rfl, rfl, by decide +kernel, rfl, by decide +kernel, by decide +kernel⟩
theorem F_law (T : Hd K mg) : ∃ (f : Addr) (fd : FuncData), FunD K "law" "law" (defArgs s_law) (defBody s_law) (defScope s_law) [] [] f fd ∧ mg "law" = some (.ref f) := T.fn 94 (d := d_law) rfl rfl rfl (g_law T)
theorem B_law (kV doc pm : Value) (an : Option Addr) (cdv ct : Value) (us : List Value) (hl : us.length = (["_law_script"] : List Str).length) : bindArgs (PySem.W.fnOf "law" "law" (defArgs s_law) (defBody s_law) (defScope s_law) .none kV doc pm an cdv ct) ⟨us, []⟩ = pure ((["_law_script"] : List Str).zip us) := match us, hl with | [_], _ => by kernel_rfl
theorem sclsB_ok {C : Addr} (h : sclsB K C = true) : SlX.SCls K C := ⟨(He.ba h).1, (He.ba (He.ba h).2).1, (He.ba (He.ba (He.ba h).2).2).1, He.eqO_ok (He.ba (He.ba (He.ba h).2).2).2⟩
theorem slotB_ok {C : Addr} {f : Str} {i : Nat} (hi : i < 1000) (h : slotB K C f i = true) : SlX.Slot1 K C f (He.ma K C f) i :=
  ⟨He.eqO_ok (He.ba h).1, He.eqO_ok (He.ba (He.ba h).2).1, of_decide_eq_true (He.ba (He.ba (He.ba h).2).2).1, of_decide_eq_true (He.ba (He.ba (He.ba (He.ba h).2).2).2).1, of_decide_eq_true (He.ba (He.ba (He.ba (He.ba h).2).2).2).2, hi⟩
theorem isiB_ok {C : Addr} (h : isiB K C = true) : SlX.SIsi K C := ⟨He.eqO_ok (He.ba h).1, He.eqO_ok (He.ba (He.ba h).2).1, of_decide_eq_true (He.ba (He.ba (He.ba h).2).2).1, of_decide_eq_true (He.ba (He.ba (He.ba h).2).2).2⟩
/-- a property f of the class at C, its getter at g -/
structure PropX (K : PySem.W.Frag) (C : Addr) (f : Str) (p g : Addr) : Prop where
  at_ : PySem.W.findIn K (.ref C) f = some (some (.ref p))
  get : PySem.W.specialIn K (.ref p) "__get__" = some (some (.builtin "property.__get__"))
  tk : PySem.W.takesIn K (.ref p) = some true
  rc : ∃ rest, PySem.W.recIn K p "property" = some (.ref g :: rest)
theorem propB_ok {C : Addr} {f : Str} (h : propB K C f = true) : PropX K C f (He.ma K C f) (gg K (He.ma K C f)) := by
  obtain ⟨h1, h⟩ := He.ba h
  obtain ⟨h2, h⟩ := He.ba h
  obtain ⟨h3, h4⟩ := He.ba h
  refine ⟨He.eqO_ok h1, He.eqO_ok h2, of_decide_eq_true h3, ?_⟩
  cases e : PySem.W.recIn K (He.ma K C f) "property" with
  | none =>
    rw [e] at h4
    cases h4
  | some l =>
    rw [e] at h4
    cases l with
    | nil => cases h4
    | cons a r =>
      cases a with
      | ref g =>
        have z : gg K (He.ma K C f) = g := of_decide_eq_true h4
        exact ⟨r, by rw [z]⟩
      | _ => cases h4
theorem mkB_ok {C : Addr} (h : mkB K C = true) : Mk K C (He.ma K C "__init__") := ⟨(He.ba h).1, He.eqO_ok (He.ba (He.ba h).2).1, (He.ba (He.ba (He.ba h).2).2).1, (He.ba (He.ba (He.ba h).2).2).2⟩
theorem methB_ok {C : Addr} {m : Str} (h : methB K C m = true) : Meth K C m (He.ma K C m) := ⟨He.eqO_ok (He.ba h).1, (He.ba (He.ba h).2).1, (He.ba (He.ba h).2).2⟩
/-- an own error -/
structure ExX (K : PySem.W.Frag) (C : Addr) : Prop where
  ex : PySem.W.excIn K C [.type "Exception", .type "BaseException", .type "object"] "Exception.__new__" = true
  kp : PySem.W.keepIn K (.ref C) = true
  sub : PySem.W.subIn K (.ref C) (.type "BaseException") = some true
  ty : PySem.W.typeIn K (.ref C) = some (.type "type")
theorem excB_ok {C : Addr} (h : excB K C = true) : ExX K C := ⟨(He.ba h).1, (He.ba (He.ba h).2).1, of_decide_eq_true (He.ba (He.ba (He.ba h).2).2).1, of_decide_eq_true (He.ba (He.ba (He.ba h).2).2).2⟩
theorem cmB_ok {C : Addr} {m : Str} (h : cmB K C m = true) : ClX.CRead K C (.type "type") ∧ ClX.CMet K C (.type "type") m (He.ma K C m) (gc K (He.ma K C m)) := by
  obtain ⟨h1, h⟩ := He.ba h
  obtain ⟨h2, h⟩ := He.ba h
  obtain ⟨h3, h⟩ := He.ba h
  obtain ⟨h4, h5⟩ := He.ba h
  refine ⟨⟨h1, He.eqO_ok h2⟩, ⟨?_, ?_, h3⟩⟩
  · split at h4
    · rename_i b p C' e
      obtain ⟨k1, k2⟩ := He.ba h4
      obtain ⟨k2, k3⟩ := He.ba k2
      rw [e, of_decide_eq_true k1, of_decide_eq_true k2, of_decide_eq_true k3]
    · cases h4
  · split at h5
    · rename_i g r e
      have z : gc K (He.ma K C m) = g := of_decide_eq_true h5
      exact ⟨r, by rw [z]; exact e⟩
    · cases h5
theorem Hd.methD (T : Hd K mg) (i : Nat) {d : DefX} {x : Str} (h : fns[i]? = some d) (ha : d.at_ K = He.ga K x) (hm : mg x = some (.ref (He.ga K x))) : ∃ (f : Addr) (fd : FuncData), FunD K d.name d.qual (defArgs d.st) (defBody d.st) (defScope d.st) (d.dvs K) [] f fd ∧ mg x = some (.ref f) := by
  obtain ⟨fd, F⟩ := T.says.def_ i h
  have F' : FunD K d.name d.qual (defArgs d.st) (defBody d.st) (defScope d.st) (d.dvs K) [] (d.at_ K) fd := F
  rw [ha] at F'
  exact ⟨_, fd, F', hm⟩
theorem Hd.faI (T : Hd K mg) (h : (PwH.faI.all fun f => f.ok K) = true) (i : Nat) {f : He.Fa} (hf : PwH.faI[i]? = some f) : f.ok K = true := List.all_eq_true.mp h f (List.mem_of_getElem? hf)
theorem Hd.meth (T : Hd K mg) (i : Nat) {d : DefX} {a : Addr} (h : fns[i]? = some d) (ha : d.at_ K = a) (hd : d.dvs K = []) : ∃ (fd : FuncData), FunD K d.name d.qual (defArgs d.st) (defBody d.st) (defScope d.st) [] [] a fd := by
  obtain ⟨fd, F⟩ := T.says.def_ i h
  have F' : FunD K d.name d.qual (defArgs d.st) (defBody d.st) (defScope d.st) (d.dvs K) [] (d.at_ K) fd := F
  rw [hd, ha] at F'
  exact ⟨fd, F'⟩
theorem S_Web (T : Hd K mg) : SlX.SCls K (He.ga K "Web") := sclsB_ok ((He.ba (He.ba (He.ba (He.ba T.p0).2).2).2).1)
theorem I_Web (T : Hd K mg) : SlX.SIsi K (He.ga K "Web") := isiB_ok ((He.ba (He.ba (He.ba (He.ba (He.ba T.p0).2).2).2).2).1)
theorem L_Web_dues (T : Hd K mg) : SlX.Slot1 K (He.ga K "Web") "_dues" (He.ma K (He.ga K "Web") "_dues") 0 := slotB_ok (by decide) ((He.ba (He.ba (He.ba (He.ba (He.ba (He.ba T.p0).2).2).2).2).2).1)
theorem L_Web_ends (T : Hd K mg) : SlX.Slot1 K (He.ga K "Web") "_ends" (He.ma K (He.ga K "Web") "_ends") 1 := slotB_ok (by decide) ((He.ba (He.ba (He.ba (He.ba (He.ba (He.ba (He.ba T.p0).2).2).2).2).2).2).1)
theorem L_Web_first (T : Hd K mg) : SlX.Slot1 K (He.ga K "Web") "_first" (He.ma K (He.ga K "Web") "_first") 2 := slotB_ok (by decide) ((He.ba (He.ba (He.ba (He.ba (He.ba (He.ba (He.ba (He.ba T.p0).2).2).2).2).2).2).2).1)
theorem L_Web_greatest_due (T : Hd K mg) : SlX.Slot1 K (He.ga K "Web") "_greatest_due" (He.ma K (He.ga K "Web") "_greatest_due") 3 := slotB_ok (by decide) ((He.ba (He.ba (He.ba (He.ba (He.ba (He.ba (He.ba (He.ba (He.ba T.p0).2).2).2).2).2).2).2).2).1)
theorem L_Web_marks (T : Hd K mg) : SlX.Slot1 K (He.ga K "Web") "_marks" (He.ma K (He.ga K "Web") "_marks") 4 := slotB_ok (by decide) ((He.ba (He.ba (He.ba (He.ba (He.ba (He.ba (He.ba (He.ba (He.ba (He.ba T.p0).2).2).2).2).2).2).2).2).2).1)
theorem L_Web_moving (T : Hd K mg) : SlX.Slot1 K (He.ga K "Web") "_moving" (He.ma K (He.ga K "Web") "_moving") 5 := slotB_ok (by decide) ((He.ba (He.ba (He.ba (He.ba (He.ba (He.ba (He.ba (He.ba (He.ba (He.ba (He.ba T.p0).2).2).2).2).2).2).2).2).2).2).1)
theorem L_Web_second (T : Hd K mg) : SlX.Slot1 K (He.ga K "Web") "_second" (He.ma K (He.ga K "Web") "_second") 6 := slotB_ok (by decide) ((He.ba (He.ba (He.ba (He.ba (He.ba (He.ba (He.ba (He.ba (He.ba (He.ba (He.ba (He.ba T.p0).2).2).2).2).2).2).2).2).2).2).2).1)
theorem S_Verdict (T : Hd K mg) : SlX.SCls K (He.ga K "Verdict") := sclsB_ok ((He.ba (He.ba (He.ba (He.ba (He.ba (He.ba (He.ba (He.ba (He.ba (He.ba (He.ba (He.ba (He.ba T.p0).2).2).2).2).2).2).2).2).2).2).2).2).1)
theorem I_Verdict (T : Hd K mg) : SlX.SIsi K (He.ga K "Verdict") := isiB_ok ((He.ba (He.ba (He.ba (He.ba (He.ba (He.ba (He.ba (He.ba (He.ba (He.ba (He.ba (He.ba (He.ba (He.ba T.p0).2).2).2).2).2).2).2).2).2).2).2).2).2).1)
theorem L_Verdict_faults (T : Hd K mg) : SlX.Slot1 K (He.ga K "Verdict") "_faults" (He.ma K (He.ga K "Verdict") "_faults") 0 := slotB_ok (by decide) ((He.ba (He.ba (He.ba (He.ba (He.ba (He.ba (He.ba (He.ba (He.ba (He.ba (He.ba (He.ba (He.ba (He.ba (He.ba T.p0).2).2).2).2).2).2).2).2).2).2).2).2).2).2).1)
theorem S_CallPaper (T : Hd K mg) : SlX.SCls K (He.ga K "CallPaper") := sclsB_ok ((He.ba (He.ba (He.ba (He.ba (He.ba (He.ba (He.ba (He.ba (He.ba (He.ba (He.ba (He.ba (He.ba (He.ba (He.ba (He.ba T.p0).2).2).2).2).2).2).2).2).2).2).2).2).2).2).2).1)
theorem I_CallPaper (T : Hd K mg) : SlX.SIsi K (He.ga K "CallPaper") := isiB_ok ((He.ba (He.ba (He.ba (He.ba (He.ba (He.ba (He.ba (He.ba (He.ba (He.ba (He.ba (He.ba (He.ba (He.ba (He.ba (He.ba (He.ba T.p0).2).2).2).2).2).2).2).2).2).2).2).2).2).2).2).2).1)
theorem L_CallPaper_calls (T : Hd K mg) : SlX.Slot1 K (He.ga K "CallPaper") "_calls" (He.ma K (He.ga K "CallPaper") "_calls") 0 := slotB_ok (by decide) ((He.ba (He.ba (He.ba (He.ba (He.ba (He.ba (He.ba (He.ba (He.ba (He.ba (He.ba (He.ba (He.ba (He.ba (He.ba (He.ba (He.ba (He.ba T.p0).2).2).2).2).2).2).2).2).2).2).2).2).2).2).2).2).2).1)
theorem L_CallPaper_chips (T : Hd K mg) : SlX.Slot1 K (He.ga K "CallPaper") "_chips" (He.ma K (He.ga K "CallPaper") "_chips") 1 := slotB_ok (by decide) ((He.ba (He.ba (He.ba (He.ba (He.ba (He.ba (He.ba (He.ba (He.ba (He.ba (He.ba (He.ba (He.ba (He.ba (He.ba (He.ba (He.ba (He.ba (He.ba T.p0).2).2).2).2).2).2).2).2).2).2).2).2).2).2).2).2).2).2).1)
theorem L_CallPaper_counts (T : Hd K mg) : SlX.Slot1 K (He.ga K "CallPaper") "_counts" (He.ma K (He.ga K "CallPaper") "_counts") 2 := slotB_ok (by decide) ((He.ba (He.ba (He.ba (He.ba (He.ba (He.ba (He.ba (He.ba (He.ba (He.ba (He.ba (He.ba (He.ba (He.ba (He.ba (He.ba (He.ba (He.ba (He.ba (He.ba T.p0).2).2).2).2).2).2).2).2).2).2).2).2).2).2).2).2).2).2).2).1)
theorem L_CallPaper_ranks (T : Hd K mg) : SlX.Slot1 K (He.ga K "CallPaper") "_ranks" (He.ma K (He.ga K "CallPaper") "_ranks") 3 := slotB_ok (by decide) ((He.ba (He.ba (He.ba (He.ba (He.ba (He.ba (He.ba (He.ba (He.ba (He.ba (He.ba (He.ba (He.ba (He.ba (He.ba (He.ba (He.ba (He.ba (He.ba (He.ba (He.ba T.p0).2).2).2).2).2).2).2).2).2).2).2).2).2).2).2).2).2).2).2).2).1)
theorem L_CallPaper_row (T : Hd K mg) : SlX.Slot1 K (He.ga K "CallPaper") "_row" (He.ma K (He.ga K "CallPaper") "_row") 4 := slotB_ok (by decide) ((He.ba (He.ba (He.ba (He.ba (He.ba (He.ba (He.ba (He.ba (He.ba (He.ba (He.ba (He.ba (He.ba (He.ba (He.ba (He.ba (He.ba (He.ba (He.ba (He.ba (He.ba (He.ba T.p0).2).2).2).2).2).2).2).2).2).2).2).2).2).2).2).2).2).2).2).2).2).1)
theorem L_CallPaper_web (T : Hd K mg) : SlX.Slot1 K (He.ga K "CallPaper") "_web" (He.ma K (He.ga K "CallPaper") "_web") 5 := slotB_ok (by decide) ((He.ba (He.ba (He.ba (He.ba (He.ba (He.ba (He.ba (He.ba (He.ba (He.ba (He.ba (He.ba (He.ba (He.ba (He.ba (He.ba (He.ba (He.ba (He.ba (He.ba (He.ba (He.ba (He.ba T.p0).2).2).2).2).2).2).2).2).2).2).2).2).2).2).2).2).2).2).2).2).2).2).1)
theorem P_Web_size (T : Hd K mg) : PropX K (He.ga K "Web") "size" (He.ma K (He.ga K "Web") "size") (gg K (He.ma K (He.ga K "Web") "size")) := propB_ok ((He.ba (He.ba (He.ba (He.ba (He.ba (He.ba (He.ba (He.ba (He.ba (He.ba (He.ba (He.ba (He.ba (He.ba (He.ba (He.ba (He.ba (He.ba (He.ba (He.ba (He.ba (He.ba (He.ba T.p0).2).2).2).2).2).2).2).2).2).2).2).2).2).2).2).2).2).2).2).2).2).2).2)
theorem P_Web_first (T : Hd K mg) : PropX K (He.ga K "Web") "first" (He.ma K (He.ga K "Web") "first") (gg K (He.ma K (He.ga K "Web") "first")) := propB_ok ((He.ba T.p1).1)
theorem P_Web_second (T : Hd K mg) : PropX K (He.ga K "Web") "second" (He.ma K (He.ga K "Web") "second") (gg K (He.ma K (He.ga K "Web") "second")) := propB_ok ((He.ba (He.ba T.p1).2).1)
theorem P_Web_marks (T : Hd K mg) : PropX K (He.ga K "Web") "marks" (He.ma K (He.ga K "Web") "marks") (gg K (He.ma K (He.ga K "Web") "marks")) := propB_ok ((He.ba (He.ba (He.ba T.p1).2).2).1)
theorem P_Web_dues (T : Hd K mg) : PropX K (He.ga K "Web") "dues" (He.ma K (He.ga K "Web") "dues") (gg K (He.ma K (He.ga K "Web") "dues")) := propB_ok ((He.ba (He.ba (He.ba (He.ba T.p1).2).2).2).1)
theorem P_Web_moving (T : Hd K mg) : PropX K (He.ga K "Web") "moving" (He.ma K (He.ga K "Web") "moving") (gg K (He.ma K (He.ga K "Web") "moving")) := propB_ok ((He.ba (He.ba (He.ba (He.ba (He.ba T.p1).2).2).2).2).1)
theorem P_Verdict_faults (T : Hd K mg) : PropX K (He.ga K "Verdict") "faults" (He.ma K (He.ga K "Verdict") "faults") (gg K (He.ma K (He.ga K "Verdict") "faults")) := propB_ok ((He.ba (He.ba (He.ba (He.ba (He.ba (He.ba T.p1).2).2).2).2).2).1)
theorem P_CallPaper_web (T : Hd K mg) : PropX K (He.ga K "CallPaper") "web" (He.ma K (He.ga K "CallPaper") "web") (gg K (He.ma K (He.ga K "CallPaper") "web")) := propB_ok ((He.ba (He.ba (He.ba (He.ba (He.ba (He.ba (He.ba T.p1).2).2).2).2).2).2).1)
theorem P_CallPaper_chips (T : Hd K mg) : PropX K (He.ga K "CallPaper") "chips" (He.ma K (He.ga K "CallPaper") "chips") (gg K (He.ma K (He.ga K "CallPaper") "chips")) := propB_ok ((He.ba (He.ba (He.ba (He.ba (He.ba (He.ba (He.ba (He.ba T.p1).2).2).2).2).2).2).2).1)
theorem P_CallPaper_calls (T : Hd K mg) : PropX K (He.ga K "CallPaper") "calls" (He.ma K (He.ga K "CallPaper") "calls") (gg K (He.ma K (He.ga K "CallPaper") "calls")) := propB_ok ((He.ba (He.ba (He.ba (He.ba (He.ba (He.ba (He.ba (He.ba (He.ba T.p1).2).2).2).2).2).2).2).2).1)
theorem P_CallPaper_row (T : Hd K mg) : PropX K (He.ga K "CallPaper") "row" (He.ma K (He.ga K "CallPaper") "row") (gg K (He.ma K (He.ga K "CallPaper") "row")) := propB_ok ((He.ba (He.ba (He.ba (He.ba (He.ba (He.ba (He.ba (He.ba (He.ba (He.ba T.p1).2).2).2).2).2).2).2).2).2).1)
theorem P_CallPaper_ranks (T : Hd K mg) : PropX K (He.ga K "CallPaper") "ranks" (He.ma K (He.ga K "CallPaper") "ranks") (gg K (He.ma K (He.ga K "CallPaper") "ranks")) := propB_ok ((He.ba (He.ba (He.ba (He.ba (He.ba (He.ba (He.ba (He.ba (He.ba (He.ba (He.ba T.p1).2).2).2).2).2).2).2).2).2).2).1)
theorem P_CallPaper_counts (T : Hd K mg) : PropX K (He.ga K "CallPaper") "counts" (He.ma K (He.ga K "CallPaper") "counts") (gg K (He.ma K (He.ga K "CallPaper") "counts")) := propB_ok ((He.ba (He.ba (He.ba (He.ba (He.ba (He.ba (He.ba (He.ba (He.ba (He.ba (He.ba (He.ba T.p1).2).2).2).2).2).2).2).2).2).2).2).1)
theorem MK_Web (T : Hd K mg) : Mk K (He.ga K "Web") (He.ma K (He.ga K "Web") "__init__") := mkB_ok ((He.ba (He.ba (He.ba (He.ba (He.ba (He.ba (He.ba (He.ba (He.ba (He.ba (He.ba (He.ba (He.ba T.p1).2).2).2).2).2).2).2).2).2).2).2).2).1)
theorem MK_Verdict (T : Hd K mg) : Mk K (He.ga K "Verdict") (He.ma K (He.ga K "Verdict") "__init__") := mkB_ok ((He.ba (He.ba (He.ba (He.ba (He.ba (He.ba (He.ba (He.ba (He.ba (He.ba (He.ba (He.ba (He.ba (He.ba T.p1).2).2).2).2).2).2).2).2).2).2).2).2).2).1)
theorem MK_CallPaper (T : Hd K mg) : Mk K (He.ga K "CallPaper") (He.ma K (He.ga K "CallPaper") "__init__") := mkB_ok ((He.ba (He.ba (He.ba (He.ba (He.ba (He.ba (He.ba (He.ba (He.ba (He.ba (He.ba (He.ba (He.ba (He.ba (He.ba T.p1).2).2).2).2).2).2).2).2).2).2).2).2).2).2).1)
theorem ME_Web_eq (T : Hd K mg) : Meth K (He.ga K "Web") "__eq__" (He.ma K (He.ga K "Web") "__eq__") := methB_ok ((He.ba (He.ba (He.ba (He.ba (He.ba (He.ba (He.ba (He.ba (He.ba (He.ba (He.ba (He.ba (He.ba (He.ba (He.ba (He.ba T.p1).2).2).2).2).2).2).2).2).2).2).2).2).2).2).2).1)
theorem ME_Web_invert (T : Hd K mg) : Meth K (He.ga K "Web") "__invert__" (He.ma K (He.ga K "Web") "__invert__") := methB_ok ((He.ba (He.ba (He.ba (He.ba (He.ba (He.ba (He.ba (He.ba (He.ba (He.ba (He.ba (He.ba (He.ba (He.ba (He.ba (He.ba (He.ba T.p1).2).2).2).2).2).2).2).2).2).2).2).2).2).2).2).2).1)
theorem ME_Verdict_bool (T : Hd K mg) : Meth K (He.ga K "Verdict") "__bool__" (He.ma K (He.ga K "Verdict") "__bool__") := methB_ok ((He.ba (He.ba (He.ba (He.ba (He.ba (He.ba (He.ba (He.ba (He.ba (He.ba (He.ba (He.ba (He.ba (He.ba (He.ba (He.ba (He.ba (He.ba T.p1).2).2).2).2).2).2).2).2).2).2).2).2).2).2).2).2).2).1)
theorem ME_Verdict_iter (T : Hd K mg) : Meth K (He.ga K "Verdict") "__iter__" (He.ma K (He.ga K "Verdict") "__iter__") := methB_ok ((He.ba (He.ba (He.ba (He.ba (He.ba (He.ba (He.ba (He.ba (He.ba (He.ba (He.ba (He.ba (He.ba (He.ba (He.ba (He.ba (He.ba (He.ba (He.ba T.p1).2).2).2).2).2).2).2).2).2).2).2).2).2).2).2).2).2).2).1)
theorem ME_CallPaper_eq (T : Hd K mg) : Meth K (He.ga K "CallPaper") "__eq__" (He.ma K (He.ga K "CallPaper") "__eq__") := methB_ok ((He.ba (He.ba (He.ba (He.ba (He.ba (He.ba (He.ba (He.ba (He.ba (He.ba (He.ba (He.ba (He.ba (He.ba (He.ba (He.ba (He.ba (He.ba (He.ba (He.ba T.p1).2).2).2).2).2).2).2).2).2).2).2).2).2).2).2).2).2).2).2).1)
theorem ME_CallPaper_judged (T : Hd K mg) : Meth K (He.ga K "CallPaper") "judged" (He.ma K (He.ga K "CallPaper") "judged") := methB_ok ((He.ba (He.ba (He.ba (He.ba (He.ba (He.ba (He.ba (He.ba (He.ba (He.ba (He.ba (He.ba (He.ba (He.ba (He.ba (He.ba (He.ba (He.ba (He.ba (He.ba (He.ba T.p1).2).2).2).2).2).2).2).2).2).2).2).2).2).2).2).2).2).2).2).2).1)
theorem NO_Verdict_len (T : Hd K mg) : PySem.W.findIn K (.ref (He.ga K "Verdict")) "__len__" = some none := He.eqO_ok ((He.ba (He.ba (He.ba (He.ba (He.ba (He.ba (He.ba (He.ba (He.ba (He.ba (He.ba (He.ba (He.ba (He.ba (He.ba (He.ba (He.ba (He.ba (He.ba (He.ba (He.ba (He.ba T.p1).2).2).2).2).2).2).2).2).2).2).2).2).2).2).2).2).2).2).2).2).2).1)
theorem NO_Verdict_length_hint (T : Hd K mg) : PySem.W.findIn K (.ref (He.ga K "Verdict")) "__length_hint__" = some none := He.eqO_ok ((He.ba (He.ba (He.ba (He.ba (He.ba (He.ba (He.ba (He.ba (He.ba (He.ba (He.ba (He.ba (He.ba (He.ba (He.ba (He.ba (He.ba (He.ba (He.ba (He.ba (He.ba (He.ba (He.ba T.p1).2).2).2).2).2).2).2).2).2).2).2).2).2).2).2).2).2).2).2).2).2).2).1)
theorem X_WrongKind (T : Hd K mg) : ExX K (He.ga K "WrongKind") := excB_ok ((He.ba (He.ba (He.ba (He.ba (He.ba (He.ba (He.ba (He.ba (He.ba (He.ba (He.ba (He.ba (He.ba (He.ba (He.ba (He.ba (He.ba (He.ba (He.ba (He.ba (He.ba (He.ba (He.ba (He.ba T.p1).2).2).2).2).2).2).2).2).2).2).2).2).2).2).2).2).2).2).2).2).2).2).2).1)
theorem X_WrongNumber (T : Hd K mg) : ExX K (He.ga K "WrongNumber") := excB_ok ((He.ba (He.ba (He.ba (He.ba (He.ba (He.ba (He.ba (He.ba (He.ba (He.ba (He.ba (He.ba (He.ba (He.ba (He.ba (He.ba (He.ba (He.ba (He.ba (He.ba (He.ba (He.ba (He.ba (He.ba T.p1).2).2).2).2).2).2).2).2).2).2).2).2).2).2).2).2).2).2).2).2).2).2).2).2)
theorem X_WrongWeb (T : Hd K mg) : ExX K (He.ga K "WrongWeb") := excB_ok ((He.ba T.p2).1)
theorem X_TooMuch (T : Hd K mg) : ExX K (He.ga K "TooMuch") := excB_ok ((He.ba (He.ba T.p2).2).1)
theorem XM_WrongKind_WrongKind (T : Hd K mg) : PySem.W.exmOne K (.ref (He.ga K "WrongKind")) (.ref (He.ga K "WrongKind")) = some true := of_decide_eq_true ((He.ba (He.ba (He.ba T.p2).2).2).1)
theorem XM_WrongKind_WrongNumber (T : Hd K mg) : PySem.W.exmOne K (.ref (He.ga K "WrongKind")) (.ref (He.ga K "WrongNumber")) = some false := of_decide_eq_true ((He.ba (He.ba (He.ba (He.ba T.p2).2).2).2).1)
theorem XM_WrongKind_WrongWeb (T : Hd K mg) : PySem.W.exmOne K (.ref (He.ga K "WrongKind")) (.ref (He.ga K "WrongWeb")) = some false := of_decide_eq_true ((He.ba (He.ba (He.ba (He.ba (He.ba T.p2).2).2).2).2).1)
theorem XM_WrongKind_TooMuch (T : Hd K mg) : PySem.W.exmOne K (.ref (He.ga K "WrongKind")) (.ref (He.ga K "TooMuch")) = some false := of_decide_eq_true ((He.ba (He.ba (He.ba (He.ba (He.ba (He.ba T.p2).2).2).2).2).2).1)
theorem XM_WrongNumber_WrongKind (T : Hd K mg) : PySem.W.exmOne K (.ref (He.ga K "WrongNumber")) (.ref (He.ga K "WrongKind")) = some false := of_decide_eq_true ((He.ba (He.ba (He.ba (He.ba (He.ba (He.ba (He.ba T.p2).2).2).2).2).2).2).1)
theorem XM_WrongNumber_WrongNumber (T : Hd K mg) : PySem.W.exmOne K (.ref (He.ga K "WrongNumber")) (.ref (He.ga K "WrongNumber")) = some true := of_decide_eq_true ((He.ba (He.ba (He.ba (He.ba (He.ba (He.ba (He.ba (He.ba T.p2).2).2).2).2).2).2).2).1)
theorem XM_WrongNumber_WrongWeb (T : Hd K mg) : PySem.W.exmOne K (.ref (He.ga K "WrongNumber")) (.ref (He.ga K "WrongWeb")) = some false := of_decide_eq_true ((He.ba (He.ba (He.ba (He.ba (He.ba (He.ba (He.ba (He.ba (He.ba T.p2).2).2).2).2).2).2).2).2).1)
theorem XM_WrongNumber_TooMuch (T : Hd K mg) : PySem.W.exmOne K (.ref (He.ga K "WrongNumber")) (.ref (He.ga K "TooMuch")) = some false := of_decide_eq_true ((He.ba (He.ba (He.ba (He.ba (He.ba (He.ba (He.ba (He.ba (He.ba (He.ba T.p2).2).2).2).2).2).2).2).2).2).1)
theorem XM_WrongWeb_WrongKind (T : Hd K mg) : PySem.W.exmOne K (.ref (He.ga K "WrongWeb")) (.ref (He.ga K "WrongKind")) = some false := of_decide_eq_true ((He.ba (He.ba (He.ba (He.ba (He.ba (He.ba (He.ba (He.ba (He.ba (He.ba (He.ba T.p2).2).2).2).2).2).2).2).2).2).2).1)
theorem XM_WrongWeb_WrongNumber (T : Hd K mg) : PySem.W.exmOne K (.ref (He.ga K "WrongWeb")) (.ref (He.ga K "WrongNumber")) = some false := of_decide_eq_true ((He.ba (He.ba (He.ba (He.ba (He.ba (He.ba (He.ba (He.ba (He.ba (He.ba (He.ba (He.ba T.p2).2).2).2).2).2).2).2).2).2).2).2).1)
theorem XM_WrongWeb_WrongWeb (T : Hd K mg) : PySem.W.exmOne K (.ref (He.ga K "WrongWeb")) (.ref (He.ga K "WrongWeb")) = some true := of_decide_eq_true ((He.ba (He.ba (He.ba (He.ba (He.ba (He.ba (He.ba (He.ba (He.ba (He.ba (He.ba (He.ba (He.ba T.p2).2).2).2).2).2).2).2).2).2).2).2).2).1)
theorem XM_WrongWeb_TooMuch (T : Hd K mg) : PySem.W.exmOne K (.ref (He.ga K "WrongWeb")) (.ref (He.ga K "TooMuch")) = some false := of_decide_eq_true ((He.ba (He.ba (He.ba (He.ba (He.ba (He.ba (He.ba (He.ba (He.ba (He.ba (He.ba (He.ba (He.ba (He.ba T.p2).2).2).2).2).2).2).2).2).2).2).2).2).2).1)
theorem XM_TooMuch_WrongKind (T : Hd K mg) : PySem.W.exmOne K (.ref (He.ga K "TooMuch")) (.ref (He.ga K "WrongKind")) = some false := of_decide_eq_true ((He.ba (He.ba (He.ba (He.ba (He.ba (He.ba (He.ba (He.ba (He.ba (He.ba (He.ba (He.ba (He.ba (He.ba (He.ba T.p2).2).2).2).2).2).2).2).2).2).2).2).2).2).2).1)
theorem XM_TooMuch_WrongNumber (T : Hd K mg) : PySem.W.exmOne K (.ref (He.ga K "TooMuch")) (.ref (He.ga K "WrongNumber")) = some false := of_decide_eq_true ((He.ba (He.ba (He.ba (He.ba (He.ba (He.ba (He.ba (He.ba (He.ba (He.ba (He.ba (He.ba (He.ba (He.ba (He.ba (He.ba T.p2).2).2).2).2).2).2).2).2).2).2).2).2).2).2).2).1)
theorem XM_TooMuch_WrongWeb (T : Hd K mg) : PySem.W.exmOne K (.ref (He.ga K "TooMuch")) (.ref (He.ga K "WrongWeb")) = some false := of_decide_eq_true ((He.ba (He.ba (He.ba (He.ba (He.ba (He.ba (He.ba (He.ba (He.ba (He.ba (He.ba (He.ba (He.ba (He.ba (He.ba (He.ba (He.ba T.p2).2).2).2).2).2).2).2).2).2).2).2).2).2).2).2).2).1)
theorem XM_TooMuch_TooMuch (T : Hd K mg) : PySem.W.exmOne K (.ref (He.ga K "TooMuch")) (.ref (He.ga K "TooMuch")) = some true := of_decide_eq_true ((He.ba (He.ba (He.ba (He.ba (He.ba (He.ba (He.ba (He.ba (He.ba (He.ba (He.ba (He.ba (He.ba (He.ba (He.ba (He.ba (He.ba (He.ba T.p2).2).2).2).2).2).2).2).2).2).2).2).2).2).2).2).2).2).1)
theorem KT_Web (T : Hd K mg) : PySem.W.kitOne K (.ref (He.ga K "Web")) (.ref (He.ga K "Web")) = some true := of_decide_eq_true ((He.ba (He.ba (He.ba (He.ba (He.ba (He.ba (He.ba (He.ba (He.ba (He.ba (He.ba (He.ba (He.ba (He.ba (He.ba (He.ba (He.ba (He.ba (He.ba T.p2).2).2).2).2).2).2).2).2).2).2).2).2).2).2).2).2).2).2).1)
theorem KT_CallPaper (T : Hd K mg) : PySem.W.kitOne K (.ref (He.ga K "CallPaper")) (.ref (He.ga K "CallPaper")) = some true := of_decide_eq_true ((He.ba (He.ba (He.ba (He.ba (He.ba (He.ba (He.ba (He.ba (He.ba (He.ba (He.ba (He.ba (He.ba (He.ba (He.ba (He.ba (He.ba (He.ba (He.ba (He.ba T.p2).2).2).2).2).2).2).2).2).2).2).2).2).2).2).2).2).2).2).2).1)
theorem KL_CallPaper (T : Hd K mg) : PySem.W.kitOne K (.type "list") (.ref (He.ga K "CallPaper")) = some false ∧ PySem.W.notFirst K (He.ga K "CallPaper") (.type "list") = true := ⟨of_decide_eq_true (He.ba ((He.ba (He.ba (He.ba (He.ba (He.ba (He.ba (He.ba (He.ba (He.ba (He.ba (He.ba (He.ba (He.ba (He.ba (He.ba (He.ba (He.ba (He.ba (He.ba (He.ba (He.ba T.p2).2).2).2).2).2).2).2).2).2).2).2).2).2).2).2).2).2).2).2).2).1)).1, (He.ba ((He.ba (He.ba (He.ba (He.ba (He.ba (He.ba (He.ba (He.ba (He.ba (He.ba (He.ba (He.ba (He.ba (He.ba (He.ba (He.ba (He.ba (He.ba (He.ba (He.ba (He.ba T.p2).2).2).2).2).2).2).2).2).2).2).2).2).2).2).2).2).2).2).2).2).1)).2⟩
theorem CM_CallPaper_of (T : Hd K mg) : ClX.CRead K (He.ga K "CallPaper") (.type "type") ∧ ClX.CMet K (He.ga K "CallPaper") (.type "type") "of" (He.ma K (He.ga K "CallPaper") "of") (gc K (He.ma K (He.ga K "CallPaper") "of")) := cmB_ok ((He.ba (He.ba (He.ba (He.ba (He.ba (He.ba (He.ba (He.ba (He.ba (He.ba (He.ba (He.ba (He.ba (He.ba (He.ba (He.ba (He.ba (He.ba (He.ba (He.ba (He.ba (He.ba T.p2).2).2).2).2).2).2).2).2).2).2).2).2).2).2).2).2).2).2).2).2).2).1)
theorem NE_Web (T : Hd K mg) : neB K (He.ga K "Web") = true := (He.ba (He.ba (He.ba (He.ba (He.ba (He.ba (He.ba (He.ba (He.ba (He.ba (He.ba (He.ba (He.ba (He.ba (He.ba (He.ba (He.ba (He.ba (He.ba (He.ba (He.ba (He.ba (He.ba T.p2).2).2).2).2).2).2).2).2).2).2).2).2).2).2).2).2).2).2).2).2).2).2).1
theorem NE_CallPaper (T : Hd K mg) : neB K (He.ga K "CallPaper") = true := (He.ba (He.ba (He.ba (He.ba (He.ba (He.ba (He.ba (He.ba (He.ba (He.ba (He.ba (He.ba (He.ba (He.ba (He.ba (He.ba (He.ba (He.ba (He.ba (He.ba (He.ba (He.ba (He.ba (He.ba T.p2).2).2).2).2).2).2).2).2).2).2).2).2).2).2).2).2).2).2).2).2).2).2).2).1
theorem N_GREATEST_DUE (T : Hd K mg) : ∃ t, mg "GREATEST_DUE" = some (.int (10 ^ 40) t) := T.nums _ _ (T.faI ((He.ba (He.ba (He.ba (He.ba (He.ba (He.ba (He.ba (He.ba (He.ba (He.ba (He.ba (He.ba (He.ba (He.ba (He.ba (He.ba (He.ba (He.ba (He.ba (He.ba (He.ba (He.ba (He.ba (He.ba T.p2).2).2).2).2).2).2).2).2).2).2).2).2).2).2).2).2).2).2).2).2).2).2).2).2) 0 rfl)
theorem N_FAR_CHIPS (T : Hd K mg) : ∃ t, mg "FAR_CHIPS" = some (.int (10 ^ 40) t) := T.nums _ _ (T.faI ((He.ba (He.ba (He.ba (He.ba (He.ba (He.ba (He.ba (He.ba (He.ba (He.ba (He.ba (He.ba (He.ba (He.ba (He.ba (He.ba (He.ba (He.ba (He.ba (He.ba (He.ba (He.ba (He.ba (He.ba T.p2).2).2).2).2).2).2).2).2).2).2).2).2).2).2).2).2).2).2).2).2).2).2).2).2) 1 rfl)
theorem N_MOST_STANDS (T : Hd K mg) : ∃ t, mg "MOST_STANDS" = some (.int 60 t) := T.nums _ _ (T.faI ((He.ba (He.ba (He.ba (He.ba (He.ba (He.ba (He.ba (He.ba (He.ba (He.ba (He.ba (He.ba (He.ba (He.ba (He.ba (He.ba (He.ba (He.ba (He.ba (He.ba (He.ba (He.ba (He.ba (He.ba T.p2).2).2).2).2).2).2).2).2).2).2).2).2).2).2).2).2).2).2).2).2).2).2).2).2) 2 rfl)
theorem F_need_row (T : Hd K mg) : ∃ (f : Addr) (fd : FuncData), FunD K "need_row" "need_row" (defArgs s_need_row) (defBody s_need_row) (defScope s_need_row) [.non] [] f fd ∧ mg "need_row" = some (.ref f) := T.methD 28 (d := d_need_row) rfl rfl (g_need_row T)
theorem F_call_bounds (T : Hd K mg) : ∃ (f : Addr) (fd : FuncData), FunD K "call_bounds" "call_bounds" (defArgs s_call_bounds) (defBody s_call_bounds) (defScope s_call_bounds) [.int 60] [] f fd ∧ mg "call_bounds" = some (.ref f) := T.methD 34 (d := d_call_bounds) rfl rfl (g_call_bounds T)
theorem F_Web_init (T : Hd K mg) : ∃ (fd : FuncData), FunD K "__init__" "Web.__init__" (defArgs s_Web_init) (defBody s_Web_init) (defScope s_Web_init) [] [] (He.ma K (He.ga K "Web") "__init__") fd := T.meth 17 (d := d_Web_init) rfl rfl rfl
theorem B_Web_init (kV doc pm : Value) (an : Option Addr) (cdv ct : Value) (us : List Value) (hl : us.length = (["self", "first", "second", "marks", "dues"] : List Str).length) : bindArgs (PySem.W.fnOf "__init__" "Web.__init__" (defArgs s_Web_init) (defBody s_Web_init) (defScope s_Web_init) .none kV doc pm an cdv ct) ⟨us, []⟩ = pure ((["self", "first", "second", "marks", "dues"] : List Str).zip us) := match us, hl with | [_, _, _, _, _], _ => by kernel_rfl
theorem F_Web_size (T : Hd K mg) : ∃ (fd : FuncData), FunD K "size" "Web.size" (defArgs s_Web_size) (defBody s_Web_size) (defScope s_Web_size) [] [] (gg K (He.ma K (He.ga K "Web") "size")) fd := T.meth 18 (d := d_Web_size) rfl rfl rfl
theorem B_Web_size (kV doc pm : Value) (an : Option Addr) (cdv ct : Value) (us : List Value) (hl : us.length = (["self"] : List Str).length) : bindArgs (PySem.W.fnOf "size" "Web.size" (defArgs s_Web_size) (defBody s_Web_size) (defScope s_Web_size) .none kV doc pm an cdv ct) ⟨us, []⟩ = pure ((["self"] : List Str).zip us) := match us, hl with | [_], _ => by kernel_rfl
theorem F_Web_first (T : Hd K mg) : ∃ (fd : FuncData), FunD K "first" "Web.first" (defArgs s_Web_first) (defBody s_Web_first) (defScope s_Web_first) [] [] (gg K (He.ma K (He.ga K "Web") "first")) fd := T.meth 19 (d := d_Web_first) rfl rfl rfl
theorem B_Web_first (kV doc pm : Value) (an : Option Addr) (cdv ct : Value) (us : List Value) (hl : us.length = (["self"] : List Str).length) : bindArgs (PySem.W.fnOf "first" "Web.first" (defArgs s_Web_first) (defBody s_Web_first) (defScope s_Web_first) .none kV doc pm an cdv ct) ⟨us, []⟩ = pure ((["self"] : List Str).zip us) := match us, hl with | [_], _ => by kernel_rfl
theorem F_Web_second (T : Hd K mg) : ∃ (fd : FuncData), FunD K "second" "Web.second" (defArgs s_Web_second) (defBody s_Web_second) (defScope s_Web_second) [] [] (gg K (He.ma K (He.ga K "Web") "second")) fd := T.meth 20 (d := d_Web_second) rfl rfl rfl
theorem B_Web_second (kV doc pm : Value) (an : Option Addr) (cdv ct : Value) (us : List Value) (hl : us.length = (["self"] : List Str).length) : bindArgs (PySem.W.fnOf "second" "Web.second" (defArgs s_Web_second) (defBody s_Web_second) (defScope s_Web_second) .none kV doc pm an cdv ct) ⟨us, []⟩ = pure ((["self"] : List Str).zip us) := match us, hl with | [_], _ => by kernel_rfl
theorem F_Web_marks (T : Hd K mg) : ∃ (fd : FuncData), FunD K "marks" "Web.marks" (defArgs s_Web_marks) (defBody s_Web_marks) (defScope s_Web_marks) [] [] (gg K (He.ma K (He.ga K "Web") "marks")) fd := T.meth 21 (d := d_Web_marks) rfl rfl rfl
theorem B_Web_marks (kV doc pm : Value) (an : Option Addr) (cdv ct : Value) (us : List Value) (hl : us.length = (["self"] : List Str).length) : bindArgs (PySem.W.fnOf "marks" "Web.marks" (defArgs s_Web_marks) (defBody s_Web_marks) (defScope s_Web_marks) .none kV doc pm an cdv ct) ⟨us, []⟩ = pure ((["self"] : List Str).zip us) := match us, hl with | [_], _ => by kernel_rfl
theorem F_Web_dues (T : Hd K mg) : ∃ (fd : FuncData), FunD K "dues" "Web.dues" (defArgs s_Web_dues) (defBody s_Web_dues) (defScope s_Web_dues) [] [] (gg K (He.ma K (He.ga K "Web") "dues")) fd := T.meth 22 (d := d_Web_dues) rfl rfl rfl
theorem B_Web_dues (kV doc pm : Value) (an : Option Addr) (cdv ct : Value) (us : List Value) (hl : us.length = (["self"] : List Str).length) : bindArgs (PySem.W.fnOf "dues" "Web.dues" (defArgs s_Web_dues) (defBody s_Web_dues) (defScope s_Web_dues) .none kV doc pm an cdv ct) ⟨us, []⟩ = pure ((["self"] : List Str).zip us) := match us, hl with | [_], _ => by kernel_rfl
theorem F_Web_moving (T : Hd K mg) : ∃ (fd : FuncData), FunD K "moving" "Web.moving" (defArgs s_Web_moving) (defBody s_Web_moving) (defScope s_Web_moving) [] [] (gg K (He.ma K (He.ga K "Web") "moving")) fd := T.meth 23 (d := d_Web_moving) rfl rfl rfl
theorem B_Web_moving (kV doc pm : Value) (an : Option Addr) (cdv ct : Value) (us : List Value) (hl : us.length = (["self"] : List Str).length) : bindArgs (PySem.W.fnOf "moving" "Web.moving" (defArgs s_Web_moving) (defBody s_Web_moving) (defScope s_Web_moving) .none kV doc pm an cdv ct) ⟨us, []⟩ = pure ((["self"] : List Str).zip us) := match us, hl with | [_], _ => by kernel_rfl
theorem F_Web_eq (T : Hd K mg) : ∃ (fd : FuncData), FunD K "__eq__" "Web.__eq__" (defArgs s_Web_eq) (defBody s_Web_eq) (defScope s_Web_eq) [] [] (He.ma K (He.ga K "Web") "__eq__") fd := T.meth 24 (d := d_Web_eq) rfl rfl rfl
theorem B_Web_eq (kV doc pm : Value) (an : Option Addr) (cdv ct : Value) (us : List Value) (hl : us.length = (["self", "other"] : List Str).length) : bindArgs (PySem.W.fnOf "__eq__" "Web.__eq__" (defArgs s_Web_eq) (defBody s_Web_eq) (defScope s_Web_eq) .none kV doc pm an cdv ct) ⟨us, []⟩ = pure ((["self", "other"] : List Str).zip us) := match us, hl with | [_, _], _ => by kernel_rfl
theorem F_Web_invert (T : Hd K mg) : ∃ (fd : FuncData), FunD K "__invert__" "Web.__invert__" (defArgs s_Web_invert) (defBody s_Web_invert) (defScope s_Web_invert) [] [] (He.ma K (He.ga K "Web") "__invert__") fd := T.meth 25 (d := d_Web_invert) rfl rfl rfl
theorem B_Web_invert (kV doc pm : Value) (an : Option Addr) (cdv ct : Value) (us : List Value) (hl : us.length = (["self"] : List Str).length) : bindArgs (PySem.W.fnOf "__invert__" "Web.__invert__" (defArgs s_Web_invert) (defBody s_Web_invert) (defScope s_Web_invert) .none kV doc pm an cdv ct) ⟨us, []⟩ = pure ((["self"] : List Str).zip us) := match us, hl with | [_], _ => by kernel_rfl
theorem F_Verdict_init (T : Hd K mg) : ∃ (fd : FuncData), FunD K "__init__" "Verdict.__init__" (defArgs s_Verdict_init) (defBody s_Verdict_init) (defScope s_Verdict_init) [] [] (He.ma K (He.ga K "Verdict") "__init__") fd := T.meth 42 (d := d_Verdict_init) rfl rfl rfl
theorem B_Verdict_init (kV doc pm : Value) (an : Option Addr) (cdv ct : Value) (us : List Value) (hl : us.length = (["self", "faults"] : List Str).length) : bindArgs (PySem.W.fnOf "__init__" "Verdict.__init__" (defArgs s_Verdict_init) (defBody s_Verdict_init) (defScope s_Verdict_init) .none kV doc pm an cdv ct) ⟨us, []⟩ = pure ((["self", "faults"] : List Str).zip us) := match us, hl with | [_, _], _ => by kernel_rfl
theorem F_Verdict_faults (T : Hd K mg) : ∃ (fd : FuncData), FunD K "faults" "Verdict.faults" (defArgs s_Verdict_faults) (defBody s_Verdict_faults) (defScope s_Verdict_faults) [] [] (gg K (He.ma K (He.ga K "Verdict") "faults")) fd := T.meth 43 (d := d_Verdict_faults) rfl rfl rfl
theorem B_Verdict_faults (kV doc pm : Value) (an : Option Addr) (cdv ct : Value) (us : List Value) (hl : us.length = (["self"] : List Str).length) : bindArgs (PySem.W.fnOf "faults" "Verdict.faults" (defArgs s_Verdict_faults) (defBody s_Verdict_faults) (defScope s_Verdict_faults) .none kV doc pm an cdv ct) ⟨us, []⟩ = pure ((["self"] : List Str).zip us) := match us, hl with | [_], _ => by kernel_rfl
theorem F_Verdict_bool (T : Hd K mg) : ∃ (fd : FuncData), FunD K "__bool__" "Verdict.__bool__" (defArgs s_Verdict_bool) (defBody s_Verdict_bool) (defScope s_Verdict_bool) [] [] (He.ma K (He.ga K "Verdict") "__bool__") fd := T.meth 44 (d := d_Verdict_bool) rfl rfl rfl
theorem B_Verdict_bool (kV doc pm : Value) (an : Option Addr) (cdv ct : Value) (us : List Value) (hl : us.length = (["self"] : List Str).length) : bindArgs (PySem.W.fnOf "__bool__" "Verdict.__bool__" (defArgs s_Verdict_bool) (defBody s_Verdict_bool) (defScope s_Verdict_bool) .none kV doc pm an cdv ct) ⟨us, []⟩ = pure ((["self"] : List Str).zip us) := match us, hl with | [_], _ => by kernel_rfl
theorem F_Verdict_iter (T : Hd K mg) : ∃ (fd : FuncData), FunD K "__iter__" "Verdict.__iter__" (defArgs s_Verdict_iter) (defBody s_Verdict_iter) (defScope s_Verdict_iter) [] [] (He.ma K (He.ga K "Verdict") "__iter__") fd := T.meth 45 (d := d_Verdict_iter) rfl rfl rfl
theorem B_Verdict_iter (kV doc pm : Value) (an : Option Addr) (cdv ct : Value) (us : List Value) (hl : us.length = (["self"] : List Str).length) : bindArgs (PySem.W.fnOf "__iter__" "Verdict.__iter__" (defArgs s_Verdict_iter) (defBody s_Verdict_iter) (defScope s_Verdict_iter) .none kV doc pm an cdv ct) ⟨us, []⟩ = pure ((["self"] : List Str).zip us) := match us, hl with | [_], _ => by kernel_rfl
theorem F_Verdict_eq (T : Hd K mg) : ∃ (fd : FuncData), FunD K "__eq__" "Verdict.__eq__" (defArgs s_Verdict_eq) (defBody s_Verdict_eq) (defScope s_Verdict_eq) [] [] (He.ma K (He.ga K "Verdict") "__eq__") fd := T.meth 46 (d := d_Verdict_eq) rfl rfl rfl
theorem B_Verdict_eq (kV doc pm : Value) (an : Option Addr) (cdv ct : Value) (us : List Value) (hl : us.length = (["self", "other"] : List Str).length) : bindArgs (PySem.W.fnOf "__eq__" "Verdict.__eq__" (defArgs s_Verdict_eq) (defBody s_Verdict_eq) (defScope s_Verdict_eq) .none kV doc pm an cdv ct) ⟨us, []⟩ = pure ((["self", "other"] : List Str).zip us) := match us, hl with | [_, _], _ => by kernel_rfl
theorem F_CallPaper_init (T : Hd K mg) : ∃ (fd : FuncData), FunD K "__init__" "CallPaper.__init__" (defArgs s_CallPaper_init) (defBody s_CallPaper_init) (defScope s_CallPaper_init) [] [] (He.ma K (He.ga K "CallPaper") "__init__") fd := T.meth 57 (d := d_CallPaper_init) rfl rfl rfl
theorem B_CallPaper_init (kV doc pm : Value) (an : Option Addr) (cdv ct : Value) (us : List Value) (hl : us.length = (["self", "web", "k", "calls", "row", "ranks", "counts"] : List Str).length) : bindArgs (PySem.W.fnOf "__init__" "CallPaper.__init__" (defArgs s_CallPaper_init) (defBody s_CallPaper_init) (defScope s_CallPaper_init) .none kV doc pm an cdv ct) ⟨us, []⟩ = pure ((["self", "web", "k", "calls", "row", "ranks", "counts"] : List Str).zip us) := match us, hl with | [_, _, _, _, _, _, _], _ => by kernel_rfl
theorem F_CallPaper_of (T : Hd K mg) : ∃ (fd : FuncData), FunD K "of" "CallPaper.of" (defArgs s_CallPaper_of) (defBody s_CallPaper_of) (defScope s_CallPaper_of) [] [] (gc K (He.ma K (He.ga K "CallPaper") "of")) fd := T.meth 58 (d := d_CallPaper_of) rfl rfl rfl
theorem B_CallPaper_of (kV doc pm : Value) (an : Option Addr) (cdv ct : Value) (us : List Value) (hl : us.length = (["cls", "web", "k", "calls"] : List Str).length) : bindArgs (PySem.W.fnOf "of" "CallPaper.of" (defArgs s_CallPaper_of) (defBody s_CallPaper_of) (defScope s_CallPaper_of) .none kV doc pm an cdv ct) ⟨us, []⟩ = pure ((["cls", "web", "k", "calls"] : List Str).zip us) := match us, hl with | [_, _, _, _], _ => by kernel_rfl
theorem F_CallPaper_web (T : Hd K mg) : ∃ (fd : FuncData), FunD K "web" "CallPaper.web" (defArgs s_CallPaper_web) (defBody s_CallPaper_web) (defScope s_CallPaper_web) [] [] (gg K (He.ma K (He.ga K "CallPaper") "web")) fd := T.meth 59 (d := d_CallPaper_web) rfl rfl rfl
theorem B_CallPaper_web (kV doc pm : Value) (an : Option Addr) (cdv ct : Value) (us : List Value) (hl : us.length = (["self"] : List Str).length) : bindArgs (PySem.W.fnOf "web" "CallPaper.web" (defArgs s_CallPaper_web) (defBody s_CallPaper_web) (defScope s_CallPaper_web) .none kV doc pm an cdv ct) ⟨us, []⟩ = pure ((["self"] : List Str).zip us) := match us, hl with | [_], _ => by kernel_rfl
theorem F_CallPaper_chips (T : Hd K mg) : ∃ (fd : FuncData), FunD K "chips" "CallPaper.chips" (defArgs s_CallPaper_chips) (defBody s_CallPaper_chips) (defScope s_CallPaper_chips) [] [] (gg K (He.ma K (He.ga K "CallPaper") "chips")) fd := T.meth 60 (d := d_CallPaper_chips) rfl rfl rfl
theorem B_CallPaper_chips (kV doc pm : Value) (an : Option Addr) (cdv ct : Value) (us : List Value) (hl : us.length = (["self"] : List Str).length) : bindArgs (PySem.W.fnOf "chips" "CallPaper.chips" (defArgs s_CallPaper_chips) (defBody s_CallPaper_chips) (defScope s_CallPaper_chips) .none kV doc pm an cdv ct) ⟨us, []⟩ = pure ((["self"] : List Str).zip us) := match us, hl with | [_], _ => by kernel_rfl
theorem F_CallPaper_calls (T : Hd K mg) : ∃ (fd : FuncData), FunD K "calls" "CallPaper.calls" (defArgs s_CallPaper_calls) (defBody s_CallPaper_calls) (defScope s_CallPaper_calls) [] [] (gg K (He.ma K (He.ga K "CallPaper") "calls")) fd := T.meth 61 (d := d_CallPaper_calls) rfl rfl rfl
theorem B_CallPaper_calls (kV doc pm : Value) (an : Option Addr) (cdv ct : Value) (us : List Value) (hl : us.length = (["self"] : List Str).length) : bindArgs (PySem.W.fnOf "calls" "CallPaper.calls" (defArgs s_CallPaper_calls) (defBody s_CallPaper_calls) (defScope s_CallPaper_calls) .none kV doc pm an cdv ct) ⟨us, []⟩ = pure ((["self"] : List Str).zip us) := match us, hl with | [_], _ => by kernel_rfl
theorem F_CallPaper_row (T : Hd K mg) : ∃ (fd : FuncData), FunD K "row" "CallPaper.row" (defArgs s_CallPaper_row) (defBody s_CallPaper_row) (defScope s_CallPaper_row) [] [] (gg K (He.ma K (He.ga K "CallPaper") "row")) fd := T.meth 62 (d := d_CallPaper_row) rfl rfl rfl
theorem B_CallPaper_row (kV doc pm : Value) (an : Option Addr) (cdv ct : Value) (us : List Value) (hl : us.length = (["self"] : List Str).length) : bindArgs (PySem.W.fnOf "row" "CallPaper.row" (defArgs s_CallPaper_row) (defBody s_CallPaper_row) (defScope s_CallPaper_row) .none kV doc pm an cdv ct) ⟨us, []⟩ = pure ((["self"] : List Str).zip us) := match us, hl with | [_], _ => by kernel_rfl
theorem F_CallPaper_ranks (T : Hd K mg) : ∃ (fd : FuncData), FunD K "ranks" "CallPaper.ranks" (defArgs s_CallPaper_ranks) (defBody s_CallPaper_ranks) (defScope s_CallPaper_ranks) [] [] (gg K (He.ma K (He.ga K "CallPaper") "ranks")) fd := T.meth 63 (d := d_CallPaper_ranks) rfl rfl rfl
theorem B_CallPaper_ranks (kV doc pm : Value) (an : Option Addr) (cdv ct : Value) (us : List Value) (hl : us.length = (["self"] : List Str).length) : bindArgs (PySem.W.fnOf "ranks" "CallPaper.ranks" (defArgs s_CallPaper_ranks) (defBody s_CallPaper_ranks) (defScope s_CallPaper_ranks) .none kV doc pm an cdv ct) ⟨us, []⟩ = pure ((["self"] : List Str).zip us) := match us, hl with | [_], _ => by kernel_rfl
theorem F_CallPaper_counts (T : Hd K mg) : ∃ (fd : FuncData), FunD K "counts" "CallPaper.counts" (defArgs s_CallPaper_counts) (defBody s_CallPaper_counts) (defScope s_CallPaper_counts) [] [] (gg K (He.ma K (He.ga K "CallPaper") "counts")) fd := T.meth 64 (d := d_CallPaper_counts) rfl rfl rfl
theorem B_CallPaper_counts (kV doc pm : Value) (an : Option Addr) (cdv ct : Value) (us : List Value) (hl : us.length = (["self"] : List Str).length) : bindArgs (PySem.W.fnOf "counts" "CallPaper.counts" (defArgs s_CallPaper_counts) (defBody s_CallPaper_counts) (defScope s_CallPaper_counts) .none kV doc pm an cdv ct) ⟨us, []⟩ = pure ((["self"] : List Str).zip us) := match us, hl with | [_], _ => by kernel_rfl
theorem F_CallPaper_eq (T : Hd K mg) : ∃ (fd : FuncData), FunD K "__eq__" "CallPaper.__eq__" (defArgs s_CallPaper_eq) (defBody s_CallPaper_eq) (defScope s_CallPaper_eq) [] [] (He.ma K (He.ga K "CallPaper") "__eq__") fd := T.meth 65 (d := d_CallPaper_eq) rfl rfl rfl
theorem B_CallPaper_eq (kV doc pm : Value) (an : Option Addr) (cdv ct : Value) (us : List Value) (hl : us.length = (["self", "other"] : List Str).length) : bindArgs (PySem.W.fnOf "__eq__" "CallPaper.__eq__" (defArgs s_CallPaper_eq) (defBody s_CallPaper_eq) (defScope s_CallPaper_eq) .none kV doc pm an cdv ct) ⟨us, []⟩ = pure ((["self", "other"] : List Str).zip us) := match us, hl with | [_, _], _ => by kernel_rfl
theorem F_CallPaper_judged (T : Hd K mg) : ∃ (fd : FuncData), FunD K "judged" "CallPaper.judged" (defArgs s_CallPaper_judged) (defBody s_CallPaper_judged) (defScope s_CallPaper_judged) [] [] (He.ma K (He.ga K "CallPaper") "judged") fd := T.meth 66 (d := d_CallPaper_judged) rfl rfl rfl
theorem B_CallPaper_judged (kV doc pm : Value) (an : Option Addr) (cdv ct : Value) (us : List Value) (hl : us.length = (["self"] : List Str).length) : bindArgs (PySem.W.fnOf "judged" "CallPaper.judged" (defArgs s_CallPaper_judged) (defBody s_CallPaper_judged) (defScope s_CallPaper_judged) .none kV doc pm an cdv ct) ⟨us, []⟩ = pure ((["self"] : List Str).zip us) := match us, hl with | [_], _ => by kernel_rfl
end
end PwH
end
/-! ### PwWc -/
section
set_option linter.all false
set_option maxRecDepth 100000
set_option maxHeartbeats 4000000
/-! the walk's own words, third part: comprehensions -/
namespace Wk
open PySem PySem.Spec PyProof.Rows L2 Evl Pw
section
variable {X : Cx} {e a b c o it elt : Expr} {es ifs : List Expr} {sts rest body : List Stmt} {σ : L2.St} {H H' H0 : Hp} {u v x y z : V} {i j : Int} {k l : Bool} {pos p p2 p3 : Pos} {n m : Nat} {s f : Str} {q : Addr} {xs ys vs dvs : List V} {sp : Sp} {D0 : Ends} {sc : Scope}
/-- the meaning in every block of such a comprehension -/
def WEb (X : Cx) (sc : Scope) (e : Expr) : TE := fun σ H Q => ∀ (s : Shared) (H0 : Hp) (C : Addr) (cl : List (Str × Addr)) (fp : List Addr), WE (X.blk s H0 sc (compEnvC sc cl C X.env) fp) e σ H Q
def WTb (X : Cx) (sc : Scope) (e : Expr) : TT := fun σ H Q => ∀ (s : Shared) (H0 : Hp) (C : Addr) (cl : List (Str × Addr)) (fp : List Addr), WT (X.blk s H0 sc (compEnvC sc cl C X.env) fp) e σ H Q
abbrev BE (X : Cx) (sc : Scope) (e : Expr) (σ : L2.St) (H : Hp) (v : V) : Prop := ∀ (s : Shared) (H0 : Hp) (C : Addr) (cl : List (Str × Addr)) (fp : List Addr), VE (X.blk s H0 sc (compEnvC sc cl C X.env) fp) e σ H v
abbrev BT (X : Cx) (sc : Scope) (e : Expr) (σ : L2.St) (H : Hp) (b : Bool) : Prop := ∀ (s : Shared) (H0 : Hp) (C : Addr) (cl : List (Str × Addr)) (fp : List Addr), VT (X.blk s H0 sc (compEnvC sc cl C X.env) fp) e σ H b
abbrev BD (X : Cx) (sc : Scope) (e : Expr) (σ : L2.St) (H : Hp) (P : V → Hp → Prop) : Prop := ∀ (s : Shared) (H0 : Hp) (C : Addr) (cl : List (Str × Addr)) (fp : List Addr), VD (X.blk s H0 sc (compEnvC sc cl C X.env) fp) e σ H P
theorem be (h : BE X sc e σ H v) : Ev (WEb X sc e) σ H v := fun H1 e1 Q g s H0 C cl fp => h s H0 C cl fp H1 e1 Q g
theorem bt (h : BT X sc e σ H k) : EvT (WTb X sc e) σ H k := fun H1 e1 Q g s H0 C cl fp => h s H0 C cl fp H1 e1 Q g
theorem bd {P : V → Hp → Prop} (h : BD X sc e σ H P) : EvD (WEb X sc e) σ H P := fun H1 e1 Q g s H0 C cl fp => h s H0 C cl fp H1 e1 Q g
/-- the tests of a comprehension: none, or one -/
def WIb (X : Cx) (sc : Scope) : List Expr → TT
  | [c] => WTb X sc c
  | _ => tYes
theorem ptsW (hi : ifs.length ≤ 1) (s : Shared) (H0 : Hp) (C : Addr) (cl : List (Str × Addr)) (fp : List Addr) : PTs (X.blk s H0 sc (compEnvC sc cl C X.env) fp) ifs (WIb X sc ifs) := by
  match ifs, hi with
  | [], _ => exact pts_nil
  | [c], _ => exact pts_one ⟨fun pins s1 σ H Q I h => h s H0 C cl fp pins s1 I⟩
theorem peb (s : Shared) (H0 : Hp) (C : Addr) (cl : List (Str × Addr)) (fp : List Addr) : PE (X.blk s H0 sc (compEnvC sc cl C X.env) fp) e (WEb X sc e) := ⟨fun pins s1 σ H Q I h => h s H0 C cl fp pins s1 I⟩
theorem pgb (nd : X.N.Nodup) (ok : BlkOk X.N X.env.scope sc [(s, n)]) (hl : sc.names.lookup s = some .local) (s0 : Shared) (H0 : Hp) (C : Addr) (cl : List (Str × Addr)) (fp : List Addr) : PG (X.blk s0 H0 sc (compEnvC sc cl C X.env) fp) (.Name s p) (gName n) := by
  have z : (compEnvC sc cl C X.env).scope.names.lookup s = some .local := lookup_relabel_local hl
  exact pg_name (X := X.blk s0 H0 sc (compEnvC sc cl C X.env) fp) nd (ok.ix (s, n) (by simp)) (.inl z) (.inr z)
/-- the comprehension, by what it walks, its tests, its element -/
theorem pe_lcW {wi : TI} (nd : X.N.Nodup) (hc : X.calm = true) (ok : BlkOk X.N X.env.scope sc [(s, n)]) (hl : sc.names.lookup s = some .local) (hi : PI X (.Name s p) it wi) (hn : ifs.length ≤ 1) (hs : ∀ x, foldedSetIterable it X.env x = pure x) :
    PE X (.ListComp elt [⟨.Name s p, it, ifs, 0⟩] sc pos) (tLc wi (gName n) (WIb X sc ifs) (WEb X sc elt) [n]) :=
  pe_lc (own := [(s, n)]) hc nd hi ok (fun s0 H0 C cl fp => pgb nd ok hl s0 H0 C cl fp) (fun s0 H0 C cl fp => ptsW hn s0 H0 C cl fp) (fun s0 H0 C cl fp => peb s0 H0 C cl fp) hs
theorem wipe1 : wipe σ [n] = σ.set n none := rfl
theorem wset (y : Option V) : (wipe σ [n]).set n y = σ.set n y := by
  rw [wipe1, List.set_set]
theorem wwipe (y : V) : wipe ((wipe σ [n]).set n (some y)) [n] = wipe σ [n] := by
  rw [wipe1, wset, wipe1, List.set_set]
/-- what the list holds behind the first i items -/
def Cx2 (H : Hp) (xs : List V) (t : V → Bool) (g : V → V) (D : Addr) (i : Nat) (H' : Hp) : Prop := H D = none ∧ Ex H H' ∧ H' D = some (.lst (((xs.take i).filter t).map g))
theorem lc_turn {tt : TT} {te : TE} {t : V → Bool} {g : V → V} {D : Addr} {i : Nat} {σ2 : L2.St} (P : Cx2 H xs t g D i H') (hx : xs[i]? = some x) (hz : xs.length ≤ 40000) (ht : EvT tt σ2 H (t x)) (he : t x = true → Ev te σ2 H (g x)) :
    tt σ2 H' fun b H3 => if b = true then te σ2 H3 fun y H4 => ∃ acc, H4 D = some (.lst acc) ∧ acc.length < sizeLine ∧ Cx2 H xs t g D (i + 1) (upd H4 D (.lst (acc ++ [y]))) else Cx2 H xs t g D (i + 1) H3 := by
  obtain ⟨p1, p2, p3⟩ := P
  have hl : i < xs.length := (List.getElem?_eq_some_iff.mp hx).1
  have tk : xs.take (i + 1) = xs.take i ++ [x] := by
    rw [List.take_add_one, hx]
    rfl
  refine ht H' p2 _ fun H3 e3 => ?_
  cases hf : t x with
  | true =>
    show te σ2 H3 fun y H4 => ∃ acc, H4 D = some (.lst acc) ∧ acc.length < sizeLine ∧ Cx2 H xs t g D (i + 1) (upd H4 D (.lst (acc ++ [y])))
    refine he hf H3 (p2.trans e3) _ fun H4 e4 => ⟨_, e4 D _ (e3 D _ p3), sz_lt ?_, p1, Ex.mut ((p2.trans e3).trans e4) p1, ?_⟩
    · rw [List.length_map]
      have := List.length_filter_le t (xs.take i)
      rw [List.length_take] at this
      omega
    · rw [upd_same, tk, List.filter_append, List.map_append, List.filter_cons, if_pos hf] <;> rfl
  | false =>
    show Cx2 H xs t g D (i + 1) H3
    refine ⟨p1, p2.trans e3, ?_⟩
    rw [tk, List.filter_append, List.map_append, List.filter_cons, if_neg (by rw [hf]; decide)]
    show H3 D = some (.lst (_ ++ []))
    rw [List.append_nil]
    exact e3 D _ p3
theorem bk {N ps N' : List Str} {sc0 sc0' sc : Scope} {own : List (Str × Nat)} (_ : FnScope N ps sc0) (h : blkC N sc0 sc own = true) (hN : N' = N := by rfl) (hs : sc0' = sc0 := by rfl) : BlkOk N' sc0' sc own := by
  subst hN hs
  exact blkOk_by h
theorem v_lenN (fr : Fre X.mg) (ha : VE X a σ H (.ref q)) (h : Sq X.K H q xs) (hn : xs.length = m) (hg : Gl X "len" := by rfl) (hs : starEach [a] X.env = (false, eval a X.env) :: starEach [] X.env := by rfl) (hpl : (backTo pos (starEach [] X.env)).any (·.1) = false := by rfl) :
    VE X (.Call (.Name "len" p) [a] [] pos) σ H (.int (m : Int)) := by
  rw [← hn]
  exact v_len fr ha h hg hs hpl
/-- the comprehension e comes to a new list of xs -/
def CC (X : Cx) (e : Expr) (σ : L2.St) (H : Hp) (xs : List V) : Prop := ∃ (elt : Expr) (s : Str) (p : Pos) (it : Expr) (ifs : List Expr) (sc : Scope) (pos : Pos) (n : Nat) (wi : TI), e = .ListComp elt [⟨.Name s p, it, ifs, 0⟩] sc pos ∧ X.N.Nodup ∧ X.calm = true ∧
  BlkOk X.N X.env.scope sc [(s, n)] ∧ sc.names.lookup s = some .local ∧ PI X (.Name s p) it wi ∧ ifs.length ≤ 1 ∧ (∀ x, foldedSetIterable it X.env x = pure x) ∧ EvL (tLc wi (gName n) (WIb X sc ifs) (WEb X sc elt) [n]) σ H xs
theorem ccv (h : CC X e σ H xs) : VL X e σ H xs := by
  obtain ⟨elt, s, p, it, ifs, sc, pos, n, wi, rfl, nd, hc, ok, hl, hi, hn, hs, q⟩ := h
  exact liftL (pe_lcW nd hc ok hl hi hn hs) q
/-- y = [..] -/
theorem w_setC (lw : LV X m f) (hy : X.env.scope.names.lookup f = some .local) (h : CC X e σ H xs) (hsw : swapsWith e (some (.Name f p)) pos.line X.env = pure true) (k : ∀ q H1, H q = none → Ex H H1 → H1 q = some (.lst xs) → WS X rest D0 (σ.set m (some (.ref q))) H1) : WS X (.Assign [.Name f p] e pos :: rest) D0 σ H := by
  obtain ⟨elt, s, p2, it, ifs, sc, pos2, n, wi, rfl, nd, hc, ok, hl, hi, hn, hs, q⟩ := h
  exact w_cons (ps_setLc (own := [(s, n)]) hc nd lw.ix hy hsw hi ok (fun s0 H0 C cl fp => pgb nd ok hl s0 H0 C cl fp) (fun s0 H0 C cl fp => ptsW hn s0 H0 C cl fp) (fun s0 H0 C cl fp => peb s0 H0 C cl fp) hs) (s_asgL q k)
theorem lcS (nd : X.N.Nodup) (hc : X.calm = true) (ok : BlkOk X.N X.env.scope sc [(s, n)]) (hl : sc.names.lookup s = some .local) (hn : ifs.length ≤ 1) (h : VE X it σ H (.ref q)) (hq : Sq X.K H q xs) (hz : xs.length ≤ 40000) (t : V → Bool) (g : V → V)
    (ht : ∀ y ∈ xs, EvT (WIb X sc ifs) (σ.set n (some y)) H (t y)) (he : ∀ y ∈ xs, t y = true → Ev (WEb X sc elt) (σ.set n (some y)) H (g y)) (hs : ∀ x, foldedSetIterable it X.env x = pure x) : CC X (.ListComp elt [⟨.Name s p, it, ifs, 0⟩] sc pos) σ H ((xs.filter t).map g) := by
  have ts : ∀ (i : Nat) (x : V) H1 H2 D, Ex H H1 → xs[i]? = some x → Cx2 H1 xs t g D i H2 → wipe ((wipe σ [n]).set n (some x)) [n] = wipe σ [n] ∧ WIb X sc ifs ((wipe σ [n]).set n (some x)) H2 fun b H3 =>
      if b = true then WEb X sc elt ((wipe σ [n]).set n (some x)) H3 fun y H4 => ∃ acc, H4 D = some (.lst acc) ∧ acc.length < sizeLine ∧ Cx2 H1 xs t g D (i + 1) (upd H4 D (.lst (acc ++ [y]))) else Cx2 H1 xs t g D (i + 1) H3 := fun i x H1 H2 D e1 hx P => by
    refine ⟨wwipe x, ?_⟩
    rw [wset]
    have m : x ∈ xs := List.mem_of_getElem? hx
    exact lc_turn P hx hz ((ht x m).mono e1) fun z => (he x m z).mono e1
  have tk : xs.take xs.length = xs := List.take_length
  rcases hq with hq | hq
  · refine ⟨_, _, _, _, _, _, _, _, _, rfl, nd, hc, ok, hl, pi_list peW, hn, hs, fun H0 e0 Q g0 => h H0 e0 _ fun H1 e1 => ⟨q, rfl, ⟨xs, ex_l (e0.trans e1) hq⟩, fun D hD => ?_⟩⟩
    refine lc_list (xs := xs) (Cx2 H1 xs t g D) ⟨hD, Ex.new hD, upd_same⟩ (fun i H' _ P => ex_l ((e0.trans e1).trans P.2.1) hq) (fun i x H' hx P => ts i x H1 H' D (e0.trans e1) hx P) (fun H' P => ?_)
    obtain ⟨p1, p2, p3⟩ := P
    rw [tk] at p3
    exact g0 D H' (fresh_back e1 p1) (e1.trans p2) p3
  · refine ⟨_, _, _, _, _, _, _, _, _, rfl, nd, hc, ok, hl, pi_tup peW, hn, hs, fun H0 e0 Q g0 => h H0 e0 _ fun H1 e1 => ⟨q, rfl, ⟨xs, ex_t (e0.trans e1) hq⟩, fun D hD => ?_⟩⟩
    refine lc_tup (xs := xs) (Cx2 H1 xs t g D) ⟨hD, Ex.new hD, upd_same⟩ (fun i H' _ P => ex_t ((e0.trans e1).trans P.2.1) hq) (fun i x H' hx P => ts i x H1 H' D (e0.trans e1) hx P) (fun H' P => ?_)
    obtain ⟨p1, p2, p3⟩ := P
    rw [tk] at p3
    exact g0 D H' (fresh_back e1 p1) (e1.trans p2) p3
/-- [elt for x in xs] -/
theorem c_mapS (nd : X.N.Nodup) (ok : BlkOk X.N X.env.scope sc [(s, n)]) (h : VE X it σ H (.ref q)) (hq : Sq X.K H q xs) (hz : xs.length ≤ 40000) (g : V → V)
    (he : ∀ y ∈ xs, BE X sc elt (σ.set n (some y)) H (g y)) (hc : X.calm = true := by rfl) (hl : sc.names.lookup s = some .local := by rfl) (hs : ∀ x, foldedSetIterable it X.env x = pure x := by intro _; rfl) : CC X (.ListComp elt [⟨.Name s p, it, [], 0⟩] sc pos) σ H (xs.map g) := by
  have z := lcS (elt := elt) (ifs := []) (pos := pos) (p := p) nd hc ok hl (by simp) h hq hz (fun _ => true) g (fun y _ H1 _ Q k => k H1 (Ex.refl H1)) (fun y hy _ => be (he y hy)) hs
  rw [List.filter_eq_self.mpr (fun _ _ => rfl)] at z
  exact z
/-- [elt for x in xs if c] -/
theorem c_fltS (nd : X.N.Nodup) (ok : BlkOk X.N X.env.scope sc [(s, n)]) (h : VE X it σ H (.ref q)) (hq : Sq X.K H q xs) (hz : xs.length ≤ 40000) (t : V → Bool) (g : V → V)
    (ht : ∀ y ∈ xs, BT X sc c (σ.set n (some y)) H (t y)) (he : ∀ y ∈ xs, t y = true → BE X sc elt (σ.set n (some y)) H (g y)) (hc : X.calm = true := by rfl) (hl : sc.names.lookup s = some .local := by rfl) (hs : ∀ x, foldedSetIterable it X.env x = pure x := by intro _; rfl) :
    CC X (.ListComp elt [⟨.Name s p, it, [c], 0⟩] sc pos) σ H ((xs.filter t).map g) :=
  lcS nd hc ok hl (by simp) h hq hz t g (fun y hy => bt (ht y hy)) (fun y hy z => be (he y hy z)) hs
theorem lcR (fr : Fre X.mg) (nd : X.N.Nodup) (hc : X.calm = true) (ok : BlkOk X.N X.env.scope sc [(s, n)]) (hl : sc.names.lookup s = some .local) (hn : ifs.length ≤ 1) (h : VE X a σ H (.int (m : Int))) (hz : m ≤ 40000) (t : Nat → Bool) (g : Nat → V)
    (ht : ∀ i, i < m → EvT (WIb X sc ifs) (σ.set n (some (.int (i : Int)))) H (t i)) (he : ∀ i, i < m → t i = true → Ev (WEb X sc elt) (σ.set n (some (.int (i : Int)))) H (g i))
    (hg : Gl X "range") (hst : starEach [a] X.env = (false, eval a X.env) :: starEach [] X.env) (hst2 : starEach [a] X.env = [(false, eval a X.env)]) (hs : ∀ x, foldedSetIterable (.Call (.Name "range" p2) [a] [] p3) X.env x = pure x) :
    CC X (.ListComp elt [⟨.Name s p, .Call (.Name "range" p2) [a] [] p3, ifs, 0⟩] sc pos) σ H (((List.range m).filter t).map g) := by
  refine ⟨_, _, _, _, _, _, _, _, _, rfl, nd, hc, ok, hl, pi_range1 hg fr.range_ paW hst2, hn, hs, ?_⟩
  exact el_lcR1 (t := WIb X sc ifs) (σ := σ) (H := H) (j := n) (vs := [n]) (n := (m : Int)) t g (a_cons h a_nil hst) ⟨by omega, by omega⟩ (fun x => wwipe x) (fun i H1 e1 hi => by rw [wset]; exact (ht i (by omega)).mono e1) (te := WEb X sc elt) (fun i H1 e1 hi hf => by rw [wset]; exact (he i (by omega) hf).mono e1)
/-- [elt for x in range(e)] -/
theorem c_mapR (fr : Fre X.mg) (nd : X.N.Nodup) (ok : BlkOk X.N X.env.scope sc [(s, n)]) (h : VE X a σ H (.int (m : Int))) (hz : m ≤ 40000) (g : Nat → V)
    (he : ∀ i, i < m → BE X sc elt (σ.set n (some (.int (i : Int)))) H (g i)) (hc : X.calm = true := by rfl) (hl : sc.names.lookup s = some .local := by rfl)
    (hg : Gl X "range" := by rfl) (hst : starEach [a] X.env = (false, eval a X.env) :: starEach [] X.env := by rfl) (hst2 : starEach [a] X.env = [(false, eval a X.env)] := by rfl) (hs : ∀ x, foldedSetIterable (.Call (.Name "range" p2) [a] [] p3) X.env x = pure x := by intro _; rfl) :
    CC X (.ListComp elt [⟨.Name s p, .Call (.Name "range" p2) [a] [] p3, [], 0⟩] sc pos) σ H ((List.range m).map g) := by
  have z := lcR (elt := elt) (ifs := []) (pos := pos) (p := p) fr nd hc ok hl (by simp) h hz (fun _ => true) g (fun y _ H1 _ Q k => k H1 (Ex.refl H1)) (fun y hy _ => be (he y hy)) hg hst hst2 hs
  rw [List.filter_eq_self.mpr (fun _ _ => rfl)] at z
  exact z
/-- [elt for x in range(e) if c] -/
theorem c_fltR (fr : Fre X.mg) (nd : X.N.Nodup) (ok : BlkOk X.N X.env.scope sc [(s, n)]) (h : VE X a σ H (.int (m : Int))) (hz : m ≤ 40000) (t : Nat → Bool) (g : Nat → V)
    (ht : ∀ i, i < m → BT X sc c (σ.set n (some (.int (i : Int)))) H (t i)) (he : ∀ i, i < m → t i = true → BE X sc elt (σ.set n (some (.int (i : Int)))) H (g i)) (hc : X.calm = true := by rfl) (hl : sc.names.lookup s = some .local := by rfl)
    (hg : Gl X "range" := by rfl) (hst : starEach [a] X.env = (false, eval a X.env) :: starEach [] X.env := by rfl) (hst2 : starEach [a] X.env = [(false, eval a X.env)] := by rfl) (hs : ∀ x, foldedSetIterable (.Call (.Name "range" p2) [a] [] p3) X.env x = pure x := by intro _; rfl) :
    CC X (.ListComp elt [⟨.Name s p, .Call (.Name "range" p2) [a] [] p3, [c], 0⟩] sc pos) σ H (((List.range m).filter t).map g) :=
  lcR fr nd hc ok hl (by simp) h hz t g (fun y hy => bt (ht y hy)) (fun y hy z => be (he y hy z)) hg hst hst2 hs
end
end Wk
end
/-! ### PwDat -/
section
set_option linter.all false
set_option maxRecDepth 100000
set_option maxHeartbeats 4000000
/-! the program's data in the heap -/
namespace PwD
open PySem PySem.Spec PyProof.Rows L2 Evl Pw Wk PwH
def iv (n : Nat) : V := .int (n : Int)
def rowV (n : Nat) (X : Nat → Int) : List V := (List.range n).map fun v => .int (X v)
def filV (n : Nat) (c : Nat → Bool) : List V := ((List.range n).filter c).map iv
def lotV (l : List Nat) : List V := l.map iv
def refV (n : Nat) (as : Nat → Addr) : List V := (List.range n).map fun v => .ref (as v)
section
variable {n m : Nat} {X Y : Nat → Int} {c : Nat → Bool} {l : List Nat} {as : Nat → Addr}
theorem lotV_len : (lotV l).length = l.length := by unfold lotV; rw [List.length_map]
theorem rowV_len : (rowV n X).length = n := by unfold rowV; rw [List.length_map, List.length_range]
theorem refV_len : (refV n as).length = n := by unfold refV; rw [List.length_map, List.length_range]
theorem map_at {α : Type} {f : Nat → α} {i : Nat} (h : i < n) : ((List.range n).map f)[i]? = some (f i) := by
  rw [List.getElem?_map, List.getElem?_range h]
  rfl
theorem map_at_lt {α : Type} {f : Nat → α} {i : Nat} {x : α} (h : ((List.range n).map f)[i]? = some x) : i < n ∧ x = f i := by
  have h1 : i < n := by
    have := (List.getElem?_eq_some_iff.mp h).1
    rw [List.length_map, List.length_range] at this
    exact this
  rw [map_at h1] at h
  exact ⟨h1, (Option.some.inj h).symm⟩
theorem rowV_at {i : Nat} (h : i < n) : (rowV n X)[i]? = some (.int (X i)) := map_at h
theorem refV_at {i : Nat} (h : i < n) : (refV n as)[i]? = some (.ref (as i)) := map_at h
theorem rowV_congr (h : ∀ v, v < n → X v = Y v) : rowV n X = rowV n Y := by
  unfold rowV
  exact List.map_congr_left fun v hv => by rw [h v (List.mem_range.mp hv)]
theorem rowV_inj (h : rowV n X = rowV n Y) : ∀ v, v < n → X v = Y v := fun v hv => by
  have e : (rowV n X)[v]? = (rowV n Y)[v]? := by rw [h]
  rw [rowV_at hv, rowV_at hv] at e
  exact V.int.inj (Option.some.inj e)
theorem rowV_ints : rowV n X = ((List.range n).map X).map V.int := by
  unfold rowV
  rw [List.map_map]
  rfl
theorem filV_congr {d : Nat → Bool} (h : ∀ v, v < n → c v = d v) : filV n c = filV n d := by
  unfold filV
  congr 1
  exact List.filter_congr fun v hv => h v (List.mem_range.mp hv)
theorem filV_ints : filV n c = (((List.range n).filter c).map (Int.ofNat)).map V.int := by
  unfold filV
  rw [List.map_map]
  rfl
theorem lotV_ints : lotV l = (l.map Int.ofNat).map V.int := by
  unfold lotV
  rw [List.map_map]
  rfl
theorem filV_eq : filV n c = lotV ((List.range n).filter c) := rfl
theorem filV_len : (filV n c).length ≤ n := by
  unfold filV
  rw [List.length_map]
  have := List.length_filter_le c (List.range n)
  rw [List.length_range] at this
  exact this
theorem lot_flat : (lotV l).all flatV = true := List.all_eq_true.mpr fun v hv => by
  obtain ⟨w, _, rfl⟩ := List.mem_map.mp hv
  rfl
theorem row_flat : (rowV n X).all flatV = true := List.all_eq_true.mpr fun v hv => by
  obtain ⟨w, _, rfl⟩ := List.mem_map.mp hv
  rfl
theorem in_lot {v : Nat} : inV (.int (v : Int)) (lotV l) = decide (v ∈ l) := by
  unfold inV lotV
  rw [List.any_map]
  by_cases h : v ∈ l
  · rw [decide_eq_true h]
    refine List.any_eq_true.mpr ⟨v, h, ?_⟩
    show ((v : Int) == (v : Int)) = true
    simp
  · rw [decide_eq_false h]
    refine List.any_eq_false.mpr fun w hw => ?_
    show ¬ ((w : Int) == (v : Int)) = true
    intro e
    have e1 : (w : Int) = v := eq_of_beq e
    have e2 : w = v := by omega
    subst e2
    exact h hw
theorem in_fil {v : Nat} (hv : v < n) : inV (.int (v : Int)) (filV n c) = c v := by
  rw [filV_eq, in_lot]
  cases e : c v with
  | true => exact decide_eq_true (List.mem_filter.mpr ⟨List.mem_range.mpr hv, e⟩)
  | false =>
    refine decide_eq_false fun h => ?_
    have z := (List.mem_filter.mp h).2
    rw [e] at z
    cases z
/-- [v for v in (the stands of c) if t v] -/
theorem fil_fil {t : V → Bool} : ((filV n c).filter t).map (fun x => x) = filV n (fun v => c v && t (iv v)) := by
  rw [List.map_id']
  unfold filV
  rw [List.filter_map, List.filter_filter]
  congr 1
  exact List.filter_congr fun v _ => by
    show (t (iv v) && c v) = (c v && t (iv v))
    exact Bool.and_comm _ _
theorem rng_fil {t : Nat → Bool} : ((List.range n).filter t).map (fun (i : Nat) => V.int (i : Int)) = filV n t := rfl
theorem rowV_set {i : Nat} {y : Int} : (rowV n X).set i (.int y) = rowV n (fun v => if v = i then y else X v) := by
  apply List.ext_getElem?
  intro j
  by_cases hj : j < n
  · rw [rowV_at hj]
    by_cases e : i = j
    · subst e
      rw [List.getElem?_set_self (by rw [rowV_len]; exact hj), if_pos rfl]
    · rw [List.getElem?_set_ne e, rowV_at hj, if_neg (fun q => e q.symm)]
  · rw [List.getElem?_eq_none (by rw [List.length_set, rowV_len]; omega), List.getElem?_eq_none (by rw [rowV_len]; omega)]
theorem fil_mem {v : V} (h : v ∈ filV n c) : ∃ w, w < n ∧ c w = true ∧ v = iv w := by
  obtain ⟨w, hw, rfl⟩ := List.mem_map.mp h
  exact ⟨w, List.mem_range.mp (List.mem_filter.mp hw).1, (List.mem_filter.mp hw).2, rfl⟩
theorem range_fil : (List.range n).map (fun (i : Nat) => V.int (i : Int)) = filV n (fun _ => true) := by
  unfold filV
  rw [List.filter_eq_self.mpr (fun _ _ => rfl)]
  rfl
theorem fil_empty : (filV n c).isEmpty = true ↔ ∀ v, v < n → c v = false := by
  rw [List.isEmpty_iff]
  unfold filV
  rw [List.map_eq_nil_iff, List.filter_eq_nil_iff]
  constructor
  · intro h v hv
    cases e : c v with
    | false => rfl
    | true => exact absurd e (h v (List.mem_range.mpr hv))
  · intro h v hv
    rw [h v (List.mem_range.mp hv)]
    decide
end

/-! ### webs -/
def dueW : Du → String × Int
  | .none => ("", 0)
  | .chips x => ("chips", x)
  | .less x => ("less", x)
section
variable {K : PySem.W.Frag} {H H' : Hp} {q : Addr} {u : V} {n : Nat} {W : Web}
/-- u is the due d -/
def DueV (K : PySem.W.Frag) (H : Hp) (u : V) : Du → Prop
  | .none => u = .non
  | .chips x => ∃ p, u = .ref p ∧ SqT K H p [.str "chips", .int x]
  | .less x => ∃ p, u = .ref p ∧ SqT K H p [.str "less", .int x]
theorem DueV.ex {d : Du} (e : Ex H H') (h : DueV K H u d) : DueV K H' u d := by
  cases d with
  | none => exact h
  | chips x => obtain ⟨p, e1, h1⟩ := h; exact ⟨p, e1, ex_t e h1⟩
  | less x => obtain ⟨p, e1, h1⟩ := h; exact ⟨p, e1, ex_t e h1⟩
/-- the lists of steps -/
def Lots (K : PySem.W.Frag) (H : Hp) (q : Addr) (n : Nat) (s : Nat → List Nat) : Prop := ∃ as : Nat → Addr, Sq K H q (refV n as) ∧ ∀ v, v < n → Sq K H (as v) (lotV (s v))
theorem Lots.ex {s : Nat → List Nat} (e : Ex H H') (h : Lots K H q n s) : Lots K H' q n s := by
  obtain ⟨as, h1, h2⟩ := h
  exact ⟨as, h1.ex e, fun v hv => (h2 v hv).ex e⟩
def Dues (K : PySem.W.Frag) (H : Hp) (q : Addr) (n : Nat) (d : Nat → Du) : Prop := ∃ us : Nat → V, Sq K H q ((List.range n).map us) ∧ ∀ v, v < n → DueV K H (us v) (d v)
theorem Dues.ex {d : Nat → Du} (e : Ex H H') (h : Dues K H q n d) : Dues K H' q n d := by
  obtain ⟨us, h1, h2⟩ := h
  exact ⟨us, h1.ex e, fun v hv => (h2 v hv).ex e⟩
/-- a row of ints, in a list or a tuple -/
abbrev Row (K : PySem.W.Frag) (H : Hp) (q : Addr) (n : Nat) (X : Nat → Int) : Prop := Sq K H q (rowV n X)
theorem Row.ex {X : Nat → Int} (e : Ex H H') (h : Row K H q n X) : Row K H' q n X := Sq.ex e h
/-- a set of stands -/
abbrev Fil (K : PySem.W.Frag) (H : Hp) (q : Addr) (n : Nat) (c : Nat → Bool) : Prop := Sq K H q (filV n c)
theorem Fil.ex {c : Nat → Bool} (e : Ex H H') (h : Fil K H q n c) : Fil K H' q n c := Sq.ex e h
/-- the law's web: a list of four -/
def LWeb (K : PySem.W.Frag) (H : Hp) (q : Addr) (W : Web) : Prop := ∃ qf qs qm qd, SqL K H q [.ref qf, .ref qs, .ref qm, .ref qd] ∧ Lots K H qf W.n W.s1 ∧ Lots K H qs W.n W.s2 ∧ Row K H qm W.n W.mark ∧ Dues K H qd W.n W.due
theorem LWeb.ex (e : Ex H H') (h : LWeb K H q W) : LWeb K H' q W := by
  obtain ⟨qf, qs, qm, qd, h1, h2, h3, h4, h5⟩ := h
  exact ⟨qf, qs, qm, qd, ex_l e h1, h2.ex e, h3.ex e, h4.ex e, h5.ex e⟩
theorem slt_ex {a C dx : Addr} {vs : List (Option V)} (e : Ex H H') (h : SlX.Slt H a C dx vs) : SlX.Slt H' a C dx vs := by
  rcases h with ⟨h1, h2⟩ | ⟨h1, h2⟩
  · exact .inl ⟨e _ _ h1, h2⟩
  · exact .inr ⟨e _ _ h1, e _ _ h2⟩
/-- a Web stands at q: the tuples of its slots; its steps are those of W as sets -/
structure WebO (K : PySem.W.Frag) (H : Hp) (q : Addr) (W : Web) (vs : List (Option V)) (qd qf qm qv qs : Addr) (s1 s2 : Nat → List Nat) : Prop where
  sl : ∃ dx, SlX.Slt H q (He.ga K "Web") dx vs
  v0 : vs[0]? = some (some (.ref qd))
  v2 : vs[2]? = some (some (.ref qf))
  v4 : vs[4]? = some (some (.ref qm))
  v5 : vs[5]? = some (some (.ref qv))
  v6 : vs[6]? = some (some (.ref qs))
  dues : Dues K H qd W.n W.due
  first : Lots K H qf W.n s1
  second : Lots K H qs W.n s2
  marks : Row K H qm W.n W.mark
  moving : Fil K H qv W.n W.mv
  m1 : ∀ v, v < W.n → ∀ x, x ∈ s1 v ↔ x ∈ W.s1 v
  m2 : ∀ v, v < W.n → ∀ x, x ∈ s2 v ↔ x ∈ W.s2 v
  l1 : ∀ v, v < W.n → (s1 v).length ≤ 100
  l2 : ∀ v, v < W.n → (s2 v).length ≤ 100
def WebAt (K : PySem.W.Frag) (H : Hp) (q : Addr) (W : Web) : Prop := ∃ vs qd qf qm qv qs s1 s2, WebO K H q W vs qd qf qm qv qs s1 s2
theorem WebO.ex {vs : List (Option V)} {qd qf qm qv qs : Addr} {s1 s2 : Nat → List Nat} (e : Ex H H') (h : WebO K H q W vs qd qf qm qv qs s1 s2) : WebO K H' q W vs qd qf qm qv qs s1 s2 :=
  ⟨let ⟨dx, z⟩ := h.sl; ⟨dx, slt_ex e z⟩, h.v0, h.v2, h.v4, h.v5, h.v6, h.dues.ex e, h.first.ex e, h.second.ex e, h.marks.ex e, h.moving.ex e, h.m1, h.m2, h.l1, h.l2⟩
theorem WebAt.ex (e : Ex H H') (h : WebAt K H q W) : WebAt K H' q W := by
  obtain ⟨vs, qd, qf, qm, qv, qs, s1, s2, h⟩ := h
  exact ⟨vs, qd, qf, qm, qv, qs, s1, s2, h.ex e⟩
/-- the promises' shapes -/
def RetU (xs : List V) (H : Hp) (Q : VK) : Prop := ∀ p H2, H p = none → Ex H H2 → H2 p = some (.tup xs) → Q (.ref p) H2
def RetD (P : V → Hp → Prop) (H : Hp) (Q : VK) : Prop := ∀ u H2, Ex H H2 → P u H2 → Q u H2
end
/-- the price: with no steps K -/
def prK (W : Web) (K : Int) (X : Nat → Int) (v : Nat) : Int := if W.mv v = true then W.pr X v else K
end PwD
end
/-! ### PwOb -/
section
set_option linter.all false
set_option maxRecDepth 100000
set_option maxHeartbeats 4000000
/-! objects with slots: read, property; the getters of Web and CallPaper -/
namespace PwD
open PySem PySem.Spec PyProof.Rows L2 Evl Pw Wk PwH
section
variable {P : Program} {w : World} {K : PySem.W.Frag} {mg : Str → Option Value} {base : Heap}
/-- a method, by its body -/
theorem fn_rn {x qual : Str} {st : Stmt} {N ps : List Str} {k : Nat} {sp : Sp} {g : Addr} (hF : ∃ (fd : FuncData), FunD K x qual (defArgs st) (defBody st) (defScope st) [] [] g fd) (S : FnScope N ps (defScope st)) (len : ∀ vs H Q E, sp vs H Q E → vs.length = ps.length)
    (hb : ∀ (kV doc pm : Value) (an : Option Addr) (cdv ct : Value) (us : List Value), us.length = ps.length → bindArgs (PySem.W.fnOf x qual (defArgs st) (defBody st) (defScope st) .none kV doc pm an cdv ct) ⟨us, []⟩ = pure (ps.zip us))
    (h : ∀ (cdv : Value) (A : Around) (outer : List Env) (s : Shared) (H : Hp) (vs : List V) (Q : VK) (E : XK), Room k (A.deeper (envOfC qual (defScope st) s.heap.objs.size g cdv)) → sp vs H Q E →
      WS (cxOf (L2.CX P w) P w K mg base N qual (defScope st) g cdv A outer s H E) (defBody st) { nx := fun _ H' => Q .non H', rt := Q } (start N vs) H) : FnR P w K mg base (L2.CX P w) (k + 1) g sp := by
  obtain ⟨fd, F⟩ := hF
  have G := (F.ok (CX := L2.CX P w) S len fun cdv A outer s H vs Q E hr hs => ⟨_, pssW, h cdv A outer s H vs Q E hr hs⟩).raw (F.bindsN hb) .nil
  refine G.imp fun vs H Q E z => ?_
  rw [List.append_nil]
  exact z
end
section
variable {X : Cx} {e a b c o : Expr} {es : List Expr} {σ : L2.St} {H : Hp} {v z : V} {pos : Pos} {n m i : Nat} {f : Str} {q p g C dx : Addr} {vs : List (Option V)} {sp : Sp}
theorem v_slot (c : SlX.SCls X.K C) (t : SlX.Slot1 X.K C f p i) (h : VE X e σ H (.ref q)) (hs : SlX.Slt H q C dx vs) (l : vs[i]? = some (some v)) (hb : attributeBase e f X.env (eval e X.env) = eval e X.env := by rfl) : VE X (.Attribute e f pos) σ H v :=
  lift (SlX.pe_sl peW hb) fun H1 e1 Q k => h H1 e1 _ fun H2 e2 => ⟨q, C, dx, p, vs, i, v, rfl, slt_ex (e1.trans e2) hs, c, t, l, k H2 e2⟩
theorem v_prop (c : SlX.SCls X.K C) (t : PropX X.K C f p g) (F : FnR X.prog X.w X.K X.mg X.base (L2.CX X.prog X.w) n g sp) (hr : Room (n + 1) X.A) (h : VE X e σ H (.ref q)) (hs : SlX.Slt H q C dx vs) (hp : SpV sp [.ref q] H z)
    (hb : attributeBase e f X.env (eval e X.env) = eval e X.env := by rfl) : VE X (.Attribute e f pos) σ H z :=
  lift (SlX.pe_propSl (E := E0) peW c t.at_ t.get t.tk t.rc F hr (fun H s e s' x => by obtain ⟨_, _, _, _, _, _, _, _, _, _, _, _, z⟩ := x; exact z.elim) hb) fun H1 e1 Q k => h H1 e1 _ fun H2 e2 =>
    ⟨q, dx, vs, rfl, slt_ex (e1.trans e2) hs, hp H2 (e1.trans e2) Q (fun H3 e3 => k H3 (e2.trans e3)) E0⟩
/-- .. where the property brings a new object or a reading of the heap -/
theorem v_propD {P : V → Hp → Prop} (c : SlX.SCls X.K C) (t : PropX X.K C f p g) (F : FnR X.prog X.w X.K X.mg X.base (L2.CX X.prog X.w) n g sp) (hr : Room (n + 1) X.A) (h : VE X e σ H (.ref q)) (hs : SlX.Slt H q C dx vs) (hp : SpD sp [.ref q] H P)
    (hb : attributeBase e f X.env (eval e X.env) = eval e X.env := by rfl) : VD X (.Attribute e f pos) σ H P :=
  liftD (SlX.pe_propSl (E := E0) peW c t.at_ t.get t.tk t.rc F hr (fun H s e s' x => by obtain ⟨_, _, _, _, _, _, _, _, _, _, _, _, z⟩ := x; exact z.elim) hb) fun H1 e1 Q k => h H1 e1 _ fun H2 e2 =>
    ⟨q, dx, vs, rfl, slt_ex (e1.trans e2) hs, hp H2 (e1.trans e2) Q (fun u H3 e3 hu => k u H3 (e2.trans e3) hu) E0⟩
end
/-- the promise of a getter of one slot -/
def spGet (C : Addr) (i : Nat) : Sp := fun vs H Q _ => ∃ q dx sl v, vs = [.ref q] ∧ SlX.Slt H q C dx sl ∧ sl[i]? = some (some v) ∧ RetV v H Q
section
variable {P : Program} {w : World} {K : PySem.W.Frag} {mg : Str → Option Value} {base : Heap}
theorem spGet_v {C q dx : Addr} {i : Nat} {sl : List (Option V)} {v : V} {H : Hp} (hs : SlX.Slt H q C dx sl) (l : sl[i]? = some (some v)) : SpV (spGet C i) [.ref q] H v := fun H1 e1 Q k E => ⟨q, dx, sl, v, rfl, slt_ex e1 hs, l, k⟩
theorem G_Web_first (T : Hd K mg) : FnR P w K mg base (L2.CX P w) 1 (gg K (He.ma K (He.ga K "Web") "first")) (spGet (He.ga K "Web") 2) := by
  refine fn_rn (F_Web_first T) sc_Web_first (fun vs H Q E h => ?_) B_Web_first fun cdv A outer s H vs Q E hr h => ?_
  · obtain ⟨_, _, _, _, rfl, _⟩ := h
    rfl
  · obtain ⟨q, dx, sl, v, rfl, hs, l, k⟩ := h
    exact w_ret (v_slot (S_Web T) (L_Web_first T) (vn 0) hs l) k
theorem G_Web_second (T : Hd K mg) : FnR P w K mg base (L2.CX P w) 1 (gg K (He.ma K (He.ga K "Web") "second")) (spGet (He.ga K "Web") 6) := by
  refine fn_rn (F_Web_second T) sc_Web_second (fun vs H Q E h => ?_) B_Web_second fun cdv A outer s H vs Q E hr h => ?_
  · obtain ⟨_, _, _, _, rfl, _⟩ := h
    rfl
  · obtain ⟨q, dx, sl, v, rfl, hs, l, k⟩ := h
    exact w_ret (v_slot (S_Web T) (L_Web_second T) (vn 0) hs l) k
theorem G_Web_marks (T : Hd K mg) : FnR P w K mg base (L2.CX P w) 1 (gg K (He.ma K (He.ga K "Web") "marks")) (spGet (He.ga K "Web") 4) := by
  refine fn_rn (F_Web_marks T) sc_Web_marks (fun vs H Q E h => ?_) B_Web_marks fun cdv A outer s H vs Q E hr h => ?_
  · obtain ⟨_, _, _, _, rfl, _⟩ := h
    rfl
  · obtain ⟨q, dx, sl, v, rfl, hs, l, k⟩ := h
    exact w_ret (v_slot (S_Web T) (L_Web_marks T) (vn 0) hs l) k
theorem G_Web_dues (T : Hd K mg) : FnR P w K mg base (L2.CX P w) 1 (gg K (He.ma K (He.ga K "Web") "dues")) (spGet (He.ga K "Web") 0) := by
  refine fn_rn (F_Web_dues T) sc_Web_dues (fun vs H Q E h => ?_) B_Web_dues fun cdv A outer s H vs Q E hr h => ?_
  · obtain ⟨_, _, _, _, rfl, _⟩ := h
    rfl
  · obtain ⟨q, dx, sl, v, rfl, hs, l, k⟩ := h
    exact w_ret (v_slot (S_Web T) (L_Web_dues T) (vn 0) hs l) k
theorem G_Web_moving (T : Hd K mg) : FnR P w K mg base (L2.CX P w) 1 (gg K (He.ma K (He.ga K "Web") "moving")) (spGet (He.ga K "Web") 5) := by
  refine fn_rn (F_Web_moving T) sc_Web_moving (fun vs H Q E h => ?_) B_Web_moving fun cdv A outer s H vs Q E hr h => ?_
  · obtain ⟨_, _, _, _, rfl, _⟩ := h
    rfl
  · obtain ⟨q, dx, sl, v, rfl, hs, l, k⟩ := h
    exact w_ret (v_slot (S_Web T) (L_Web_moving T) (vn 0) hs l) k
theorem G_CallPaper_web (T : Hd K mg) : FnR P w K mg base (L2.CX P w) 1 (gg K (He.ma K (He.ga K "CallPaper") "web")) (spGet (He.ga K "CallPaper") 5) := by
  refine fn_rn (F_CallPaper_web T) sc_CallPaper_web (fun vs H Q E h => ?_) B_CallPaper_web fun cdv A outer s H vs Q E hr h => ?_
  · obtain ⟨_, _, _, _, rfl, _⟩ := h
    rfl
  · obtain ⟨q, dx, sl, v, rfl, hs, l, k⟩ := h
    exact w_ret (v_slot (S_CallPaper T) (L_CallPaper_web T) (vn 0) hs l) k
theorem G_CallPaper_chips (T : Hd K mg) : FnR P w K mg base (L2.CX P w) 1 (gg K (He.ma K (He.ga K "CallPaper") "chips")) (spGet (He.ga K "CallPaper") 1) := by
  refine fn_rn (F_CallPaper_chips T) sc_CallPaper_chips (fun vs H Q E h => ?_) B_CallPaper_chips fun cdv A outer s H vs Q E hr h => ?_
  · obtain ⟨_, _, _, _, rfl, _⟩ := h
    rfl
  · obtain ⟨q, dx, sl, v, rfl, hs, l, k⟩ := h
    exact w_ret (v_slot (S_CallPaper T) (L_CallPaper_chips T) (vn 0) hs l) k
theorem G_CallPaper_calls (T : Hd K mg) : FnR P w K mg base (L2.CX P w) 1 (gg K (He.ma K (He.ga K "CallPaper") "calls")) (spGet (He.ga K "CallPaper") 0) := by
  refine fn_rn (F_CallPaper_calls T) sc_CallPaper_calls (fun vs H Q E h => ?_) B_CallPaper_calls fun cdv A outer s H vs Q E hr h => ?_
  · obtain ⟨_, _, _, _, rfl, _⟩ := h
    rfl
  · obtain ⟨q, dx, sl, v, rfl, hs, l, k⟩ := h
    exact w_ret (v_slot (S_CallPaper T) (L_CallPaper_calls T) (vn 0) hs l) k
theorem G_CallPaper_row (T : Hd K mg) : FnR P w K mg base (L2.CX P w) 1 (gg K (He.ma K (He.ga K "CallPaper") "row")) (spGet (He.ga K "CallPaper") 4) := by
  refine fn_rn (F_CallPaper_row T) sc_CallPaper_row (fun vs H Q E h => ?_) B_CallPaper_row fun cdv A outer s H vs Q E hr h => ?_
  · obtain ⟨_, _, _, _, rfl, _⟩ := h
    rfl
  · obtain ⟨q, dx, sl, v, rfl, hs, l, k⟩ := h
    exact w_ret (v_slot (S_CallPaper T) (L_CallPaper_row T) (vn 0) hs l) k
theorem G_CallPaper_ranks (T : Hd K mg) : FnR P w K mg base (L2.CX P w) 1 (gg K (He.ma K (He.ga K "CallPaper") "ranks")) (spGet (He.ga K "CallPaper") 3) := by
  refine fn_rn (F_CallPaper_ranks T) sc_CallPaper_ranks (fun vs H Q E h => ?_) B_CallPaper_ranks fun cdv A outer s H vs Q E hr h => ?_
  · obtain ⟨_, _, _, _, rfl, _⟩ := h
    rfl
  · obtain ⟨q, dx, sl, v, rfl, hs, l, k⟩ := h
    exact w_ret (v_slot (S_CallPaper T) (L_CallPaper_ranks T) (vn 0) hs l) k
theorem G_CallPaper_counts (T : Hd K mg) : FnR P w K mg base (L2.CX P w) 1 (gg K (He.ma K (He.ga K "CallPaper") "counts")) (spGet (He.ga K "CallPaper") 2) := by
  refine fn_rn (F_CallPaper_counts T) sc_CallPaper_counts (fun vs H Q E h => ?_) B_CallPaper_counts fun cdv A outer s H vs Q E hr h => ?_
  · obtain ⟨_, _, _, _, rfl, _⟩ := h
    rfl
  · obtain ⟨q, dx, sl, v, rfl, hs, l, k⟩ := h
    exact w_ret (v_slot (S_CallPaper T) (L_CallPaper_counts T) (vn 0) hs l) k
theorem G_Verdict_faults (T : Hd K mg) : FnR P w K mg base (L2.CX P w) 1 (gg K (He.ma K (He.ga K "Verdict") "faults")) (spGet (He.ga K "Verdict") 0) := by
  refine fn_rn (F_Verdict_faults T) sc_Verdict_faults (fun vs H Q E h => ?_) B_Verdict_faults fun cdv A outer s H vs Q E hr h => ?_
  · obtain ⟨_, _, _, _, rfl, _⟩ := h
    rfl
  · obtain ⟨q, dx, sl, v, rfl, hs, l, k⟩ := h
    exact w_ret (v_slot (S_Verdict T) (L_Verdict_faults T) (vn 0) hs l) k
/-- web.size -/
def spSize (C : Addr) : Sp := fun vs H Q _ => ∃ (K : PySem.W.Frag) (q dx m : Addr) (sl : List (Option V)) (xs : List V), vs = [.ref q] ∧ SlX.Slt H q C dx sl ∧ sl[4]? = some (some (.ref m)) ∧ Sq K H m xs ∧ RetV (.int (xs.length : Int)) H Q
theorem G_Web_size (T : Hd K mg) : FnR P w K mg base (L2.CX P w) 1 (gg K (He.ma K (He.ga K "Web") "size")) (fun vs H Q _ => ∃ (q dx m : Addr) (sl : List (Option V)) (xs : List V), vs = [.ref q] ∧ SlX.Slt H q (He.ga K "Web") dx sl ∧ sl[4]? = some (some (.ref m)) ∧ Sq K H m xs ∧ RetV (.int (xs.length : Int)) H Q) := by
  refine fn_rn (F_Web_size T) sc_Web_size (fun vs H Q E h => ?_) B_Web_size fun cdv A outer s H vs Q E hr h => ?_
  · obtain ⟨_, _, _, _, _, rfl, _⟩ := h
    rfl
  · obtain ⟨q, dx, m, sl, xs, rfl, hs, l, hx, k⟩ := h
    exact w_ret (v_len T.fre (v_slot (S_Web T) (L_Web_marks T) (vn 0) hs l) hx) k
end
section
variable {X : Cx} {e : Expr} {σ : L2.St} {H : Hp} {pos : Pos} {q : Addr} {W : Web} {vs : List (Option V)} {qd qf qm qv qs : Addr} {s1 s2 : Nat → List Nat}
theorem v_size (T : Hd X.K X.mg) (hr : Room 2 X.A) (h : VE X e σ H (.ref q)) (o : WebO X.K H q W vs qd qf qm qv qs s1 s2) (hb : attributeBase e "size" X.env (eval e X.env) = eval e X.env := by rfl) : VE X (.Attribute e "size" pos) σ H (.int (W.n : Int)) := by
  obtain ⟨dx, hs⟩ := o.sl
  have z := v_prop (pos := pos) (S_Web T) (P_Web_size T) (G_Web_size (P := X.prog) (w := X.w) (base := X.base) T) hr h hs (z := .int ((rowV W.n W.mark).length : Int)) (fun H1 e1 Q k E => ⟨q, dx, qm, vs, _, rfl, slt_ex e1 hs, o.v4, o.marks.ex e1, k⟩) hb
  rw [rowV_len] at z
  exact z
theorem v_first (T : Hd X.K X.mg) (hr : Room 2 X.A) (h : VE X e σ H (.ref q)) (o : WebO X.K H q W vs qd qf qm qv qs s1 s2) (hb : attributeBase e "first" X.env (eval e X.env) = eval e X.env := by rfl) : VE X (.Attribute e "first" pos) σ H (.ref qf) := by
  obtain ⟨dx, hs⟩ := o.sl
  exact v_prop (S_Web T) (P_Web_first T) (G_Web_first (P := X.prog) (w := X.w) (base := X.base) T) hr h hs (spGet_v hs o.v2) hb
theorem v_second (T : Hd X.K X.mg) (hr : Room 2 X.A) (h : VE X e σ H (.ref q)) (o : WebO X.K H q W vs qd qf qm qv qs s1 s2) (hb : attributeBase e "second" X.env (eval e X.env) = eval e X.env := by rfl) : VE X (.Attribute e "second" pos) σ H (.ref qs) := by
  obtain ⟨dx, hs⟩ := o.sl
  exact v_prop (S_Web T) (P_Web_second T) (G_Web_second (P := X.prog) (w := X.w) (base := X.base) T) hr h hs (spGet_v hs o.v6) hb
theorem v_marks (T : Hd X.K X.mg) (hr : Room 2 X.A) (h : VE X e σ H (.ref q)) (o : WebO X.K H q W vs qd qf qm qv qs s1 s2) (hb : attributeBase e "marks" X.env (eval e X.env) = eval e X.env := by rfl) : VE X (.Attribute e "marks" pos) σ H (.ref qm) := by
  obtain ⟨dx, hs⟩ := o.sl
  exact v_prop (S_Web T) (P_Web_marks T) (G_Web_marks (P := X.prog) (w := X.w) (base := X.base) T) hr h hs (spGet_v hs o.v4) hb
theorem v_dues (T : Hd X.K X.mg) (hr : Room 2 X.A) (h : VE X e σ H (.ref q)) (o : WebO X.K H q W vs qd qf qm qv qs s1 s2) (hb : attributeBase e "dues" X.env (eval e X.env) = eval e X.env := by rfl) : VE X (.Attribute e "dues" pos) σ H (.ref qd) := by
  obtain ⟨dx, hs⟩ := o.sl
  exact v_prop (S_Web T) (P_Web_dues T) (G_Web_dues (P := X.prog) (w := X.w) (base := X.base) T) hr h hs (spGet_v hs o.v0) hb
theorem v_moving (T : Hd X.K X.mg) (hr : Room 2 X.A) (h : VE X e σ H (.ref q)) (o : WebO X.K H q W vs qd qf qm qv qs s1 s2) (hb : attributeBase e "moving" X.env (eval e X.env) = eval e X.env := by rfl) : VE X (.Attribute e "moving" pos) σ H (.ref qv) := by
  obtain ⟨dx, hs⟩ := o.sl
  exact v_prop (S_Web T) (P_Web_moving T) (G_Web_moving (P := X.prog) (w := X.w) (base := X.base) T) hr h hs (spGet_v hs o.v5) hb
end
end PwD
end
/-! ### PwA -/
section
set_option linter.all false
set_option maxRecDepth 100000
set_option maxHeartbeats 4000000
/-! the walks: halves, dues, prices -/
namespace Wk
open PySem PySem.Spec PyProof.Rows L2 Evl Pw
section
variable {X : Cx} {c : Expr} {rest st1 st2 : List Stmt} {σ : L2.St} {H : Hp} {k : Bool} {pos : Pos} {D0 : Ends}
theorem w_then (h : VT X c σ H k) (hk : k = true) (h1 : ∀ H1, Ex H H1 → WS X st1 { D0 with nx := fun σ' H' => WS X rest D0 σ' H' } σ H1) : WS X (.If c st1 st2 pos :: rest) D0 σ H :=
  w_if h (fun _ => h1) fun e => by rw [hk] at e; cases e
theorem w_else (h : VT X c σ H k) (hk : k = false) (h2 : ∀ H1, Ex H H1 → WS X st2 { D0 with nx := fun σ' H' => WS X rest D0 σ' H' } σ H1) : WS X (.If c st1 st2 pos :: rest) D0 σ H :=
  w_if h (fun e => by rw [hk] at e; cases e) fun _ => h2
theorem w_skip (h : VT X c σ H k) (hk : k = false) (h2 : ∀ H1, Ex H H1 → WS X rest D0 σ H1) : WS X (.If c st1 [] pos :: rest) D0 σ H :=
  w_else h hk fun H1 e1 => w_nil (h2 H1 e1)
end
end Wk
namespace PwD
open PySem PySem.Spec PyProof.Rows L2 Evl Pw Wk PwH
section
variable {P : Program} {w : World} {K : PySem.W.Frag} {mg : Str → Option Value} {base : Heap}
def spHalf : Sp := fun vs H Q _ => ∃ m x y : Int, vs = [.int m, .int x, .int y] ∧ RetV (.int (half m x y)) H Q
theorem d_half (T : Hd K mg) : Dn P w K mg base 1 "half_of" [] spHalf := by
  refine fn_dn (F_half_of T) sc_half_of (fun vs H Q E h => ?_) B_half_of fun f cdv A outer s H vs Q E hr h => ?_
  · obtain ⟨_, _, _, rfl, _⟩ := h
    rfl
  · obtain ⟨mk, x, y, rfl, k⟩ := h
    refine w_when (t_eqI (vn 0) v_int) (fun hc H1 e1 => ?_) (fun hc H1 e1 => ?_)
    · refine w_ret (v_fdiv (v_add (vn 1) (v_max2 T.fre (vn 1) (vn 2))) v_int ⟨by decide, by decide⟩) fun H2 e2 => ?_
      rw [show (x + max x y) / 2 = half mk x y from (if_pos (of_decide_eq_true hc)).symm]
      exact k H2 (e1.trans e2)
    · refine w_ret (v_fdiv (v_add (v_add (v_min2 T.fre (vn 1) (vn 2)) (vn 2)) v_int) v_int ⟨by decide, by decide⟩) fun H2 e2 => ?_
      rw [show (min x y + y + 1) / 2 = half mk x y from (if_neg (of_decide_eq_false hc)).symm]
      exact k H2 (e1.trans e2)
theorem d_lhalf (T : Hd K mg) : Dn P w K mg base 1 "_law_half" [] spHalf := by
  refine fn_dn (F__law_half T) sc__law_half (fun vs H Q E h => ?_) B__law_half fun f cdv A outer s H vs Q E hr h => ?_
  · obtain ⟨_, _, _, rfl, _⟩ := h
    rfl
  · obtain ⟨mk, x, y, rfl, k⟩ := h
    refine w_when (t_eqI (vn 0) v_int) (fun hc H1 e1 => ?_) (fun hc H1 e1 => ?_)
    · refine w_ret (v_fdiv (v_add (vn 1) (v_max2 T.fre (vn 1) (vn 2))) v_int ⟨by decide, by decide⟩) fun H2 e2 => ?_
      rw [show (x + max x y) / 2 = half mk x y from (if_pos (of_decide_eq_true hc)).symm]
      exact k H2 (e1.trans e2)
    · refine w_ret (v_fdiv (v_add (v_add (v_min2 T.fre (vn 1) (vn 2)) (vn 2)) v_int) v_int ⟨by decide, by decide⟩) fun H2 e2 => ?_
      rw [show (min x y + y + 1) / 2 = half mk x y from (if_neg (of_decide_eq_false hc)).symm]
      exact k H2 (e1.trans e2)
/-- a due's number at k -/
def spDue (K : PySem.W.Frag) : Sp := fun vs H Q _ => ∃ (u : V) (d : Du) (k : Int), vs = [u, .int k] ∧ DueV K H u d ∧ RetV (.int (d.num (k + 1))) H Q
theorem d_due (T : Hd K mg) : Dn P w K mg base 1 "due_at" [] (spDue K) := by
  refine fn_dn (F_due_at T) sc_due_at (fun vs H Q E h => ?_) B_due_at fun f cdv A outer s H vs Q E hr h => ?_
  · obtain ⟨_, _, _, rfl, _⟩ := h
    rfl
  · obtain ⟨u, d, kk, rfl, hd, k⟩ := h
    cases d with
    | none =>
      cases hd
      refine w_then (t_isN (vn 0)) rfl fun H1 e1 => ?_
      exact w_ret (v_add (vn 1) v_int) fun H2 e2 => k H2 (e1.trans e2)
    | chips x =>
      obtain ⟨q, rfl, hq⟩ := hd
      refine w_skip (t_isN (vn 0)) rfl fun H1 e1 => ?_
      refine w_then (t_eq (v_ix (vn 0) v_int (n := 0) (.inr (ex_t e1 hq)) rfl) v_str rfl) (by simp) fun H2 e2 => ?_
      exact w_ret (v_min2 T.fre (v_ix (vn 0) v_int (n := 1) (.inr (ex_t (e1.trans e2) hq)) rfl) (v_add (vn 1) v_int)) fun H3 e3 => k H3 ((e1.trans e2).trans e3)
    | less x =>
      obtain ⟨q, rfl, hq⟩ := hd
      refine w_skip (t_isN (vn 0)) rfl fun H1 e1 => ?_
      refine w_skip (t_eq (v_ix (vn 0) v_int (n := 0) (.inr (ex_t e1 hq)) rfl) v_str rfl) (by decide +kernel) fun H2 e2 => ?_
      exact w_ret (v_max2 T.fre v_int (v_sub (v_add (vn 1) v_int) (v_ix (vn 0) v_int (n := 1) (.inr (ex_t (e1.trans e2) hq)) rfl))) fun H3 e3 => k H3 ((e1.trans e2).trans e3)
theorem d_ldue (T : Hd K mg) : Dn P w K mg base 1 "_law_due_at" [] (spDue K) := by
  refine fn_dn (F__law_due_at T) sc__law_due_at (fun vs H Q E h => ?_) B__law_due_at fun f cdv A outer s H vs Q E hr h => ?_
  · obtain ⟨_, _, _, rfl, _⟩ := h
    rfl
  · obtain ⟨u, d, kk, rfl, hd, k⟩ := h
    cases d with
    | none =>
      cases hd
      refine w_then (t_isN (vn 0)) rfl fun H1 e1 => ?_
      exact w_ret (v_add (vn 1) v_int) fun H2 e2 => k H2 (e1.trans e2)
    | chips x =>
      obtain ⟨q, rfl, hq⟩ := hd
      refine w_skip (t_isN (vn 0)) rfl fun H1 e1 => ?_
      refine w_then (t_eq (v_ix (vn 0) v_int (n := 0) (.inr (ex_t e1 hq)) rfl) v_str rfl) (by simp) fun H2 e2 => ?_
      exact w_ret (v_min2 T.fre (v_ix (vn 0) v_int (n := 1) (.inr (ex_t (e1.trans e2) hq)) rfl) (v_add (vn 1) v_int)) fun H3 e3 => k H3 ((e1.trans e2).trans e3)
    | less x =>
      obtain ⟨q, rfl, hq⟩ := hd
      refine w_skip (t_isN (vn 0)) rfl fun H1 e1 => ?_
      refine w_skip (t_eq (v_ix (vn 0) v_int (n := 0) (.inr (ex_t e1 hq)) rfl) v_str rfl) (by decide +kernel) fun H2 e2 => ?_
      exact w_ret (v_max2 T.fre v_int (v_sub (v_add (vn 1) v_int) (v_ix (vn 0) v_int (n := 1) (.inr (ex_t (e1.trans e2) hq)) rfl))) fun H3 e3 => k H3 ((e1.trans e2).trans e3)
/-- the row of the dues' numbers -/
def spDueRow (K : PySem.W.Frag) : Sp := fun vs H Q _ => ∃ (q : Addr) (n : Nat) (d : Nat → Du) (k : Int), vs = [.ref q, .int k] ∧ n ≤ 1000 ∧ Dues K H q n d ∧ RetU (rowV n fun v => (d v).num (k + 1)) H Q
theorem d_dueRow (T : Hd K mg) : Dn P w K mg base 2 "due_row" [] (spDueRow K) := by
  refine fn_dn (F_due_row T) sc_due_row (fun vs H Q E h => ?_) B_due_row fun f cdv A outer s H vs Q E hr h => ?_
  · obtain ⟨_, _, _, _, rfl, _⟩ := h
    rfl
  · obtain ⟨q, n, d, kk, rfl, hn, ⟨us, hq, hu⟩, k⟩ := h
    refine w_retU (v_tupL T.fre (ccv (c_mapR (m := n) (n := 2) T.fre sc_due_row.nd (bk sc_due_row (by decide +kernel)) (v_lenN T.fre (vn 0) hq (by rw [List.length_map, List.length_range])) (by omega) (fun v => .int ((d v).num (kk + 1))) (fun v hv => ?_)))) k
    intro s0 H0 C cl fp
    exact v_call (d_due T) hr (a_cons (v_ix (vn 0) (vn 2) hq (map_at hv)) (a_cons (vn 1) a_nil)) (fun H1 e1 Q1 k1 E1 => ⟨us v, d v, kk, rfl, (hu v hv).ex e1, k1⟩)
end
end PwD
end
/-! ### PwB -/
section
set_option linter.all false
set_option maxRecDepth 100000
set_option maxHeartbeats 4000000
/-! the walks: prices -/
namespace PwD
open PySem PySem.Spec PyProof.Rows L2 Evl Pw Wk PwH
/-- an int of a row, as a function of the stand's value -/
def gR (X : Nat → Int) : V → V
  | .int i => .int (X i.toNat)
  | _ => .non
theorem lot_gR {l : List Nat} {X : Nat → Int} : (lotV l).map (gR X) = (l.map X).map V.int := by
  unfold lotV
  rw [List.map_map, List.map_map]
  exact List.map_congr_left fun v _ => rfl
section
variable {P : Program} {w : World} {K : PySem.W.Frag} {mg : Str → Option Value} {base : Heap}
/-- the least, the greatest number over the steps -/
def spLow (K : PySem.W.Frag) : Sp := fun vs H Q _ => ∃ (q a : Addr) (W : Web) (X : Nat → Int) (v : Nat), vs = [.ref q, .ref a, .int (v : Int)] ∧ W.Ok ∧ WebAt K H q W ∧ Row K H a W.n X ∧ v < W.n ∧ W.mv v = true ∧ RetV (.int (lo (W.s1 v) X)) H Q
def spHigh (K : PySem.W.Frag) : Sp := fun vs H Q _ => ∃ (q a : Addr) (W : Web) (X : Nat → Int) (v : Nat), vs = [.ref q, .ref a, .int (v : Int)] ∧ W.Ok ∧ WebAt K H q W ∧ Row K H a W.n X ∧ v < W.n ∧ W.mv v = true ∧ RetV (.int (hi (W.s2 v) X)) H Q
def spPrice (K : PySem.W.Frag) : Sp := fun vs H Q _ => ∃ (q a : Addr) (W : Web) (X : Nat → Int) (v : Nat) (k : Int), vs = [.ref q, .int k, .ref a, .int (v : Int)] ∧ W.Ok ∧ WebAt K H q W ∧ Row K H a W.n X ∧ v < W.n ∧ RetV (.int (prK W (k + 1) X v)) H Q
theorem d_low (T : Hd K mg) : Dn P w K mg base 3 "price_low" [] (spLow K) := by
  refine fn_dn (F_price_low T) sc_price_low (fun vs H Q E h => ?_) B_price_low fun f cdv A outer s H vs Q E hr h => ?_
  · obtain ⟨_, _, _, _, _, rfl, _⟩ := h
    rfl
  · obtain ⟨q, a, W, X, v, rfl, ok, ⟨sl, qd, qf, qm, qv, qs, s1, s2, o⟩, hX, hv, hm, k⟩ := h
    obtain ⟨as, ha, hl⟩ := o.first
    have hin : ∀ x, x ∈ s1 v → x < W.n := fun x hx => ok.in1 v hv x ((o.m1 v hv x).mp hx)
    have ne : s1 v ≠ [] := fun e => by
      obtain ⟨x, hx, _⟩ := lo_mem (W.s1 v) X (Web.mv_iff.mp hm)
      have := (o.m1 v hv x).mpr hx
      rw [e] at this
      simp at this
    obtain ⟨x0, hx0, e0⟩ := lo_mem (s1 v) X ne
    have es : lo (s1 v) X = lo (W.s1 v) X := lo_same (o.m1 v hv)
    rw [← es] at k
    refine w_ret (v_minL (ns := (s1 v).map X) T.fre (by
      rw [← lot_gR]
      exact ccv (c_mapS (n := 3) sc_price_low.nd (bk sc_price_low (by decide +kernel)) (v_ix (n := v) (v_first T hr (vn 0) o) (vn 2) ha (refV_at hv)) (hl v hv) (by rw [lotV_len]; have := o.l1 v hv; omega) (gR X) (fun y hy s0 H0 C cl fp => by
        obtain ⟨x, hx, rfl⟩ := List.mem_map.mp hy
        exact v_ix (n := x) (vn 1) (vn 3) hX (rowV_at (hin x hx))))) (by rw [List.length_map]; exact List.length_pos_iff.mpr ne) (by rw [e0]; exact List.mem_map_of_mem hx0) (fun y hy => by
      obtain ⟨x, hx, rfl⟩ := List.mem_map.mp hy
      exact lo_le _ _ _ hx)) k
theorem d_high (T : Hd K mg) : Dn P w K mg base 3 "price_high" [] (spHigh K) := by
  refine fn_dn (F_price_high T) sc_price_high (fun vs H Q E h => ?_) B_price_high fun f cdv A outer s H vs Q E hr h => ?_
  · obtain ⟨_, _, _, _, _, rfl, _⟩ := h
    rfl
  · obtain ⟨q, a, W, X, v, rfl, ok, ⟨sl, qd, qf, qm, qv, qs, s1, s2, o⟩, hX, hv, hm, k⟩ := h
    obtain ⟨as, ha, hl⟩ := o.second
    have hin : ∀ x, x ∈ s2 v → x < W.n := fun x hx => ok.in2 v hv x ((o.m2 v hv x).mp hx)
    have ne : s2 v ≠ [] := fun e => by
      obtain ⟨x, hx, _⟩ := hi_mem (W.s2 v) X (ok.s2ne hv hm)
      have := (o.m2 v hv x).mpr hx
      rw [e] at this
      simp at this
    obtain ⟨x0, hx0, e0⟩ := hi_mem (s2 v) X ne
    have es : hi (s2 v) X = hi (W.s2 v) X := hi_same (o.m2 v hv)
    rw [← es] at k
    refine w_ret (v_maxL (ns := (s2 v).map X) T.fre (by
      rw [← lot_gR]
      exact ccv (c_mapS (n := 3) sc_price_high.nd (bk sc_price_high (by decide +kernel)) (v_ix (n := v) (v_second T hr (vn 0) o) (vn 2) ha (refV_at hv)) (hl v hv) (by rw [lotV_len]; have := o.l2 v hv; omega) (gR X) (fun y hy s0 H0 C cl fp => by
        obtain ⟨x, hx, rfl⟩ := List.mem_map.mp hy
        exact v_ix (n := x) (vn 1) (vn 3) hX (rowV_at (hin x hx))))) (by rw [List.length_map]; exact List.length_pos_iff.mpr ne) (by rw [e0]; exact List.mem_map_of_mem hx0) (fun y hy => by
      obtain ⟨x, hx, rfl⟩ := List.mem_map.mp hy
      exact hi_ge _ _ _ hx)) k
theorem d_price (T : Hd K mg) : Dn P w K mg base 4 "price_at" [] (spPrice K) := by
  refine fn_dn (F_price_at T) sc_price_at (fun vs H Q E h => ?_) B_price_at fun f cdv A outer s H vs Q E hr h => ?_
  · obtain ⟨_, _, _, _, _, _, rfl, _⟩ := h
    rfl
  · obtain ⟨q, a, W, X, v, kk, rfl, ok, hW, hX, hv, k⟩ := h
    obtain ⟨sl, qd, qf, qm, qv, qs, s1, s2, o⟩ := id hW
    obtain ⟨as, ha, hl⟩ := id o.first
    have e1 : (lotV (s1 v)).isEmpty = !W.mv v := by
      have z : (s1 v = []) ↔ (W.s1 v = []) := by
        constructor
        · intro e
          refine List.eq_nil_iff_forall_not_mem.mpr fun x hx => ?_
          have := (o.m1 v hv x).mpr hx
          rw [e] at this
          simp at this
        · intro e
          refine List.eq_nil_iff_forall_not_mem.mpr fun x hx => ?_
          have := (o.m1 v hv x).mp hx
          rw [e] at this
          simp at this
      cases hm : W.mv v with
      | true =>
        have := (Web.mv_iff.mp hm)
        have ne : s1 v ≠ [] := fun e => this (z.mp e)
        unfold lotV
        cases q : s1 v with
        | nil => exact absurd q ne
        | cons a r => rfl
      | false =>
        have := z.mpr (Web.mv_not.mp hm)
        rw [this]
        rfl
    refine w_when (t_not (t_seq (v_ix (n := v) (v_first T (hr.mono (by decide)) (vn 0) o) (vn 3) ha (refV_at hv)) (hl v hv))) (fun hc H1 x1 => ?_) (fun hc H1 x1 => ?_)
    · have hm : W.mv v = false := by
        rw [e1] at hc
        cases q : W.mv v <;> simp_all
      refine w_ret (v_add (vn 1) v_int) fun H2 x2 => ?_
      have z : prK W (kk + 1) X v = kk + 1 := if_neg (by rw [hm]; simp)
      rw [← z]
      exact k H2 (x1.trans x2)
    · have hm : W.mv v = true := by
        rw [e1] at hc
        cases q : W.mv v <;> simp_all
      have o1 := o.ex x1
      have z : prK W (kk + 1) X v = half (W.mark v) (lo (W.s1 v) X) (hi (W.s2 v) X) := if_pos hm
      rw [z] at k
      refine w_ret (v_call (d_half T) (hr.mono (by decide)) (a_cons (v_ix (n := v) (v_marks T (hr.mono (by decide)) (vn 0) o1) (vn 3) o1.marks (rowV_at hv))
        (a_cons (v_call (d_low T) hr (a_cons (vn 0) (a_cons (vn 2) (a_cons (vn 3) a_nil))) (fun H2 x2 Q2 k2 E2 => ⟨q, a, W, X, v, rfl, ok, (hW.ex x1).ex x2, (hX.ex x1).ex x2, hv, hm, k2⟩))
        (a_cons (v_call (d_high T) hr (a_cons (vn 0) (a_cons (vn 2) (a_cons (vn 3) a_nil))) (fun H2 x2 Q2 k2 E2 => ⟨q, a, W, X, v, rfl, ok, (hW.ex x1).ex x2, (hX.ex x1).ex x2, hv, hm, k2⟩)) a_nil)))
        (fun H2 x2 Q2 k2 E2 => ⟨_, _, _, rfl, k2⟩)) fun H2 x2 => k H2 (x1.trans x2)
/-! the law's own -/
def spLLow (K : PySem.W.Frag) : Sp := fun vs H Q _ => ∃ (q a : Addr) (W : Web) (X : Nat → Int) (v : Nat), vs = [.ref q, .ref a, .int (v : Int)] ∧ W.Ok ∧ LWeb K H q W ∧ Row K H a W.n X ∧ v < W.n ∧ W.mv v = true ∧ RetV (.int (lo (W.s1 v) X)) H Q
def spLHigh (K : PySem.W.Frag) : Sp := fun vs H Q _ => ∃ (q a : Addr) (W : Web) (X : Nat → Int) (v : Nat), vs = [.ref q, .ref a, .int (v : Int)] ∧ W.Ok ∧ LWeb K H q W ∧ Row K H a W.n X ∧ v < W.n ∧ W.mv v = true ∧ RetV (.int (hi (W.s2 v) X)) H Q
def spLPrice (K : PySem.W.Frag) : Sp := fun vs H Q _ => ∃ (q a : Addr) (W : Web) (X : Nat → Int) (v : Nat) (k : Int), vs = [.ref q, .int k, .ref a, .int (v : Int)] ∧ W.Ok ∧ LWeb K H q W ∧ Row K H a W.n X ∧ v < W.n ∧ RetV (.int (prK W (k + 1) X v)) H Q
theorem d_llow (T : Hd K mg) : Dn P w K mg base 1 "_law_low" [] (spLLow K) := by
  refine fn_dn (F__law_low T) sc__law_low (fun vs H Q E h => ?_) B__law_low fun f cdv A outer s H vs Q E hr h => ?_
  · obtain ⟨_, _, _, _, _, rfl, _⟩ := h
    rfl
  · obtain ⟨q, a, W, X, v, rfl, ok, ⟨qf, qs, qm, qd, hL, ⟨as, ha, hl⟩, _⟩, hX, hv, hm, k⟩ := h
    have hin : ∀ x, x ∈ W.s1 v → x < W.n := fun x hx => ok.in1 v hv x hx
    have ne : W.s1 v ≠ [] := Web.mv_iff.mp hm
    obtain ⟨x0, hx0, e0⟩ := lo_mem (W.s1 v) X ne
    refine w_ret (v_minL (ns := (W.s1 v).map X) T.fre (by
      rw [← lot_gR]
      exact ccv (c_mapS (n := 3) sc__law_low.nd (bk sc__law_low (by decide +kernel)) (v_ix (n := v) (v_ix (n := 0) (vn 0) v_int (.inl hL) rfl) (vn 2) ha (refV_at hv)) (hl v hv) (by rw [lotV_len]; have := ok.len1 v hv; omega) (gR X) (fun y hy s0 H0 C cl fp => by
        obtain ⟨x, hx, rfl⟩ := List.mem_map.mp hy
        exact v_ix (n := x) (vn 1) (vn 3) hX (rowV_at (hin x hx))))) (by rw [List.length_map]; exact List.length_pos_iff.mpr ne) (by rw [e0]; exact List.mem_map_of_mem hx0) (fun y hy => by
      obtain ⟨x, hx, rfl⟩ := List.mem_map.mp hy
      exact lo_le _ _ _ hx)) k
theorem d_lhigh (T : Hd K mg) : Dn P w K mg base 1 "_law_high" [] (spLHigh K) := by
  refine fn_dn (F__law_high T) sc__law_high (fun vs H Q E h => ?_) B__law_high fun f cdv A outer s H vs Q E hr h => ?_
  · obtain ⟨_, _, _, _, _, rfl, _⟩ := h
    rfl
  · obtain ⟨q, a, W, X, v, rfl, ok, ⟨qf, qs, qm, qd, hL, _, ⟨as, ha, hl⟩, _⟩, hX, hv, hm, k⟩ := h
    have hin : ∀ x, x ∈ W.s2 v → x < W.n := fun x hx => ok.in2 v hv x hx
    have ne : W.s2 v ≠ [] := ok.s2ne hv hm
    obtain ⟨x0, hx0, e0⟩ := hi_mem (W.s2 v) X ne
    refine w_ret (v_maxL (ns := (W.s2 v).map X) T.fre (by
      rw [← lot_gR]
      exact ccv (c_mapS (n := 3) sc__law_high.nd (bk sc__law_high (by decide +kernel)) (v_ix (n := v) (v_ix (n := 1) (vn 0) v_int (.inl hL) rfl) (vn 2) ha (refV_at hv)) (hl v hv) (by rw [lotV_len]; have := ok.len2 v hv; omega) (gR X) (fun y hy s0 H0 C cl fp => by
        obtain ⟨x, hx, rfl⟩ := List.mem_map.mp hy
        exact v_ix (n := x) (vn 1) (vn 3) hX (rowV_at (hin x hx))))) (by rw [List.length_map]; exact List.length_pos_iff.mpr ne) (by rw [e0]; exact List.mem_map_of_mem hx0) (fun y hy => by
      obtain ⟨x, hx, rfl⟩ := List.mem_map.mp hy
      exact hi_ge _ _ _ hx)) k
/-- len(steps) == 0, > 0 -/
theorem len_lot {l : List Nat} : ((lotV l).length : Int) = (l.length : Int) := by rw [lotV_len]
theorem len0_mv {W : Web} {v : Nat} : decide (((W.s1 v).length : Int) = 0) = !W.mv v := by
  unfold Web.mv
  cases W.s1 v with
  | nil => rfl
  | cons a r =>
    have : ¬ (((a :: r).length : Int) = 0) := by rw [List.length_cons]; omega
    rw [decide_eq_false this]
    rfl
theorem lenp_mv {W : Web} {v : Nat} : decide (0 < ((W.s1 v).length : Int)) = W.mv v := by
  unfold Web.mv
  cases W.s1 v with
  | nil => rfl
  | cons a r =>
    have : 0 < (((a :: r).length : Int)) := by rw [List.length_cons]; omega
    rw [decide_eq_true this]
    rfl
theorem d_lprice (T : Hd K mg) : Dn P w K mg base 2 "_law_price" [] (spLPrice K) := by
  refine fn_dn (F__law_price T) sc__law_price (fun vs H Q E h => ?_) B__law_price fun f cdv A outer s H vs Q E hr h => ?_
  · obtain ⟨_, _, _, _, _, _, rfl, _⟩ := h
    rfl
  · obtain ⟨q, a, W, X, v, kk, rfl, ok, hW, hX, hv, k⟩ := h
    obtain ⟨qf, qs, qm, qd, hL, ⟨as, ha, hl⟩, _, hM, _⟩ := id hW
    refine w_when (t_eqI (v_lenN (m := (W.s1 v).length) T.fre (v_ix (n := v) (v_ix (n := 0) (vn 0) v_int (.inl hL) rfl) (vn 3) ha (refV_at hv)) (hl v hv) lotV_len) v_int) (fun hc H1 x1 => ?_) (fun hc H1 x1 => ?_)
    · have hm : W.mv v = false := by
        rw [len0_mv] at hc
        cases q : W.mv v <;> simp_all
      refine w_ret (v_add (vn 1) v_int) fun H2 x2 => ?_
      have z : prK W (kk + 1) X v = kk + 1 := if_neg (by rw [hm]; simp)
      rw [← z]
      exact k H2 (x1.trans x2)
    · have hm : W.mv v = true := by
        rw [len0_mv] at hc
        cases q : W.mv v <;> simp_all
      have z : prK W (kk + 1) X v = half (W.mark v) (lo (W.s1 v) X) (hi (W.s2 v) X) := if_pos hm
      rw [z] at k
      refine w_ret (v_call (d_lhalf T) (hr.mono (by decide)) (a_cons (v_ix (n := v) (v_ix (n := 2) (vn 0) v_int (.inl (ex_l x1 hL)) rfl) (vn 3) (hM.ex x1) (rowV_at hv))
        (a_cons (v_call (d_llow T) hr (a_cons (vn 0) (a_cons (vn 2) (a_cons (vn 3) a_nil))) (fun H2 x2 Q2 k2 E2 => ⟨q, a, W, X, v, rfl, ok, (hW.ex x1).ex x2, (hX.ex x1).ex x2, hv, hm, k2⟩))
        (a_cons (v_call (d_lhigh T) hr (a_cons (vn 0) (a_cons (vn 2) (a_cons (vn 3) a_nil))) (fun H2 x2 Q2 k2 E2 => ⟨q, a, W, X, v, rfl, ok, (hW.ex x1).ex x2, (hX.ex x1).ex x2, hv, hm, k2⟩)) a_nil)))
        (fun H2 x2 Q2 k2 E2 => ⟨_, _, _, rfl, k2⟩)) fun H2 x2 => k H2 (x1.trans x2)
end
end PwD
end
/-! ### PwE -/
section
set_option linter.all false
set_option maxRecDepth 100000
set_option maxHeartbeats 4000000
/-! == of data -/
namespace PwD
open PySem PySem.Spec PyProof.Rows L2 Evl Pw Wk PwH
section
variable {K : PySem.W.Frag} {H H' : Hp}
mutual
theorem Dp.ex (e : Ex H H') : ∀ {d : PyData} {v : V}, Dp K H v d → Dp K H' v d
  | _, _, .non => .non
  | _, _, .bl b => .bl b
  | _, _, .int i => .int i
  | _, _, .str x => .str x
  | _, _, .lst h a => .lst (ex_l e h) (DpAll.ex e a)
  | _, _, .tup h a => .tup (ex_t e h) (DpAll.ex e a)
theorem DpAll.ex (e : Ex H H') : ∀ {ds : List PyData} {vs : List V}, DpAll K H vs ds → DpAll K H' vs ds
  | _, _, .nil => .nil
  | _, _, .cons h t => .cons (Dp.ex e h) (DpAll.ex e t)
end
theorem dp_ints : ∀ (l : List Int), DpAll K H (l.map V.int) (l.map PyData.int)
  | [] => .nil
  | i :: r => .cons (.int i) (dp_ints r)
theorem eqv_ints : ∀ (l m : List Int), PyData.eqvAll (l.map PyData.int) (m.map PyData.int) = decide (l = m)
  | [], [] => by simp [PyData.eqvAll]
  | [], _ :: _ => by simp [PyData.eqvAll]
  | _ :: _, [] => by simp [PyData.eqvAll]
  | i :: l, j :: m => by
    rw [List.map_cons, List.map_cons, PyData.eqvAll, eqv_ints l m, PyData.eqv]
    by_cases h : i = j
    · subst h
      by_cases h2 : l = m
      · subst h2; simp
      · simp [h2]
    · simp [h]
theorem lay_ints : ∀ (l : List Int), PyData.canLayAll0 (l.map PyData.int) = true
  | [] => by simp [PyData.canLayAll0]
  | i :: l => by rw [List.map_cons, PyData.canLayAll0, lay_ints l]; simp [PyData.canLay0]
theorem dep_ints : ∀ (l : List Int), PyData.depthAll (l.map PyData.int) = 0
  | [] => by simp [PyData.depthAll]
  | i :: l => by rw [List.map_cons, PyData.depthAll, dep_ints l]; simp [PyData.depth]
theorem shp_lst (l : List Int) : SeqAt.shaped (.list (l.map PyData.int)) = true := by
  unfold SeqAt.shaped
  rw [PyData.canLay0, lay_ints, PyData.depth, dep_ints]
  rfl
theorem shp_tup (l : List Int) : SeqAt.shaped (.tuple (l.map PyData.int)) = true := by
  unfold SeqAt.shaped
  rw [PyData.canLay0, lay_ints, PyData.depth, dep_ints]
  rfl
theorem dpL {q : Addr} {l : List Int} (h : SqL K H q (l.map V.int)) : Dp K H (.ref q) (.list (l.map PyData.int)) := .lst h (dp_ints l)
theorem dpT {q : Addr} {l : List Int} (h : SqT K H q (l.map V.int)) : Dp K H (.ref q) (.tuple (l.map PyData.int)) := .tup h (dp_ints l)
end
section
variable {X : Cx} {a b : Expr} {σ : L2.St} {H : Hp} {x y : V} {d e : PyData} {pos : Pos} {q r : Addr} {l m : List Int} {k : Bool}
theorem rv_eqD (h1 : Dp X.K H x d) (h2 : Dp X.K H y e) (s1 : SeqAt.shaped d = true) (s2 : SeqAt.shaped e = true) : RV (rEqD X.K) x y H (.bl (PyData.eqv d e)) := fun H1 e1 Q k => ⟨d, e, Dp.ex e1 h1, Dp.ex e1 h2, s1, s2, k H1 (Ex.refl H1)⟩
theorem rv_neD (h1 : Dp X.K H x d) (h2 : Dp X.K H y e) (s1 : SeqAt.shaped d = true) (s2 : SeqAt.shaped e = true) : RV (rNeD X.K) x y H (.bl (!PyData.eqv d e)) := fun H1 e1 Q k => ⟨d, e, Dp.ex e1 h1, Dp.ex e1 h2, s1, s2, k H1 (Ex.refl H1)⟩
theorem v_eqD {n : Nat} (hr : Room n X.A) (ha : VE X a σ H x) (hb : VE X b σ H y) (h1 : Dp X.K H x d) (h2 : Dp X.K H y e) (s1 : SeqAt.shaped d = true) (s2 : SeqAt.shaped e = true) : VE X (.Compare a [.Eq] [b] pos) σ H (.bl (PyData.eqv d e)) :=
  lift (pe_cmpR (op_eqD hr.units) peW peW (nomark _)) (ev_op ha hb (rv_eqD h1 h2 s1 s2))
theorem t_eqD {n : Nat} (hr : Room n X.A) (ha : VE X a σ H x) (hb : VE X b σ H y) (h1 : Dp X.K H x d) (h2 : Dp X.K H y e) (s1 : SeqAt.shaped d = true) (s2 : SeqAt.shaped e = true) : VT X (.Compare a [.Eq] [b] pos) σ H (PyData.eqv d e) :=
  liftT (pt_cmpR (op_eqD hr.units) peW peW (nomark _)) (et_test (ev_op ha hb (rv_eqD h1 h2 s1 s2)))
theorem v_neD {n : Nat} (hr : Room n X.A) (ha : VE X a σ H x) (hb : VE X b σ H y) (h1 : Dp X.K H x d) (h2 : Dp X.K H y e) (s1 : SeqAt.shaped d = true) (s2 : SeqAt.shaped e = true) : VE X (.Compare a [.NotEq] [b] pos) σ H (.bl (!PyData.eqv d e)) :=
  lift (pe_cmpR (op_neD hr.units) peW peW (nomark _)) (ev_op ha hb (rv_neD h1 h2 s1 s2))
theorem t_neD {n : Nat} (hr : Room n X.A) (ha : VE X a σ H x) (hb : VE X b σ H y) (h1 : Dp X.K H x d) (h2 : Dp X.K H y e) (s1 : SeqAt.shaped d = true) (s2 : SeqAt.shaped e = true) : VT X (.Compare a [.NotEq] [b] pos) σ H (!PyData.eqv d e) :=
  liftT (pt_cmpR (op_neD hr.units) peW peW (nomark _)) (et_test (ev_op ha hb (rv_neD h1 h2 s1 s2)))
/-- lists of ints -/
theorem t_eqLL {n : Nat} (hr : Room n X.A) (ha : VE X a σ H (.ref q)) (hb : VE X b σ H (.ref r)) (h1 : SqL X.K H q (l.map V.int)) (h2 : SqL X.K H r (m.map V.int)) : VT X (.Compare a [.Eq] [b] pos) σ H (decide (l = m)) := by
  have z := t_eqD (pos := pos) hr ha hb (dpL h1) (dpL h2) (shp_lst l) (shp_lst m)
  rw [PyData.eqv, eqv_ints] at z
  exact z
theorem t_neLL {n : Nat} (hr : Room n X.A) (ha : VE X a σ H (.ref q)) (hb : VE X b σ H (.ref r)) (h1 : SqL X.K H q (l.map V.int)) (h2 : SqL X.K H r (m.map V.int)) : VT X (.Compare a [.NotEq] [b] pos) σ H (!decide (l = m)) := by
  have z := t_neD (pos := pos) hr ha hb (dpL h1) (dpL h2) (shp_lst l) (shp_lst m)
  rw [PyData.eqv, eqv_ints] at z
  exact z
theorem v_eqTT {n : Nat} (hr : Room n X.A) (ha : VE X a σ H (.ref q)) (hb : VE X b σ H (.ref r)) (h1 : SqT X.K H q (l.map V.int)) (h2 : SqT X.K H r (m.map V.int)) : VE X (.Compare a [.Eq] [b] pos) σ H (.bl (decide (l = m))) := by
  have z := v_eqD (pos := pos) hr ha hb (dpT h1) (dpT h2) (shp_tup l) (shp_tup m)
  rw [PyData.eqv, eqv_ints] at z
  exact z
theorem t_neTT {n : Nat} (hr : Room n X.A) (ha : VE X a σ H (.ref q)) (hb : VE X b σ H (.ref r)) (h1 : SqT X.K H q (l.map V.int)) (h2 : SqT X.K H r (m.map V.int)) : VT X (.Compare a [.NotEq] [b] pos) σ H (!decide (l = m)) := by
  have z := t_neD (pos := pos) hr ha hb (dpT h1) (dpT h2) (shp_tup l) (shp_tup m)
  rw [PyData.eqv, eqv_ints] at z
  exact z
end
theorem int_inj : ∀ {l m : List Int}, l.map V.int = m.map V.int → l = m
  | [], [], _ => rfl
  | [], _ :: _, h => by simp at h
  | _ :: _, [], h => by simp at h
  | i :: l, j :: m, h => by
    rw [List.map_cons, List.map_cons, List.cons.injEq] at h
    rw [V.int.inj h.1, int_inj h.2]
/-- rows alike -/
theorem rows_iff {n : Nat} {X Y : Nat → Int} : (List.range n).map X = (List.range n).map Y ↔ ∀ v, v < n → X v = Y v := by
  constructor
  · intro h
    refine rowV_inj ?_
    rw [rowV_ints, rowV_ints, h]
  · intro h
    exact List.map_congr_left fun v hv => h v (List.mem_range.mp hv)
end PwD
end
/-! ### PwR -/
section
set_option linter.all false
set_option maxRecDepth 100000
set_option maxHeartbeats 8000000
/-! the walks: the law's round and its row for ever -/
namespace PwD
open PySem PySem.Spec PyProof.Rows L2 Evl Pw Wk PwH
/-- free: a stand with steps that is no call -/
def fr (W : Web) (cl : Nat → Bool) (v : Nat) : Bool := W.mv v && !cl v
/-- the round's start, from the law's own side -/
def st0 (W : Web) (cl : Nat → Bool) (K : Int) (Z : Nat → Int) (v : Nat) : Int := if W.mv v = true then (if cl v = true then W.pr Z v else K) else (W.due v).num K
def stepR (W : Web) (cl : Nat → Bool) (Y : Nat → Int) (v : Nat) : Int := if fr W cl v = true then W.pr Y v else Y v
theorem fr_iff {W : Web} {cl : Nat → Bool} {v : Nat} : fr W cl v = true ↔ (W.mv v = true ∧ cl v = false) := by
  unfold fr
  cases W.mv v <;> cases cl v <;> simp
section
variable {P : Program} {w : World} {K : PySem.W.Frag} {mg : Str → Option Value} {base : Heap}
def spLRound (K : PySem.W.Frag) : Sp := fun vs H Q _ => ∃ (q c a : Addr) (W : Web) (cl : Nat → Bool) (Z : Nat → Int) (k : Nat), vs = [.ref q, .int (k : Int), .ref c, .ref a] ∧ W.Ok ∧ k ≤ 60 ∧ LWeb K H q W ∧ Fil K H c W.n cl ∧ Row K H a W.n Z ∧
  (∀ v, v < W.n → 0 ≤ Z v ∧ Z v ≤ (k : Int) + 1) ∧ RetL (rowV W.n (rnd W cl ((k : Int) + 1) Z)) H Q
theorem d_lround (T : Hd K mg) : Dn P w K mg base 3 "_law_round" [] (spLRound K) := by
  refine fn_dn (F__law_round T) sc__law_round (fun vs H Q E h => ?_) B__law_round fun f cdv A outer s H vs Q E hr h => ?_
  · obtain ⟨_, _, _, _, _, _, _, rfl, _⟩ := h
    rfl
  · obtain ⟨q, c, a, W, cl, Z, k, rfl, ok, hk60, hW, hC, hZ, hZr, kq⟩ := h
    have hn5 := ok.n5
    have hK : (0 : Int) ≤ (k : Int) + 1 := by omega
    have hr1 : Room 1 _ := hr.mono (by decide)
    -- after = [k + 1 for part in row]
    have e0 : (rowV W.n Z).map (fun _ => V.int ((k : Int) + 1)) = rowV W.n (fun _ => (k : Int) + 1) := by
      unfold rowV
      rw [List.map_map]
      rfl
    refine w_setC (xs := rowV W.n fun _ => (k : Int) + 1) (lv sc__law_round.nd 4) rfl (by
      rw [← e0]
      exact c_mapS (n := 8) sc__law_round.nd (bk sc__law_round (by decide +kernel)) (vn 3) hZ (by rw [rowV_len]; omega) _ (fun y hy s0 H0 C cl fp => v_add (vn 1) v_int)) (sw_true rfl rfl rfl (by decide +kernel)) fun p H1 hp x1 h1 => ?_
    -- for stand in range(len(row))
    refine w_forR T.fre (lv sc__law_round.nd 5) (j := (W.n : Int)) (v_lenN T.fre (vn 3) (hZ.ex x1) rowV_len) (by omega)
      (fun i σ' H' => ∃ y5, σ' = [some (.ref q), some (.int (k : Int)), some (.ref c), some (.ref a), some (.ref p), y5, none, none, none] ∧ Ex H H' ∧ H' p = some (.lst (rowV W.n fun v => if v < i then st0 W cl ((k : Int) + 1) Z v else (k : Int) + 1)))
      (fun H2 x2 => ⟨none, rfl, x1.trans x2, by rw [x2 _ _ h1]; exact congrArg (fun z => some (HO.lst z)) (rowV_congr fun v hv => by rw [if_neg (by omega)])⟩) ?_ ?_
    · rintro i σ' H' hi ⟨y5, rfl, xx, hA⟩
      have hi' : i < W.n := by omega
      obtain ⟨qf, qs, qm, qd, hL, ⟨as, ha, hl⟩, _, _, ⟨us, hu, hd⟩⟩ := id (hW.ex xx)
      have fin : ∀ (y : Int) (H3 : Hp), y = st0 W cl ((k : Int) + 1) Z i → Ex H' H3 → ∃ y5, ([some (.ref q), some (.int (k : Int)), some (.ref c), some (.ref a), some (.ref p), some (.int (i : Int)), none, none, none] : L2.St) = [some (.ref q), some (.int (k : Int)), some (.ref c), some (.ref a), some (.ref p), y5, none, none, none] ∧ Ex H (upd H3 p (.lst ((rowV W.n fun v => if v < i then st0 W cl ((k : Int) + 1) Z v else (k : Int) + 1).set i (.int y)))) ∧
          (upd H3 p (.lst ((rowV W.n fun v => if v < i then st0 W cl ((k : Int) + 1) Z v else (k : Int) + 1).set i (.int y)))) p = some (.lst (rowV W.n fun v => if v < i + 1 then st0 W cl ((k : Int) + 1) Z v else (k : Int) + 1)) := fun y H3 hy x3 => by
        refine ⟨_, rfl, Ex.mut (xx.trans x3) hp, ?_⟩
        rw [upd_same, rowV_set]
        refine congrArg (fun z => some (HO.lst z)) (rowV_congr fun v hv => ?_)
        by_cases e : v = i
        · subst e; rw [if_pos rfl, if_pos (by omega)]; exact hy
        · rw [if_neg e]
          by_cases e2 : v < i
          · rw [if_pos e2, if_pos (by omega)]
          · rw [if_neg e2, if_neg (by omega)]
      refine w_if (t_eqI (v_lenN (m := (W.s1 i).length) T.fre (v_ix (n := i) (v_ix (n := 0) (vn 0) v_int (.inl hL) rfl) (vn 5) ha (refV_at hi')) (hl i hi') lotV_len) v_int) (fun hc H2 x2 => ?_) (fun hc H2 x2 => ?_)
      · have hm : W.mv i = false := by
          rw [len0_mv] at hc
          cases z : W.mv i <;> simp_all
        refine w_setix (n := i) (x2 _ _ hA) (v_call (d_ldue T) hr1 (a_cons (v_ix (n := i) (v_ix (n := 3) (vn 0) v_int (.inl (ex_l x2 hL)) rfl) (vn 5) (hu.ex x2) (map_at hi')) (a_cons (vn 1) a_nil)) (fun H3 x3 Q3 k3 E3 => ⟨us i, W.due i, (k : Int), rfl, ((hd i hi').ex x2).ex x3, k3⟩)) (vn 4) (vn 5) (by rw [rowV_len]; exact hi') fun H3 x3 => ?_
        exact w_nil (w_nil (fin _ H3 (by unfold st0; rw [if_neg (by rw [hm]; simp)]) (x2.trans x3)))
      · have hm : W.mv i = true := by
          rw [len0_mv] at hc
          cases z : W.mv i <;> simp_all
        refine w_if (t_inS (vn 5) (vn 2) (hC.ex (xx.trans x2)) rfl lot_flat) (fun hc2 H3 x3 => ?_) (fun hc2 H3 x3 => ?_)
        · have hc3 : cl i = true := by rw [← in_fil (c := cl) hi']; exact hc2
          refine w_setix (n := i) (x3 _ _ (x2 _ _ hA)) (v_call (d_lprice T) (hr.mono (by decide)) (a_cons (vn 0) (a_cons (vn 1) (a_cons (vn 3) (a_cons (vn 5) a_nil)))) (fun H4 x4 Q4 k4 E4 => ⟨q, a, W, Z, i, (k : Int), rfl, ok, hW.ex (((xx.trans x2).trans x3).trans x4), hZ.ex (((xx.trans x2).trans x3).trans x4), hi', k4⟩)) (vn 4) (vn 5) (by rw [rowV_len]; exact hi') fun H4 x4 => ?_
          exact w_nil (w_nil (w_nil (fin _ H4 (by unfold st0 prK; rw [if_pos hm, if_pos hm, if_pos hc3]) ((x2.trans x3).trans x4))))
        · have hc3 : cl i = false := by rw [← in_fil (c := cl) hi']; exact hc2
          refine w_nil (w_nil (w_nil ⟨_, rfl, (xx.trans x2).trans x3, ?_⟩))
          rw [x3 _ _ (x2 _ _ hA)]
          refine congrArg (fun z => some (HO.lst z)) (rowV_congr fun v hv => ?_)
          by_cases e : v = i
          · subst e
            rw [if_neg (by omega), if_pos (by omega)]
            unfold st0
            rw [if_pos hm, if_neg (by rw [hc3]; simp)]
          · by_cases e2 : v < i
            · rw [if_pos e2, if_pos (by omega)]
            · rw [if_neg e2, if_neg (by omega)]
    · rintro σ' H' ⟨y5, rfl, xx, hA⟩
      -- for turn in range(len(row) * (k + 1) + 1)
      have eN : ((W.n : Int)).toNat = W.n := by omega
      rw [eN] at hA
      have hA' : H' p = some (.lst (rowV W.n (st0 W cl ((k : Int) + 1) Z))) := by
        rw [hA]
        exact congrArg (fun z => some (HO.lst z)) (rowV_congr fun v hv => if_pos hv)
      have hZ0 : ∀ v, v < W.n → 0 ≤ Z v := fun v hv => (hZr v hv).1
      have hZK : ∀ v, v < W.n → Z v ≤ (k : Int) + 1 := fun v hv => (hZr v hv).2
      have stE : ∀ v, v < W.n → W.mv v = false → st0 W cl ((k : Int) + 1) Z v = (W.due v).num ((k : Int) + 1) := fun v _ hm => by unfold st0; rw [if_neg (by rw [hm]; simp)]
      have stC : ∀ v, v < W.n → W.mv v = true → cl v = true → st0 W cl ((k : Int) + 1) Z v = W.pr Z v := fun v _ hm hc => by unfold st0; rw [if_pos hm, if_pos hc]
      have stF : ∀ v, v < W.n → W.mv v = true → cl v = false → st0 W cl ((k : Int) + 1) Z v = (k : Int) + 1 := fun v _ hm hc => by unfold st0; rw [if_pos hm, if_neg (by rw [hc]; simp)]
      have I0 : RInv W cl ((k : Int) + 1) (fun _ => (k : Int) + 1) Z (st0 W cl ((k : Int) + 1) Z) := RInv.start ok hK hZ0 (fun _ _ => hK) stE stC stF
      have le0 : ∀ v, v < W.n → st0 W cl ((k : Int) + 1) Z v ≤ (k : Int) + 1 := fun v hv => by
        cases hm : W.mv v with
        | false => rw [stE v hv hm]; exact num_le (ok.dn v hv) hK
        | true =>
          cases hc : cl v with
          | true => rw [stC v hv hm hc]; exact pr_le ok hv hm hZK
          | false => rw [stF v hv hm hc]; exact Int.le_refl _
      have hnk : (W.n : Int) * ((k : Int) + 1) ≤ 5 * 61 := Int.mul_le_mul (by omega) (by omega) hK (by omega)
      have hnk0 : 0 ≤ (W.n : Int) * ((k : Int) + 1) := Int.mul_nonneg (by omega) hK
      refine w_forR T.fre (lv sc__law_round.nd 6) (j := (W.n : Int) * ((k : Int) + 1) + 1) (v_add (v_mul (v_lenN T.fre (vn 3) (hZ.ex xx) rowV_len) (v_add (vn 1) v_int) (by omega)) v_int) (by omega)
        (fun i σ' H' => ∃ y5 y6 y7 p1 Y, σ' = [some (.ref q), some (.int (k : Int)), some (.ref c), some (.ref a), some (.ref p1), y5, y6, y7, none] ∧ Ex H H' ∧ H p1 = none ∧ H' p1 = some (.lst (rowV W.n Y)) ∧ RInv W cl ((k : Int) + 1) (fun _ => (k : Int) + 1) Z Y ∧
          (∀ v, v < W.n → W.mv v = true → cl v = false → W.pr Y v ≤ Y v) ∧ sumN W.n Y + i ≤ (W.n : Int) * ((k : Int) + 1))
        (fun H2 x2 => ⟨_, _, _, p, _, rfl, xx.trans x2, hp, x2 _ _ hA', I0, fun v hv hm hc => by rw [stF v hv hm hc]; exact pr_le ok hv hm le0, by have := sumN_top le0; omega⟩) ?_ ?_
      · rintro i σ' H1 hi ⟨y5, y6, y7, p1, Y, rfl, x1, hp1, hY, I, dn, hs⟩
        -- again = list(after)
        refine w_setL (lv sc__law_round.nd 7) (v_list T.fre (vn 4) (.ls hY)) fun p2 H2 hp2 x2 h2 => ?_
        have ne : p1 ≠ p2 := ne_of_none hY hp2
        have hp2' : H p2 = none := fresh_back x1 hp2
        refine w_forR T.fre (lv sc__law_round.nd 5) (j := (W.n : Int)) (v_lenN T.fre (vn 3) (hZ.ex (x1.trans x2)) rowV_len) (by omega)
          (fun j σ' H' => ∃ y5, σ' = [some (.ref q), some (.int (k : Int)), some (.ref c), some (.ref a), some (.ref p1), y5, some (.int (i : Int)), some (.ref p2), none] ∧ Ex H H' ∧ H' p1 = some (.lst (rowV W.n Y)) ∧ H' p2 = some (.lst (rowV W.n fun v => if v < j then stepR W cl Y v else Y v)))
          (fun H3 x3 => ⟨_, rfl, (x1.trans x2).trans x3, x3 _ _ (x2 _ _ hY), by rw [x3 _ _ h2]; exact congrArg (fun z => some (HO.lst z)) (rowV_congr fun v hv => by rw [if_neg (by omega)])⟩) ?_ ?_
        · rintro j σ' H3 hj ⟨z5, rfl, x3, a1, a2⟩
          have hj' : j < W.n := by omega
          obtain ⟨qf, qs, qm, qd, hL, ⟨as, ha, hl⟩, _, _, _⟩ := id (hW.ex x3)
          refine w_when (t_bool (p_and (t_gt (v_lenN (m := (W.s1 j).length) T.fre (v_ix (n := j) (v_ix (n := 0) (vn 0) v_int (.inl hL) rfl) (vn 5) ha (refV_at hj')) (hl j hj') lotV_len) v_int) fun _ => p_and1 (t_niS (vn 5) (vn 2) (hC.ex x3) rfl lot_flat))) (fun hc H4 x4 => ?_) (fun hc H4 x4 => ?_)
          · have hf : fr W cl j = true := by
              rw [lenp_mv, in_fil (c := cl) hj'] at hc
              exact hc
            obtain ⟨hm, hc3⟩ := fr_iff.mp hf
            refine w_setix (n := j) (x4 _ _ a2) (v_call (d_lprice T) (hr.mono (by decide)) (a_cons (vn 0) (a_cons (vn 1) (a_cons (vn 4) (a_cons (vn 5) a_nil)))) (fun H5 x5 Q5 k5 E5 => ⟨q, p1, W, Y, j, (k : Int), rfl, ok, hW.ex ((x3.trans x4).trans x5), .ls (x5 _ _ (x4 _ _ a1)), hj', k5⟩)) (vn 7) (vn 5) (by rw [rowV_len]; exact hj') fun H5 x5 => ?_
            refine w_nil (w_nil ⟨_, rfl, Ex.mut ((x3.trans x4).trans x5) hp2', by rw [upd_ne ne]; exact x5 _ _ (x4 _ _ a1), ?_⟩)
            rw [upd_same, rowV_set]
            refine congrArg (fun z => some (HO.lst z)) (rowV_congr fun v hv => ?_)
            by_cases e : v = j
            · subst e
              rw [if_pos rfl, if_pos (by omega)]
              unfold prK stepR
              rw [if_pos hm, if_pos hf]
            · rw [if_neg e]
              by_cases e2 : v < j
              · rw [if_pos e2, if_pos (by omega)]
              · rw [if_neg e2, if_neg (by omega)]
          · have hf : fr W cl j = false := by
              rw [lenp_mv, in_fil (c := cl) hj'] at hc
              exact hc
            refine w_nil ⟨_, rfl, x3.trans x4, x4 _ _ a1, ?_⟩
            rw [x4 _ _ a2]
            refine congrArg (fun z => some (HO.lst z)) (rowV_congr fun v hv => ?_)
            by_cases e : v = j
            · subst e
              rw [if_neg (by omega), if_pos (by omega)]
              unfold stepR
              rw [if_neg (by rw [hf]; simp)]
            · by_cases e2 : v < j
              · rw [if_pos e2, if_pos (by omega)]
              · rw [if_neg e2, if_neg (by omega)]
        · rintro σ' H3 ⟨z5, rfl, x3, a1, a2⟩
          rw [eN] at a2
          have a2' : H3 p2 = some (.lst (rowV W.n (stepR W cl Y))) := by
            rw [a2]
            exact congrArg (fun z => some (HO.lst z)) (rowV_congr fun v hv => if_pos hv)
          rw [rowV_ints] at a1 a2'
          refine w_when (t_eqLL hr (vn 7) (vn 4) (sq_of a2') (sq_of a1)) (fun hc H4 x4 => ?_) (fun hc H4 x4 => ?_)
          · -- return after
            have heq := rows_iff.mp (of_decide_eq_true hc)
            refine w_ret (vn 4) fun H5 x5 => ?_
            have R : IsRnd W cl ((k : Int) + 1) (fun _ => (k : Int) + 1) Z Y := I.stop fun v hv hm hcc => by
              have := heq v hv
              unfold stepR at this
              rw [if_pos (fr_iff.mpr ⟨hm, hcc⟩)] at this
              omega
            have ee : rowV W.n Y = rowV W.n (rnd W cl ((k : Int) + 1) Z) := rowV_congr (R.uniq (rnd_is ok hK hZ0))
            refine kq p1 H5 hp1 ((x3.trans x4).trans x5) ?_
            rw [x5 _ _ (x4 _ _ a1), ← rowV_ints, ee]
          · -- after = again
            have hne := fun h => (of_decide_eq_false hc) (rows_iff.mpr h)
            have stle : ∀ v, v < W.n → stepR W cl Y v ≤ Y v := fun v hv => by
              unfold stepR
              cases e : fr W cl v with
              | true =>
                obtain ⟨hm, hcc⟩ := fr_iff.mp e
                rw [if_pos rfl]; exact dn v hv hm hcc
              | false => rw [if_neg (by simp)]; exact Int.le_refl _
            have I' : RInv W cl ((k : Int) + 1) (fun _ => (k : Int) + 1) Z (stepR W cl Y) := I.step ok (fun v hv hm => by
              unfold stepR
              rw [if_neg (fun z => by
                obtain ⟨z1, z2⟩ := fr_iff.mp z
                rw [hm z1] at z2; cases z2)]) (fun v hv hm hcc => by
              have := dn v hv hm hcc
              unfold stepR
              rw [if_pos (fr_iff.mpr ⟨hm, hcc⟩)]
              omega)
            have hlt := sumN_lt (n := W.n) stle (Classical.byContradiction fun q => hne fun v hv => Classical.byContradiction fun q2 => q ⟨v, hv, q2⟩)
            refine w_set (lv sc__law_round.nd 4) (vn 7) fun H5 x5 => ?_
            refine w_nil ⟨_, _, _, p2, _, rfl, (x3.trans x4).trans x5, hp2', by rw [x5 _ _ (x4 _ _ a2'), ← rowV_ints], I', fun v hv hm hcc => ?_, by omega⟩
            have e1 : stepR W cl Y v = W.pr Y v := by unfold stepR; rw [if_pos (fr_iff.mpr ⟨hm, hcc⟩)]
            rw [e1]
            exact pr_mono ok hv stle
      · rintro σ' H1 ⟨y5, y6, y7, p1, Y, rfl, x1, hp1, hY, I, dn, hs⟩
        exfalso
        have := sumN_nn I.nn
        omega
end
end PwD
end
/-! ### PwS -/
section
set_option linter.all false
set_option maxRecDepth 100000
set_option maxHeartbeats 8000000
/-! the walks: the law's row for ever; the program's round -/
namespace PwD
open PySem PySem.Spec PyProof.Rows L2 Evl Pw Wk PwH
section
variable {X : Cx} {a b : Expr} {σ : L2.St} {H : Hp} {pos p p2 p3 : Pos} {q r : Addr} {xs ys : List V}
theorem v_listU (fr : Fre X.mg) (ha : VU X a σ H xs) (hg : Gl X "list" := by rfl) (hs : starEach [a] X.env = (false, eval a X.env) :: starEach [] X.env := by rfl) (hpl : (backTo pos (starEach [] X.env)).any (·.1) = false := by rfl) :
    VL X (.Call (.Name "list" p) [a] [] pos) σ H xs := fun H1 e1 Q g =>
  ofE (pe_callTy call_list_of hg fr.list_ PyProof.Rows.boot_list (pa_cons peW pa_nil hs) (by decide) (by decide) hs hpl) (ha H1 e1 _ fun q H2 hq e2 h2 => ⟨q, xs, rfl, .inr (st_of h2), fun l hl => g l _ (fresh_back e2 hl) (e2.trans (Ex.new hl)) upd_same⟩)
theorem v_cat (ha : VE X a σ H (.ref q)) (hb : VE X b σ H (.ref r)) (h1 : H q = some (.lst xs)) (h2 : H r = some (.lst ys)) (hz : xs.length + ys.length ≤ 100000) : VL X (.BinOp a .Add b pos) σ H (xs ++ ys) := fun H1 e1 Q g =>
  ofE (pe_op op_cat peW peW) (ha H1 e1 _ fun H2 e2 => hb H2 (e1.trans e2) _ fun H3 e3 => ⟨q, r, xs, ys, rfl, rfl, e3 _ _ (e2 _ _ (e1 _ _ h1)), e3 _ _ (e2 _ _ (e1 _ _ h2)), sz_of hz, fun l hl => g l _ (fresh_back (e2.trans e3) hl) ((e2.trans e3).trans (Ex.new hl)) upd_same⟩)
end
section
variable {P : Program} {w : World} {K : PySem.W.Frag} {mg : Str → Option Value} {base : Heap}
def spLFor (K : PySem.W.Frag) : Sp := fun vs H Q _ => ∃ (q c : Addr) (W : Web) (cl : Nat → Bool) (k : Nat), vs = [.ref q, .int (k : Int), .ref c] ∧ W.Ok ∧ k ≤ 60 ∧ LWeb K H q W ∧ Fil K H c W.n cl ∧
  ∀ (Z : Nat → Int) (p : Addr) (H2 : Hp), IsFev W cl ((k : Int) + 1) Z → H p = none → Ex H H2 → H2 p = some (.lst (rowV W.n Z)) → Q (.ref p) H2
theorem d_lforever (T : Hd K mg) : Dn P w K mg base 4 "_law_forever" [] (spLFor K) := by
  refine fn_dn (F__law_forever T) sc__law_forever (fun vs H Q E h => ?_) B__law_forever fun f cdv A outer s H vs Q E hr h => ?_
  · obtain ⟨_, _, _, _, _, rfl, _⟩ := h
    rfl
  · obtain ⟨q, c, W, cl, k, rfl, ok, hk60, hW, hC, kq⟩ := h
    have hn5 := ok.n5
    have hK : (0 : Int) ≤ (k : Int) + 1 := by omega
    obtain ⟨qf, qs, qm, qd, hL, _, _, _, ⟨us, hu, hd⟩⟩ := id hW
    have e0 : ((List.range W.n).map us).map (fun _ => V.int 0) = rowV W.n (fun _ => 0) := by
      unfold rowV
      rw [List.map_map]
      rfl
    refine w_setC (xs := rowV W.n fun _ => 0) (lv sc__law_forever.nd 3) rfl (by
      rw [← e0]
      exact c_mapS (n := 6) sc__law_forever.nd (bk sc__law_forever (by decide +kernel)) (v_ix (n := 3) (vn 0) v_int (.inl hL) rfl) hu (by rw [List.length_map, List.length_range]; omega) _ (fun y hy s0 H0 C cl fp => v_int)) (sw_true rfl rfl rfl (by decide +kernel)) fun p H1 hp x1 h1 => ?_
    have hnk : (W.n : Int) * ((k : Int) + 1) ≤ 5 * 61 := Int.mul_le_mul (by omega) (by omega) hK (by omega)
    have hnk0 : 0 ≤ (W.n : Int) * ((k : Int) + 1) := Int.mul_nonneg (by omega) hK
    refine w_forR T.fre (lv sc__law_forever.nd 4) (j := (W.n : Int) * ((k : Int) + 1) + 1) (v_add (v_mul (v_lenN T.fre (vn 3) (.ls h1) rowV_len) (v_add (vn 1) v_int) (by omega)) v_int) (by omega)
      (fun i σ' H' => ∃ y4 y5 p1 Z, σ' = [some (.ref q), some (.int (k : Int)), some (.ref c), some (.ref p1), y4, y5, none] ∧ Ex H H' ∧ H p1 = none ∧ H' p1 = some (.lst (rowV W.n Z)) ∧ (∀ v, v < W.n → 0 ≤ Z v) ∧ (∀ v, v < W.n → Z v ≤ (k : Int) + 1) ∧
        Adm W cl ((k : Int) + 1) (fun _ => (k : Int) + 1) Z Z ∧ (∀ Y, (∀ v, v < W.n → 0 ≤ Y v) → Pre W cl ((k : Int) + 1) Y → ∀ v, v < W.n → Z v ≤ Y v) ∧ (i : Int) ≤ sumN W.n Z)
      (fun H2 x2 => ⟨_, _, p, _, rfl, x1.trans x2, hp, x2 _ _ h1, fun _ _ => Int.le_refl _, fun _ _ => hK, ⟨fun v hv _ => num_ge (ok.dn v hv) hK, fun v hv hm _ => pr_ge ok hv hm fun _ _ => Int.le_refl _, fun _ _ _ _ => hK, fun v hv hm _ => pr_ge ok hv hm fun _ _ => Int.le_refl _⟩, fun Y hY _ => hY, sumN_nn fun _ _ => Int.le_refl _⟩) ?_ ?_
    · rintro i σ' H1 hi ⟨y4, y5, p1, Z, rfl, x1, hp1, hZ, h0, hZK, ad, le, hs⟩
      refine w_setL (lv sc__law_forever.nd 5) (v_callL (d_lround T) hr (a_cons (vn 0) (a_cons (vn 1) (a_cons (vn 2) (a_cons (vn 3) a_nil)))) (fun H2 x2 Q2 k2 E2 => ⟨q, c, p1, W, cl, Z, k, rfl, ok, hk60, hW.ex (x1.trans x2), hC.ex (x1.trans x2), .ls (x2 _ _ hZ), fun v hv => ⟨h0 v hv, hZK v hv⟩, k2⟩)) fun p2 H2 hp2 x2 h2 => ?_
      have hp2' : H p2 = none := fresh_back x1 hp2
      have R := rnd_is (c := cl) ok hK h0
      have a1 := x2 _ _ hZ
      rw [rowV_ints] at a1 h2
      refine w_when (t_eqLL hr (vn 5) (vn 3) (sq_of h2) (sq_of a1)) (fun hc H4 x4 => ?_) (fun hc H4 x4 => ?_)
      · have heq := rows_iff.mp (of_decide_eq_true hc)
        have F : IsFev W cl ((k : Int) + 1) Z := IsFev.mk' ok hK h0 hZK (fun _ _ => hK) (fun _ _ => Int.le_refl _) R (fun Y' a v hv => by
          have := R.great Y' a v hv
          have := R.le ok hK hZK (fun _ _ => Int.le_refl _) v hv
          omega) (fun v hv => Int.le_of_eq (heq v hv)) le
        refine w_ret (vn 3) fun H5 x5 => kq Z p1 H5 F hp1 (((x1.trans x2).trans x4).trans x5) ?_
        rw [x5 _ _ (x4 _ _ a1), ← rowV_ints]
      · have hne := fun h => (of_decide_eq_false hc) (rows_iff.mpr h)
        have up := R.great Z ad
        have hlt := sumN_lt (n := W.n) up (Classical.byContradiction fun q => hne fun v hv => Classical.byContradiction fun q2 => q ⟨v, hv, fun z => q2 z.symm⟩)
        refine w_set (lv sc__law_forever.nd 3) (vn 5) fun H5 x5 => ?_
        refine w_nil ⟨_, _, p2, _, rfl, ((x1.trans x2).trans x4).trans x5, hp2', by rw [x5 _ _ (x4 _ _ h2), ← rowV_ints], R.nn ok hK h0 (fun _ _ => hK), R.le ok hK hZK (fun _ _ => Int.le_refl _), R.adm.congr ok up (fun _ _ => rfl), chip_least ok R.adm (fun _ _ => Int.le_refl _) le, by omega⟩
    · rintro σ' H1 ⟨y4, y5, p1, Z, rfl, x1, hp1, hZ, h0, hZK, ad, le, hs⟩
      exfalso
      have := sumN_top hZK
      omega
/-! ### the program's round -/
def stT (W : Web) (cl : Nat → Bool) (K : Int) (top Z : Nat → Int) (v : Nat) : Int := if W.mv v = true then (if cl v = true then W.pr Z v else top v) else (W.due v).num K
def spUnder (K : PySem.W.Frag) : Sp := fun vs H Q _ => ∃ (q c a b : Addr) (W : Web) (cl : Nat → Bool) (Z top : Nat → Int) (k : Nat), vs = [.ref q, .int (k : Int), .ref c, .ref a, .ref b] ∧ W.Ok ∧ WebAt K H q W ∧ Fil K H c W.n cl ∧ Row K H a W.n Z ∧ Row K H b W.n top ∧
  (∀ v, v < W.n → 0 ≤ Z v) ∧ (∀ v, v < W.n → 0 ≤ top v) ∧ ∀ (Y : Nat → Int) (u : V) (H2 : Hp), IsRnd W cl ((k : Int) + 1) top Z Y → Ex H H2 → (∃ r, u = .ref r ∧ SqT K H2 r (rowV W.n Y)) → Q u H2
theorem d_under (T : Hd K mg) : Dn P w K mg base 5 "round_under" [] (spUnder K) := by
  refine fn_dn (F_round_under T) sc_round_under (fun vs H Q E h => ?_) B_round_under fun f cdv A outer s H vs Q E hr h => ?_
  · obtain ⟨_, _, _, _, _, _, _, _, _, rfl, _⟩ := h
    rfl
  · obtain ⟨q, c, a, b, W, cl, Z, top, k, rfl, ok, hW, hC, hZ, hT, hZ0, ht0, kq⟩ := h
    have hn5 := ok.n5
    have hK : (0 : Int) ≤ (k : Int) + 1 := by omega
    have hr2 : Room 2 _ := hr.mono (by decide)
    obtain ⟨sl, qd, qf, qm, qv, qs, s1, s2, o⟩ := id hW
    -- found = list(due_row(web.dues, k)); free = []
    refine w_setL (lv sc_round_under.nd 5) (v_listU T.fre (fun H1 e1 Q1 g1 => ofE (pe_dn (d_dueRow T) hr2 passL paW) ((a_cons (v_dues T hr2 (vn 0) o) (a_cons (vn 1) a_nil)) H1 e1 _ fun H2 e2 => ⟨qd, W.n, W.due, (k : Int), rfl, by omega, o.dues.ex (e1.trans e2), fun p H3 hp x3 h3 => g1 p H3 (fresh_back e2 hp) (e2.trans x3) h3⟩))) fun p H1 hp x1 h1 => ?_
    refine w_setL (lv sc_round_under.nd 6) (v_lst a_nil (by simp)) fun p6 H2 hp6 x2 h6 => ?_
    have ne : p ≠ p6 := ne_of_none h1 hp6
    have hp6' : H p6 = none := fresh_back x1 hp6
    obtain ⟨ms, hms⟩ : ∃ ms, ms = (List.range W.n).filter W.mv := ⟨_, rfl⟩
    have mem : ∀ v, v ∈ ms ↔ v < W.n ∧ W.mv v = true := fun v => by rw [hms, List.mem_filter, List.mem_range]
    have mlen : ms.length ≤ W.n := by
      rw [hms]
      have := List.length_filter_le W.mv (List.range W.n)
      rw [List.length_range] at this
      exact this
    have hqv : Sq K H qv (lotV ms) := by
      have := o.moving
      rw [hms]
      exact this
    -- for v in web.moving
    refine w_forS (Hb := H) (lv sc_round_under.nd 7) (v_moving T hr2 (vn 0) (o.ex (x1.trans x2))) hqv
      (fun i σ' H' => ∃ y7, σ' = [some (.ref q), some (.int (k : Int)), some (.ref c), some (.ref a), some (.ref b), some (.ref p), some (.ref p6), y7, none, none, none] ∧ Ex H H' ∧
        H' p = some (.lst (rowV W.n fun v => if v ∈ ms.take i then stT W cl ((k : Int) + 1) top Z v else (W.due v).num ((k : Int) + 1))) ∧ H' p6 = some (.lst (lotV ((ms.take i).filter fun v => !cl v))))
      (fun i σ' H' ⟨_, _, z, _⟩ o hz => z _ _ hz) (fun H3 x3 => ⟨none, rfl, (x1.trans x2).trans x3, by rw [x3 _ _ (x2 _ _ h1)]; exact congrArg (fun z => some (HO.lst z)) (rowV_congr fun v hv => by rw [if_neg (by simp)]), x3 _ _ h6⟩) ?_ ?_
    · rintro i x σ' H3 hx ⟨y7, rfl, x3, a1, a2⟩
      obtain ⟨v, hv, rfl⟩ : ∃ v, ms[i]? = some v ∧ x = .int (v : Int) := by
        unfold lotV at hx
        rw [List.getElem?_map] at hx
        cases e : ms[i]? with
        | none => rw [e] at hx; cases hx
        | some v => rw [e] at hx; exact ⟨v, rfl, (Option.some.inj hx).symm⟩
      obtain ⟨hvn, hm⟩ := (mem v).mp (List.mem_of_getElem? hv)
      have tk : ms.take (i + 1) = ms.take i ++ [v] := by rw [List.take_add_one, hv]; rfl
      have row' : ∀ (y : Int), y = stT W cl ((k : Int) + 1) top Z v → ((rowV W.n fun v => if v ∈ ms.take i then stT W cl ((k : Int) + 1) top Z v else (W.due v).num ((k : Int) + 1)).set v (.int y)) = (rowV W.n fun v => if v ∈ ms.take (i + 1) then stT W cl ((k : Int) + 1) top Z v else (W.due v).num ((k : Int) + 1)) := fun y hy => by
        rw [rowV_set]
        refine rowV_congr fun u hu => ?_
        rw [tk]
        by_cases e : u = v
        · subst e
          rw [if_pos rfl, if_pos (by simp)]
          exact hy
        · rw [if_neg e]
          by_cases e2 : u ∈ ms.take i
          · rw [if_pos e2, if_pos (by simp [e2])]
          · rw [if_neg e2, if_neg (by simp [e2, e])]
      refine w_if (t_inS (vn 7) (vn 2) (hC.ex x3) rfl lot_flat) (fun hc H4 x4 => ?_) (fun hc H4 x4 => ?_)
      · have hc3 : cl v = true := by rw [← in_fil (c := cl) hvn]; exact hc
        refine w_setix (n := v) (x4 _ _ a1) (v_call (d_price T) hr (a_cons (vn 0) (a_cons (vn 1) (a_cons (vn 3) (a_cons (vn 7) a_nil)))) (fun H5 x5 Q5 k5 E5 => ⟨q, a, W, Z, v, (k : Int), rfl, ok, hW.ex ((x3.trans x4).trans x5), hZ.ex ((x3.trans x4).trans x5), hvn, k5⟩)) (vn 5) (vn 7) (by rw [rowV_len]; exact hvn) fun H5 x5 => ?_
        refine w_nil (w_nil ⟨_, rfl, Ex.mut ((x3.trans x4).trans x5) hp, ?_, ?_⟩)
        · rw [upd_same, row' _ (by unfold prK stT; rw [if_pos hm, if_pos hm, if_pos hc3])]
        · rw [upd_ne ne.symm, x5 _ _ (x4 _ _ a2), tk, List.filter_append]
          have : [v].filter (fun v => !cl v) = [] := by rw [List.filter_cons, if_neg (by rw [hc3]; simp)]; rfl
          rw [this, List.append_nil]
      · have hc3 : cl v = false := by rw [← in_fil (c := cl) hvn]; exact hc
        refine w_setix (n := v) (x4 _ _ a1) (v_ix (n := v) (vn 4) (vn 7) (hT.ex (x3.trans x4)) (rowV_at hvn)) (vn 5) (vn 7) (by rw [rowV_len]; exact hvn) fun H5 x5 => ?_
        refine w_app (q := p6) (by rw [upd_ne ne.symm]; exact x5 _ _ (x4 _ _ a2)) (vn 6) (vn 7) (by rw [lotV_len]; have := List.length_filter_le (fun v => !cl v) (ms.take i); rw [List.length_take] at this; omega) fun H6 x6 => ?_
        refine w_nil (w_nil ⟨_, rfl, Ex.mut ((Ex.mut ((x3.trans x4).trans x5) hp).trans x6) hp6', ?_, ?_⟩)
        · rw [upd_ne ne, x6 _ _ upd_same, row' _ (by unfold stT; rw [if_pos hm, if_neg (by rw [hc3]; simp)])]
        · rw [upd_same, tk, List.filter_append]
          have : [v].filter (fun v => !cl v) = [v] := by rw [List.filter_cons, if_pos (by rw [hc3]; rfl)]; rfl
          rw [this]
          unfold lotV
          rw [List.map_append]
          rfl
    · rintro σ' H3 ⟨y7, rfl, x3, a1, a2⟩
      have tl : ms.take (lotV ms).length = ms := by rw [lotV_len]; exact List.take_length
      rw [tl] at a1 a2
      obtain ⟨fs, hfs⟩ : ∃ fs, fs = ms.filter fun v => !cl v := ⟨_, rfl⟩
      rw [← hfs] at a2
      have fmem : ∀ v, v ∈ fs ↔ v < W.n ∧ W.mv v = true ∧ cl v = false := fun v => by
        rw [hfs, List.mem_filter, mem v]
        constructor
        · rintro ⟨⟨h1, h2⟩, h3⟩
          exact ⟨h1, h2, by simpa using h3⟩
        · rintro ⟨h1, h2, h3⟩
          exact ⟨⟨h1, h2⟩, by simp [h3]⟩
      have flen : fs.length ≤ W.n := by
        rw [hfs]
        have := List.length_filter_le (fun v => !cl v) ms
        omega
      have a1' : H3 p = some (.lst (rowV W.n (stT W cl ((k : Int) + 1) top Z))) := by
        rw [a1]
        refine congrArg (fun z => some (HO.lst z)) (rowV_congr fun v hv => ?_)
        by_cases e : v ∈ ms
        · rw [if_pos e]
        · rw [if_neg e]
          unfold stT
          rw [if_neg (fun z => e ((mem v).mpr ⟨hv, z⟩))]
      have stE : ∀ v, v < W.n → W.mv v = false → stT W cl ((k : Int) + 1) top Z v = (W.due v).num ((k : Int) + 1) := fun v _ hm => by unfold stT; rw [if_neg (by rw [hm]; simp)]
      have stC : ∀ v, v < W.n → W.mv v = true → cl v = true → stT W cl ((k : Int) + 1) top Z v = W.pr Z v := fun v _ hm hc => by unfold stT; rw [if_pos hm, if_pos hc]
      have stF : ∀ v, v < W.n → W.mv v = true → cl v = false → stT W cl ((k : Int) + 1) top Z v = top v := fun v _ hm hc => by unfold stT; rw [if_pos hm, if_neg (by rw [hc]; simp)]
      have I0 := RInv.start ok hK hZ0 ht0 stE stC stF
      -- while True
      refine w_while (fun m σ' H' => ∃ y7 y8 y9 y10 Y, σ' = [some (.ref q), some (.int (k : Int)), some (.ref c), some (.ref a), some (.ref b), some (.ref p), some (.ref p6), y7, y8, y9, y10] ∧ Ex H H' ∧ H' p = some (.lst (rowV W.n Y)) ∧ H' p6 = some (.lst (lotV fs)) ∧ RInv W cl ((k : Int) + 1) top Z Y ∧ sumN W.n Y ≤ m)
        (sumN W.n (stT W cl ((k : Int) + 1) top Z)).toNat ⟨_, _, _, _, _, rfl, x3, a1', a2, I0, by omega⟩ ?_
      rintro m σ' H4 ⟨y7, y8, y9, y10, Y, rfl, x4, b1, b2, I, hs⟩
      refine ⟨true, t_val v_bl, fun _ H5 x5 => ?_, fun z => by cases z⟩
      have pw : ∀ i (hi : i < fs.length), fs[i] < W.n ∧ W.mv fs[i] = true ∧ cl fs[i] = false := fun i hi => (fmem _).mp (List.getElem_mem hi)
      refine ⟨fun σ2 H2 => ∃ m', m' < m ∧ ∃ y7 y8 y9 y10 Y, σ2 = [some (.ref q), some (.int (k : Int)), some (.ref c), some (.ref a), some (.ref b), some (.ref p), some (.ref p6), y7, y8, y9, y10] ∧ Ex H H2 ∧ H2 p = some (.lst (rowV W.n Y)) ∧ H2 p6 = some (.lst (lotV fs)) ∧ RInv W cl ((k : Int) + 1) top Z Y ∧ sumN W.n Y ≤ m', fun _ _ z => z, ?_⟩
      -- prices
      have eP : (lotV fs).map (gR (fun v => prK W ((k : Int) + 1) Y v)) = ((fs.map fun v => prK W ((k : Int) + 1) Y v).map V.int) := lot_gR
      refine w_setL (xs := (fs.map fun v => prK W ((k : Int) + 1) Y v).map V.int) (lv sc_round_under.nd 8) (by
        rw [← eP]
        exact ccv (c_mapS (n := 7) sc_round_under.nd (bk sc_round_under (by decide +kernel)) (vn 6) (.ls (x5 _ _ b2)) (by rw [lotV_len]; omega) _ (fun y hy s0 H0 C cl1 fp => by
          obtain ⟨v, hv, rfl⟩ := List.mem_map.mp hy
          exact v_call (d_price T) hr (a_cons (vn 0) (a_cons (vn 1) (a_cons (vn 5) (a_cons (vn 7) a_nil)))) (fun H6 x6 Q6 k6 E6 => ⟨q, p, W, Y, v, (k : Int), rfl, ok, hW.ex ((x4.trans x5).trans x6), .ls (x6 _ _ (x5 _ _ b1)), ((fmem v).mp hv).1, k6⟩)))) fun p8 H6 hp8 x6 h8 => ?_
      have pAt : ∀ i (hi : i < fs.length), ((fs.map fun v => prK W ((k : Int) + 1) Y v).map V.int)[i]? = some (.int (W.pr Y fs[i])) := fun i hi => by
        rw [List.getElem?_map, List.getElem?_map, List.getElem?_eq_getElem hi]
        show some (V.int (prK W ((k : Int) + 1) Y fs[i])) = _
        unfold prK
        rw [if_pos (pw i hi).2.1]
      have fAt : ∀ i (hi : i < fs.length), (lotV fs)[i]? = some (.int (fs[i] : Int)) := fun i hi => by
        unfold lotV
        rw [List.getElem?_map, List.getElem?_eq_getElem hi]
        rfl
      have c1 := x6 _ _ (x5 _ _ b1)
      have c2 := x6 _ _ (x5 _ _ b2)
      -- falling_now
      obtain ⟨tt, htt⟩ : ∃ tt : Nat → Bool, tt = fun i => decide (W.pr Y (fs.getD i 0) < Y (fs.getD i 0)) := ⟨_, rfl⟩
      have gD : ∀ i (hi : i < fs.length), fs.getD i 0 = fs[i] := fun i hi => by rw [List.getD_eq_getElem?_getD, List.getElem?_eq_getElem hi]; rfl
      have tte : ∀ i (hi : i < fs.length), tt i = decide (W.pr Y fs[i] < Y fs[i]) := fun i hi => by rw [htt]; show decide (W.pr Y (fs.getD i 0) < Y (fs.getD i 0)) = _; rw [gD i hi]
      refine w_setC (xs := lotV ((List.range fs.length).filter tt)) (lv sc_round_under.nd 10) rfl (c_fltR (m := fs.length) (n := 9) T.fre sc_round_under.nd (bk sc_round_under (by decide +kernel)) (v_lenN T.fre (vn 6) (.ls c2) lotV_len) (by omega) tt iv (fun i hi s0 H0 C cl1 fp => by
        rw [tte i hi]
        exact t_lt (v_ix (n := i) (vn 8) (vn 9) (.ls h8) (pAt i hi)) (v_ix (n := fs[i]) (vn 5) (v_ix (n := i) (vn 6) (vn 9) (.ls c2) (fAt i hi)) (.ls c1) (rowV_at (pw i hi).1))) (fun i hi _ s0 H0 C cl1 fp => vn 9)) (sw_true rfl rfl rfl (by decide +kernel)) fun p10 H7 hp10 x7 h10 => ?_
      have xx := ((x4.trans x5).trans x6).trans x7
      have d1 := x7 _ _ c1
      have d2 := x7 _ _ c2
      have d8 := x7 _ _ h8
      refine w_when (t_not (t_seq (vn 10) (.ls h10))) (fun hc H8 x8 => ?_) (fun hc H8 x8 => ?_)
      · -- return tuple(found)
        have em : ∀ i, i < fs.length → tt i = false := fun i hi => by
          have hc' : (filV fs.length tt).isEmpty = true := by
            have : (!(!(filV fs.length tt).isEmpty)) = true := hc
            simpa using this
          exact fil_empty.mp hc' i hi
        have R : IsRnd W cl ((k : Int) + 1) top Z Y := I.stop fun v hv hm hcc => by
          obtain ⟨i, hi, e⟩ := List.getElem_of_mem ((fmem v).mpr ⟨hv, hm, hcc⟩)
          have z := em i hi
          rw [tte i hi, e] at z
          have := of_decide_eq_false z
          omega
        refine w_retD (v_tupS T.fre (vn 5) (.ls (x8 _ _ d1))) fun u H9 x9 hu => kq Y u H9 R ((xx.trans x8).trans x9) hu
      · -- for at in falling_now
        have hex : ∃ i, i < fs.length ∧ tt i = true := Classical.byContradiction fun ne => by
          have : (filV fs.length tt).isEmpty = true := fil_empty.mpr fun i hi => by
            cases e : tt i with
            | false => rfl
            | true => exact absurd ⟨i, hi, e⟩ ne
          have hc' : (!(!(filV fs.length tt).isEmpty)) = false := hc
          rw [this] at hc'
          cases hc'
        obtain ⟨gs, hgs⟩ : ∃ gs, gs = (List.range fs.length).filter tt := ⟨_, rfl⟩
        rw [← hgs] at h10
        have gmem : ∀ i, i ∈ gs ↔ i < fs.length ∧ tt i = true := fun i => by rw [hgs, List.mem_filter, List.mem_range]
        obtain ⟨fl, hfl⟩ : ∃ fl : List Nat → Nat → Int, fl = fun l v => if ∃ i ∈ l, fs.getD i 0 = v then W.pr Y v else Y v := ⟨_, rfl⟩
        have h10' := x8 _ _ h10
        have n510 : p ≠ p10 := ne_of_none c1 hp10
        have n58 : p ≠ p8 := ne_of_none (x5 _ _ b1) hp8
        have n56 : p ≠ p6 := ne
        have hb : Sq K (fun z => if z = p then none else H8 z) p10 (lotV gs) := .ls (xs := lotV gs) (by
          show (if p10 = p then none else H8 p10) = _
          rw [if_neg (fun z => n510 z.symm)]
          exact h10')
        refine w_forS (lv sc_round_under.nd 9) (Hb := fun z => if z = p then none else H8 z) (vn 10) hb (fun i σ' H' => ∃ y9, σ' = [some (.ref q), some (.int (k : Int)), some (.ref c), some (.ref a), some (.ref b), some (.ref p), some (.ref p6), y7, some (.ref p8), y9, some (.ref p10)] ∧ Ex H H' ∧ (∀ z, z ≠ p → ∀ o, H8 z = some o → H' z = some o) ∧
            H' p = some (.lst (rowV W.n (fl (gs.take i))))) (fun i σ' H' ⟨_, _, _, z, _⟩ o hz => by
              rw [if_neg (fun e => n510 e.symm)] at hz
              exact z _ (fun e => n510 e.symm) _ hz) (fun H9 x9 => ⟨_, rfl, (xx.trans x8).trans x9, fun z _ o => x9 z o, by
              rw [x9 _ _ (x8 _ _ d1)]
              refine congrArg (fun z => some (HO.lst z)) (rowV_congr fun v hv => ?_)
              rw [hfl]
              exact (if_neg (by simp)).symm⟩) ?_ ?_
        · rintro i x σ' H9 hx ⟨y9, rfl, x9, e9, a9⟩
          obtain ⟨j, hj, rfl⟩ : ∃ j, gs[i]? = some j ∧ x = .int (j : Int) := by
            unfold lotV at hx
            rw [List.getElem?_map] at hx
            cases e : gs[i]? with
            | none => rw [e] at hx; cases hx
            | some v => rw [e] at hx; exact ⟨v, rfl, (Option.some.inj hx).symm⟩
          have hjl := ((gmem j).mp (List.mem_of_getElem? hj)).1
          have tk : gs.take (i + 1) = gs.take i ++ [j] := by rw [List.take_add_one, hj]; rfl
          refine w_setix (n := fs[j]) a9 (v_ix (n := j) (vn 8) (vn 9) (.ls (e9 _ (fun z => n58 z.symm) _ (x8 _ _ d8))) (pAt j hjl)) (vn 5) (v_ix (n := j) (vn 6) (vn 9) (.ls (e9 _ (fun z => n56 z.symm) _ (x8 _ _ d2))) (fAt j hjl)) (by rw [rowV_len]; exact (pw j hjl).1) fun H10 x10 => ?_
          refine w_nil ⟨_, rfl, Ex.mut (x9.trans x10) hp, fun z hz o ho => by rw [upd_ne hz]; exact x10 _ _ (e9 z hz o ho), ?_⟩
          rw [upd_same, rowV_set]
          refine congrArg (fun z => some (HO.lst z)) (rowV_congr fun v hv => ?_)
          rw [hfl, tk]
          show (if v = fs[j] then W.pr Y fs[j] else if ∃ i' ∈ gs.take i, fs.getD i' 0 = v then W.pr Y v else Y v) = if ∃ i' ∈ gs.take i ++ [j], fs.getD i' 0 = v then W.pr Y v else Y v
          by_cases e : v = fs[j]
          · rw [if_pos e, if_pos ⟨j, by simp, by rw [gD j hjl, e]⟩, e]
          · rw [if_neg e]
            by_cases e2 : ∃ i' ∈ gs.take i, fs.getD i' 0 = v
            · obtain ⟨i', m', q'⟩ := e2
              rw [if_pos ⟨i', m', q'⟩, if_pos ⟨i', by simp [m'], q'⟩]
            · rw [if_neg e2, if_neg]
              rintro ⟨i', m', q'⟩
              rcases List.mem_append.mp m' with m' | m'
              · exact e2 ⟨i', m', q'⟩
              · have : i' = j := by simpa using m'
                subst this
                rw [gD i' hjl] at q'
                exact e q'.symm
        · rintro σ' H9 ⟨y9, rfl, x9, e9, a9⟩
          have tl : gs.take (lotV gs).length = gs := by rw [lotV_len]; exact List.take_length
          rw [tl] at a9
          have flv : ∀ v, (v ∈ fs ∧ W.pr Y v < Y v) → fl gs v = W.pr Y v := fun v ⟨m, l⟩ => by
            obtain ⟨i, hi, e⟩ := List.getElem_of_mem m
            rw [hfl]
            refine if_pos ⟨i, (gmem i).mpr ⟨hi, ?_⟩, by rw [gD i hi, e]⟩
            rw [tte i hi, e]
            exact decide_eq_true l
          have fln : ∀ v, ¬ (v ∈ fs ∧ W.pr Y v < Y v) → fl gs v = Y v := fun v h => by
            rw [hfl]
            refine if_neg ?_
            rintro ⟨i, m, e⟩
            obtain ⟨hi, ht⟩ := (gmem i).mp m
            rw [gD i hi] at e
            rw [tte i hi, e] at ht
            exact h ⟨by rw [← e]; exact List.getElem_mem hi, of_decide_eq_true ht⟩
          have I' : RInv W cl ((k : Int) + 1) top Z (fl gs) := I.step ok (fun v hv hm => fln v fun ⟨m, _⟩ => by
            obtain ⟨_, m1, m2⟩ := (fmem v).mp m
            rw [hm m1] at m2
            cases m2) (fun v hv hm hcc => by
            by_cases l : W.pr Y v < Y v
            · rw [flv v ⟨(fmem v).mpr ⟨hv, hm, hcc⟩, l⟩]; omega
            · rw [fln v fun z => l z.2]; omega)
          have le : ∀ v, v < W.n → fl gs v ≤ Y v := fun v hv => by
            by_cases l : v ∈ fs ∧ W.pr Y v < Y v
            · rw [flv v l]; omega
            · rw [fln v l]; exact Int.le_refl _
          have lt := sumN_lt le (by
            obtain ⟨i, hi, ht⟩ := hex
            rw [tte i hi] at ht
            have l := of_decide_eq_true ht
            refine ⟨fs[i], (pw i hi).1, ?_⟩
            rw [flv fs[i] ⟨List.getElem_mem hi, l⟩]
            omega)
          have nn' := sumN_nn I'.nn
          exact w_nil ⟨(sumN W.n (fl gs)).toNat, by omega, _, _, _, _, _, rfl, x9, a9, e9 _ (fun z => n56 z.symm) _ (x8 _ _ d2), I', by omega⟩
end
end PwD
end
/-! ### PwT -/
section
set_option linter.all false
set_option maxRecDepth 100000
set_option maxHeartbeats 8000000
/-! arguments by what is true of them; a tuple once; the program's row for ever -/
namespace Wk
open PySem PySem.Spec PyProof.Rows L2 Evl Pw
section
variable {X : Cx} {e a b c o : Expr} {es : List Expr} {σ : L2.St} {H : Hp} {u v x y z : V} {pos p p2 p3 : Pos} {n m : Nat} {s f : Str} {q : Addr} {xs ys vs dvs : List V} {sp : Sp} {R : List V → Hp → Prop} {P P' : V → Hp → Prop}
def VAD (X : Cx) (es : List Expr) (σ : L2.St) (H : Hp) (R : List V → Hp → Prop) : Prop := ∀ H1, Ex H H1 → ∀ Q : List V → Hp → Prop, (∀ vs H2, Ex H1 H2 → R vs H2 → Q vs H2) → WA X es σ H1 Q
theorem ad_nil (h : ∀ H1, Ex H H1 → R [] H1) : VAD X [] σ H R := fun H1 e1 Q g => a_nil H1 e1 Q fun H2 e2 => g [] H2 e2 (h H2 (e1.trans e2))
theorem ad_cons (h : VD X e σ H P) (hr : ∀ u H1, Ex H H1 → P u H1 → VAD X es σ H1 (fun us H2 => R (u :: us) H2)) (hs : starEach (e :: es) X.env = (false, eval e X.env) :: starEach es X.env := by rfl) : VAD X (e :: es) σ H R := fun H1 e1 Q g =>
  ofA (pa_cons peW paW hs) (h H1 e1 _ fun u H2 e2 hu => hr u H2 (e1.trans e2) hu H2 (Ex.refl H2) _ fun us H3 e3 hR => g (u :: us) H3 (e2.trans e3) hR)
theorem ad_consE (h : VE X e σ H v) (hr : VAD X es σ H (fun us H2 => R (v :: us) H2)) (hs : starEach (e :: es) X.env = (false, eval e X.env) :: starEach es X.env := by rfl) : VAD X (e :: es) σ H R := fun H1 e1 Q g =>
  ofA (pa_cons peW paW hs) (h H1 e1 _ fun H2 e2 => hr H2 (e1.trans e2) _ fun us H3 e3 hR => g (v :: us) H3 (e2.trans e3) hR)
theorem ad_last (h : VD X e σ H P) (hr : ∀ u H1, Ex H H1 → P u H1 → R [u] H1) (hs : starEach [e] X.env = (false, eval e X.env) :: starEach [] X.env := by rfl) : VAD X [e] σ H R := fun H1 e1 Q g =>
  ofA (pa_cons peW pa_nil hs) (h H1 e1 _ fun u H2 e2 hu => g [u] H2 e2 (hr u H2 (e1.trans e2) hu))
theorem v_callDD (D : Dn X.prog X.w X.K X.mg X.base m s dvs sp) (hr : Room m X.A) (ha : VAD X (e :: es) σ H R) (hs : ∀ vs H1, Ex H H1 → R vs H1 → SpD sp (vs ++ dvs) H1 P) (hg : Gl X s := by rfl) (hdb : (s == ("__debug__" : Str)) = false := by decide)
    (he : starEach (e :: es) X.env = (false, eval e X.env) :: starEach es X.env := by rfl) (hpl : (backTo pos (starEach es X.env)).any (·.1) = false := by rfl) : VD X (.Call (.Name s p) (e :: es) [] pos) σ H P :=
  liftD (pe_dn D hr passL paW hg hdb he hpl) fun H1 e1 Q g => ha H1 e1 _ fun vs H2 e2 hR => hs vs H2 (e1.trans e2) hR H2 (Ex.refl H2) Q (fun u H3 e3 hu => g u H3 (e2.trans e3) hu) _
theorem ld (h : VL X e σ H xs) : VD X e σ H (fun u H2 => ∃ p, u = .ref p ∧ H2 p = some (.lst xs)) := EvL.d h
theorem ud (h : VU X e σ H xs) : VD X e σ H (fun u H2 => ∃ p, u = .ref p ∧ H2 p = some (.tup xs)) := EvU.d h
theorem vd (h : VE X e σ H v) : VD X e σ H (fun u _ => u = v) := Ev.d h
end
end Wk
namespace L2
open PySem PySem.Spec PyProof.Rows
theorem tuple_once (l : Addr) (items : Array Value) (n : Nat) (dd : Option Addr) (sl : Array (Option Value)) (u : Tok) :
    Meets (Builtin.«tuple.__mul__» ⟨[.ref l, .int 1 u], []⟩) (fun _ R s => s.heap.get? l = some { cls := .type "tuple", dict := dd, data := .seq items n, slots := sl } ∧ R (.ok (.ret (Value.ref l))) s) :=
  .of_wp fun prog w A R s h => by
    obtain ⟨hp, g, d, tk, os⟩ := s
    obtain ⟨hl, h⟩ := h
    have f1 := AutoSeq1.idx_int
    wp_walk using wpAny_loadPart' hl
    repeat (first
      | (refine wpAny_ite_false (decide_eq_false (by decide)) ?_; wp_walk using wpAny_loadPart' hl)
      | (refine wpAny_ite_true (decide_eq_true (by simp)) ?_; wp_walk using wpAny_loadPart' hl))
    all_goals exact ⟨_, rfl, h⟩
def rRepO (K : PySem.W.Frag) : R2 := fun x y H Q => ∃ l xs, x = .ref l ∧ y = .int 1 ∧ SqT K H l xs ∧ Q (.ref l) H
theorem op_repO {X : Cx} : OpR X (binaryOp .Mult) (rRepO X.K) := by
  intro pins s σ H x y v u Q I rx ry h
  obtain ⟨l, xs, rfl, rfl, hT, q⟩ := h
  cases rx
  obtain ⟨t, rfl⟩ := ry
  obtain ⟨its, r, ⟨⟨cls, dd, data, sl⟩, ho, hc, n, hd⟩, hs⟩ := I.tuple hT
  simp only at hc hd
  subst hc hd
  refine wpAny_binaryOp_repeat_ref (T := "tuple") (U := "int") (by decide) ⟨_, ho, rfl⟩ (fun s' => typeIs_int s' 1 t) noFill_tuple_mul F.fills_int_mul F.slot_int_rmul repeat_tuple F.slot_int_index.lookup
    (call_meets F.slot_int_rmul (typeIs_int s 1 t) F.entry_int_rmul (F.args_int_rmul_2 _ _) (int_rmul_tuple 1 t l its.toArray n dd sl)
      ⟨ho, rfl, ⟨_, ho, rfl⟩, call_meets F.slot_tuple_mul ⟨_, ho, rfl⟩ F.entry_tuple_mul (F.args_tuple_mul_2 _ _) (tuple_once l its.toArray n dd sl t) ⟨ho, ?_⟩⟩)
  exact ⟨.ref l, H, I, rfl, q⟩
end L2
end
/-! ### PwU -/
section
set_option linter.all false
set_option maxRecDepth 100000
set_option maxHeartbeats 8000000
/-! the program's row for ever -/
namespace PwD
open PySem PySem.Spec PyProof.Rows L2 Evl Pw Wk PwH
/-- 1 more at the stands of r; 1 less -/
def up1 (r : List Nat) (X : Nat → Int) (v : Nat) : Int := if v ∈ r then X v + 1 else X v
def dn1 (r : List Nat) (X : Nat → Int) (v : Nat) : Int := if v ∈ r then X v - 1 else X v
theorem rep_row {n : Nat} {y : Int} : (List.replicate n [V.int y]).flatten = rowV n (fun _ => y) := by
  unfold rowV
  induction n with
  | zero => rfl
  | succ m ih => rw [List.range_succ, List.map_append, ← ih, List.replicate_succ', List.flatten_append]; rfl
def gI (f : Int → Int) : V → V
  | .int i => .int (f i)
  | _ => .non
theorem row_gI {n : Nat} {X : Nat → Int} {f : Int → Int} : (rowV n X).map (gI f) = rowV n (fun v => f (X v)) := by
  unfold rowV
  rw [List.map_map]
  rfl
theorem nat_list {l : List Nat} {m : List Int} (h : m.Perm (l.map Int.ofNat)) : ∃ l' : List Nat, l'.Perm l ∧ m = l'.map Int.ofNat := by
  refine ⟨m.map Int.toNat, ?_, ?_⟩
  · have z := h.map Int.toNat
    rw [List.map_map] at z
    have e : l.map (Int.toNat ∘ Int.ofNat) = l := by
      have : (Int.toNat ∘ Int.ofNat) = id := by funext x; rfl
      rw [this, List.map_id]
    rw [e] at z
    exact z
  · rw [List.map_map]
    have e : m.map (Int.ofNat ∘ Int.toNat) = m.map id := List.map_congr_left fun i hi => by
      obtain ⟨j, _, rfl⟩ := List.mem_map.mp (h.mem_iff.mp hi)
      rfl
    rw [e, List.map_id]
theorem nodup_len {l : List Nat} {n : Nat} (h : l.Nodup) (hl : ∀ v ∈ l, v < n) : l.length ≤ n := by
  have p : l.Perm ((List.range n).filter fun v => decide (v ∈ l)) := (List.perm_ext_iff_of_nodup h (List.filter_sublist.nodup List.nodup_range)).mpr fun v => by
    rw [List.mem_filter, List.mem_range]
    exact ⟨fun m => ⟨hl v m, decide_eq_true m⟩, fun m => of_decide_eq_true m.2⟩
  rw [p.length_eq]
  have := List.length_filter_le (fun v => decide (v ∈ l)) (List.range n)
  rw [List.length_range] at this
  exact this
section
variable {X : Cx} {a : Expr} {σ : L2.St} {H : Hp} {pos p : Pos} {q : Addr} {R : List V → Prop} {l : List Nat}
theorem v_tupD (fr : Fre X.mg) (ha : VD X a σ H (fun u H2 => ∃ p xs, u = .ref p ∧ H2 p = some (.lst xs) ∧ R xs)) (hg : Gl X "tuple" := by rfl) (hs : starEach [a] X.env = (false, eval a X.env) :: starEach [] X.env := by rfl) (hpl : (backTo pos (starEach [] X.env)).any (·.1) = false := by rfl) :
    VD X (.Call (.Name "tuple" p) [a] [] pos) σ H (fun u H2 => ∃ p xs, u = .ref p ∧ H p = none ∧ H2 p = some (.tup xs) ∧ R xs) := fun H1 e1 Q g =>
  ofE (pe_callTy call_tuple_of hg fr.tuple_ PyProof.Rows.boot_tuple (pa_cons peW pa_nil hs) (by decide) (by decide) hs hpl) (ha H1 e1 _ fun u H2 e2 hu => by
    obtain ⟨p, xs, rfl, h2, hR⟩ := hu
    exact ⟨p, xs, rfl, .inl ⟨sq_of h2, fun l hl => g _ _ (e2.trans (Ex.new hl)) ⟨l, xs, rfl, fresh_back (e1.trans e2) hl, upd_same, hR⟩⟩⟩)
theorem v_sortI (fr : Fre X.mg) (ha : VE X a σ H (.ref q)) (h : SqL X.K H q (lotV l)) (hg : Gl X "sorted" := by rfl) (hs : starEach [a] X.env = (false, eval a X.env) :: starEach [] X.env := by rfl) (hpl : (backTo pos (starEach [] X.env)).any (·.1) = false := by rfl) :
    VD X (.Call (.Name "sorted" p) [a] [] pos) σ H (fun u H2 => ∃ p xs, u = .ref p ∧ H2 p = some (.lst xs) ∧ ∃ l', xs = lotV l' ∧ l'.Perm l) := fun H1 e1 Q g =>
  ofE (pe_callB cr_sortedI hg fr.sorted_ PyProof.Rows.boot_sorted (pa_cons peW pa_nil hs) (by decide) (by decide) hs hpl) (ha H1 e1 _ fun H2 e2 => ⟨q, l.map Int.ofNat, rfl, by rw [← lotV_ints]; exact ex_l (e1.trans e2) h, fun ns' p hp _ hn => by
    obtain ⟨l', h1, rfl⟩ := nat_list hp
    exact g _ _ (e2.trans (Ex.new hn)) ⟨p, _, rfl, upd_same, l', lotV_ints.symm, h1⟩⟩)
end
section
variable {X : Cx} {a b : Expr} {σ : L2.St} {H : Hp} {pos p p2 : Pos} {n m m2 : Nat}
/-- (0,) * n -/
theorem v_zeros (hb : VE X b σ H (.int (n : Int))) (h1 : 1 ≤ n) (hn : n ≤ 100) : VD X (.BinOp (.Tuple [.Constant (.int 0) m p] m2 p2) .Mult b pos) σ H (fun u H2 => ∃ p, u = .ref p ∧ SqT X.K H2 p (rowV n fun _ => 0)) := by
  have ht : VU X (.Tuple [.Constant (.int 0) m p] m2 p2) σ H [.int 0] := v_tup (a_cons v_int a_nil) (by simp)
  by_cases e : n = 1
  · subst e
    exact fun H1 e1 Q g => ofE (pe_op op_repO peW peW) (ht H1 e1 _ fun q H2 hq e2 h2 => hb H2 (e1.trans e2) _ fun H3 e3 => ⟨q, [.int 0], rfl, rfl, st_of (e3 _ _ h2), g _ _ (e2.trans e3) ⟨q, rfl, st_of (e3 _ _ h2)⟩⟩)
  · exact fun H1 e1 Q g => ofE (pe_op op_repT peW peW) (ht H1 e1 _ fun q H2 hq e2 h2 => hb H2 (e1.trans e2) _ fun H3 e3 => ⟨q, (n : Int), [.int 0], rfl, rfl, st_of (e3 _ _ h2), by simp, by omega, by omega, by simp, fun l hl => by
      rw [show ((n : Int)).toNat = n from rfl]
      exact g _ _ ((e2.trans e3).trans (Ex.new hl)) ⟨l, rfl, st_of (by rw [upd_same, rep_row])⟩⟩)
end
section
variable {P : Program} {w : World} {K : PySem.W.Frag} {mg : Str → Option Value} {base : Heap}
def RndT (K : PySem.W.Frag) (W : Web) (cl : Nat → Bool) (k : Int) (top Z : Nat → Int) (u : V) (H : Hp) : Prop := ∃ Y r, IsRnd W cl k top Z Y ∧ u = .ref r ∧ SqT K H r (rowV W.n Y)
theorem under_d {q c a b : Addr} {W : Web} {cl : Nat → Bool} {Z top : Nat → Int} {k : Nat} {H : Hp} (ok : W.Ok) (hW : WebAt K H q W) (hC : Fil K H c W.n cl) (hZ : Row K H a W.n Z) (hT : Row K H b W.n top) (h0 : ∀ v, v < W.n → 0 ≤ Z v) (t0 : ∀ v, v < W.n → 0 ≤ top v) :
    SpD (spUnder K) [.ref q, .int (k : Int), .ref c, .ref a, .ref b] H (RndT K W cl ((k : Int) + 1) top Z) := fun H1 e1 Q g E => ⟨q, c, a, b, W, cl, Z, top, k, rfl, ok, hW.ex e1, hC.ex e1, hZ.ex e1, hT.ex e1, h0, t0, fun Y u H2 R e2 ⟨r, hu, hr⟩ => g u H2 e2 ⟨Y, r, R, hu, hr⟩⟩
def spRof (K : PySem.W.Frag) : Sp := fun vs H Q _ => ∃ (q c a : Addr) (W : Web) (cl : Nat → Bool) (Z : Nat → Int) (k : Nat), vs = [.ref q, .int (k : Int), .ref c, .ref a] ∧ W.Ok ∧ WebAt K H q W ∧ Fil K H c W.n cl ∧ Row K H a W.n Z ∧ (∀ v, v < W.n → 0 ≤ Z v) ∧
  RetD (RndT K W cl ((k : Int) + 1) (fun _ => (k : Int) + 1) Z) H Q
theorem d_rof (T : Hd K mg) : Dn P w K mg base 6 "round_of" [] (spRof K) := by
  refine fn_dn (F_round_of T) sc_round_of (fun vs H Q E h => ?_) B_round_of fun f cdv A outer s H vs Q E hr h => ?_
  · obtain ⟨_, _, _, _, _, _, _, rfl, _⟩ := h
    rfl
  · obtain ⟨q, c, a, W, cl, Z, k, rfl, ok, hW, hC, hZ, h0, kq⟩ := h
    have hn5 := ok.n5
    obtain ⟨sl, qd, qf, qm, qv, qs, s1, s2, o⟩ := id hW
    refine w_retD (v_callDD (d_under T) hr (R := fun vs H2 => ∃ p, vs = [.ref q, .int (k : Int), .ref c, .ref a, .ref p] ∧ H2 p = some (.lst (rowV W.n fun _ => (k : Int) + 1))) (ad_consE (vn 0) (ad_consE (vn 1) (ad_consE (vn 2) (ad_consE (vn 3) (ad_last (ld (v_repL (n := W.n) (v_lst (a_cons (v_add (vn 1) v_int) a_nil) (by simp)) (v_size T (hr.mono (by decide)) (vn 0) o) (by omega) (by simp))) (fun u H1 e1 hu => by
      obtain ⟨p, rfl, hp⟩ := hu
      exact ⟨p, rfl, by rw [hp, rep_row]⟩)))))) (P := RndT K W cl ((k : Int) + 1) (fun _ => (k : Int) + 1) Z) ?_) kq
    rintro vs H1 e1 ⟨p, rfl, hp⟩
    exact under_d ok (hW.ex e1) (hC.ex e1) (hZ.ex e1) (.ls hp) h0 (fun _ _ => by omega)
/-! rising -/
theorem up1_add {r : List Nat} {X : Nat → Int} {v : Nat} : up1 r X v = X v + if decide (v ∈ r) = true then 1 else 0 := by
  unfold up1
  by_cases h : v ∈ r
  · rw [if_pos h, if_pos (decide_eq_true h)]
  · rw [if_neg h, if_neg (by simp [h]), Int.add_zero]
def spRising (K : PySem.W.Frag) : Sp := fun vs H Q _ => ∃ (q c a : Addr) (W : Web) (cl : Nat → Bool) (X : Nat → Int) (k : Nat), vs = [.ref q, .int (k : Int), .ref c, .ref a] ∧ W.Ok ∧ WebAt K H q W ∧ Fil K H c W.n cl ∧ Row K H a W.n X ∧ IsFev W cl (k : Int) X ∧
  RetD (fun u H2 => ∃ p r, u = .ref p ∧ H p = none ∧ H2 p = some (.tup (lotV r)) ∧ IsFev W cl ((k : Int) + 1) (up1 r X)) H Q
theorem d_rising (T : Hd K mg) : Dn P w K mg base 6 "forever_rising" [] (spRising K) := by
  refine fn_dn (F_forever_rising T) sc_forever_rising (fun vs H Q E h => ?_) B_forever_rising fun f cdv A outer s H vs Q E hr h => ?_
  · obtain ⟨_, _, _, _, _, _, _, rfl, _⟩ := h
    rfl
  · obtain ⟨q, c, a, W, cl, X, k, rfl, ok, hW, hC, hX, F, kq⟩ := h
    have hn5 := ok.n5
    have hK : (0 : Int) ≤ (k : Int) := by omega
    have hr2 : Room 2 _ := hr.mono (by decide)
    obtain ⟨sl, qd, qf, qm, qv, qs, s1, s2, o⟩ := id hW
    -- top
    refine w_setC (xs := rowV W.n fun v => X v + 1) (lv sc_forever_rising.nd 4) rfl (by
      rw [← row_gI (f := fun i => i + 1)]
      exact c_mapS (n := 9) sc_forever_rising.nd (bk sc_forever_rising (by decide +kernel)) (vn 3) hX (by rw [rowV_len]; omega) _ (fun y hy s0 H0 C cl1 fp => by
        obtain ⟨v, _, rfl⟩ := List.mem_map.mp hy
        exact v_add (vn 9) v_int)) (sw_true rfl rfl rfl (by decide +kernel)) fun p4 H1 hp4 x1 h4 => ?_
    refine w_setL (lv sc_forever_rising.nd 5) (v_lst a_nil (by simp)) fun p5 H2 hp5 x2 h5 => ?_
    refine w_while (fun m σ' H' => ∃ y6 y7 y8 y9 y10 pr r, σ' = [some (.ref q), some (.int (k : Int)), some (.ref c), some (.ref a), some (.ref p4), some (.ref pr), y6, y7, y8, y9, y10] ∧ Ex H H' ∧ H' p4 = some (.lst (rowV W.n fun v => X v + 1)) ∧ H' pr = some (.lst (lotV r)) ∧
        (∀ Z, (∀ v, v < W.n → 0 ≤ Z v) → Pre W cl ((k : Int) + 1) Z → ∀ v, v < W.n → up1 r X v ≤ Z v) ∧ r.Nodup ∧ (∀ v ∈ r, v < W.n) ∧ W.n ≤ m + r.length)
      W.n ⟨none, none, none, none, none, p5, [], rfl, x1.trans x2, x2 _ _ h4, h5, fun Z z p v hv => by
        have e : up1 [] X v = X v := if_neg (by simp)
        rw [e]
        exact chip_start ok F Z z p v hv, List.nodup_nil, fun v hv => by simp at hv, by simp⟩ ?_
    rintro m σ' H3 ⟨y6, y7, y8, y9, y10, pr, r, rfl, x3, a4, a5, le, nd, lt, hm⟩
    refine ⟨true, t_val v_bl, fun _ H4 x4 => ?_, fun z => by cases z⟩
    refine ⟨fun σ2 H2 => ∃ m', m' < m ∧ ∃ y6 y7 y8 y9 y10 pr r, σ2 = [some (.ref q), some (.int (k : Int)), some (.ref c), some (.ref a), some (.ref p4), some (.ref pr), y6, y7, y8, y9, y10] ∧ Ex H H2 ∧ H2 p4 = some (.lst (rowV W.n fun v => X v + 1)) ∧ H2 pr = some (.lst (lotV r)) ∧
        (∀ Z, (∀ v, v < W.n → 0 ≤ Z v) → Pre W cl ((k : Int) + 1) Z → ∀ v, v < W.n → up1 r X v ≤ Z v) ∧ r.Nodup ∧ (∀ v ∈ r, v < W.n) ∧ W.n ≤ m' + r.length, fun _ _ z => z, ?_⟩
    have b4 := x4 _ _ a4
    have b5 := x4 _ _ a5
    have xx := x3.trans x4
    -- now
    refine w_setC (xs := rowV W.n (up1 r X)) (lv sc_forever_rising.nd 6) rfl (c_mapR (n := 10) T.fre sc_forever_rising.nd (bk sc_forever_rising (by decide +kernel)) (v_size T hr2 (vn 0) (o.ex xx)) (by omega) (fun v => .int (up1 r X v)) (fun i hi s0 H0 C cl1 fp => by
      refine v_if (t_inS (vn 10) (vn 5) (.ls b5) rfl lot_flat) (fun hc => ?_) (fun hc => ?_)
      · rw [in_lot] at hc
        rw [show up1 r X i = X i + 1 from if_pos (of_decide_eq_true hc)]
        exact v_add (v_ix (n := i) (vn 3) (vn 10) (hX.ex xx) (rowV_at hi)) v_int
      · rw [in_lot] at hc
        rw [show up1 r X i = X i from if_neg (of_decide_eq_false hc)]
        exact v_ix (n := i) (vn 3) (vn 10) (hX.ex xx) (rowV_at hi))) (sw_true rfl rfl rfl (by decide +kernel)) fun p6 H5 hp6 x5 h6 => ?_
    have upnn : ∀ v, v < W.n → 0 ≤ up1 r X v := fun v hv => by
      have := F.nn v hv
      unfold up1
      split <;> omega
    have upX : ∀ v, X v ≤ up1 r X v := fun v => by
      unfold up1
      split <;> omega
    -- after
    refine w_setD (lv sc_forever_rising.nd 7) (v_callD (d_under T) hr (a_cons (vn 0) (a_cons (vn 1) (a_cons (vn 2) (a_cons (vn 6) (a_cons (vn 4) a_nil))))) (under_d ok (hW.ex (xx.trans x5)) (hC.ex (xx.trans x5)) (.ls h6) (.ls (x5 _ _ b4)) upnn fun v hv => by have := F.nn v hv; omega)) fun u H6 x6 hu => ?_
    obtain ⟨Y, p7, R, rfl, h7⟩ := hu
    have xxx := (xx.trans x5).trans x6
    -- more
    refine w_setC (xs := filV W.n fun v => !decide (v ∈ r) && decide (X v < Y v)) (lv sc_forever_rising.nd 8) rfl (c_fltR (n := 10) T.fre sc_forever_rising.nd (bk sc_forever_rising (by decide +kernel)) (v_size T hr2 (vn 0) (o.ex xxx)) (by omega) (fun v => !decide (v ∈ r) && decide (X v < Y v)) iv (fun i hi s0 H0 C cl1 fp => by
      refine t_bool (p_and (by rw [← in_lot]; exact t_niS (vn 10) (vn 5) (.ls (x6 _ _ (x5 _ _ b5))) rfl lot_flat) fun _ => p_and1 (t_gt (v_ix (n := i) (vn 7) (vn 10) (.inr h7) (rowV_at hi)) (v_ix (n := i) (vn 3) (vn 10) (hX.ex xxx) (rowV_at hi))))) (fun i hi _ s0 H0 C cl1 fp => vn 10)) (sw_true rfl rfl rfl (by decide +kernel)) fun p8 H7 hp8 x7 h8 => ?_
    have x37 := xxx.trans x7
    have d5 := x7 _ _ (x6 _ _ (x5 _ _ b5))
    refine w_when (t_not (t_seq (vn 8) (.ls h8))) (fun hc H8 x8 => ?_) (fun hc H8 x8 => ?_)
    · have em : ∀ v, v < W.n → (!decide (v ∈ r) && decide (X v < Y v)) = false := by
        refine fil_empty.mp ?_
        have : (!(!(filV W.n fun v => !decide (v ∈ r) && decide (X v < Y v)).isEmpty)) = true := hc
        simpa using this
      have G : IsFev W cl ((k : Int) + 1) (up1 r X) := by
        refine IsFev.congr ok (chip_end ok hK F (fun v => decide (v ∈ r)) (Y := Y) (R.congr ok (fun v _ => up1_add) fun _ _ => rfl) (fun v hv hh => ?_) (fun Z z p v hv => by rw [← up1_add]; exact le Z z p v hv)) fun v _ => up1_add.symm
        have := em v hv
        rw [hh] at this
        have z : decide (X v < Y v) = false := by simpa using this
        have := of_decide_eq_false z
        omega
      refine w_retD (v_tupD T.fre (v_sortI T.fre (vn 5) (sq_of (x8 _ _ d5)))) fun u H9 x9 hu => ?_
      obtain ⟨p, xs, rfl, hp, h9, r', rfl, hperm⟩ := hu
      refine kq _ H9 ((x37.trans x8).trans x9) ⟨p, r', rfl, fresh_back (x37.trans x8) hp, h9, G.congr ok fun v _ => ?_⟩
      unfold up1
      by_cases e : v ∈ r
      · rw [if_pos e, if_pos (hperm.mem_iff.mpr e)]
      · rw [if_neg e, if_neg fun z => e (hperm.mem_iff.mp z)]
    · obtain ⟨gs, hgs⟩ : ∃ gs, gs = (List.range W.n).filter (fun v => !decide (v ∈ r) && decide (X v < Y v)) := ⟨_, rfl⟩
      have h8' : H7 p8 = some (.lst (lotV gs)) := by rw [hgs]; exact h8
      have gmem : ∀ v, v ∈ gs ↔ v < W.n ∧ v ∉ r ∧ X v < Y v := fun v => by
        rw [hgs, List.mem_filter, List.mem_range, Bool.and_eq_true]
        simp
      have hex : ∃ v, v ∈ gs := by
        cases e : gs with
        | nil =>
          rw [hgs] at e
          have z : (filV W.n fun v => !decide (v ∈ r) && decide (X v < Y v)) = [] := by unfold filV; rw [e]; rfl
          have hc' : (!(!(filV W.n fun v => !decide (v ∈ r) && decide (X v < Y v)).isEmpty)) = false := hc
          rw [z] at hc'
          cases hc'
        | cons v t => exact ⟨v, by simp⟩
      have adm : Adm W cl ((k : Int) + 1) (fun _ => (k : Int) + 1) (up1 r X) Y := ⟨R.adm.ends, R.adm.calls, fun v hv hm hcc => by have := R.adm.tops v hv hm hcc; have := F.le v hv; omega, R.adm.free⟩
      have le' := chip_least ok adm (fun _ _ => Int.le_refl _) le
      have nd' : (r ++ gs).Nodup := by
        refine List.nodup_append.mpr ⟨nd, by rw [hgs]; exact List.filter_sublist.nodup List.nodup_range, fun a ha b hb e => ?_⟩
        subst e
        exact ((gmem a).mp hb).2.1 ha
      have lt' : ∀ v ∈ r ++ gs, v < W.n := fun v hv => by
        rcases List.mem_append.mp hv with h | h
        · exact lt v h
        · exact ((gmem v).mp h).1
      have len' := nodup_len nd' lt'
      rw [List.length_append] at len'
      refine w_setL (lv sc_forever_rising.nd 5) (v_cat (xs := lotV r) (ys := lotV gs) (vn 5) (vn 8) (x8 _ _ d5) (x8 _ _ h8') (by rw [lotV_len, lotV_len]; omega)) fun p9 H9 hp9 x9 h9 => ?_
      have e9 : lotV r ++ lotV gs = lotV (r ++ gs) := by unfold lotV; rw [List.map_append]
      rw [e9] at h9
      have pos := List.length_pos_iff.mpr (fun e => by obtain ⟨v, hv⟩ := hex; rw [e] at hv; simp at hv : gs ≠ [])
      refine w_nil ⟨m - gs.length, ?_, _, _, _, _, _, p9, r ++ gs, rfl, (x37.trans x8).trans x9, x9 _ _ (x8 _ _ (x7 _ _ (x6 _ _ (x5 _ _ b4)))), h9, fun Z z p v hv => ?_, nd', lt', ?_⟩
      · omega
      · by_cases e : v ∈ gs
        · obtain ⟨_, _, g3⟩ := (gmem v).mp e
          have := le' Z z p v hv
          rw [show up1 (r ++ gs) X v = X v + 1 from if_pos (by simp [e])]
          omega
        · have := le Z z p v hv
          have e2 : up1 (r ++ gs) X v = up1 r X v := by
            unfold up1
            by_cases e3 : v ∈ r
            · rw [if_pos e3, if_pos (by simp [e3])]
            · rw [if_neg e3, if_neg (by simp [e3, e])]
          rw [e2]
          exact this
      · rw [List.length_append]
        omega
/-! risen -/
def spRisen (K : PySem.W.Frag) : Sp := fun vs H Q _ => ∃ (q c a : Addr) (W : Web) (cl : Nat → Bool) (X : Nat → Int) (k : Nat), vs = [.ref q, .int (k : Int), .ref c, .ref a] ∧ W.Ok ∧ WebAt K H q W ∧ Fil K H c W.n cl ∧ Row K H a W.n X ∧ IsFev W cl (k : Int) X ∧
  RetD (fun u H2 => ∃ p Y, u = .ref p ∧ H2 p = some (.tup (rowV W.n Y)) ∧ IsFev W cl ((k : Int) + 1) Y) H Q
theorem d_risen (T : Hd K mg) : Dn P w K mg base 7 "forever_risen" [] (spRisen K) := by
  refine fn_dn (F_forever_risen T) sc_forever_risen (fun vs H Q E h => ?_) B_forever_risen fun f cdv A outer s H vs Q E hr h => ?_
  · obtain ⟨_, _, _, _, _, _, _, rfl, _⟩ := h
    rfl
  · obtain ⟨q, c, a, W, cl, X, k, rfl, ok, hW, hC, hX, F, kq⟩ := h
    have hn5 := ok.n5
    obtain ⟨sl, qd, qf, qm, qv, qs, s1, s2, o⟩ := id hW
    refine w_setD (lv sc_forever_risen.nd 4) (v_callD (d_rising T) hr (a_cons (vn 0) (a_cons (vn 1) (a_cons (vn 2) (a_cons (vn 3) a_nil)))) (P := fun u H2 => ∃ p r, u = .ref p ∧ H2 p = some (.tup (lotV r)) ∧ IsFev W cl ((k : Int) + 1) (up1 r X)) fun H1 e1 Q g E => ⟨q, c, a, W, cl, X, k, rfl, ok, hW.ex e1, hC.ex e1, hX.ex e1, F, fun u H2 e2 ⟨p, r, hu, _, h2, G⟩ => g u H2 e2 ⟨p, r, hu, h2, G⟩⟩) fun u H1 x1 hu => ?_
    obtain ⟨p4, r, rfl, h4, G⟩ := hu
    refine w_retU (v_tupL (xs := rowV W.n (up1 r X)) T.fre (ccv (c_mapR (n := 5) T.fre sc_forever_risen.nd (bk sc_forever_risen (by decide +kernel)) (v_size T (hr.mono (by decide)) (vn 0) (o.ex x1)) (by omega) (fun v => .int (up1 r X v)) (fun i hi s0 H0 C cl1 fp => by
      refine v_if (t_inS (vn 5) (vn 4) (.tp h4) rfl lot_flat) (fun hc => ?_) (fun hc => ?_)
      · rw [in_lot] at hc
        rw [show up1 r X i = X i + 1 from if_pos (of_decide_eq_true hc)]
        exact v_add (v_ix (n := i) (vn 3) (vn 5) (hX.ex x1) (rowV_at hi)) v_int
      · rw [in_lot] at hc
        rw [show up1 r X i = X i from if_neg (of_decide_eq_false hc)]
        exact v_ix (n := i) (vn 3) (vn 5) (hX.ex x1) (rowV_at hi))))) fun p H2 hp x2 h2 => kq _ H2 (x1.trans x2) ⟨p, _, rfl, h2, G⟩
/-! by rises -/
def spFev (K : PySem.W.Frag) : Sp := fun vs H Q _ => ∃ (q c : Addr) (W : Web) (cl : Nat → Bool) (k : Nat), vs = [.ref q, .int (k : Int), .ref c] ∧ k ≤ 60 ∧ W.Ok ∧ WebAt K H q W ∧ Fil K H c W.n cl ∧
  RetD (fun u H2 => ∃ p X, u = .ref p ∧ SqT K H2 p (rowV W.n X) ∧ IsFev W cl ((k : Int) + 1) X) H Q
theorem d_fev (T : Hd K mg) : Dn P w K mg base 8 "forever_by_rises" [] (spFev K) := by
  refine fn_dn (F_forever_by_rises T) sc_forever_by_rises (fun vs H Q E h => ?_) B_forever_by_rises fun f cdv A outer s H vs Q E hr h => ?_
  · obtain ⟨_, _, _, _, _, rfl, _⟩ := h
    rfl
  · obtain ⟨q, c, W, cl, k, rfl, hk, ok, hW, hC, kq⟩ := h
    have hn5 := ok.n5
    have hn1 := ok.n1
    obtain ⟨sl, qd, qf, qm, qv, qs, s1, s2, o⟩ := id hW
    refine w_setD (lv sc_forever_by_rises.nd 3) (v_zeros (n := W.n) (v_size T (hr.mono (by decide)) (vn 0) o) hn1 (by omega)) fun u H1 x1 hu => ?_
    obtain ⟨p3, rfl, h3⟩ := hu
    refine w_forR T.fre (lv sc_forever_by_rises.nd 4) (j := (k : Int) + 1) (v_add (vn 1) v_int) (by omega)
      (fun i σ' H' => ∃ y4 p X, σ' = [some (.ref q), some (.int (k : Int)), some (.ref c), some (.ref p), y4] ∧ Ex H H' ∧ SqT K H' p (rowV W.n X) ∧ IsFev W cl (i : Int) X)
      (fun H2 x2 => ⟨_, _, _, rfl, x1.trans x2, ex_t x2 h3, IsFev.zero ok⟩) ?_ ?_
    · rintro i σ' H2 hi ⟨y4, p, X, rfl, x2, h2, F⟩
      refine w_setD (lv sc_forever_by_rises.nd 3) (v_callD (d_risen T) hr (a_cons (vn 0) (a_cons (vn 4) (a_cons (vn 2) (a_cons (vn 3) a_nil)))) (P := fun u H2 => ∃ p Y, u = .ref p ∧ H2 p = some (.tup (rowV W.n Y)) ∧ IsFev W cl ((i : Int) + 1) Y) fun H3 e3 Q g E => ⟨q, c, p, W, cl, X, i, rfl, ok, hW.ex (x2.trans e3), hC.ex (x2.trans e3), .inr (ex_t e3 h2), F, g⟩) fun u H3 x3 hu => ?_
      obtain ⟨p', Y, rfl, h', G⟩ := hu
      exact w_nil ⟨_, _, _, rfl, x2.trans x3, st_of h', G⟩
    · rintro σ' H2 ⟨y4, p, X, rfl, x2, h2, F⟩
      rw [show ((((k : Int) + 1).toNat : Nat) : Int) = (k : Int) + 1 by omega] at F
      exact w_ret (vn 3) fun H3 x3 => kq _ H3 (x2.trans x3) ⟨p, X, rfl, ex_t x3 h2, F⟩
end
end PwD
end
/-! ### PwV -/
section
set_option linter.all false
set_option maxRecDepth 100000
set_option maxHeartbeats 8000000
/-! ranks and counts, walked -/
namespace PwD
open PySem PySem.Spec PyProof.Rows L2 Evl Pw Wk PwH
/-- a test of stands as a test of values -/
def tN (f : Nat → Bool) : V → Bool
  | .int i => f i.toNat
  | _ => false
theorem fil_tN {n : Nat} {c f : Nat → Bool} : ((filV n c).filter (tN f)).map (fun x => x) = filV n (fun v => c v && f v) := fil_fil
theorem add1_eq {S : Nat → Bool} {X : Nat → Int} {v : Nat} : add1 S X v = X v + if S v = true then 1 else 0 := by
  unfold add1
  split <;> omega
theorem sub1_eq {S : Nat → Bool} {X : Nat → Int} {v : Nat} : sub1 S X v = X v - if S v = true then 1 else 0 := by
  unfold sub1
  split <;> omega
section
variable {X : Cx} {e it o ix : Expr} {es : List Expr} {rest : List Stmt} {σ : L2.St} {H H0 : Hp} {pos p p2 p3 : Pos} {n m N : Nat} {s : Str} {q a : Addr} {D0 : Ends} {gs : List Nat} {X0 : Nat → Int} {t : Int} {R : List V → Hp → Prop}
theorem v_tupAD (h : VAD X es σ H R) (hl : ∀ vs H1, R vs H1 → vs.length ≤ 100000) : VD X (.Tuple es m pos) σ H (fun u H2 => ∃ p vs H1, u = .ref p ∧ H p = none ∧ R vs H1 ∧ Ex H H1 ∧ Ex H1 H2 ∧ H2 p = some (.tup vs)) := fun H1 e1 Q g =>
  ofE (pe_tup paW) (h H1 e1 _ fun vs H2 e2 hR => ⟨sz_of (hl vs H2 hR), fun p hp => g _ _ (e2.trans (Ex.new hp)) ⟨p, vs, H2, rfl, fresh_back (e1.trans e2) hp, hR, e1.trans e2, Ex.new hp, upd_same⟩⟩)
theorem v_lstAD (h : VAD X es σ H R) (hl : ∀ vs H1, R vs H1 → vs.length ≤ 100000) : VD X (.List es pos) σ H (fun u H2 => ∃ p vs H1, u = .ref p ∧ H p = none ∧ R vs H1 ∧ Ex H H1 ∧ Ex H1 H2 ∧ H2 p = some (.lst vs)) := fun H1 e1 Q g =>
  ofE (pe_lst paW) (h H1 e1 _ fun vs H2 e2 hR => ⟨sz_of (hl vs H2 hR), fun p hp => g _ _ (e2.trans (Ex.new hp)) ⟨p, vs, H2, rfl, fresh_back (e1.trans e2) hp, hR, e1.trans e2, Ex.new hp, upd_same⟩⟩)
/-- for v in gs: R[v] = t -/
theorem w_forPut (lw : LV X n s) (hσ : ∃ y, σ = σ.set n y) (h : VE X it σ H (.ref q)) (hq : H q = some (.lst (lotV gs))) (ha : H a = some (.lst (rowV N X0))) (hx : Ex H0 H) (hn : H0 a = none) (hne : q ≠ a) (hN : ∀ v ∈ gs, v < N)
    (hb : ∀ v H', v ∈ gs → Ex H0 H' → (∀ z, z ≠ a → ∀ o, H z = some o → H' z = some o) → VE X o (σ.set n (some (.int (v : Int)))) H' (.ref a) ∧ VE X ix (σ.set n (some (.int (v : Int)))) H' (.int (v : Int)) ∧ VE X e (σ.set n (some (.int (v : Int)))) H' (.int t))
    (k : ∀ y H', Ex H0 H' → (∀ z, z ≠ a → ∀ o, H z = some o → H' z = some o) → H' a = some (.lst (rowV N fun v => if v ∈ gs then t else X0 v)) → WS X rest D0 (σ.set n y) H')
    (hp : PassesOwn (model X.prog X.w) X.A X.env X.xe := by exact passes_of rfl) (hc : X.calm = true := by rfl) (hf : ∀ x, foldedSetIterable it X.env x = pure x := by intro _; rfl)
    (hA : ∀ v, assign (.Subscript o ix p) X.env v = (do
      let ov ← holding [v] (eval o X.env)
      let iv ← holding [v, ov] (eval ix X.env)
      standAt p
      holding [v, ov, iv] (setItem ov iv v)
      release [v, ov, iv] []) := by intro _; rfl)
    (hs : swapsWithSole [.Subscript o ix p] e p2.line X.env = pure false := by rfl) (hw : swappedStores [.Subscript o ix p] e X.env = pure none := by rfl) (h1 : (assignEach [.Subscript o ix p] X.env).map (·.2) = [assign (.Subscript o ix p) X.env] := by rfl) :
    WS X (.For (.Name s p3) it [.Assign [.Subscript o ix p] e p2] [] pos :: rest) D0 σ H := by
  have hbase : Sq X.K (fun z => if z = a then none else H z) q (lotV gs) := .ls (xs := lotV gs) (by
    show (if q = a then none else H q) = _
    rw [if_neg hne]
    exact hq)
  refine w_forS lw (Hb := fun z => if z = a then none else H z) h hbase (fun i σ' H' => (∃ y, σ' = σ.set n y) ∧ Ex H0 H' ∧ (∀ z, z ≠ a → ∀ o, H z = some o → H' z = some o) ∧ H' a = some (.lst (rowV N fun v => if v ∈ gs.take i then t else X0 v)))
    (fun i σ' H' ⟨_, _, z, _⟩ o hz => by
      have hz' : (if q = a then none else H q) = some o := hz
      rw [if_neg hne] at hz'
      exact z _ hne _ hz') (fun H1 e1 => ⟨hσ, hx.trans e1, fun z _ o => e1 z o, by
      rw [e1 _ _ ha]
      exact congrArg (fun z => some (HO.lst z)) (rowV_congr fun v _ => by rw [if_neg (by simp)])⟩) ?_ ?_ hp hc hf
  · rintro i x σ' H' hx' ⟨⟨y, rfl⟩, x1, x2, x3⟩
    obtain ⟨v, hv, rfl⟩ : ∃ v, gs[i]? = some v ∧ x = .int (v : Int) := by
      unfold lotV at hx'
      rw [List.getElem?_map] at hx'
      cases e : gs[i]? with
      | none => rw [e] at hx'; cases hx'
      | some v => rw [e] at hx'; exact ⟨v, rfl, (Option.some.inj hx').symm⟩
    have hm := List.mem_of_getElem? hv
    have tk : gs.take (i + 1) = gs.take i ++ [v] := by rw [List.take_add_one, hv]; rfl
    rw [List.set_set]
    obtain ⟨b1, b2, b3⟩ := hb v H' hm x1 x2
    refine w_setix (n := v) x3 b3 b1 b2 (by rw [rowV_len]; exact hN v hm) (fun H2 e2 => ?_) hA hs hw h1
    refine w_nil ⟨⟨_, rfl⟩, Ex.mut (x1.trans e2) hn, fun z hz o ho => by rw [upd_ne hz]; exact e2 _ _ (x2 z hz o ho), ?_⟩
    rw [upd_same, rowV_set]
    refine congrArg (fun z => some (HO.lst z)) (rowV_congr fun u hu => ?_)
    rw [tk]
    by_cases e : u = v
    · subst e
      rw [if_pos rfl, if_pos (by simp)]
    · rw [if_neg e]
      by_cases e2 : u ∈ gs.take i
      · rw [if_pos e2, if_pos (by simp [e2])]
      · rw [if_neg e2, if_neg (by simp [e2, e])]
  · rintro σ' H' ⟨⟨y, rfl⟩, x1, x2, x3⟩
    have tl : gs.take (lotV gs).length = gs := by rw [lotV_len]; exact List.take_length
    rw [tl] at x3
    exact k y H' x1 x2 x3
end
theorem rkR_next {W : Web} {c : Nat → Bool} {K : Int} {X : Nat → Int} {i v : Nat} : rkR W c K X (i + 1) v = if (lvR W c K X i v && outR W X (lvR W c K X i) v) = true then (i : Int) + 1 else rkR W c K X i v := rfl
theorem lvR_next {W : Web} {c : Nat → Bool} {K : Int} {X : Nat → Int} {i v : Nat} : lvR W c K X (i + 1) v = (lvR W c K X i v && !outR W X (lvR W c K X i) v) := rfl
theorem rkC_next {W : Web} {c : Nat → Bool} {K : Int} {X : Nat → Int} {i v : Nat} : rkC W c K X (i + 1) v = if (lvC W c K X i v && outC W c K X (lvC W c K X i) v) = true then (i : Int) + 1 else rkC W c K X i v := rfl
theorem lvC_next {W : Web} {c : Nat → Bool} {K : Int} {X : Nat → Int} {i v : Nat} : lvC W c K X (i + 1) v = (lvC W c K X i v && !outC W c K X (lvC W c K X i) v) := rfl
theorem rkR_fin {W : Web} {c : Nat → Bool} {K : Int} {X : Nat → Int} {i : Nat} (h : ∀ v, lvR W c K X i v = false) : rkR W c K X i = rkR W c K X W.n :=
  (stuck_same (fun v z => by rw [show lev (lr0 W c K X) (outR W X) i v = false from h v] at z; cases z) (lev_end lr0_lt)).2
theorem rkC_fin {W : Web} {c : Nat → Bool} {K : Int} {X : Nat → Int} {i : Nat} (h : ∀ v, lvC W c K X i v = false) : rkC W c K X i = rkC W c K X W.n :=
  (stuck_same (fun v z => by rw [show lev (lc0 W X) (outC W c K X) i v = false from h v] at z; cases z) (lev_end lc0_lt)).2
theorem in_filL {n : Nat} {c : Nat → Bool} {v : Nat} : v ∈ (List.range n).filter c ↔ v < n ∧ c v = true := by rw [List.mem_filter, List.mem_range]
section
variable {P : Program} {w : World} {K : PySem.W.Frag} {mg : Str → Option Value} {base : Heap}
def spFall (K : PySem.W.Frag) : Sp := fun vs H Q _ => ∃ (q c a : Addr) (W : Web) (cl : Nat → Bool) (X : Nat → Int) (k : Nat), vs = [.ref q, .int (k : Int), .ref c, .ref a] ∧ W.Ok ∧ WebAt K H q W ∧ Fil K H c W.n cl ∧ Row K H a W.n X ∧ IsFev W cl ((k : Int) + 1) X ∧
  RetD (fun u H2 => ∃ p t1 t2, u = .ref p ∧ H2 p = some (.tup [.ref t1, .ref t2]) ∧ SqT K H2 t1 (rowV W.n (rkR W cl ((k : Int) + 1) X W.n))) H Q
theorem d_fall (T : Hd K mg) : Dn P w K mg base 5 "call_fall_out" [] (spFall K) := by
  refine fn_dn (F_call_fall_out T) sc_call_fall_out (fun vs H Q E h => ?_) B_call_fall_out fun f cdv A outer s H vs Q E hr h => ?_
  · obtain ⟨_, _, _, _, _, _, _, rfl, _⟩ := h
    rfl
  · obtain ⟨q, c, a, W, cl, X, k, rfl, ok, hW, hC, hX, F, kq⟩ := h
    have hn5 := ok.n5
    have hr2 : Room 2 _ := hr.mono (by decide)
    obtain ⟨sl, qd, qf, qm, qv, qs, s1, s2, o⟩ := id hW
    -- ranks = [0] * web.size
    refine w_setL (lv sc_call_fall_out.nd 4) (v_repL (n := W.n) (v_lst (a_cons v_int a_nil) (by simp)) (v_size T hr2 (vn 0) o) (by omega) (by simp)) fun p4 H1 hp4 x1 h4 => ?_
    rw [rep_row] at h4
    -- left
    refine w_setL (xs := filV W.n (lvR W cl ((k : Int) + 1) X 0)) (lv sc_call_fall_out.nd 6) (ccv <| by
      have e : filV W.n (lvR W cl ((k : Int) + 1) X 0) = filV W.n (fun v => W.mv v && (!cl v && decide (X v ≤ (k : Int)))) := filV_congr fun v hv => by
        show (decide (v < W.n) && (W.mv v && (!cl v && decide (X v < (k : Int) + 1)))) = _
        rw [decide_eq_true hv, Bool.true_and]
        congr 2
        exact decide_eq_decide.mpr (by omega)
      rw [e, ← fil_tN]
      exact c_fltS (n := 5) sc_call_fall_out.nd (bk sc_call_fall_out (by decide +kernel)) (v_moving T hr2 (vn 0) (o.ex x1)) (o.moving.ex x1) (by have := filV_len (n := W.n) (c := W.mv); omega) (tN fun v => !cl v && decide (X v ≤ (k : Int))) (fun x => x) (fun y hy s0 H0 C cl1 fp => by
        obtain ⟨v, hv, _, rfl⟩ := fil_mem hy
        show VT _ _ _ _ (!cl v && decide (X v ≤ (k : Int)))
        rw [← in_fil (n := W.n) (c := cl) hv]
        exact t_bool (p_and (t_niS (vn 5) (vn 2) (hC.ex x1) rfl lot_flat) fun _ => p_and1 (t_le (v_ix (n := v) (vn 3) (vn 5) (hX.ex x1) (rowV_at hv)) (vn 1)))) (fun y hy _ s0 H0 C cl1 fp => vn 5)) fun p6 H2 hp6 x2 h6 => ?_
    -- turn = 0
    refine w_set (lv sc_call_fall_out.nd 7) v_int fun H3 x3 => ?_
    refine w_while (fun m σ' H' => ∃ (i : Nat) (y5 y8 y9 : Option V) (pl : Addr), σ' = [some (.ref q), some (.int (k : Int)), some (.ref c), some (.ref a), some (.ref p4), y5, some (.ref pl), some (.int (i : Int)), y8, y9] ∧ Ex H H' ∧ pl ≠ p4 ∧
        H' p4 = some (.lst (rowV W.n (rkR W cl ((k : Int) + 1) X i))) ∧ H' pl = some (.lst (filV W.n (lvR W cl ((k : Int) + 1) X i))) ∧ cnt W.n (lvR W cl ((k : Int) + 1) X i) ≤ m)
      W.n ⟨0, none, none, none, p6, rfl, (x1.trans x2).trans x3, (ne_of_none h4 hp6).symm, x3 _ _ (x2 _ _ h4), x3 _ _ h6, cnt_le⟩ ?_
    rintro m σ' H4 ⟨i, y5, y8, y9, pl, rfl, x4, hne, a4, a6, hm⟩
    refine ⟨_, t_seq (vn 6) (.ls a6), fun hc H5 x5 => ?_, fun hc H5 x5 => ?_⟩
    · have hex : ∃ v, lvR W cl ((k : Int) + 1) X i v = true := Classical.byContradiction fun ne => by
        have : (filV W.n (lvR W cl ((k : Int) + 1) X i)).isEmpty = true := fil_empty.mpr fun v hv => by
          cases e : lvR W cl ((k : Int) + 1) X i v with
          | false => rfl
          | true => exact absurd ⟨v, e⟩ ne
        rw [this] at hc
        cases hc
      refine ⟨fun σ2 H2 => ∃ m', m' < m ∧ ∃ (i : Nat) (y5 y8 y9 : Option V) (pl : Addr), σ2 = [some (.ref q), some (.int (k : Int)), some (.ref c), some (.ref a), some (.ref p4), y5, some (.ref pl), some (.int (i : Int)), y8, y9] ∧ Ex H H2 ∧ pl ≠ p4 ∧
        H2 p4 = some (.lst (rowV W.n (rkR W cl ((k : Int) + 1) X i))) ∧ H2 pl = some (.lst (filV W.n (lvR W cl ((k : Int) + 1) X i))) ∧ cnt W.n (lvR W cl ((k : Int) + 1) X i) ≤ m', fun _ _ z => z, ?_⟩
      -- turn += 1
      refine w_aug (lv sc_call_fall_out.nd 7) rfl v_int fun H6 x6 => ?_
      have xx := (x4.trans x5).trans x6
      have b6 := x6 _ _ (x5 _ _ a6)
      have b4 := x6 _ _ (x5 _ _ a4)
      -- raised
      refine w_setL (xs := rowV W.n (add1 (lvR W cl ((k : Int) + 1) X i) X)) (lv sc_call_fall_out.nd 8) (ccv (c_mapR (n := 5) T.fre sc_call_fall_out.nd (bk sc_call_fall_out (by decide +kernel)) (v_size T hr2 (vn 0) (o.ex xx)) (by omega) (fun v => .int (add1 (lvR W cl ((k : Int) + 1) X i) X v)) (fun v hv s0 H0 C cl1 fp => by
        refine v_if (t_inS (vn 5) (vn 6) (.ls b6) rfl lot_flat) (fun hcc => ?_) (fun hcc => ?_)
        · rw [in_fil (c := lvR W cl ((k : Int) + 1) X i) hv] at hcc
          rw [show add1 (lvR W cl ((k : Int) + 1) X i) X v = X v + 1 from if_pos hcc]
          exact v_add (v_ix (n := v) (vn 3) (vn 5) (hX.ex xx) (rowV_at hv)) v_int
        · rw [in_fil (c := lvR W cl ((k : Int) + 1) X i) hv] at hcc
          rw [show add1 (lvR W cl ((k : Int) + 1) X i) X v = X v from if_neg (by rw [hcc]; simp)]
          exact v_ix (n := v) (vn 3) (vn 5) (hX.ex xx) (rowV_at hv)))) fun p8 H7 hp8 x7 h8 => ?_
      have xx7 := xx.trans x7
      have c6 := x7 _ _ b6
      have c4 := x7 _ _ b4
      -- leaving
      refine w_setL (xs := filV W.n (fun v => lvR W cl ((k : Int) + 1) X i v && outR W X (lvR W cl ((k : Int) + 1) X i) v)) (lv sc_call_fall_out.nd 9) (ccv <| by
        rw [← fil_tN]
        exact c_fltS (n := 5) sc_call_fall_out.nd (bk sc_call_fall_out (by decide +kernel)) (vn 6) (.ls c6) (by have := filV_len (n := W.n) (c := lvR W cl ((k : Int) + 1) X i); omega) (tN (outR W X (lvR W cl ((k : Int) + 1) X i))) (fun x => x) (fun y hy s0 H0 C cl1 fp => by
          obtain ⟨v, hv, hl, rfl⟩ := fil_mem hy
          have hmv : W.mv v = true := (lr0_iff.mp (lvR_in hl)).2.1
          exact t_le (v_call (d_price T) hr (a_cons (vn 0) (a_cons (vn 1) (a_cons (vn 8) (a_cons (vn 5) a_nil)))) (fun H8 x8 Q8 k8 E8 => ⟨q, p8, W, _, v, (k : Int), rfl, ok, hW.ex (xx7.trans x8), .ls (x8 _ _ h8), hv, by rw [show prK W ((k : Int) + 1) (add1 (lvR W cl ((k : Int) + 1) X i) X) v = W.pr (add1 (lvR W cl ((k : Int) + 1) X i) X) v from if_pos hmv]; exact k8⟩)) (v_ix (n := v) (vn 3) (vn 5) (hX.ex xx7) (rowV_at hv))) (fun y hy _ s0 H0 C cl1 fp => vn 5)) fun p9 H8 hp9 x8 h9 => ?_
      have xx8 := xx7.trans x8
      have hout : ∃ v, v < W.n ∧ lvR W cl ((k : Int) + 1) X i v = true ∧ outR W X (lvR W cl ((k : Int) + 1) X i) v = true := Classical.byContradiction fun ne => by
        obtain ⟨v, hv⟩ := hex
        have := rk_stuck ok F (S := lvR W cl ((k : Int) + 1) X i) (fun _ => lvR_in) (fun u hu => by
          cases e : outR W X (lvR W cl ((k : Int) + 1) X i) u with
          | false => rfl
          | true => exact absurd ⟨u, (lr0_iff.mp (lvR_in hu)).1, hu, e⟩ ne) v
        rw [hv] at this
        cases this
      -- if not leaving: break
      refine w_skip (t_not (t_seq (vn 9) (.ls h9))) (by
        obtain ⟨v, hv, h1, h2⟩ := hout
        cases e : (filV W.n (fun v => lvR W cl ((k : Int) + 1) X i v && outR W X (lvR W cl ((k : Int) + 1) X i) v)).isEmpty with
        | false => rfl
        | true =>
          have := fil_empty.mp e v hv
          rw [h1, h2] at this
          cases this) fun H9 x9 => ?_
      have xx9 := xx8.trans x9
      have d4 := x9 _ _ (x8 _ _ c4)
      have d6 := x9 _ _ (x8 _ _ c6)
      have d9 := x9 _ _ h9
      refine w_forPut (lv sc_call_fall_out.nd 5) ⟨_, rfl⟩ (H0 := H) (N := W.n) (t := (i : Int) + 1) (X0 := rkR W cl ((k : Int) + 1) X i) (gs := (List.range W.n).filter (fun v => lvR W cl ((k : Int) + 1) X i v && outR W X (lvR W cl ((k : Int) + 1) X i) v)) (q := p9) (a := p4) (vn 9) d9 d4 xx9 hp4 (ne_of_none c4 hp9).symm (fun v hv => (in_filL.mp hv).1)
        (fun v H' hv e1 e2 => ⟨vn 4, vn 5, vn 7⟩) fun y H10 e1 e2 h10 => ?_
      have h10' : H10 p4 = some (.lst (rowV W.n (rkR W cl ((k : Int) + 1) X (i + 1)))) := by
        rw [h10]
        refine congrArg (fun z => some (HO.lst z)) (rowV_congr fun v hv => ?_)
        rw [rkR_next]
        by_cases e : (lvR W cl ((k : Int) + 1) X i v && outR W X (lvR W cl ((k : Int) + 1) X i) v) = true
        · rw [if_pos (in_filL.mpr ⟨hv, e⟩), if_pos e]
        · rw [if_neg (fun z => e (in_filL.mp z).2), if_neg e]
      have f6 := e2 _ hne _ d6
      have f9 := e2 _ (ne_of_none c4 hp9).symm _ d9
      -- left
      refine w_setL (xs := filV W.n (lvR W cl ((k : Int) + 1) X (i + 1))) (lv sc_call_fall_out.nd 6) (ccv <| by
        have e : filV W.n (lvR W cl ((k : Int) + 1) X (i + 1)) = filV W.n (fun v => lvR W cl ((k : Int) + 1) X i v && !(lvR W cl ((k : Int) + 1) X i v && outR W X (lvR W cl ((k : Int) + 1) X i) v)) := filV_congr fun v hv => by
          rw [lvR_next]
          cases lvR W cl ((k : Int) + 1) X i v <;> rfl
        rw [e, ← fil_tN]
        exact c_fltS (n := 5) sc_call_fall_out.nd (bk sc_call_fall_out (by decide +kernel)) (vn 6) (.ls f6) (by have := filV_len (n := W.n) (c := lvR W cl ((k : Int) + 1) X i); omega) (tN fun v => !(lvR W cl ((k : Int) + 1) X i v && outR W X (lvR W cl ((k : Int) + 1) X i) v)) (fun x => x) (fun y hy s0 H0 C cl1 fp => by
          obtain ⟨v, hv, hl, rfl⟩ := fil_mem hy
          show VT _ _ _ _ (!(lvR W cl ((k : Int) + 1) X i v && outR W X (lvR W cl ((k : Int) + 1) X i) v))
          rw [← in_fil (n := W.n) (c := fun v => lvR W cl ((k : Int) + 1) X i v && outR W X (lvR W cl ((k : Int) + 1) X i) v) hv]
          exact t_niS (vn 5) (vn 9) (.ls f9) rfl lot_flat) (fun y hy _ s0 H0 C cl1 fp => vn 5)) fun p6' H11 hp6' x11 h11 => ?_
      refine w_nil ⟨cnt W.n (lvR W cl ((k : Int) + 1) X (i + 1)), ?_, i + 1, y, some (.ref p8), some (.ref p9), p6', rfl, e1.trans x11, (ne_of_none h10' hp6').symm, x11 _ _ h10', h11, Nat.le_refl _⟩
      · obtain ⟨v, _, h1, h2⟩ := hout
        exact Nat.lt_of_lt_of_le (lev_lt lr0_lt ⟨v, h1, h2⟩) hm
    · -- left is empty
      have em : ∀ v, lvR W cl ((k : Int) + 1) X i v = false := fun v => by
        have z : (filV W.n (lvR W cl ((k : Int) + 1) X i)).isEmpty = true := by simpa using hc
        cases e : lvR W cl ((k : Int) + 1) X i v with
        | false => rfl
        | true =>
          have := fil_empty.mp z v (lr0_iff.mp (lvR_in e)).1
          rw [e] at this
          cases this
      have nil : filV W.n (lvR W cl ((k : Int) + 1) X i) = [] := by
        have z : (filV W.n (lvR W cl ((k : Int) + 1) X i)).isEmpty = true := by simpa using hc
        exact List.isEmpty_iff.mp z
      rw [nil] at a6
      rw [rkR_fin em] at a4
      refine w_forS (Hb := H5) (lv sc_call_fall_out.nd 5) (vn 6) (.ls (xs := []) (x5 _ _ a6)) (fun _ σ' H' => ∃ y, σ' = [some (.ref q), some (.int (k : Int)), some (.ref c), some (.ref a), some (.ref p4), y, some (.ref pl), some (.int (i : Int)), y8, y9] ∧ Ex H5 H') (fun _ _ H' ⟨_, _, z⟩ o => z _ o) (fun H6 x6 => ⟨_, rfl, x6⟩) (fun i x σ' H' hx => by simp at hx) ?_
      rintro σ' H6 ⟨y, rfl, x6⟩
      have x46 := (x4.trans x5).trans x6
      refine w_retD (v_tupAD (R := fun vs H2 => ∃ t1 t2, vs = [.ref t1, .ref t2] ∧ SqT K H2 t1 (rowV W.n (rkR W cl ((k : Int) + 1) X W.n))) (ad_cons (v_tupS T.fre (vn 4) (.ls (x6 _ _ (x5 _ _ a4)))) fun u H7 e7 hu => ad_last (v_tupS T.fre (vn 6) (.ls (e7 _ _ (x6 _ _ (x5 _ _ a6))))) fun u2 H8 e8 hu2 => ?_) (fun vs H1 ⟨_, _, e, _⟩ => by rw [e]; simp)) fun u H7 e7 hu => ?_
      · obtain ⟨t1, rfl, h1⟩ := hu
        obtain ⟨t2, rfl, h2⟩ := hu2
        exact ⟨t1, t2, rfl, ex_t e8 h1⟩
      · obtain ⟨p, vs, H8, rfl, hp, ⟨t1, t2, rfl, h1⟩, e8, e9, h9⟩ := hu
        exact kq _ H7 (x46.trans e7) ⟨p, t1, t2, rfl, h9, ex_t e9 h1⟩
end
end PwD
end
/-! ### PwVb -/
section
set_option linter.all false
set_option maxRecDepth 100000
set_option maxHeartbeats 8000000
/-! counts, walked -/
namespace PwD
open PySem PySem.Spec PyProof.Rows L2 Evl Pw Wk PwH
section
variable {P : Program} {w : World} {K : PySem.W.Frag} {mg : Str → Option Value} {base : Heap}
def spCount (K : PySem.W.Frag) : Sp := fun vs H Q _ => ∃ (q c a : Addr) (W : Web) (cl : Nat → Bool) (X : Nat → Int) (k : Nat), vs = [.ref q, .int (k : Int), .ref c, .ref a] ∧ W.Ok ∧ WebAt K H q W ∧ Fil K H c W.n cl ∧ Row K H a W.n X ∧ IsFev W cl ((k : Int) + 1) X ∧
  RetD (fun u H2 => ∃ p t1 t2, u = .ref p ∧ H2 p = some (.tup [.ref t1, .ref t2]) ∧ SqT K H2 t1 (rowV W.n (rkC W cl ((k : Int) + 1) X W.n))) H Q
theorem d_count (T : Hd K mg) : Dn P w K mg base 7 "call_count_out" [] (spCount K) := by
  refine fn_dn (F_call_count_out T) sc_call_count_out (fun vs H Q E h => ?_) B_call_count_out fun f cdv A outer s H vs Q E hr h => ?_
  · obtain ⟨_, _, _, _, _, _, _, rfl, _⟩ := h
    rfl
  · obtain ⟨q, c, a, W, cl, X, k, rfl, ok, hW, hC, hX, F, kq⟩ := h
    have hn5 := ok.n5
    have hK : (0 : Int) ≤ (k : Int) + 1 := by omega
    have hr2 : Room 2 _ := hr.mono (by decide)
    obtain ⟨sl, qd, qf, qm, qv, qs, s1, s2, o⟩ := id hW
    -- ranks = [0] * web.size
    refine w_setL (lv sc_call_count_out.nd 4) (v_repL (n := W.n) (v_lst (a_cons v_int a_nil) (by simp)) (v_size T hr2 (vn 0) o) (by omega) (by simp)) fun p4 H1 hp4 x1 h4 => ?_
    rw [rep_row] at h4
    -- left
    refine w_setL (xs := filV W.n (lvC W cl ((k : Int) + 1) X 0)) (lv sc_call_count_out.nd 6) (ccv <| by
      have e : filV W.n (lvC W cl ((k : Int) + 1) X 0) = filV W.n (fun v => W.mv v && decide (1 ≤ X v)) := filV_congr fun v hv => by
        show (decide (v < W.n) && (W.mv v && decide (1 ≤ X v))) = _
        rw [decide_eq_true hv, Bool.true_and]
      rw [e, ← fil_tN]
      exact c_fltS (n := 5) sc_call_count_out.nd (bk sc_call_count_out (by decide +kernel)) (v_moving T hr2 (vn 0) (o.ex x1)) (o.moving.ex x1) (by have := filV_len (n := W.n) (c := W.mv); omega) (tN fun v => decide (1 ≤ X v)) (fun x => x) (fun y hy s0 H0 C cl1 fp => by
        obtain ⟨v, hv, _, rfl⟩ := fil_mem hy
        exact t_ge (v_ix (n := v) (vn 3) (vn 5) (hX.ex x1) (rowV_at hv)) v_int) (fun y hy _ s0 H0 C cl1 fp => vn 5)) fun p6 H2 hp6 x2 h6 => ?_
    -- turn = 0
    refine w_set (lv sc_call_count_out.nd 7) v_int fun H3 x3 => ?_
    refine w_while (fun m σ' H' => ∃ (i : Nat) (y5 y8 y9 y10 : Option V) (pl : Addr), σ' = [some (.ref q), some (.int (k : Int)), some (.ref c), some (.ref a), some (.ref p4), y5, some (.ref pl), some (.int (i : Int)), y8, y9, y10] ∧ Ex H H' ∧ pl ≠ p4 ∧
        H' p4 = some (.lst (rowV W.n (rkC W cl ((k : Int) + 1) X i))) ∧ H' pl = some (.lst (filV W.n (lvC W cl ((k : Int) + 1) X i))) ∧ cnt W.n (lvC W cl ((k : Int) + 1) X i) ≤ m)
      W.n ⟨0, none, none, none, none, p6, rfl, (x1.trans x2).trans x3, (ne_of_none h4 hp6).symm, x3 _ _ (x2 _ _ h4), x3 _ _ h6, cnt_le⟩ ?_
    rintro m σ' H4 ⟨i, y5, y8, y9, y10, pl, rfl, x4, hne, a4, a6, hm⟩
    refine ⟨_, t_seq (vn 6) (.ls a6), fun hc H5 x5 => ?_, fun hc H5 x5 => ?_⟩
    · have hex : ∃ v, lvC W cl ((k : Int) + 1) X i v = true := Classical.byContradiction fun ne => by
        have : (filV W.n (lvC W cl ((k : Int) + 1) X i)).isEmpty = true := fil_empty.mpr fun v hv => by
          cases e : lvC W cl ((k : Int) + 1) X i v with
          | false => rfl
          | true => exact absurd ⟨v, e⟩ ne
        rw [this] at hc
        cases hc
      refine ⟨fun σ2 H2 => ∃ m', m' < m ∧ ∃ (i : Nat) (y5 y8 y9 y10 : Option V) (pl : Addr), σ2 = [some (.ref q), some (.int (k : Int)), some (.ref c), some (.ref a), some (.ref p4), y5, some (.ref pl), some (.int (i : Int)), y8, y9, y10] ∧ Ex H H2 ∧ pl ≠ p4 ∧
        H2 p4 = some (.lst (rowV W.n (rkC W cl ((k : Int) + 1) X i))) ∧ H2 pl = some (.lst (filV W.n (lvC W cl ((k : Int) + 1) X i))) ∧ cnt W.n (lvC W cl ((k : Int) + 1) X i) ≤ m', fun _ _ z => z, ?_⟩
      -- turn += 1
      refine w_aug (lv sc_call_count_out.nd 7) rfl v_int fun H6 x6 => ?_
      have xx := (x4.trans x5).trans x6
      have b6 := x6 _ _ (x5 _ _ a6)
      have b4 := x6 _ _ (x5 _ _ a4)
      -- lessened
      refine w_setC (xs := rowV W.n (sub1 (lvC W cl ((k : Int) + 1) X i) X)) (lv sc_call_count_out.nd 8) rfl (c_mapR (n := 5) T.fre sc_call_count_out.nd (bk sc_call_count_out (by decide +kernel)) (v_size T hr2 (vn 0) (o.ex xx)) (by omega) (fun v => .int (sub1 (lvC W cl ((k : Int) + 1) X i) X v)) (fun v hv s0 H0 C cl1 fp => by
        refine v_if (t_inS (vn 5) (vn 6) (.ls b6) rfl lot_flat) (fun hcc => ?_) (fun hcc => ?_)
        · rw [in_fil (c := lvC W cl ((k : Int) + 1) X i) hv] at hcc
          rw [show sub1 (lvC W cl ((k : Int) + 1) X i) X v = X v - 1 from if_pos hcc]
          exact v_sub (v_ix (n := v) (vn 3) (vn 5) (hX.ex xx) (rowV_at hv)) v_int
        · rw [in_fil (c := lvC W cl ((k : Int) + 1) X i) hv] at hcc
          rw [show sub1 (lvC W cl ((k : Int) + 1) X i) X v = X v from if_neg (by rw [hcc]; simp)]
          exact v_ix (n := v) (vn 3) (vn 5) (hX.ex xx) (rowV_at hv))) (sw_true rfl rfl rfl (by decide +kernel)) fun p8 H7' hp8 x7' h8 => ?_
      obtain ⟨z0, RR, rle⟩ := rnd_sub ok hK F (S := lvC W cl ((k : Int) + 1) X i) fun w hw => (lc0_iff.mp (lvC_in hw)).2.2
      -- after
      refine w_setD (lv sc_call_count_out.nd 9) (v_callD (d_rof T) hr (a_cons (vn 0) (a_cons (vn 1) (a_cons (vn 2) (a_cons (vn 8) a_nil)))) (P := RndT K W cl ((k : Int) + 1) (fun _ => (k : Int) + 1) (sub1 (lvC W cl ((k : Int) + 1) X i) X)) fun H8 e8 Q8 g8 E8 => ⟨q, c, p8, W, cl, _, k, rfl, ok, hW.ex ((xx.trans x7').trans e8), hC.ex ((xx.trans x7').trans e8), .ls (e8 _ _ h8), z0, g8⟩) fun u H7 x7'' hu => ?_
      obtain ⟨Y, pa, RY, rfl, ha⟩ := hu
      have eY : ∀ v, v < W.n → Y v = rnd W cl ((k : Int) + 1) (sub1 (lvC W cl ((k : Int) + 1) X i) X) v := RY.uniq RR
      have x7 := x7'.trans x7''
      have xx7 := xx.trans x7
      have c6 := x7 _ _ b6
      have c4 := x7 _ _ b4
      -- leaving
      refine w_setL (xs := filV W.n (fun v => lvC W cl ((k : Int) + 1) X i v && outC W cl ((k : Int) + 1) X (lvC W cl ((k : Int) + 1) X i) v)) (lv sc_call_count_out.nd 10) (ccv <| by
        rw [← fil_tN]
        exact c_fltS (n := 5) sc_call_count_out.nd (bk sc_call_count_out (by decide +kernel)) (vn 6) (.ls c6) (by have := filV_len (n := W.n) (c := lvC W cl ((k : Int) + 1) X i); omega) (tN (outC W cl ((k : Int) + 1) X (lvC W cl ((k : Int) + 1) X i))) (fun x => x) (fun y hy s0 H0 C cl1 fp => by
          obtain ⟨v, hv, hl, rfl⟩ := fil_mem hy
          show VT _ _ _ _ (decide (X v ≤ rnd W cl ((k : Int) + 1) (sub1 (lvC W cl ((k : Int) + 1) X i) X) v))
          rw [← eY v hv]
          exact t_ge (v_ix (n := v) (vn 9) (vn 5) (.inr ha) (rowV_at hv)) (v_ix (n := v) (vn 3) (vn 5) (hX.ex xx7) (rowV_at hv))) (fun y hy _ s0 H0 C cl1 fp => vn 5)) fun p9 H8 hp9 x8 h9 => ?_
      have xx8 := xx7.trans x8
      have hout : ∃ v, v < W.n ∧ lvC W cl ((k : Int) + 1) X i v = true ∧ outC W cl ((k : Int) + 1) X (lvC W cl ((k : Int) + 1) X i) v = true := Classical.byContradiction fun ne => by
        obtain ⟨v, hv⟩ := hex
        have := ct_stuck ok hK F (S := lvC W cl ((k : Int) + 1) X i) (fun _ => lvC_in) (fun u hu => by
          cases e : outC W cl ((k : Int) + 1) X (lvC W cl ((k : Int) + 1) X i) u with
          | false => rfl
          | true => exact absurd ⟨u, (lc0_iff.mp (lvC_in hu)).1, hu, e⟩ ne) v
        rw [hv] at this
        cases this
      -- if not leaving: break
      refine w_skip (t_not (t_seq (vn 10) (.ls h9))) (by
        obtain ⟨v, hv, h1, h2⟩ := hout
        cases e : (filV W.n (fun v => lvC W cl ((k : Int) + 1) X i v && outC W cl ((k : Int) + 1) X (lvC W cl ((k : Int) + 1) X i) v)).isEmpty with
        | false => rfl
        | true =>
          have := fil_empty.mp e v hv
          rw [h1, h2] at this
          cases this) fun H9 x9 => ?_
      have xx9 := xx8.trans x9
      have d4 := x9 _ _ (x8 _ _ c4)
      have d6 := x9 _ _ (x8 _ _ c6)
      have d9 := x9 _ _ h9
      refine w_forPut (lv sc_call_count_out.nd 5) ⟨_, rfl⟩ (H0 := H) (N := W.n) (t := (i : Int) + 1) (X0 := rkC W cl ((k : Int) + 1) X i) (gs := (List.range W.n).filter (fun v => lvC W cl ((k : Int) + 1) X i v && outC W cl ((k : Int) + 1) X (lvC W cl ((k : Int) + 1) X i) v)) (q := p9) (a := p4) (vn 10) d9 d4 xx9 hp4 (ne_of_none c4 hp9).symm (fun v hv => (in_filL.mp hv).1)
        (fun v H' hv e1 e2 => ⟨vn 4, vn 5, vn 7⟩) fun y H10 e1 e2 h10 => ?_
      have h10' : H10 p4 = some (.lst (rowV W.n (rkC W cl ((k : Int) + 1) X (i + 1)))) := by
        rw [h10]
        refine congrArg (fun z => some (HO.lst z)) (rowV_congr fun v hv => ?_)
        rw [rkC_next]
        by_cases e : (lvC W cl ((k : Int) + 1) X i v && outC W cl ((k : Int) + 1) X (lvC W cl ((k : Int) + 1) X i) v) = true
        · rw [if_pos (in_filL.mpr ⟨hv, e⟩), if_pos e]
        · rw [if_neg (fun z => e (in_filL.mp z).2), if_neg e]
      have f6 := e2 _ hne _ d6
      have f9 := e2 _ (ne_of_none c4 hp9).symm _ d9
      -- left
      refine w_setL (xs := filV W.n (lvC W cl ((k : Int) + 1) X (i + 1))) (lv sc_call_count_out.nd 6) (ccv <| by
        have e : filV W.n (lvC W cl ((k : Int) + 1) X (i + 1)) = filV W.n (fun v => lvC W cl ((k : Int) + 1) X i v && !(lvC W cl ((k : Int) + 1) X i v && outC W cl ((k : Int) + 1) X (lvC W cl ((k : Int) + 1) X i) v)) := filV_congr fun v hv => by
          rw [lvC_next]
          cases lvC W cl ((k : Int) + 1) X i v <;> rfl
        rw [e, ← fil_tN]
        exact c_fltS (n := 5) sc_call_count_out.nd (bk sc_call_count_out (by decide +kernel)) (vn 6) (.ls f6) (by have := filV_len (n := W.n) (c := lvC W cl ((k : Int) + 1) X i); omega) (tN fun v => !(lvC W cl ((k : Int) + 1) X i v && outC W cl ((k : Int) + 1) X (lvC W cl ((k : Int) + 1) X i) v)) (fun x => x) (fun y hy s0 H0 C cl1 fp => by
          obtain ⟨v, hv, hl, rfl⟩ := fil_mem hy
          show VT _ _ _ _ (!(lvC W cl ((k : Int) + 1) X i v && outC W cl ((k : Int) + 1) X (lvC W cl ((k : Int) + 1) X i) v))
          rw [← in_fil (n := W.n) (c := fun v => lvC W cl ((k : Int) + 1) X i v && outC W cl ((k : Int) + 1) X (lvC W cl ((k : Int) + 1) X i) v) hv]
          exact t_niS (vn 5) (vn 10) (.ls f9) rfl lot_flat) (fun y hy _ s0 H0 C cl1 fp => vn 5)) fun p6' H11 hp6' x11 h11 => ?_
      refine w_nil ⟨cnt W.n (lvC W cl ((k : Int) + 1) X (i + 1)), ?_, i + 1, y, some (.ref p8), some (.ref pa), some (.ref p9), p6', rfl, e1.trans x11, (ne_of_none h10' hp6').symm, x11 _ _ h10', h11, Nat.le_refl _⟩
      · obtain ⟨v, _, h1, h2⟩ := hout
        exact Nat.lt_of_lt_of_le (lev_lt lc0_lt ⟨v, h1, h2⟩) hm
    · -- left is empty
      have em : ∀ v, lvC W cl ((k : Int) + 1) X i v = false := fun v => by
        have z : (filV W.n (lvC W cl ((k : Int) + 1) X i)).isEmpty = true := by simpa using hc
        cases e : lvC W cl ((k : Int) + 1) X i v with
        | false => rfl
        | true =>
          have := fil_empty.mp z v (lc0_iff.mp (lvC_in e)).1
          rw [e] at this
          cases this
      have nil : filV W.n (lvC W cl ((k : Int) + 1) X i) = [] := by
        have z : (filV W.n (lvC W cl ((k : Int) + 1) X i)).isEmpty = true := by simpa using hc
        exact List.isEmpty_iff.mp z
      rw [nil] at a6
      rw [rkC_fin em] at a4
      refine w_forS (Hb := H5) (lv sc_call_count_out.nd 5) (vn 6) (.ls (xs := []) (x5 _ _ a6)) (fun _ σ' H' => ∃ y, σ' = [some (.ref q), some (.int (k : Int)), some (.ref c), some (.ref a), some (.ref p4), y, some (.ref pl), some (.int (i : Int)), y8, y9, y10] ∧ Ex H5 H') (fun _ _ H' ⟨_, _, z⟩ o => z _ o) (fun H6 x6 => ⟨_, rfl, x6⟩) (fun i x σ' H' hx => by simp at hx) ?_
      rintro σ' H6 ⟨y, rfl, x6⟩
      have x46 := (x4.trans x5).trans x6
      refine w_retD (v_tupAD (R := fun vs H2 => ∃ t1 t2, vs = [.ref t1, .ref t2] ∧ SqT K H2 t1 (rowV W.n (rkC W cl ((k : Int) + 1) X W.n))) (ad_cons (v_tupS T.fre (vn 4) (.ls (x6 _ _ (x5 _ _ a4)))) fun u H7 e7 hu => ad_last (v_tupS T.fre (vn 6) (.ls (e7 _ _ (x6 _ _ (x5 _ _ a6))))) fun u2 H8 e8 hu2 => ?_) (fun vs H1 ⟨_, _, e, _⟩ => by rw [e]; simp)) fun u H7 e7 hu => ?_
      · obtain ⟨t1, rfl, h1⟩ := hu
        obtain ⟨t2, rfl, h2⟩ := hu2
        exact ⟨t1, t2, rfl, ex_t e8 h1⟩
      · obtain ⟨p, vs, H8, rfl, hp, ⟨t1, t2, rfl, h1⟩, e8, e9, h9⟩ := hu
        exact kq _ H7 (x46.trans e7) ⟨p, t1, t2, rfl, h9, ex_t e9 h1⟩
end
end PwD
end
/-! ### PwVc -/
section
set_option linter.all false
set_option maxRecDepth 100000
set_option maxHeartbeats 8000000
/-! the law's ranks and counts, walked -/
namespace PwD
open PySem PySem.Spec PyProof.Rows L2 Evl Pw Wk PwH
section
variable {P : Program} {w : World} {K : PySem.W.Frag} {mg : Str → Option Value} {base : Heap}
/-- a new pair: a row, an empty list -/
def PairL (r : List V) (H : Hp) (u : V) (H2 : Hp) : Prop := ∃ p a b, u = .ref p ∧ H p = none ∧ H a = none ∧ H b = none ∧ H2 p = some (.lst [.ref a, .ref b]) ∧ H2 a = some (.lst r) ∧ H2 b = some (.lst [])
def spLRanks (K : PySem.W.Frag) : Sp := fun vs H Q _ => ∃ (q c a : Addr) (W : Web) (cl : Nat → Bool) (X : Nat → Int) (k : Nat), vs = [.ref q, .int (k : Int), .ref c, .ref a] ∧ W.Ok ∧ k ≤ 60 ∧ LWeb K H q W ∧ Fil K H c W.n cl ∧ Row K H a W.n X ∧ IsFev W cl ((k : Int) + 1) X ∧
  RetD (PairL (rowV W.n (rkR W cl ((k : Int) + 1) X W.n)) H) H Q
theorem d_lranks (T : Hd K mg) : Dn P w K mg base 3 "_law_call_ranks" [] (spLRanks K) := by
  refine fn_dn (F__law_call_ranks T) sc__law_call_ranks (fun vs H Q E h => ?_) B__law_call_ranks fun f cdv A outer s H vs Q E hr h => ?_
  · obtain ⟨_, _, _, _, _, _, _, rfl, _⟩ := h
    rfl
  · obtain ⟨q, c, a, W, cl, X, k, rfl, ok, hk60, hW, hC, hX, F, kq⟩ := h
    have hn5 := ok.n5
    obtain ⟨qf, qs, qm, qd, hL, ⟨as, ha, hl⟩, _, _, _⟩ := id hW
    -- left
    refine w_setL (xs := filV W.n (lvR W cl ((k : Int) + 1) X 0)) (lv sc__law_call_ranks.nd 5) (ccv <| by
      have e : filV W.n (lvR W cl ((k : Int) + 1) X 0) = filV W.n (fun v => W.mv v && (!cl v && decide (X v ≤ (k : Int)))) := filV_congr fun v hv => by
        show (decide (v < W.n) && (W.mv v && (!cl v && decide (X v < (k : Int) + 1)))) = _
        rw [decide_eq_true hv, Bool.true_and]
        congr 2
        exact decide_eq_decide.mpr (by omega)
      rw [e]
      exact c_fltR (n := 4) T.fre sc__law_call_ranks.nd (bk sc__law_call_ranks (by decide +kernel)) (v_lenN T.fre (vn 3) hX rowV_len) (by omega) (fun v => W.mv v && (!cl v && decide (X v ≤ (k : Int)))) iv (fun v hv s0 H0 C cl1 fp => by
        rw [← lenp_mv, ← in_fil (n := W.n) (c := cl) hv]
        exact t_bool (p_and (t_gt (v_lenN (m := (W.s1 v).length) T.fre (v_ix (n := v) (v_ix (n := 0) (vn 0) v_int (.inl hL) rfl) (vn 4) ha (refV_at hv)) (hl v hv) lotV_len) v_int) fun _ => p_and (t_niS (vn 4) (vn 2) hC rfl lot_flat) fun _ => p_and1 (t_le (v_ix (n := v) (vn 3) (vn 4) hX (rowV_at hv)) (vn 1)))) (fun v hv _ s0 H0 C cl1 fp => vn 4)) fun p5 H1 hp5 x1 h5 => ?_
    -- ranks
    have e0 : (rowV W.n X).map (fun _ => V.int 0) = rowV W.n (fun _ => 0) := by
      unfold rowV
      rw [List.map_map]
      rfl
    refine w_setC (xs := rowV W.n fun _ => 0) (lv sc__law_call_ranks.nd 6) rfl (by
      rw [← e0]
      exact c_mapS (n := 10) sc__law_call_ranks.nd (bk sc__law_call_ranks (by decide +kernel)) (vn 3) (hX.ex x1) (by rw [rowV_len]; omega) _ (fun y hy s0 H0 C cl1 fp => v_int)) (sw_true rfl rfl rfl (by decide +kernel)) fun p6 H2 hp6 x2 h6 => ?_
    have hp6' : H p6 = none := fresh_back x1 hp6
    refine w_forR T.fre (lv sc__law_call_ranks.nd 7) (j := (W.n : Int)) (v_lenN T.fre (vn 3) (hX.ex (x1.trans x2)) rowV_len) (by omega)
      (fun i σ' H' => ∃ (y4 y7 y8 y9 : Option V) (pl : Addr), σ' = [some (.ref q), some (.int (k : Int)), some (.ref c), some (.ref a), y4, some (.ref pl), some (.ref p6), y7, y8, y9, none, none] ∧ Ex H H' ∧ pl ≠ p6 ∧ H pl = none ∧
        H' p6 = some (.lst (rowV W.n (rkR W cl ((k : Int) + 1) X i))) ∧ H' pl = some (.lst (filV W.n (lvR W cl ((k : Int) + 1) X i))))
      (fun H3 x3 => ⟨none, none, none, none, p5, rfl, (x1.trans x2).trans x3, ne_of_none h5 hp6, hp5, x3 _ _ h6, x3 _ _ (x2 _ _ h5)⟩) ?_ ?_
    · rintro i σ' H4 hi ⟨y4, y7, y8, y9, pl, rfl, xx, hne, hpl, b4, b6⟩
      -- raised
      refine w_setL (xs := rowV W.n (add1 (lvR W cl ((k : Int) + 1) X i) X)) (lv sc__law_call_ranks.nd 8) (ccv (c_mapR (n := 11) T.fre sc__law_call_ranks.nd (bk sc__law_call_ranks (by decide +kernel)) (v_lenN T.fre (vn 3) (hX.ex xx) rowV_len) (by omega) (fun v => .int (add1 (lvR W cl ((k : Int) + 1) X i) X v)) (fun v hv s0 H0 C cl1 fp => by
        rw [add1_eq, ← in_fil (n := W.n) (c := lvR W cl ((k : Int) + 1) X i) hv]
        exact v_add (v_ix (n := v) (vn 3) (vn 11) (hX.ex xx) (rowV_at hv)) (v_intB T.fre (v_inS (vn 11) (vn 5) (.ls b6) rfl lot_flat))))) fun p8 H7 hp8 x7 h8 => ?_
      have xx7 := xx.trans x7
      have c6 := x7 _ _ b6
      have c4 := x7 _ _ b4
      -- out
      refine w_setL (xs := filV W.n (fun v => lvR W cl ((k : Int) + 1) X i v && outR W X (lvR W cl ((k : Int) + 1) X i) v)) (lv sc__law_call_ranks.nd 9) (ccv <| by
        rw [← fil_tN]
        exact c_fltS (n := 4) sc__law_call_ranks.nd (bk sc__law_call_ranks (by decide +kernel)) (vn 5) (.ls c6) (by have := filV_len (n := W.n) (c := lvR W cl ((k : Int) + 1) X i); omega) (tN (outR W X (lvR W cl ((k : Int) + 1) X i))) (fun x => x) (fun y hy s0 H0 C cl1 fp => by
          obtain ⟨v, hv, hl, rfl⟩ := fil_mem hy
          have hmv : W.mv v = true := (lr0_iff.mp (lvR_in hl)).2.1
          exact t_le (v_call (d_lprice T) hr (a_cons (vn 0) (a_cons (vn 1) (a_cons (vn 8) (a_cons (vn 4) a_nil)))) (fun H8 x8 Q8 k8 E8 => ⟨q, p8, W, _, v, (k : Int), rfl, ok, hW.ex (xx7.trans x8), .ls (x8 _ _ h8), hv, by rw [show prK W ((k : Int) + 1) (add1 (lvR W cl ((k : Int) + 1) X i) X) v = W.pr (add1 (lvR W cl ((k : Int) + 1) X i) X) v from if_pos hmv]; exact k8⟩)) (v_ix (n := v) (vn 3) (vn 4) (hX.ex xx7) (rowV_at hv))) (fun y hy _ s0 H0 C cl1 fp => vn 4)) fun p9 H8 hp9 x8 h9 => ?_
      have xx8 := xx7.trans x8
      have d4 := x8 _ _ c4
      have d6 := x8 _ _ c6
      refine w_forPut (lv sc__law_call_ranks.nd 4) ⟨_, rfl⟩ (H0 := H) (N := W.n) (t := (i : Int) + 1) (X0 := rkR W cl ((k : Int) + 1) X i) (gs := (List.range W.n).filter (fun v => lvR W cl ((k : Int) + 1) X i v && outR W X (lvR W cl ((k : Int) + 1) X i) v)) (q := p9) (a := p6) (vn 9) h9 d4 xx8 hp6' (ne_of_none c4 hp9).symm (fun v hv => (in_filL.mp hv).1)
        (fun v H' hv e1 e2 => ⟨vn 6, vn 4, v_add (vn 7) v_int⟩) fun y H10 e1 e2 h10 => ?_
      have h10' : H10 p6 = some (.lst (rowV W.n (rkR W cl ((k : Int) + 1) X (i + 1)))) := by
        rw [h10]
        refine congrArg (fun z => some (HO.lst z)) (rowV_congr fun v hv => ?_)
        rw [rkR_next]
        by_cases e : (lvR W cl ((k : Int) + 1) X i v && outR W X (lvR W cl ((k : Int) + 1) X i) v) = true
        · rw [if_pos (in_filL.mpr ⟨hv, e⟩), if_pos e]
        · rw [if_neg (fun z => e (in_filL.mp z).2), if_neg e]
      have f6 := e2 _ hne _ d6
      have f9 := e2 _ (ne_of_none c4 hp9).symm _ h9
      -- left
      refine w_setL (xs := filV W.n (lvR W cl ((k : Int) + 1) X (i + 1))) (lv sc__law_call_ranks.nd 5) (ccv <| by
        have e : filV W.n (lvR W cl ((k : Int) + 1) X (i + 1)) = filV W.n (fun v => lvR W cl ((k : Int) + 1) X i v && !(lvR W cl ((k : Int) + 1) X i v && outR W X (lvR W cl ((k : Int) + 1) X i) v)) := filV_congr fun v hv => by
          rw [lvR_next]
          cases lvR W cl ((k : Int) + 1) X i v <;> rfl
        rw [e, ← fil_tN]
        exact c_fltS (n := 4) sc__law_call_ranks.nd (bk sc__law_call_ranks (by decide +kernel)) (vn 5) (.ls f6) (by have := filV_len (n := W.n) (c := lvR W cl ((k : Int) + 1) X i); omega) (tN fun v => !(lvR W cl ((k : Int) + 1) X i v && outR W X (lvR W cl ((k : Int) + 1) X i) v)) (fun x => x) (fun y hy s0 H0 C cl1 fp => by
          obtain ⟨v, hv, hl, rfl⟩ := fil_mem hy
          show VT _ _ _ _ (!(lvR W cl ((k : Int) + 1) X i v && outR W X (lvR W cl ((k : Int) + 1) X i) v))
          rw [← in_fil (n := W.n) (c := fun v => lvR W cl ((k : Int) + 1) X i v && outR W X (lvR W cl ((k : Int) + 1) X i) v) hv]
          exact t_niS (vn 4) (vn 9) (.ls f9) rfl lot_flat) (fun y hy _ s0 H0 C cl1 fp => vn 4)) fun p5' H11 hp5' x11 h11 => ?_
      exact w_nil ⟨y, _, some (.ref p8), some (.ref p9), p5', rfl, e1.trans x11, (ne_of_none h10' hp5').symm, fresh_back e1 hp5', x11 _ _ h10', h11⟩
    · rintro σ' H4 ⟨y4, y7, y8, y9, pl, rfl, xx, hne, hpl, b4, b6⟩
      rw [show ((W.n : Int)).toNat = W.n from rfl] at b4 b6
      have nil : filV W.n (lvR W cl ((k : Int) + 1) X W.n) = [] := List.isEmpty_iff.mp (fil_empty.mpr fun v _ => lvR_end ok F v)
      rw [nil] at b6
      exact w_retL (v_lst (a_cons (vn 6) (a_cons (vn 5) a_nil)) (by simp)) fun p H5 hp x5 h5 => kq _ H5 (xx.trans x5) ⟨p, p6, pl, rfl, fresh_back xx hp, hp6', hpl, h5, x5 _ _ b4, x5 _ _ b6⟩
end
end PwD
end
/-! ### PwVd -/
section
set_option linter.all false
set_option maxRecDepth 100000
set_option maxHeartbeats 8000000
/-! the law's ranks and counts, walked -/
namespace PwD
open PySem PySem.Spec PyProof.Rows L2 Evl Pw Wk PwH
section
variable {P : Program} {w : World} {K : PySem.W.Frag} {mg : Str → Option Value} {base : Heap}
def spLCounts (K : PySem.W.Frag) : Sp := fun vs H Q _ => ∃ (q c a : Addr) (W : Web) (cl : Nat → Bool) (X : Nat → Int) (k : Nat), vs = [.ref q, .int (k : Int), .ref c, .ref a] ∧ W.Ok ∧ k ≤ 60 ∧ LWeb K H q W ∧ Fil K H c W.n cl ∧ Row K H a W.n X ∧ IsFev W cl ((k : Int) + 1) X ∧
  RetD (PairL (rowV W.n (rkC W cl ((k : Int) + 1) X W.n)) H) H Q
theorem d_lcounts (T : Hd K mg) : Dn P w K mg base 4 "_law_call_counts" [] (spLCounts K) := by
  refine fn_dn (F__law_call_counts T) sc__law_call_counts (fun vs H Q E h => ?_) B__law_call_counts fun f cdv A outer s H vs Q E hr h => ?_
  · obtain ⟨_, _, _, _, _, _, _, rfl, _⟩ := h
    rfl
  · obtain ⟨q, c, a, W, cl, X, k, rfl, ok, hk60, hW, hC, hX, F, kq⟩ := h
    have hn5 := ok.n5
    have hK : (0 : Int) ≤ (k : Int) + 1 := by omega
    obtain ⟨qf, qs, qm, qd, hL, ⟨as, ha, hl⟩, _, _, _⟩ := id hW
    -- left
    refine w_setL (xs := filV W.n (lvC W cl ((k : Int) + 1) X 0)) (lv sc__law_call_counts.nd 5) (ccv <| by
      have e : filV W.n (lvC W cl ((k : Int) + 1) X 0) = filV W.n (fun v => W.mv v && decide (1 ≤ X v)) := filV_congr fun v hv => by
        show (decide (v < W.n) && (W.mv v && decide (1 ≤ X v))) = _
        rw [decide_eq_true hv, Bool.true_and]
      rw [e]
      exact c_fltR (n := 4) T.fre sc__law_call_counts.nd (bk sc__law_call_counts (by decide +kernel)) (v_lenN T.fre (vn 3) hX rowV_len) (by omega) (fun v => W.mv v && decide (1 ≤ X v)) iv (fun v hv s0 H0 C cl1 fp => by
        rw [← lenp_mv]
        exact t_bool (p_and (t_gt (v_lenN (m := (W.s1 v).length) T.fre (v_ix (n := v) (v_ix (n := 0) (vn 0) v_int (.inl hL) rfl) (vn 4) ha (refV_at hv)) (hl v hv) lotV_len) v_int) fun _ => p_and1 (t_ge (v_ix (n := v) (vn 3) (vn 4) hX (rowV_at hv)) v_int))) (fun v hv _ s0 H0 C cl1 fp => vn 4)) fun p5 H1 hp5 x1 h5 => ?_
    -- ranks
    have e0 : (rowV W.n X).map (fun _ => V.int 0) = rowV W.n (fun _ => 0) := by
      unfold rowV
      rw [List.map_map]
      rfl
    refine w_setC (xs := rowV W.n fun _ => 0) (lv sc__law_call_counts.nd 6) rfl (by
      rw [← e0]
      exact c_mapS (n := 11) sc__law_call_counts.nd (bk sc__law_call_counts (by decide +kernel)) (vn 3) (hX.ex x1) (by rw [rowV_len]; omega) _ (fun y hy s0 H0 C cl1 fp => v_int)) (sw_true rfl rfl rfl (by decide +kernel)) fun p6 H2 hp6 x2 h6 => ?_
    have hp6' : H p6 = none := fresh_back x1 hp6
    refine w_forR T.fre (lv sc__law_call_counts.nd 7) (j := (W.n : Int)) (v_lenN T.fre (vn 3) (hX.ex (x1.trans x2)) rowV_len) (by omega)
      (fun i σ' H' => ∃ (y4 y7 y8 y9 y10 : Option V) (pl : Addr), σ' = [some (.ref q), some (.int (k : Int)), some (.ref c), some (.ref a), y4, some (.ref pl), some (.ref p6), y7, y8, y9, y10, none, none] ∧ Ex H H' ∧ pl ≠ p6 ∧ H pl = none ∧
        H' p6 = some (.lst (rowV W.n (rkC W cl ((k : Int) + 1) X i))) ∧ H' pl = some (.lst (filV W.n (lvC W cl ((k : Int) + 1) X i))))
      (fun H3 x3 => ⟨none, none, none, none, none, p5, rfl, (x1.trans x2).trans x3, ne_of_none h5 hp6, hp5, x3 _ _ h6, x3 _ _ (x2 _ _ h5)⟩) ?_ ?_
    · rintro i σ' H4 hi ⟨y4, y7, y8, y9, y10, pl, rfl, xx, hne, hpl, b4, b6⟩
      -- lessened
      refine w_setC (xs := rowV W.n (sub1 (lvC W cl ((k : Int) + 1) X i) X)) (lv sc__law_call_counts.nd 8) rfl (c_mapR (n := 12) T.fre sc__law_call_counts.nd (bk sc__law_call_counts (by decide +kernel)) (v_lenN T.fre (vn 3) (hX.ex xx) rowV_len) (by omega) (fun v => .int (sub1 (lvC W cl ((k : Int) + 1) X i) X v)) (fun v hv s0 H0 C cl1 fp => by
        rw [sub1_eq, ← in_fil (n := W.n) (c := lvC W cl ((k : Int) + 1) X i) hv]
        exact v_sub (v_ix (n := v) (vn 3) (vn 12) (hX.ex xx) (rowV_at hv)) (v_intB T.fre (v_inS (vn 12) (vn 5) (.ls b6) rfl lot_flat)))) (sw_true rfl rfl rfl (by decide +kernel)) fun p8 H7' hp8 x7' h8 => ?_
      obtain ⟨z0, RR, rle⟩ := rnd_sub ok hK F (S := lvC W cl ((k : Int) + 1) X i) fun w hw => (lc0_iff.mp (lvC_in hw)).2.2
      -- after
      refine w_setL (lv sc__law_call_counts.nd 9) (v_callL (d_lround T) hr (a_cons (vn 0) (a_cons (vn 1) (a_cons (vn 2) (a_cons (vn 8) a_nil)))) (fun H8 e8 Q8 k8 E8 => ⟨q, c, p8, W, cl, _, k, rfl, ok, hk60, hW.ex ((xx.trans x7').trans e8), hC.ex ((xx.trans x7').trans e8), .ls (e8 _ _ h8), fun v hv => ⟨z0 v hv, by have := F.le v hv; have := sub1_le (X := X) (lvC W cl ((k : Int) + 1) X i) v; omega⟩, k8⟩)) fun pa H7 hpa x7'' ha9 => ?_
      have x7 := x7'.trans x7''
      have xx7 := xx.trans x7
      have c6 := x7 _ _ b6
      have c4 := x7 _ _ b4
      -- out
      refine w_setL (xs := filV W.n (fun v => lvC W cl ((k : Int) + 1) X i v && outC W cl ((k : Int) + 1) X (lvC W cl ((k : Int) + 1) X i) v)) (lv sc__law_call_counts.nd 10) (ccv <| by
        rw [← fil_tN]
        exact c_fltS (n := 4) sc__law_call_counts.nd (bk sc__law_call_counts (by decide +kernel)) (vn 5) (.ls c6) (by have := filV_len (n := W.n) (c := lvC W cl ((k : Int) + 1) X i); omega) (tN (outC W cl ((k : Int) + 1) X (lvC W cl ((k : Int) + 1) X i))) (fun x => x) (fun y hy s0 H0 C cl1 fp => by
          obtain ⟨v, hv, hl, rfl⟩ := fil_mem hy
          exact t_ge (v_ix (n := v) (vn 9) (vn 4) (.ls ha9) (rowV_at hv)) (v_ix (n := v) (vn 3) (vn 4) (hX.ex xx7) (rowV_at hv))) (fun y hy _ s0 H0 C cl1 fp => vn 4)) fun p9 H8 hp9 x8 h9 => ?_
      have xx8 := xx7.trans x8
      have d4 := x8 _ _ c4
      have d6 := x8 _ _ c6
      refine w_forPut (lv sc__law_call_counts.nd 4) ⟨_, rfl⟩ (H0 := H) (N := W.n) (t := (i : Int) + 1) (X0 := rkC W cl ((k : Int) + 1) X i) (gs := (List.range W.n).filter (fun v => lvC W cl ((k : Int) + 1) X i v && outC W cl ((k : Int) + 1) X (lvC W cl ((k : Int) + 1) X i) v)) (q := p9) (a := p6) (vn 10) h9 d4 xx8 hp6' (ne_of_none c4 hp9).symm (fun v hv => (in_filL.mp hv).1)
        (fun v H' hv e1 e2 => ⟨vn 6, vn 4, v_add (vn 7) v_int⟩) fun y H10 e1 e2 h10 => ?_
      have h10' : H10 p6 = some (.lst (rowV W.n (rkC W cl ((k : Int) + 1) X (i + 1)))) := by
        rw [h10]
        refine congrArg (fun z => some (HO.lst z)) (rowV_congr fun v hv => ?_)
        rw [rkC_next]
        by_cases e : (lvC W cl ((k : Int) + 1) X i v && outC W cl ((k : Int) + 1) X (lvC W cl ((k : Int) + 1) X i) v) = true
        · rw [if_pos (in_filL.mpr ⟨hv, e⟩), if_pos e]
        · rw [if_neg (fun z => e (in_filL.mp z).2), if_neg e]
      have f6 := e2 _ hne _ d6
      have f9 := e2 _ (ne_of_none c4 hp9).symm _ h9
      -- left
      refine w_setL (xs := filV W.n (lvC W cl ((k : Int) + 1) X (i + 1))) (lv sc__law_call_counts.nd 5) (ccv <| by
        have e : filV W.n (lvC W cl ((k : Int) + 1) X (i + 1)) = filV W.n (fun v => lvC W cl ((k : Int) + 1) X i v && !(lvC W cl ((k : Int) + 1) X i v && outC W cl ((k : Int) + 1) X (lvC W cl ((k : Int) + 1) X i) v)) := filV_congr fun v hv => by
          rw [lvC_next]
          cases lvC W cl ((k : Int) + 1) X i v <;> rfl
        rw [e, ← fil_tN]
        exact c_fltS (n := 4) sc__law_call_counts.nd (bk sc__law_call_counts (by decide +kernel)) (vn 5) (.ls f6) (by have := filV_len (n := W.n) (c := lvC W cl ((k : Int) + 1) X i); omega) (tN fun v => !(lvC W cl ((k : Int) + 1) X i v && outC W cl ((k : Int) + 1) X (lvC W cl ((k : Int) + 1) X i) v)) (fun x => x) (fun y hy s0 H0 C cl1 fp => by
          obtain ⟨v, hv, hl, rfl⟩ := fil_mem hy
          show VT _ _ _ _ (!(lvC W cl ((k : Int) + 1) X i v && outC W cl ((k : Int) + 1) X (lvC W cl ((k : Int) + 1) X i) v))
          rw [← in_fil (n := W.n) (c := fun v => lvC W cl ((k : Int) + 1) X i v && outC W cl ((k : Int) + 1) X (lvC W cl ((k : Int) + 1) X i) v) hv]
          exact t_niS (vn 4) (vn 10) (.ls f9) rfl lot_flat) (fun y hy _ s0 H0 C cl1 fp => vn 4)) fun p5' H11 hp5' x11 h11 => ?_
      exact w_nil ⟨y, _, some (.ref p8), some (.ref pa), some (.ref p9), p5', rfl, e1.trans x11, (ne_of_none h10' hp5').symm, fresh_back e1 hp5', x11 _ _ h10', h11⟩
    · rintro σ' H4 ⟨y4, y7, y8, y9, y10, pl, rfl, xx, hne, hpl, b4, b6⟩
      rw [show ((W.n : Int)).toNat = W.n from rfl] at b4 b6
      have nil : filV W.n (lvC W cl ((k : Int) + 1) X W.n) = [] := List.isEmpty_iff.mp (fil_empty.mpr fun v _ => lvC_end ok hK F v)
      rw [nil] at b6
      exact w_retL (v_lst (a_cons (vn 6) (a_cons (vn 5) a_nil)) (by simp)) fun p H5 hp x5 h5 => kq _ H5 (xx.trans x5) ⟨p, p6, pl, rfl, fresh_back xx hp, hp6', hpl, h5, x5 _ _ b4, x5 _ _ b6⟩
end
end PwD
end
/-! ### PwX -/
section
set_option linter.all false
set_option maxRecDepth 100000
set_option maxHeartbeats 8000000
/-! verdicts: the program's halves, the law's halves -/
namespace Wk
open PySem PySem.Spec PyProof.Rows L2 Evl Pw
section
variable {X : Cx} {c : Expr} {sts rest st1 st2 : List Stmt} {σ : L2.St} {H : Hp} {k : Bool} {pos : Pos} {D0 : Ends} {M : L2.St → Hp → Prop}
theorem w_mono (h : WS X sts { D0 with nx := M } σ H) (hn : ∀ σ' H', M σ' H' → D0.nx σ' H') : WS X sts D0 σ H := fun pins s I => thn (h pins s I) fun f s' z => by
  cases f with
  | next => obtain ⟨σ', H', I, q⟩ := z; exact ⟨σ', H', I, hn _ _ q⟩
  | brk => exact z
  | cont => exact z
  | ret u => exact z
theorem w_ifM (M : L2.St → Hp → Prop) (h : VT X c σ H k) (h1 : k = true → ∀ H1, Ex H H1 → WS X st1 { D0 with nx := M } σ H1) (h2 : k = false → ∀ H1, Ex H H1 → WS X st2 { D0 with nx := M } σ H1) (hM : ∀ σ' H', M σ' H' → WS X rest D0 σ' H') : WS X (.If c st1 st2 pos :: rest) D0 σ H :=
  w_if h (fun e H1 e1 => w_mono (D0 := { D0 with nx := fun σ' H' => WS X rest D0 σ' H' }) (h1 e H1 e1) hM) fun e H1 e1 => w_mono (D0 := { D0 with nx := fun σ' H' => WS X rest D0 σ' H' }) (h2 e H1 e1) hM
end
end Wk
namespace PwD
open PySem PySem.Spec PyProof.Rows L2 Evl Pw Wk PwH
theorem fst_emp {K : PySem.W.Frag} {H : Hp} {q : Addr} {W : Web} {vs : List (Option V)} {qd qf qm qv qs : Addr} {s1 s2 : Nat → List Nat} (o : WebO K H q W vs qd qf qm qv qs s1 s2) {v : Nat} (hv : v < W.n) : (!(!(lotV (s1 v)).isEmpty)) = !W.mv v := by
  have z : (s1 v = []) ↔ (W.s1 v = []) := by
    constructor
    · intro e
      refine List.eq_nil_iff_forall_not_mem.mpr fun x hx => ?_
      have := (o.m1 v hv x).mpr hx
      rw [e] at this
      simp at this
    · intro e
      refine List.eq_nil_iff_forall_not_mem.mpr fun x hx => ?_
      have := (o.m1 v hv x).mp hx
      rw [e] at this
      simp at this
  cases hm : W.mv v with
  | true =>
    have ne : s1 v ≠ [] := fun e => (Web.mv_iff.mp hm) (z.mp e)
    unfold lotV
    cases q : s1 v with
    | nil => exact absurd q ne
    | cons a r => rfl
  | false => rw [z.mpr (Web.mv_not.mp hm)]; rfl
section
variable {P : Program} {w : World} {K : PySem.W.Frag} {mg : Str → Option Value} {base : Heap}
def spRaised (K : PySem.W.Frag) : Sp := fun vs H Q _ => ∃ (a b : Addr) (n : Nat) (X r : Nat → Int) (i : Int), vs = [.ref a, .ref b, .int i] ∧ n ≤ 100 ∧ Row K H a n X ∧ Row K H b n r ∧ RetL (rowV n (add1 (ge r i) X)) H Q
def spLess (K : PySem.W.Frag) : Sp := fun vs H Q _ => ∃ (a b : Addr) (n : Nat) (X r : Nat → Int) (i : Int), vs = [.ref a, .ref b, .int i] ∧ n ≤ 100 ∧ Row K H a n X ∧ Row K H b n r ∧ RetL (rowV n (sub1 (ge r i) X)) H Q
theorem d_raised (T : Hd K mg) : Dn P w K mg base 1 "raised_row" [] (spRaised K) := by
  refine fn_dn (F_raised_row T) sc_raised_row (fun vs H Q E h => ?_) B_raised_row fun f cdv A outer s H vs Q E hr h => ?_
  · obtain ⟨_, _, _, _, _, _, rfl, _⟩ := h
    rfl
  · obtain ⟨a, b, n, X, r, i, rfl, hn, hX, hR, kq⟩ := h
    refine w_retL (ccv (c_mapR (n := 3) T.fre sc_raised_row.nd (bk sc_raised_row (by decide +kernel)) (v_lenN T.fre (vn 0) hX rowV_len) (by omega) (fun v => .int (add1 (ge r i) X v)) (fun v hv s0 H0 C cl1 fp => by
      refine v_if (t_ge (v_ix (n := v) (vn 1) (vn 3) hR (rowV_at hv)) (vn 2)) (fun hc => ?_) (fun hc => ?_)
      · rw [show add1 (ge r i) X v = X v + 1 from if_pos hc]
        exact v_add (v_ix (n := v) (vn 0) (vn 3) hX (rowV_at hv)) v_int
      · rw [show add1 (ge r i) X v = X v from if_neg (fun z => by have z' : decide (i ≤ r v) = true := z; rw [hc] at z'; cases z')]
        exact v_ix (n := v) (vn 0) (vn 3) hX (rowV_at hv)))) kq
theorem d_less (T : Hd K mg) : Dn P w K mg base 1 "lessened_row" [] (spLess K) := by
  refine fn_dn (F_lessened_row T) sc_lessened_row (fun vs H Q E h => ?_) B_lessened_row fun f cdv A outer s H vs Q E hr h => ?_
  · obtain ⟨_, _, _, _, _, _, rfl, _⟩ := h
    rfl
  · obtain ⟨a, b, n, X, r, i, rfl, hn, hX, hR, kq⟩ := h
    refine w_retL (ccv (c_mapR (n := 3) T.fre sc_lessened_row.nd (bk sc_lessened_row (by decide +kernel)) (v_lenN T.fre (vn 0) hX rowV_len) (by omega) (fun v => .int (sub1 (ge r i) X v)) (fun v hv s0 H0 C cl1 fp => by
      refine v_if (t_ge (v_ix (n := v) (vn 1) (vn 3) hR (rowV_at hv)) (vn 2)) (fun hc => ?_) (fun hc => ?_)
      · rw [show sub1 (ge r i) X v = X v - 1 from if_pos hc]
        exact v_sub (v_ix (n := v) (vn 0) (vn 3) hX (rowV_at hv)) v_int
      · rw [show sub1 (ge r i) X v = X v from if_neg (fun z => by have z' : decide (i ≤ r v) = true := z; rw [hc] at z'; cases z')]
        exact v_ix (n := v) (vn 0) (vn 3) hX (rowV_at hv)))) kq
def spAbv (K : PySem.W.Frag) : Sp := fun vs H Q _ => ∃ (q c a b : Addr) (W : Web) (cl : Nat → Bool) (X r : Nat → Int) (k : Nat) (v : Nat), vs = [.ref q, .int (k : Int), .ref c, .ref a, .ref b, .int (v : Int)] ∧ W.Ok ∧ WebAt K H q W ∧ Fil K H c W.n cl ∧ (∀ v, v < W.n → cl v = true → W.mv v = true) ∧ Row K H a W.n X ∧ Row K H b W.n r ∧ v < W.n ∧
  RetV (.bl (abv W cl ((k : Int) + 1) X r v)) H Q
theorem prE {W : Web} {k : Int} {X : Nat → Int} {v : Nat} (h : W.mv v = true) : prK W k X v = W.pr X v := if_pos h
theorem d_abv (T : Hd K mg) : Dn P w K mg base 5 "call_above" [] (spAbv K) := by
  refine fn_dn (F_call_above T) sc_call_above (fun vs H Q E h => ?_) B_call_above fun f cdv A outer s H vs Q E hr h => ?_
  · obtain ⟨_, _, _, _, _, _, _, _, _, _, rfl, _⟩ := h
    rfl
  · obtain ⟨q, c, a, b, W, cl, X, r, k, v, rfl, ok, hW, hC, sub, hX, hR, hv, kq⟩ := h
    have hn5 := ok.n5
    have hr2 : Room 2 _ := hr.mono (by decide)
    obtain ⟨sl, qd, qf, qm, qv, qs, s1, s2, o⟩ := id hW
    obtain ⟨as, ha, hl⟩ := id o.first
    obtain ⟨us, hu, hd⟩ := id o.dues
    refine w_when (t_inS (vn 5) (vn 2) hC rfl lot_flat) (fun hc H1 x1 => ?_) (fun hc H1 x1 => ?_)
    · rw [in_fil (c := cl) hv] at hc
      have hm := sub v hv hc
      rw [show abv W cl ((k : Int) + 1) X r v = (decide (r v = 0) && decide (W.pr X v ≤ X v)) by unfold abv; rw [if_pos hm, if_pos hc]] at kq
      refine w_ret (v_and (v_eqI (v_ix (n := v) (vn 4) (vn 5) (hR.ex x1) (rowV_at hv)) v_int) fun _ => v_one (v_ge (v_ix (n := v) (vn 3) (vn 5) (hX.ex x1) (rowV_at hv)) (v_call (d_price T) hr (a_cons (vn 0) (a_cons (vn 1) (a_cons (vn 3) (a_cons (vn 5) a_nil)))) fun H2 x2 Q2 k2 E2 => ⟨q, a, W, X, v, (k : Int), rfl, ok, hW.ex (x1.trans x2), hX.ex (x1.trans x2), hv, by rw [prE hm]; exact k2⟩))) fun H2 x2 => kq H2 (x1.trans x2)
    · rw [in_fil (c := cl) hv] at hc
      refine w_when (t_not (t_seq (v_ix (n := v) (v_first T hr2 (vn 0) (o.ex x1)) (vn 5) (ha.ex x1) (refV_at hv)) ((hl v hv).ex x1))) (fun hc2 H2 x2 => ?_) (fun hc2 H2 x2 => ?_)
      · rw [fst_emp o hv] at hc2
        have hm : W.mv v = false := by simpa using hc2
        rw [show abv W cl ((k : Int) + 1) X r v = (decide (r v = 0) && decide ((W.due v).num ((k : Int) + 1) ≤ X v)) by unfold abv; rw [if_neg (by rw [hm]; simp)]] at kq
        have xx := x1.trans x2
        refine w_ret (v_and (v_eqI (v_ix (n := v) (vn 4) (vn 5) (hR.ex xx) (rowV_at hv)) v_int) fun _ => v_one (v_ge (v_ix (n := v) (vn 3) (vn 5) (hX.ex xx) (rowV_at hv)) (v_call (d_due T) (hr.mono (by decide)) (a_cons (v_ix (n := v) (v_dues T hr2 (vn 0) (o.ex xx)) (vn 5) (hu.ex xx) (map_at hv)) (a_cons (vn 1) a_nil)) fun H3 x3 Q3 k3 E3 => ⟨us v, W.due v, (k : Int), rfl, (hd v hv).ex (xx.trans x3), k3⟩))) fun H3 x3 => kq H3 (xx.trans x3)
      · rw [fst_emp o hv] at hc2
        have hm : W.mv v = true := by simpa using hc2
        have xx := x1.trans x2
        refine w_when (t_eqI (v_ix (n := v) (vn 4) (vn 5) (hR.ex xx) (rowV_at hv)) v_int) (fun hc3 H3 x3 => ?_) (fun hc3 H3 x3 => ?_)
        · have h0 := of_decide_eq_true hc3
          rw [show abv W cl ((k : Int) + 1) X r v = decide (X v = (k : Int) + 1) by unfold abv; rw [if_pos hm, if_neg (by rw [hc]; simp), if_pos h0]] at kq
          exact w_ret (v_eqI (v_ix (n := v) (vn 3) (vn 5) (hX.ex (xx.trans x3)) (rowV_at hv)) (v_add (vn 1) v_int)) fun H4 x4 => kq H4 ((xx.trans x3).trans x4)
        · have h0 := of_decide_eq_false hc3
          rw [show abv W cl ((k : Int) + 1) X r v = decide (W.pr (add1 (ge r (r v)) X) v ≤ X v) by unfold abv; rw [if_pos hm, if_neg (by rw [hc]; simp), if_neg h0]] at kq
          have x13 := xx.trans x3
          refine w_ret (v_le (vdv (v_callDD (d_price T) hr (R := fun vs H2 => ∃ p, vs = [.ref q, .int (k : Int), .ref p, .int (v : Int)] ∧ Row K H2 p W.n (add1 (ge r (r v)) X)) (ad_consE (vn 0) (ad_consE (vn 1) (ad_cons (ld (v_callL (d_raised T) (hr.mono (by decide)) (a_cons (vn 3) (a_cons (vn 4) (a_cons (v_ix (n := v) (vn 4) (vn 5) (hR.ex x13) (rowV_at hv)) a_nil))) (fun H4 x4 Q4 k4 E4 => ⟨a, b, W.n, X, r, r v, rfl, by omega, hX.ex (x13.trans x4), hR.ex (x13.trans x4), k4⟩))) fun u H4 x4 hu => ad_last (vd (vn 5)) fun u2 H5 x5 hu2 => by
            obtain ⟨p, rfl, hp⟩ := hu
            subst hu2
            exact ⟨p, rfl, .ls (x5 _ _ hp)⟩))) (by
            rintro vs H4 x4 ⟨p, rfl, hp⟩ H5 x5 Q5 k5 E5
            exact ⟨q, p, W, _, v, (k : Int), rfl, ok, hW.ex ((x13.trans x4).trans x5), hp.ex x5, hv, by rw [prE hm]; exact fun H6 x6 => k5 _ H6 x6 rfl⟩))) (v_ix (n := v) (vn 3) (vn 5) (hX.ex x13) (rowV_at hv))) fun H4 x4 => kq H4 (x13.trans x4)
end
end PwD
end
/-! ### PwXb -/
section
set_option linter.all false
set_option maxRecDepth 100000
set_option maxHeartbeats 8000000
/-! verdicts, second part -/
namespace PwD
open PySem PySem.Spec PyProof.Rows L2 Evl Pw Wk PwH
section
variable {P : Program} {w : World} {K : PySem.W.Frag} {mg : Str → Option Value} {base : Heap}
def spBlw (K : PySem.W.Frag) : Sp := fun vs H Q _ => ∃ (q c a b : Addr) (W : Web) (cl : Nat → Bool) (X r : Nat → Int) (k : Nat) (v : Nat), vs = [.ref q, .int (k : Int), .ref c, .ref a, .ref b, .int (v : Int)] ∧ W.Ok ∧ WebAt K H q W ∧ Fil K H c W.n cl ∧ Row K H a W.n X ∧ Row K H b W.n r ∧ v < W.n ∧
  RetV (.bl (blw W cl ((k : Int) + 1) X r v)) H Q
theorem d_blw (T : Hd K mg) : Dn P w K mg base 5 "call_below" [] (spBlw K) := by
  refine fn_dn (F_call_below T) sc_call_below (fun vs H Q E h => ?_) B_call_below fun f cdv A outer s H vs Q E hr h => ?_
  · obtain ⟨_, _, _, _, _, _, _, _, _, _, rfl, _⟩ := h
    rfl
  · obtain ⟨q, c, a, b, W, cl, X, r, k, v, rfl, ok, hW, hC, hX, hR, hv, kq⟩ := h
    have hn5 := ok.n5
    have hr2 : Room 2 _ := hr.mono (by decide)
    obtain ⟨sl, qd, qf, qm, qv, qs, s1, s2, o⟩ := id hW
    obtain ⟨as, ha, hl⟩ := id o.first
    obtain ⟨us, hu, hd⟩ := id o.dues
    refine w_when (t_not (t_seq (v_ix (n := v) (v_first T hr2 (vn 0) o) (vn 5) ha (refV_at hv)) (hl v hv))) (fun hc2 H2 xx => ?_) (fun hc2 H2 xx => ?_)
    · rw [fst_emp o hv] at hc2
      have hm : W.mv v = false := by simpa using hc2
      rw [show blw W cl ((k : Int) + 1) X r v = (decide (r v = 0) && decide (X v ≤ (W.due v).num ((k : Int) + 1))) by unfold blw; rw [if_neg (by rw [hm]; simp)]] at kq
      refine w_ret (v_and (v_eqI (v_ix (n := v) (vn 4) (vn 5) (hR.ex xx) (rowV_at hv)) v_int) fun _ => v_one (v_le (v_ix (n := v) (vn 3) (vn 5) (hX.ex xx) (rowV_at hv)) (v_call (d_due T) (hr.mono (by decide)) (a_cons (v_ix (n := v) (v_dues T hr2 (vn 0) (o.ex xx)) (vn 5) (hu.ex xx) (map_at hv)) (a_cons (vn 1) a_nil)) fun H3 x3 Q3 k3 E3 => ⟨us v, W.due v, (k : Int), rfl, (hd v hv).ex (xx.trans x3), k3⟩))) fun H3 x3 => kq H3 (xx.trans x3)
    · rw [fst_emp o hv] at hc2
      have hm : W.mv v = true := by simpa using hc2
      refine w_when (t_bool (p_or (t_eqI (v_ix (n := v) (vn 3) (vn 5) (hX.ex xx) (rowV_at hv)) v_int) fun _ => p_or1 (t_eqI (v_ix (n := v) (vn 4) (vn 5) (hR.ex xx) (rowV_at hv)) v_int))) (fun hc3 H3 x3 => ?_) (fun hc3 H3 x3 => ?_)
      · have h0 : X v = 0 ∨ r v = 0 := by simpa using hc3
        rw [show blw W cl ((k : Int) + 1) X r v = decide (X v = r v) by unfold blw; rw [if_pos hm, if_pos h0]] at kq
        have x13 := xx.trans x3
        exact w_ret (v_eqI (v_ix (n := v) (vn 3) (vn 5) (hX.ex x13) (rowV_at hv)) (v_ix (n := v) (vn 4) (vn 5) (hR.ex x13) (rowV_at hv))) fun H4 x4 => kq H4 (x13.trans x4)
      · have h0 : ¬ (X v = 0 ∨ r v = 0) := by simpa using hc3
        rw [show blw W cl ((k : Int) + 1) X r v = decide (X v ≤ W.pr (sub1 (ge r (lst cl r v)) X) v) by unfold blw; rw [if_pos hm, if_neg h0]] at kq
        have x13 := xx.trans x3
        refine w_set (v := .int (lst cl r v)) (lv sc_call_below.nd 6) (v_if (t_inS (vn 5) (vn 2) (hC.ex x13) rfl lot_flat) (fun hc => ?_) (fun hc => ?_)) fun H4 x4 => ?_
        · rw [in_fil (c := cl) hv] at hc
          rw [show lst cl r v = r v from if_pos hc]
          exact v_ix (n := v) (vn 4) (vn 5) (hR.ex x13) (rowV_at hv)
        · rw [in_fil (c := cl) hv] at hc
          rw [show lst cl r v = r v + 1 from if_neg (by rw [hc]; simp)]
          exact v_add (v_ix (n := v) (vn 4) (vn 5) (hR.ex x13) (rowV_at hv)) v_int
        · have x14 := x13.trans x4
          refine w_ret (v_le (v_ix (n := v) (vn 3) (vn 5) (hX.ex x14) (rowV_at hv)) (vdv (v_callDD (d_price T) hr (R := fun vs H2 => ∃ p, vs = [.ref q, .int (k : Int), .ref p, .int (v : Int)] ∧ Row K H2 p W.n (sub1 (ge r (lst cl r v)) X)) (ad_consE (vn 0) (ad_consE (vn 1) (ad_cons (ld (v_callL (d_less T) (hr.mono (by decide)) (a_cons (vn 3) (a_cons (vn 4) (a_cons (vn 6) a_nil))) (fun H5 x5 Q4 k4 E4 => ⟨a, b, W.n, X, r, lst cl r v, rfl, by omega, hX.ex (x14.trans x5), hR.ex (x14.trans x5), k4⟩))) fun u H4 x4 hu => ad_last (vd (vn 5)) fun u2 H5 x5 hu2 => by
            obtain ⟨p, rfl, hp⟩ := hu
            subst hu2
            exact ⟨p, rfl, .ls (x5 _ _ hp)⟩))) (by
            rintro vs H4 x4 ⟨p, rfl, hp⟩ H5 x5 Q5 k5 E5
            exact ⟨q, p, W, _, v, (k : Int), rfl, ok, hW.ex ((x14.trans x4).trans x5), hp.ex x5, hv, by rw [prE hm]; exact fun H6 x6 => k5 _ H6 x6 rfl⟩)))) fun H4 x4 => kq H4 (x14.trans x4)
/-! at all stands -/
def spAt (K : PySem.W.Frag) (g : Web → (Nat → Bool) → Int → (Nat → Int) → (Nat → Int) → Nat → Bool) : Sp := fun vs H Q _ => ∃ (q c a b : Addr) (W : Web) (cl : Nat → Bool) (X r : Nat → Int) (k : Nat), vs = [.ref q, .int (k : Int), .ref c, .ref a, .ref b] ∧ W.Ok ∧ WebAt K H q W ∧ Fil K H c W.n cl ∧ (∀ v, v < W.n → cl v = true → W.mv v = true) ∧ Row K H a W.n X ∧ Row K H b W.n r ∧
  RetL (filV W.n fun v => !g W cl ((k : Int) + 1) X r v) H Q
theorem d_abvAt (T : Hd K mg) : Dn P w K mg base 6 "call_above_at" [] (spAt K abv) := by
  refine fn_dn (F_call_above_at T) sc_call_above_at (fun vs H Q E h => ?_) B_call_above_at fun f cdv A outer s H vs Q E hr h => ?_
  · obtain ⟨_, _, _, _, _, _, _, _, _, rfl, _⟩ := h
    rfl
  · obtain ⟨q, c, a, b, W, cl, X, r, k, rfl, ok, hW, hC, sub, hX, hR, kq⟩ := h
    have hn5 := ok.n5
    obtain ⟨sl, qd, qf, qm, qv, qs, s1, s2, o⟩ := id hW
    refine w_retL (xs := filV W.n fun v => !abv W cl ((k : Int) + 1) X r v) (ccv (c_fltR (n := 5) T.fre sc_call_above_at.nd (bk sc_call_above_at (by decide +kernel)) (v_size T (hr.mono (by decide)) (vn 0) o) (by omega) (fun v => !abv W cl ((k : Int) + 1) X r v) iv (fun v hv s0 H0 C cl1 fp => by
      exact t_not (t_val (v_call (d_abv T) hr (a_cons (vn 0) (a_cons (vn 1) (a_cons (vn 2) (a_cons (vn 3) (a_cons (vn 4) (a_cons (vn 5) a_nil)))))) fun H1 x1 Q1 k1 E1 => ⟨q, c, a, b, W, cl, X, r, k, v, rfl, ok, hW.ex x1, hC.ex x1, sub, hX.ex x1, hR.ex x1, hv, k1⟩))) (fun v hv _ s0 H0 C cl1 fp => vn 5))) kq
theorem d_blwAt (T : Hd K mg) : Dn P w K mg base 6 "call_below_at" [] (spAt K blw) := by
  refine fn_dn (F_call_below_at T) sc_call_below_at (fun vs H Q E h => ?_) B_call_below_at fun f cdv A outer s H vs Q E hr h => ?_
  · obtain ⟨_, _, _, _, _, _, _, _, _, rfl, _⟩ := h
    rfl
  · obtain ⟨q, c, a, b, W, cl, X, r, k, rfl, ok, hW, hC, sub, hX, hR, kq⟩ := h
    have hn5 := ok.n5
    obtain ⟨sl, qd, qf, qm, qv, qs, s1, s2, o⟩ := id hW
    refine w_retL (xs := filV W.n fun v => !blw W cl ((k : Int) + 1) X r v) (ccv (c_fltR (n := 5) T.fre sc_call_below_at.nd (bk sc_call_below_at (by decide +kernel)) (v_size T (hr.mono (by decide)) (vn 0) o) (by omega) (fun v => !blw W cl ((k : Int) + 1) X r v) iv (fun v hv s0 H0 C cl1 fp => by
      exact t_not (t_val (v_call (d_blw T) hr (a_cons (vn 0) (a_cons (vn 1) (a_cons (vn 2) (a_cons (vn 3) (a_cons (vn 4) (a_cons (vn 5) a_nil)))))) fun H1 x1 Q1 k1 E1 => ⟨q, c, a, b, W, cl, X, r, k, v, rfl, ok, hW.ex x1, hC.ex x1, hX.ex x1, hR.ex x1, hv, k1⟩))) (fun v hv _ s0 H0 C cl1 fp => vn 5))) kq
/-! the law's -/
def spLAt (K : PySem.W.Frag) (g : Web → (Nat → Bool) → Int → (Nat → Int) → (Nat → Int) → Nat → Bool) : Sp := fun vs H Q _ => ∃ (q c a b : Addr) (W : Web) (cl : Nat → Bool) (X r : Nat → Int) (k : Nat), vs = [.ref q, .int (k : Int), .ref c, .ref a, .ref b] ∧ W.Ok ∧ LWeb K H q W ∧ Fil K H c W.n cl ∧ Row K H a W.n X ∧ Row K H b W.n r ∧
  RetL (filV W.n fun v => !g W cl ((k : Int) + 1) X r v) H Q
theorem fil_next {g : Nat → Bool} {i : Nat} (h : g i = true) : lotV ((List.range (i + 1)).filter g) = lotV ((List.range i).filter g) ++ [.int (i : Int)] := by
  unfold lotV
  rw [List.range_succ, List.filter_append, List.map_append, List.filter_cons_of_pos h]
  rfl
theorem fil_same {g : Nat → Bool} {i : Nat} (h : g i = false) : lotV ((List.range (i + 1)).filter g) = lotV ((List.range i).filter g) := by
  unfold lotV
  rw [List.range_succ, List.filter_append, List.map_append, List.filter_cons_of_neg (by rw [h]; simp)]
  exact List.append_nil _
theorem d_labv (T : Hd K mg) : Dn P w K mg base 3 "_law_above" [] (spLAt K abv) := by
  refine fn_dn (F__law_above T) sc__law_above (fun vs H Q E h => ?_) B__law_above fun f cdv A outer s H vs Q E hr h => ?_
  · obtain ⟨_, _, _, _, _, _, _, _, _, rfl, _⟩ := h
    rfl
  · obtain ⟨q, c, a, b, W, cl, X, r, k, rfl, ok, hW, hC, hX, hR, kq⟩ := h
    have hn5 := ok.n5
    refine w_setL (lv sc__law_above.nd 5) (v_lst a_nil (by simp)) fun p5 H1 hp5 x1 h5 => ?_
    refine w_forR T.fre (lv sc__law_above.nd 6) (j := (W.n : Int)) (v_lenN T.fre (vn 3) (hX.ex x1) rowV_len) (by omega)
      (fun i σ' H' => ∃ y6 y7 y8, σ' = [some (.ref q), some (.int (k : Int)), some (.ref c), some (.ref a), some (.ref b), some (.ref p5), y6, y7, y8, none] ∧ Ex H H' ∧ H' p5 = some (.lst (lotV ((List.range i).filter fun v => !abv W cl ((k : Int) + 1) X r v))))
      (fun H3 x3 => ⟨none, none, none, rfl, x1.trans x3, x3 _ _ h5⟩) ?_ ?_
    · rintro v σ' H2 hi ⟨y6, y7, y8, rfl, xx, h2⟩
      have hv : v < W.n := by omega
      obtain ⟨qf, qs, qm, qd, hL, ⟨as, ha, hl⟩, _, _, ⟨us, hu, hd⟩⟩ := id (hW.ex xx)
      have hX2 := hX.ex xx
      have hR2 := hR.ex xx
      refine w_ifM (fun σ' H' => ∃ y8, σ' = [some (.ref q), some (.int (k : Int)), some (.ref c), some (.ref a), some (.ref b), some (.ref p5), some (.int (v : Int)), some (.bl (abv W cl ((k : Int) + 1) X r v)), y8, none] ∧ Ex H2 H')
        (t_eqI (v_lenN (m := (W.s1 v).length) T.fre (v_ix (n := v) (v_ix (n := 0) (vn 0) v_int (.inl hL) rfl) (vn 6) ha (refV_at hv)) (hl v hv) lotV_len) v_int) (fun hc H3 x3 => ?_) (fun hc H3 x3 => ?_) ?_
      · rw [len0_mv] at hc
        have hm : W.mv v = false := by simpa using hc
        have e : abv W cl ((k : Int) + 1) X r v = (decide (r v = 0) && decide ((W.due v).num ((k : Int) + 1) ≤ X v)) := by unfold abv; rw [if_neg (by rw [hm]; simp)]
        rw [e]
        exact w_set (lv sc__law_above.nd 7) (v_and (v_eqI (v_ix (n := v) (vn 4) (vn 6) (hR2.ex x3) (rowV_at hv)) v_int) fun _ => v_one (v_ge (v_ix (n := v) (vn 3) (vn 6) (hX2.ex x3) (rowV_at hv)) (v_call (d_ldue T) (hr.mono (by decide)) (a_cons (v_ix (n := v) (v_ix (n := 3) (vn 0) v_int (.inl (ex_l x3 hL)) rfl) (vn 6) (hu.ex x3) (map_at hv)) (a_cons (vn 1) a_nil)) fun H4 x4 Q3 k3 E3 => ⟨us v, W.due v, (k : Int), rfl, (hd v hv).ex (x3.trans x4), k3⟩))) fun H4 x4 => w_nil ⟨_, rfl, x3.trans x4⟩
      · rw [len0_mv] at hc
        have hm : W.mv v = true := by simpa using hc
        refine w_if (t_inS (vn 6) (vn 2) (hC.ex (xx.trans x3)) rfl lot_flat) (fun hc H4 x4 => ?_) (fun hc H4 x4 => ?_)
        · rw [in_fil (c := cl) hv] at hc
          have e : abv W cl ((k : Int) + 1) X r v = (decide (r v = 0) && decide (W.pr X v ≤ X v)) := by unfold abv; rw [if_pos hm, if_pos hc]
          rw [e]
          have x24 := x3.trans x4
          exact w_set (lv sc__law_above.nd 7) (v_and (v_eqI (v_ix (n := v) (vn 4) (vn 6) (hR2.ex x24) (rowV_at hv)) v_int) fun _ => v_one (v_ge (v_ix (n := v) (vn 3) (vn 6) (hX2.ex x24) (rowV_at hv)) (v_call (d_lprice T) hr (a_cons (vn 0) (a_cons (vn 1) (a_cons (vn 3) (a_cons (vn 6) a_nil)))) fun H5 x5 Q2 k2 E2 => ⟨q, a, W, X, v, (k : Int), rfl, ok, hW.ex ((xx.trans x24).trans x5), hX2.ex (x24.trans x5), hv, by rw [prE hm]; exact k2⟩))) fun H5 x5 => w_nil (w_nil ⟨_, rfl, x24.trans x5⟩)
        · rw [in_fil (c := cl) hv] at hc
          have x24 := x3.trans x4
          refine w_if (t_eqI (v_ix (n := v) (vn 4) (vn 6) (hR2.ex x24) (rowV_at hv)) v_int) (fun hc3 H5 x5 => ?_) (fun hc3 H5 x5 => ?_)
          · have h0 := of_decide_eq_true hc3
            have e : abv W cl ((k : Int) + 1) X r v = decide (X v = (k : Int) + 1) := by unfold abv; rw [if_pos hm, if_neg (by rw [hc]; simp), if_pos h0]
            rw [e]
            exact w_set (lv sc__law_above.nd 7) (v_eqI (v_ix (n := v) (vn 3) (vn 6) (hX2.ex (x24.trans x5)) (rowV_at hv)) (v_add (vn 1) v_int)) fun H6 x6 => w_nil (w_nil (w_nil ⟨_, rfl, (x24.trans x5).trans x6⟩))
          · have h0 := of_decide_eq_false hc3
            have e : abv W cl ((k : Int) + 1) X r v = decide (W.pr (add1 (ge r (r v)) X) v ≤ X v) := by unfold abv; rw [if_pos hm, if_neg (by rw [hc]; simp), if_neg h0]
            rw [e]
            have x25 := x24.trans x5
            refine w_setC (xs := rowV W.n (add1 (ge r (r v)) X)) (lv sc__law_above.nd 8) rfl (c_mapR (n := 9) T.fre sc__law_above.nd (bk sc__law_above (by decide +kernel)) (v_lenN T.fre (vn 3) (hX2.ex x25) rowV_len) (by omega) (fun u => .int (add1 (ge r (r v)) X u)) (fun u hu s0 H0 C cl1 fp => by
              rw [add1_eq]
              exact v_add (v_ix (n := u) (vn 3) (vn 9) (hX2.ex x25) (rowV_at hu)) (v_intB T.fre (v_ge (v_ix (n := u) (vn 4) (vn 9) (hR2.ex x25) (rowV_at hu)) (v_ix (n := v) (vn 4) (vn 6) (hR2.ex x25) (rowV_at hv)))))) (sw_true rfl rfl rfl (by decide +kernel)) fun p8 H6 hp8 x6 h8 => ?_
            have x26 := x25.trans x6
            exact w_set (lv sc__law_above.nd 7) (v_le (v_call (d_lprice T) hr (a_cons (vn 0) (a_cons (vn 1) (a_cons (vn 8) (a_cons (vn 6) a_nil)))) fun H7 x7 Q2 k2 E2 => ⟨q, p8, W, _, v, (k : Int), rfl, ok, hW.ex ((xx.trans x26).trans x7), .ls (x7 _ _ h8), hv, by rw [prE hm]; exact k2⟩) (v_ix (n := v) (vn 3) (vn 6) (hX2.ex x26) (rowV_at hv))) fun H7 x7 => w_nil (w_nil (w_nil ⟨_, rfl, x26.trans x7⟩))
      · rintro σ' H3 ⟨y8, rfl, x3⟩
        refine w_when (t_not (t_val (vn 7))) (fun hc H4 x4 => ?_) (fun hc H4 x4 => ?_)
        · refine w_app (q := p5) (x4 _ _ (x3 _ _ h2)) (vn 5) (vn 6) (by rw [lotV_len]; have := List.length_filter_le (fun v => !abv W cl ((k : Int) + 1) X r v) (List.range v); rw [List.length_range] at this; omega) fun H5 x5 => ?_
          exact w_nil (w_nil ⟨_, _, _, rfl, Ex.mut (((xx.trans x3).trans x4).trans x5) hp5, by rw [upd_same, fil_next hc]⟩)
        · exact w_nil ⟨_, _, _, rfl, (xx.trans x3).trans x4, by rw [x4 _ _ (x3 _ _ h2), fil_same hc]⟩
    · rintro σ' H2 ⟨y6, y7, y8, rfl, xx, h2⟩
      exact w_ret (vn 5) fun H3 x3 => kq p5 H3 hp5 (xx.trans x3) (x3 _ _ h2)
end
end PwD
end
/-! ### PwXc -/
section
set_option linter.all false
set_option maxRecDepth 100000
set_option maxHeartbeats 8000000
/-! verdicts, the law's lower half -/
namespace PwD
open PySem PySem.Spec PyProof.Rows L2 Evl Pw Wk PwH
section
variable {P : Program} {w : World} {K : PySem.W.Frag} {mg : Str → Option Value} {base : Heap}
theorem d_lblw (T : Hd K mg) : Dn P w K mg base 3 "_law_below" [] (spLAt K blw) := by
  refine fn_dn (F__law_below T) sc__law_below (fun vs H Q E h => ?_) B__law_below fun f cdv A outer s H vs Q E hr h => ?_
  · obtain ⟨_, _, _, _, _, _, _, _, _, rfl, _⟩ := h
    rfl
  · obtain ⟨q, c, a, b, W, cl, X, r, k, rfl, ok, hW, hC, hX, hR, kq⟩ := h
    have hn5 := ok.n5
    refine w_setL (lv sc__law_below.nd 5) (v_lst a_nil (by simp)) fun p5 H1 hp5 x1 h5 => ?_
    refine w_forR T.fre (lv sc__law_below.nd 6) (j := (W.n : Int)) (v_lenN T.fre (vn 3) (hX.ex x1) rowV_len) (by omega)
      (fun i σ' H' => ∃ y6 y7 y8 y9, σ' = [some (.ref q), some (.int (k : Int)), some (.ref c), some (.ref a), some (.ref b), some (.ref p5), y6, y7, y8, y9, none] ∧ Ex H H' ∧ H' p5 = some (.lst (lotV ((List.range i).filter fun v => !blw W cl ((k : Int) + 1) X r v))))
      (fun H3 x3 => ⟨none, none, none, none, rfl, x1.trans x3, x3 _ _ h5⟩) ?_ ?_
    · rintro v σ' H2 hi ⟨y6, y7, y8, y9, rfl, xx, h2⟩
      have hv : v < W.n := by omega
      obtain ⟨qf, qs, qm, qd, hL, ⟨as, ha, hl⟩, _, _, ⟨us, hu, hd⟩⟩ := id (hW.ex xx)
      have hX2 := hX.ex xx
      have hR2 := hR.ex xx
      refine w_ifM (fun σ' H' => ∃ y8 y9, σ' = [some (.ref q), some (.int (k : Int)), some (.ref c), some (.ref a), some (.ref b), some (.ref p5), some (.int (v : Int)), some (.bl (blw W cl ((k : Int) + 1) X r v)), y8, y9, none] ∧ Ex H2 H')
        (t_eqI (v_lenN (m := (W.s1 v).length) T.fre (v_ix (n := v) (v_ix (n := 0) (vn 0) v_int (.inl hL) rfl) (vn 6) ha (refV_at hv)) (hl v hv) lotV_len) v_int) (fun hc H3 x3 => ?_) (fun hc H3 x3 => ?_) ?_
      · rw [len0_mv] at hc
        have hm : W.mv v = false := by simpa using hc
        have e : blw W cl ((k : Int) + 1) X r v = (decide (r v = 0) && decide (X v ≤ (W.due v).num ((k : Int) + 1))) := by unfold blw; rw [if_neg (by rw [hm]; simp)]
        rw [e]
        exact w_set (lv sc__law_below.nd 7) (v_and (v_eqI (v_ix (n := v) (vn 4) (vn 6) (hR2.ex x3) (rowV_at hv)) v_int) fun _ => v_one (v_le (v_ix (n := v) (vn 3) (vn 6) (hX2.ex x3) (rowV_at hv)) (v_call (d_ldue T) (hr.mono (by decide)) (a_cons (v_ix (n := v) (v_ix (n := 3) (vn 0) v_int (.inl (ex_l x3 hL)) rfl) (vn 6) (hu.ex x3) (map_at hv)) (a_cons (vn 1) a_nil)) fun H4 x4 Q3 k3 E3 => ⟨us v, W.due v, (k : Int), rfl, (hd v hv).ex (x3.trans x4), k3⟩))) fun H4 x4 => w_nil ⟨_, _, rfl, x3.trans x4⟩
      · rw [len0_mv] at hc
        have hm : W.mv v = true := by simpa using hc
        refine w_if (t_bool (p_or (t_eqI (v_ix (n := v) (vn 3) (vn 6) (hX2.ex x3) (rowV_at hv)) v_int) fun _ => p_or1 (t_eqI (v_ix (n := v) (vn 4) (vn 6) (hR2.ex x3) (rowV_at hv)) v_int))) (fun hc3 H5 x5 => ?_) (fun hc3 H5 x5 => ?_)
        · have h0 : X v = 0 ∨ r v = 0 := by simpa using hc3
          have e : blw W cl ((k : Int) + 1) X r v = decide (X v = r v) := by unfold blw; rw [if_pos hm, if_pos h0]
          rw [e]
          have x25 := x3.trans x5
          exact w_set (lv sc__law_below.nd 7) (v_eqI (v_ix (n := v) (vn 3) (vn 6) (hX2.ex x25) (rowV_at hv)) (v_ix (n := v) (vn 4) (vn 6) (hR2.ex x25) (rowV_at hv))) fun H6 x6 => w_nil (w_nil ⟨_, _, rfl, x25.trans x6⟩)
        · have h0 : ¬ (X v = 0 ∨ r v = 0) := by simpa using hc3
          have e : blw W cl ((k : Int) + 1) X r v = decide (X v ≤ W.pr (sub1 (ge r (lst cl r v)) X) v) := by unfold blw; rw [if_pos hm, if_neg h0]
          rw [e]
          have x25 := x3.trans x5
          refine w_set (v := .int (lst cl r v)) (lv sc__law_below.nd 8) (by
            have e2 : lst cl r v = r v + if (!cl v) = true then 1 else 0 := by
              unfold lst
              cases cl v <;> simp
            rw [e2, ← in_fil (n := W.n) (c := cl) hv]
            exact v_add (v_ix (n := v) (vn 4) (vn 6) (hR2.ex x25) (rowV_at hv)) (v_intB T.fre (v_niS (vn 6) (vn 2) (hC.ex (xx.trans x25)) rfl lot_flat))) fun H6 x6 => ?_
          have x26 := x25.trans x6
          refine w_setC (xs := rowV W.n (sub1 (ge r (lst cl r v)) X)) (lv sc__law_below.nd 9) rfl (c_mapR (n := 10) T.fre sc__law_below.nd (bk sc__law_below (by decide +kernel)) (v_lenN T.fre (vn 3) (hX2.ex x26) rowV_len) (by omega) (fun u => .int (sub1 (ge r (lst cl r v)) X u)) (fun u hu s0 H0 C cl1 fp => by
            rw [sub1_eq]
            exact v_sub (v_ix (n := u) (vn 3) (vn 10) (hX2.ex x26) (rowV_at hu)) (v_intB T.fre (v_ge (v_ix (n := u) (vn 4) (vn 10) (hR2.ex x26) (rowV_at hu)) (vn 8))))) (sw_true rfl rfl rfl (by decide +kernel)) fun p9 H7 hp9 x7 h9 => ?_
          have x27 := x26.trans x7
          exact w_set (lv sc__law_below.nd 7) (v_le (v_ix (n := v) (vn 3) (vn 6) (hX2.ex x27) (rowV_at hv)) (v_call (d_lprice T) hr (a_cons (vn 0) (a_cons (vn 1) (a_cons (vn 9) (a_cons (vn 6) a_nil)))) fun H8 x8 Q2 k2 E2 => ⟨q, p9, W, _, v, (k : Int), rfl, ok, hW.ex ((xx.trans x27).trans x8), .ls (x8 _ _ h9), hv, by rw [prE hm]; exact k2⟩)) fun H8 x8 => w_nil (w_nil ⟨_, _, rfl, x27.trans x8⟩)
      · rintro σ' H3 ⟨y8, y9, rfl, x3⟩
        refine w_when (t_not (t_val (vn 7))) (fun hc H4 x4 => ?_) (fun hc H4 x4 => ?_)
        · refine w_app (q := p5) (x4 _ _ (x3 _ _ h2)) (vn 5) (vn 6) (by rw [lotV_len]; have := List.length_filter_le (fun v => !blw W cl ((k : Int) + 1) X r v) (List.range v); rw [List.length_range] at this; omega) fun H5 x5 => ?_
          exact w_nil (w_nil ⟨_, _, _, _, rfl, Ex.mut (((xx.trans x3).trans x4).trans x5) hp5, by rw [upd_same, fil_next hc]⟩)
        · exact w_nil ⟨_, _, _, _, rfl, (xx.trans x3).trans x4, by rw [x4 _ _ (x3 _ _ h2), fil_same hc]⟩
    · rintro σ' H2 ⟨y6, y7, y8, y9, rfl, xx, h2⟩
      exact w_ret (vn 5) fun H3 x3 => kq p5 H3 hp5 (xx.trans x3) (x3 _ _ h2)
end
end PwD
end
/-! ### PwY -/
section
set_option linter.all false
set_option maxRecDepth 100000
set_option maxHeartbeats 8000000
/-! raising: texts, raise, the looks -/
namespace Wk
open PySem PySem.Spec PyProof.Rows L2 Evl Pw
section
variable {X : Cx} {e a b c o : Expr} {es : List Expr} {rest : List Stmt} {σ : L2.St} {H : Hp} {u v x : V} {pos p p2 p3 : Pos} {n m : Nat} {s y : Str} {i : Int} {D0 : Ends}
/-- the parts of a text come to one of at most n signs -/
def VJ (X : Cx) (es : List Expr) (σ : L2.St) (H : Hp) (n : Nat) : Prop := ∃ ts, PJ X es ts ∧ ∀ (acc : Str) H1, Ex H H1 → acc.length + n ≤ 100000 → ∀ Q : Str → Hp → Prop, (∀ out H2, Ex H1 H2 → out.length ≤ acc.length + n → Q out H2) → tJs ts acc σ H1 Q
theorem j_nil : VJ X [] σ H 0 := ⟨[], .nil, fun acc H1 e1 hz Q g => g acc H1 (Ex.refl H1) (Nat.le_refl _)⟩
theorem j_part {t : TE} {k : Nat} (hp : PE X e t) (ht : ∀ H1, Ex H H1 → ∀ Q : VK, (∀ y : Str, y.length ≤ k → ∀ H2, Ex H1 H2 → Q (.str y) H2) → t σ H1 Q) (hr : VJ X es σ H n) : VJ X (e :: es) σ H (k + n) := by
  obtain ⟨ts, h1, h2⟩ := hr
  refine ⟨t :: ts, .cons hp h1, fun acc H1 e1 hz Q g => ht H1 e1 _ fun y hy H2 e2 => ⟨y, rfl, ?_, ?_⟩⟩
  · rw [PySem.Str.length_append]
    exact sz_of (by omega)
  · refine h2 (acc ++ y) H2 (e1.trans e2) (by rw [PySem.Str.length_append]; omega) Q fun out H3 e3 ho => g out H3 (e2.trans e3) ?_
    rw [PySem.Str.length_append] at ho
    omega
theorem j_str {k : Nat} (hk : s.length ≤ k) (hr : VJ X es σ H n) : VJ X (.Constant (.str s) m pos :: es) σ H (k + n) :=
  j_part pe_str (fun H1 e1 Q g => g s hk H1 (Ex.refl H1)) hr
theorem j_fmt {k : Nat} (hv : VE X e σ H (.str y)) (hk : y.length ≤ k) (hk2 : k ≤ 100000) (hr : VJ X es σ H n) : VJ X (.FormattedValue e (-1) none pos :: es) σ H (k + n) :=
  j_part (pe_fmt peW) (fun H1 e1 Q g => hv H1 e1 _ fun H2 e2 => .inl ⟨y, rfl, sz_of (by omega), g y hk H2 e2⟩) hr
theorem j_int {k : Nat} (hv : VE X e σ H (.int i)) (hi : i.natAbs.log2 < 1920) (hk : ((toString i : String) : Str).length ≤ k) (hr : VJ X es σ H n) : VJ X (.FormattedValue e (-1) none pos :: es) σ H (k + n) :=
  j_part (pe_fmt peW) (fun H1 e1 Q g => hv H1 e1 _ fun H2 e2 => .inr ⟨i, rfl, hi, g _ hk H2 e2⟩) hr
theorem v_join (h : VJ X (a :: b :: es) σ H n) (hn : n ≤ 100000) : VD X (.JoinedStr (a :: b :: es) pos) σ H (fun u _ => ∃ y : Str, u = .str y ∧ y.length ≤ n) := fun H1 e1 Q g => by
  obtain ⟨ts, h1, h2⟩ := h
  refine ofE (pe_joined h1) (h2 Str.empty H1 e1 (by show 0 + n ≤ 100000; omega) _ fun out H2 e2 ho => g _ H2 e2 ⟨out, rfl, ?_⟩)
  have z : (Str.empty).length = 0 := rfl
  rw [z] at ho
  omega
/-- raise X(message) -/
theorem w_raise {E : XK} {C : Addr} {P : V → Hp → Prop} (T : PwH.ExX X.K C) (hm : X.mg s = some (.ref C)) (h : VD X e σ H P) (k : ∀ H1, Ex H H1 → E (.ref C) none H1)
    (tk : Takes X (fun cls d _ H => E cls d H) := by exact takes_of rfl rfl rfl rfl) (hc : X.calm = true := by rfl) (hg : Gl X s := by rfl) (hs : starEach [e] X.env = (false, eval e X.env) :: starEach [] X.env := by rfl) (hdb : (s == ("__debug__" : Str)) = false := by decide) :
    WS X (.Raise (some (.Call (.Name s p) [e] [] p2)) none pos :: rest) D0 σ H :=
  w_cons (ps_raise hc tk (SkE.pmk_own1 PySem.F.excBase_Exception T.ex hm T.kp (raises_own T.sub T.ty) hg peW hs hdb)) (h H (Ex.refl H) _ fun u H1 e1 _ => k H1 e1)
/-- what a callee of ours may let out is ours -/
theorem passE {E : XK} (tk : Takes X (fun cls d _ H => E cls d H) := by exact takes_of rfl rfl rfl rfl) : Passes (L2.CX X.prog X.w) X E := passes_call tk fun _ _ _ _ h => h
theorem v_bn {T : String} (hm : X.mg s = none) (hv : bootBuiltins s = some (.type T)) (hg : Gl X s := by rfl) (hn : s ≠ "__name__" := by decide) (hd : (s == ("__debug__" : Str)) = false := by decide) : VE X (.Name s pos) σ H (.ty T) := lift (pe_bltn (v := .ty T) hg hm hv rfl hn hd) ev_c
theorem ty_sq {K : PySem.W.Frag} {q : Addr} {xs : List V} (h : Sq K H q xs) : ∃ t, TyX K H (.ref q) t ∧ (t = .type "list" ∨ t = .type "tuple") := by
  rcases h with ((h | ⟨o, h⟩) | ⟨o, its, n, h, hc, _⟩) | ((h | ⟨o, h⟩) | ⟨o, its, n, h, hc, _⟩)
  · exact ⟨_, .base (.lst h), .inl rfl⟩
  · exact ⟨_, .base (.frz h), .inl rfl⟩
  · exact ⟨_, .kList h hc, .inl rfl⟩
  · exact ⟨_, .base (.tup h), .inr rfl⟩
  · exact ⟨_, .fTuple h, .inr rfl⟩
  · exact ⟨_, .kTuple h hc, .inr rfl⟩
theorem ty_ex {K : PySem.W.Frag} {q : Addr} {xs : List V} {H' : Hp} (e : Ex H H') (h : Sq K H q xs) : Sq K H' q xs := h.ex e
/-- isinstance(xs, (list, tuple)) -/
theorem v_isS {q : Addr} {xs : List V} (fr : Fre X.mg) (hq : Sq X.K H q xs) (ha : VE X a σ H (.ref q)) (hg : Gl X "isinstance" := by rfl) (hg1 : Gl X "list" := by rfl) (hg2 : Gl X "tuple" := by rfl)
    (hs : starEach [a, .Tuple [.Name "list" p2, .Name "tuple" p3] m pos] X.env = (false, eval a X.env) :: starEach [.Tuple [.Name "list" p2, .Name "tuple" p3] m pos] X.env := by rfl)
    (hs2 : starEach [.Tuple [.Name "list" p2, .Name "tuple" p3] m pos] X.env = (false, eval (.Tuple [.Name "list" p2, .Name "tuple" p3] m pos) X.env) :: starEach [] X.env := by rfl)
    (hs3 : starEach [.Name "list" p2, .Name "tuple" p3] X.env = (false, eval (.Name "list" p2) X.env) :: starEach [.Name "tuple" p3] X.env := by rfl)
    (hs4 : starEach [.Name "tuple" p3] X.env = (false, eval (.Name "tuple" p3) X.env) :: starEach [] X.env := by rfl) {pos2 : Pos}
    (hpl : (backTo pos2 (starEach [.Tuple [.Name "list" p2, .Name "tuple" p3] m pos] X.env)).any (·.1) = false := by rfl) :
    VE X (.Call (.Name "isinstance" p) [a, .Tuple [.Name "list" p2, .Name "tuple" p3] m pos] [] pos2) σ H (.bl true) := fun H1 e1 Q g =>
  ofE (pe_callB call_isiT hg fr.isi boot_isinstance (pa_cons peW (pa_cons peW pa_nil hs2) hs) (by decide) (by decide) hs hpl) (ha H1 e1 _ fun H2 e2 =>
    v_tup (a_cons (v_bn fr.list_ PyProof.Rows.boot_list hg1) (a_cons (v_bn fr.tuple_ PyProof.Rows.boot_tuple hg2) a_nil hs4) hs3) (by simp) H2 (Ex.refl H2) _ fun tp H3 _ e3 h3 => by
      obtain ⟨t, ht, hl⟩ := ty_sq ((hq.ex e1).ex (e2.trans e3))
      refine ⟨.ref q, tp, _, t, [.type "list", .type "tuple"], true, rfl, h3, .cons (.ty "list") (.cons (.ty "tuple") .nil), ht, ?_, g H3 (e2.trans e3)⟩
      rcases hl with rfl | rfl
      · exact kitAny_cons (b := true) (kit_ty (by decide +kernel)) (fun z => by cases z) fun _ => rfl
      · exact kitAny_cons (b := false) (kit_ty (by decide +kernel)) (fun _ => kitAny_cons (b := true) (kit_ty (by decide +kernel)) (fun z => by cases z) fun _ => rfl) fun z => by cases z)
end
end Wk
namespace PwD
open PySem PySem.Spec PyProof.Rows L2 Evl Pw Wk PwH
/-- an int, a text, None -/
def Sim (x : V) : Prop := (∃ i, x = .int i) ∨ x = .non ∨ ∃ s : Str, x = .str s
def isI : V → Bool
  | .int _ => true
  | _ => false
abbrev Err (E : XK) (C : Addr) (H : Hp) : Prop := ∀ H2, Ex H H2 → E (.ref C) none H2
theorem Err.ex {E : XK} {C : Addr} {H H' : Hp} (e : Ex H H') (h : Err E C H) : Err E C H' := fun H2 e2 => h H2 (e.trans e2)
section
variable {P : Program} {w : World} {K : PySem.W.Frag} {mg : Str → Option Value} {base : Heap}
def spIsI : Sp := fun vs H Q _ => ∃ x, vs = [x] ∧ Sim x ∧ RetV (.bl (isI x)) H Q
theorem d_isint (T : Hd K mg) : Dn P w K mg base 1 "is_integer" [] spIsI := by
  refine fn_dn (F_is_integer T) sc_is_integer (fun vs H Q E h => ?_) B_is_integer fun f cdv A outer s H vs Q E hr h => ?_
  · obtain ⟨_, rfl, _⟩ := h
    rfl
  · obtain ⟨x, rfl, hx, kq⟩ := h
    rcases hx with ⟨i, rfl⟩ | rfl | ⟨y, rfl⟩
    · refine w_ret (v := .bl (true && !false)) (v_and (v_bi call_isi T.fre.isi boot_isinstance (a_cons (vn 0) (a_cons (v_bn T.fre.int_ PyProof.Rows.boot_int) a_nil)) fun H1 e1 Q1 k1 => ⟨_, _, _, _, true, rfl, .ty "int", .base (.int i), kit_ty (by decide +kernel), k1 H1 (Ex.refl H1)⟩) fun _ => v_one (v_not (v_bi call_isi T.fre.isi boot_isinstance (a_cons (vn 0) (a_cons (v_bn T.fre.bool_ PyProof.Rows.boot_bool) a_nil)) fun H1 e1 Q1 k1 => ⟨_, _, _, _, false, rfl, .ty "bool", .base (.int i), kit_ty (by decide +kernel), k1 H1 (Ex.refl H1)⟩))) kq
    · refine w_ret (v := .bl (false && true)) (v_and (v_bi call_isi T.fre.isi boot_isinstance (a_cons (vn 0) (a_cons (v_bn T.fre.int_ PyProof.Rows.boot_int) a_nil)) fun H1 e1 Q1 k1 => ⟨_, _, _, _, false, rfl, .ty "int", .base .non, kit_ty (by decide +kernel), k1 H1 (Ex.refl H1)⟩) fun z => by cases z) kq
    · refine w_ret (v := .bl (false && true)) (v_and (v_bi call_isi T.fre.isi boot_isinstance (a_cons (vn 0) (a_cons (v_bn T.fre.int_ PyProof.Rows.boot_int) a_nil)) fun H1 e1 Q1 k1 => ⟨_, _, _, _, false, rfl, .ty "int", .base (.str y), kit_ty (by decide +kernel), k1 H1 (Ex.refl H1)⟩) fun z => by cases z) kq
def spNI (K : PySem.W.Frag) : Sp := fun vs H Q E => ∃ (x : V) (y : Str), vs = [x, .str y] ∧ Sim x ∧ y.length ≤ 2000 ∧ (isI x = true → RetV .non H Q) ∧ (isI x = false → Err E (He.ga K "WrongKind") H)
theorem d_ni (T : Hd K mg) : Dn P w K mg base 2 "need_integer" [] (spNI K) := by
  refine fn_dn (F_need_integer T) sc_need_integer (fun vs H Q E h => ?_) B_need_integer fun f cdv A outer s H vs Q E hr h => ?_
  · obtain ⟨_, _, rfl, _⟩ := h
    rfl
  · obtain ⟨x, y, rfl, hx, hy, k1, k2⟩ := h
    refine w_when (t_not (t_val (v_call (d_isint T) hr (a_cons (vn 0) a_nil) fun H1 e1 Q1 g E1 => ⟨x, rfl, hx, g⟩))) (fun hc H1 x1 => ?_) (fun hc H1 x1 => ?_)
    · have hc' : isI x = false := by simpa using hc
      exact w_raise (E := E) (X_WrongKind T) (g_WrongKind T) (v_join (j_fmt (k := 2000) (vn 1) hy (by decide) (j_str (k := 100) (by decide +kernel) j_nil)) (by decide)) fun H2 x2 => k2 hc' H2 (x1.trans x2)
    · exact w_nil (k1 (by simpa using hc) H1 x1)
def spNL (K : PySem.W.Frag) : Sp := fun vs H Q _ => ∃ (q : Addr) (y : Str) (xs : List V), vs = [.ref q, .str y] ∧ Sq K H q xs ∧ RetV .non H Q
theorem d_nl (T : Hd K mg) : Dn P w K mg base 1 "need_list" [] (spNL K) := by
  refine fn_dn (F_need_list T) sc_need_list (fun vs H Q E h => ?_) B_need_list fun f cdv A outer s H vs Q E hr h => ?_
  · obtain ⟨_, _, _, rfl, _⟩ := h
    rfl
  · obtain ⟨q, y, xs, rfl, hq, kq⟩ := h
    refine w_skip (k := !true) (t_not (t_val (v_isS T.fre hq (vn 0)))) rfl fun H1 x1 => w_nil (kq H1 x1)
end
end PwD
end
/-! ### PwSt -/
section
set_option linter.all false
/-! set(xs) of a list of ints, as SetFor has it of a tuple; sorted of a set -/
namespace L2
open PySem PySem.Spec PyProof.Rows
/-- a set, just made -/
def newSet (w : World) : Obj := { cls := .type "set", dict := none, data := .set #[] 0 (.fresh 0 0 (!w.params.followText "set-order")) }
section
variable {P : Program} {w : World} {A : Around} {E : Value → Shared → Prop} {s : Shared}
set_option maxRecDepth 100000 in
set_option maxHeartbeats 3200000 in
theorem set_of_list {q : Addr} {xs : Array Value} (js : List Int) {Q : Value → Shared → Prop} (calm : A.handled = none) (lq : s.heap.IsList q xs) (jx : IntsAre xs.toList js) (few : js.length + 1 < scanBound)
    (k : ∀ (g : Heap) (tk m : Nat), SetR w g s.heap.objs.size (fun j => decide (j ∈ js)) m → m ≤ js.length → (∀ b o, s.heap.get? b = some o → g.get? b = some o) → Q (.ref s.heap.objs.size) { s with heap := g, toks := tk }) :
    wpAny (model P w) A (call (.type "set") [.ref q]) Q E s := by
  have xn : xs.size = js.length := by rw [← Array.length_toList]; exact IntsAre.length jx
  obtain ⟨mc, ml, mro⟩ := F.called_set.mro
  have made := F.called_set.made
  have sub := F.called_set.sub
  have no1 := F.called_set.notType
  have no2 := F.called_set.canCreate
  have tc := F.typeCall_set_1 (.ref q)
  refine wpAny_call (codeAny_of_tree ?_)
  show wpAny _ _ (callAny (.type "set") _) _ _ _
  refine wpAny_pure ⟨Code.quiet_builtin _ (by decide +kernel), codeAny_builtin F.entry_type_call (by
    rw [Around.under_plain (weight_type_call_type "set" [.ref q] []) rfl]
    repeat (any_goals (first | assumption | wp_step))
    refine codeAny_mono (code_set_led1 (.ref q) (E := E) (Q₁ := fun z s₁ => z = .ref s.heap.objs.size ∧ s₁ = { s with heap := s.heap.push (newSet w) }) ⟨rfl, rfl⟩) fun r s₁ hr => ?_
    match r, hr with
    | .error e, hr => exact hr
    | .ok .next, hr => exact hr.elim
    | .ok .brk, hr => exact hr.elim
    | .ok .cont, hr => exact hr.elim
    | .ok (.ret z), hr =>
      obtain ⟨rfl, rfl⟩ := hr
      have at0 : (s.heap.push (newSet w)).get? s.heap.objs.size = some (newSet w) := Heap.get?_push_size _ rfl
      have ty0 : Shared.TypeIs { s with heap := s.heap.push (newSet w) } (.ref s.heap.objs.size) "set" := ⟨_, at0, rfl⟩
      have il := F.called_set.init.lookup
      have ib := F.called_set.init.bind (.ref s.heap.objs.size)
      repeat (any_goals (first | assumption | wp_step))
      refine codeAny_mono (codeAny_call_builtin (R := wants (fun r s₂ => r = .none ∧ ∃ g tk m, s₂ = { s with heap := g, toks := tk } ∧ SetR w g s.heap.objs.size (fun j => decide (j ∈ js)) m ∧ m ≤ js.length ∧
          (∀ b o, s.heap.get? b = some o → g.get? b = some o)) E) F.called_set.init.plain F.entry_set_init (check_set_init_1 ty0 ?_)) fun r₂ s₂ hr₂ => ?_
      · obtain ⟨⟨c0, d0, t0, z0⟩, aq, ec, nq, ed⟩ := lq
        simp only at ec ed
        subst ec; subst ed
        have aq' : (s.heap.push (newSet w)).get? q = some { cls := .type "list", dict := d0, data := .seq xs nq, slots := z0 } := Heap.get?_push_of_some _ aq
        have sb1 := F.sub_list_set
        have sb2 := F.sub_list_frozenset
        have nd : (Value.type "list" == Value.type "dict") = false := by decide
        have lq1 : (s.heap.push (newSet w)).IsList q xs := ⟨_, aq', rfl, nq, rfl⟩
        have qS : q < s.heap.objs.size := Heap.lt_size aq
        have zS : (s.heap.push (newSet w)).objs.size = s.heap.objs.size + 1 := Heap.size_push ..
        unfold Builtin.«set.__init__» noKeywords Builtin.Frozenset.updateFrom
        generalize hPI : pyIter = PI
        wp_walk
        subst hPI
        refine wpAny_pyIter_list lq1 (wpAny_bind (wpAny_runValue ?_))
        have calm3 : A.in1.in1.in1.handled = none := by simp [calm]
        have nI : q ≠ (s.heap.push (newSet w)).objs.size := by rw [zS]; exact Nat.ne_of_lt (Nat.lt_succ_of_lt qS)
        have nS : s.heap.objs.size ∉ [(s.heap.push (newSet w)).objs.size, q] := by
          rw [zS]
          simp only [List.mem_cons, List.not_mem_nil, or_false, not_or]
          exact ⟨Nat.ne_of_lt (Nat.lt_succ_self _), Nat.ne_of_gt qS⟩
        have val : ∀ (i : Nat) (v : Value), xs[i]? = some v → ∃ j t, js[i]? = some j ∧ v = .int j t := fun i v hv => by
          have hi : i < js.length := by rw [← xn]; exact (Array.getElem?_eq_some_iff.mp hv).1
          obtain ⟨t, e⟩ := IntsAre.int_at jx i v (by rw [Array.getElem?_toList]; exact hv)
          exact ⟨js[i], t, List.getElem?_eq_getElem hi, by rw [e, List.getD_eq_getElem?_getD, List.getElem?_eq_getElem hi] <;> rfl⟩
        refine set_update_ints ((Walks.list calm3 _ q nI xs).toS) s.heap.objs.size nS js xn few val (xs.size - 0) 0 _ (by omega) (Nat.zero_le _) ⟨⟨_, Heap.get?_push_size _ rfl, rfl, rfl⟩, (lq1.push _)⟩
          ⟨0, Nat.le_refl 0, setR_new_at (Heap.get?_push_of_some _ at0)⟩ fun s' m mv lm R => ?_
        obtain ⟨g, g2, d', tk', os'⟩ := s'
        have e1 : g2 = s.gens := mv.gens
        have e2 : d' = s.drawn := mv.drawn
        have e3 : os' = s.os := mv.os
        subst e1 e2 e3
        show wpAny _ _ _ _ _ _
        refine wpAny_pure ?_
        show wpAny _ _ (ret Value.none) _ _ _
        rw [xn] at lm
        refine wpAny_pure ⟨rfl, g, tk', m, rfl, R, lm, fun b o e => mv.heap b o ?_ (Heap.get?_push_of_some _ (Heap.get?_push_of_some _ e))⟩
        have bS : b < s.heap.objs.size := Heap.lt_size e
        rw [zS]
        simp only [List.mem_cons, List.not_mem_nil, or_false, not_or]
        exact ⟨Nat.ne_of_lt bS, Nat.ne_of_lt (Nat.lt_succ_of_lt bS)⟩
      · match r₂, hr₂ with
        | .error e, hr₂ => exact hr₂
        | .ok .next, hr₂ => exact hr₂.elim
        | .ok .brk, hr₂ => exact hr₂.elim
        | .ok .cont, hr₂ => exact hr₂.elim
        | .ok (.ret r), hr₂ =>
          obtain ⟨rfl, g, tk, m, rfl, R, lm, kp⟩ := hr₂
          repeat (any_goals (first | assumption | wp_step))
          exact k _ _ _ R lm kp)⟩
end
section
variable {X : Cx}
/-- set(xs), ints, of a list or tuple -/
def rSetOf (K : PySem.W.Frag) (w : World) : List V → Hp → VK → Prop := fun vs H Q => ∃ (q : Addr) (ns : List Int), vs = [.ref q] ∧ Wk.Sq K H q (ns.map V.int) ∧ ns.length ≤ 1000 ∧ ∀ p m, H p = none → m ≤ ns.length → Q (.ref p) (upd H p (SetO w p (fun j => decide (j ∈ ns)) m))
theorem cr_setOf (hc : X.calm = true) : CallR X (.type "set") (rSetOf X.K X.w) := by
  intro pins s σ H vs us Q I r h
  obtain ⟨q, ns, rfl, hq, hz, k⟩ := h
  rw [Vals.ref1 r]
  have fin : ∀ (g : Heap) (tk m : Nat), SetR X.w g s.heap.objs.size (fun j => decide (j ∈ ns)) m → m ≤ ns.length → (∀ b o, s.heap.get? b = some o → g.get? b = some o) → EP X pins σ Q (.ref s.heap.objs.size) { s with heap := g, toks := tk } := fun g tk m R lm kp =>
    ⟨.ref s.heap.objs.size, _, I.laid (t' := tk) (o := SetO X.w s.heap.objs.size (fun j => decide (j ∈ ns)) m) kp (Nat.le_refl _) (setO_new R), rfl, k _ _ (I.hok.fresh (Nat.le_refl _)) lm⟩
  rcases hq with hq | hq
  · obtain ⟨its, rv, hl, _⟩ := I.list hq
    exact set_of_list ns (I.ok.hd hc) hl.isList (by show IntsAre its ns; exact rv.ints) (by unfold scanBound; omega) fin
  · obtain ⟨its, rv, hl, _⟩ := I.tuple hq
    exact call_set_tupI ns (I.ok.hd hc) hl (by show IntsAre its ns; exact rv.ints) (by unfold scanBound; omega) fin
end
end L2
namespace Wk
open PySem PySem.Spec PyProof.Rows L2 Evl Pw
section
variable {X : Cx} {a : Expr} {σ : L2.St} {H : Hp} {pos p : Pos} {q : Addr} {P : V → Hp → Prop}
/-- sorted(set(xs)) -/
theorem v_sortSet (fr : Fre X.mg) {ns : List Int} {pos2 p2 : Pos} (ha : VE X a σ H (.ref q)) (hq : Sq X.K H q (ns.map V.int)) (hz : ns.length < 64) (hc : X.calm = true := by rfl) (hg : Gl X "set" := by rfl) (hg2 : Gl X "sorted" := by rfl)
    (hs : starEach [a] X.env = (false, eval a X.env) :: starEach [] X.env := by rfl) (hpl : (backTo pos (starEach [] X.env)).any (·.1) = false := by rfl)
    (hs2 : starEach [.Call (.Name "set" p) [a] [] pos] X.env = (false, eval (.Call (.Name "set" p) [a] [] pos) X.env) :: starEach [] X.env := by rfl) (hpl2 : (backTo pos2 (starEach [] X.env)).any (·.1) = false := by rfl) :
    VD X (.Call (.Name "sorted" p2) [.Call (.Name "set" p) [a] [] pos] [] pos2) σ H (fun u H2 => ∃ (p : Addr) (ms : List Int), u = .ref p ∧ H2 p = some (.lst (ms.map V.int)) ∧ ms.Pairwise (· < ·) ∧ ∀ k : Int, k ∈ ms ↔ k ∈ ns) := fun H1 e1 Q g =>
  ofE (pe_callB (cr_sortedSet hc) hg2 fr.sorted_ PyProof.Rows.boot_sorted (pa_cons (pe_callTy (cr_setOf hc) hg fr.set_ PyProof.Rows.boot_set (pa_cons peW pa_nil hs) (by decide) (by decide) hs hpl) pa_nil hs2) (by decide) (by decide) hs2 hpl2)
    (ha H1 e1 _ fun H2 e2 => ⟨q, ns, rfl, hq.ex (e1.trans e2), by omega, fun p m hp hm => ⟨p, _, m, rfl, upd_same, by omega, fun ms p2 pw mem _ hp2 => g _ _ ((e2.trans (Ex.new hp)).trans (Ex.new hp2)) ⟨p2, ms, rfl, upd_same, pw, fun k => by rw [mem k]; exact decide_eq_true_iff⟩⟩⟩)
end
end Wk
end
/-! ### PwYb -/
section
set_option linter.all false
set_option maxRecDepth 100000
set_option maxHeartbeats 8000000
/-! the looks, second part -/
namespace Wk
open PySem PySem.Spec PyProof.Rows L2 Evl Pw
section
variable {X : Cx} {e : Expr} {es : List Expr} {rest : List Stmt} {σ : L2.St} {H : Hp} {pos p p2 : Pos} {m : Nat} {s : Str} {dvs : List V} {sp : Sp} {R : List V → Hp → Prop} {D0 : Ends}
theorem w_callXD {E : XK} (D : Dn X.prog X.w X.K X.mg X.base m s dvs sp) (hr : Room m X.A) (hx : Passes (L2.CX X.prog X.w) X E) (ha : VAD X (e :: es) σ H R) (hs : ∀ vs H1, Ex H H1 → R vs H1 → sp (vs ++ dvs) H1 (fun _ H2 => WS X rest D0 σ H2) E) (hg : Gl X s := by rfl) (hdb : (s == ("__debug__" : Str)) = false := by decide)
    (he : starEach (e :: es) X.env = (false, eval e X.env) :: starEach es X.env := by rfl) (hpl : (backTo pos (starEach es X.env)).any (·.1) = false := by rfl) (hsw : swapsWith (.Call (.Name s p) (e :: es) [] pos) none p2.line X.env = pure false := by rfl) :
    WS X (.Expr (.Call (.Name s p) (e :: es) [] pos) p2 :: rest) D0 σ H :=
  ofS (pss_cons (ps_expr (pe_dn D hr hx paW hg hdb he hpl) hsw) pssW) (ha H (Ex.refl H) _ fun vs H1 e1 hR => hs vs H1 e1 hR)
/-- y = f(..), which may raise -/
theorem w_setX {E : XK} {n : Nat} {t : Str} {vs : List V} (lv : LV X n t) (D : Dn X.prog X.w X.K X.mg X.base m s dvs sp) (hr : Room m X.A) (hx : Passes (L2.CX X.prog X.w) X E) (ha : VA X (e :: es) σ H vs) (hs : ∀ H1, Ex H H1 → sp (vs ++ dvs) H1 (fun u H2 => WS X rest D0 (σ.set n (some u)) H2) E) (hg : Gl X s := by rfl) (hdb : (s == ("__debug__" : Str)) = false := by decide)
    (he : starEach (e :: es) X.env = (false, eval e X.env) :: starEach es X.env := by rfl) (hpl : (backTo pos (starEach es X.env)).any (·.1) = false := by rfl) (hsw : swapsWith (.Call (.Name s p) (e :: es) [] pos) (some (.Name t p2)) p2.line X.env = pure false := by rfl) {pos3 : Pos} (hsw3 : swapsWith (.Call (.Name s p) (e :: es) [] pos) (some (.Name t p2)) pos3.line X.env = pure false := by rfl) :
    WS X (.Assign [.Name t p2] (.Call (.Name s p) (e :: es) [] pos) pos3 :: rest) D0 σ H :=
  w_cons (ps_set lv.nd lv.ix lv.loc (pe_dn D hr hx paW hg hdb he hpl) hsw3 lv.fn) (ha H (Ex.refl H) _ fun H1 e1 => hs H1 e1)
/-- return f(..), which may raise -/
theorem w_retX {E : XK} {vs : List V} (D : Dn X.prog X.w X.K X.mg X.base m s dvs sp) (hr : Room m X.A) (hx : Passes (L2.CX X.prog X.w) X E) (ha : VA X (e :: es) σ H vs) (hs : ∀ H1, Ex H H1 → sp (vs ++ dvs) H1 D0.rt E) (hg : Gl X s := by rfl) (hdb : (s == ("__debug__" : Str)) = false := by decide)
    (he : starEach (e :: es) X.env = (false, eval e X.env) :: starEach es X.env := by rfl) (hpl : (backTo pos (starEach es X.env)).any (·.1) = false := by rfl) {pos3 : Pos} :
    WS X (.Return (some (.Call (.Name s p) (e :: es) [] pos)) pos3 :: rest) D0 σ H :=
  w_cons (ps_ret (pe_dn D hr hx paW hg hdb he hpl)) (ha H (Ex.refl H) _ fun H1 e1 => hs H1 e1)
end
end Wk
namespace PwD
open PySem PySem.Spec PyProof.Rows L2 Evl Pw Wk PwH
theorem small_text : ∀ m : Fin 101, ((toString ((m.val : Nat) : Int) : String) : Str).length ≤ 10 := by decide +kernel
theorem big_text : ((toString (10 ^ 40 : Int) : String) : Str).length ≤ 100 := by decide +kernel
section
variable {P : Program} {w : World} {K : PySem.W.Frag} {mg : Str → Option Value} {base : Heap}
/-- number < 0 -/
def spNF (K : PySem.W.Frag) : Sp := fun vs H Q E => ∃ (i : Int) (y : Str), vs = [.int i, .int 0, .str y] ∧ y.length ≤ 1000 ∧ (0 ≤ i → RetV .non H Q) ∧ (i < 0 → Err E (He.ga K "WrongNumber") H)
theorem d_nf (T : Hd K mg) : Dn P w K mg base 1 "need_from" [] (spNF K) := by
  refine fn_dn (F_need_from T) sc_need_from (fun vs H Q E h => ?_) B_need_from fun f cdv A outer s H vs Q E hr h => ?_
  · obtain ⟨_, _, rfl, _⟩ := h
    rfl
  · obtain ⟨i, y, rfl, hy, k1, k2⟩ := h
    refine w_when (t_lt (vn 0) (vn 1)) (fun hc H1 x1 => ?_) (fun hc H1 x1 => ?_)
    · exact w_raise (E := E) (X_WrongNumber T) (g_WrongNumber T) (v_join (j_fmt (k := 1000) (vn 2) hy (by decide) (j_str (k := 100) (by decide +kernel) (j_int (k := 10) (vn 1) (by decide +kernel) (by decide +kernel) j_nil))) (by decide)) fun H2 x2 => k2 (of_decide_eq_true hc) H2 (x1.trans x2)
    · exact w_nil (k1 (by have := of_decide_eq_false hc; omega) H1 x1)
/-- number from 0 to most -/
def spNB (K : PySem.W.Frag) : Sp := fun vs H Q E => ∃ (i : Int) (m : Nat) (y : Str), vs = [.int i, .int 0, .int (m : Int), .str y] ∧ m ≤ 100 ∧ y.length ≤ 1000 ∧ (0 ≤ i ∧ i ≤ m → RetV .non H Q) ∧ (¬ (0 ≤ i ∧ i ≤ m) → Err E (He.ga K "WrongNumber") H)
theorem d_nb (T : Hd K mg) : Dn P w K mg base 1 "need_between" [] (spNB K) := by
  refine fn_dn (F_need_between T) sc_need_between (fun vs H Q E h => ?_) B_need_between fun f cdv A outer s H vs Q E hr h => ?_
  · obtain ⟨_, _, _, rfl, _⟩ := h
    rfl
  · obtain ⟨i, m, y, rfl, hm, hy, k1, k2⟩ := h
    refine w_when (t_bool (p_or (t_lt (vn 0) (vn 1)) fun _ => p_or1 (t_gt (vn 0) (vn 2)))) (fun hc H1 x1 => ?_) (fun hc H1 x1 => ?_)
    · have hc' : i < 0 ∨ (m : Int) < i := by simpa using hc
      have hlog : ((m : Int)).natAbs.log2 < 1920 := by
        have : ((m : Int)).natAbs = m := Int.natAbs_natCast m
        rw [this]
        exact Nat.lt_of_le_of_lt (Nat.log2_le_self m) (by omega)
      exact w_raise (E := E) (X_WrongNumber T) (g_WrongNumber T) (v_join (j_fmt (k := 1000) (vn 3) hy (by decide) (j_str (k := 100) (by decide +kernel) (j_int (k := 10) (vn 1) (by decide +kernel) (by decide +kernel) (j_str (k := 100) (by decide +kernel) (j_int (k := 10) (vn 2) hlog (small_text ⟨m, by omega⟩) j_nil))))) (by decide)) fun H2 x2 => k2 (by omega) H2 (x1.trans x2)
    · have hc' : ¬ (i < 0 ∨ (m : Int) < i) := by simpa using hc
      exact w_nil (k1 (by omega) H1 x1)
/-- number ≤ most -/
def spNU (K : PySem.W.Frag) : Sp := fun vs H Q E => ∃ (i m : Int) (y : Str), vs = [.int i, .int m, .str y] ∧ m.natAbs.log2 < 1920 ∧ ((toString m : String) : Str).length ≤ 100 ∧ y.length ≤ 1000 ∧ (i ≤ m → RetV .non H Q) ∧ (m < i → Err E (He.ga K "TooMuch") H)
theorem d_nu (T : Hd K mg) : Dn P w K mg base 1 "need_up_to" [] (spNU K) := by
  refine fn_dn (F_need_up_to T) sc_need_up_to (fun vs H Q E h => ?_) B_need_up_to fun f cdv A outer s H vs Q E hr h => ?_
  · obtain ⟨_, _, _, rfl, _⟩ := h
    rfl
  · obtain ⟨i, m, y, rfl, hl, ht, hy, k1, k2⟩ := h
    refine w_when (t_gt (vn 0) (vn 1)) (fun hc H1 x1 => ?_) (fun hc H1 x1 => ?_)
    · exact w_raise (E := E) (X_TooMuch T) (g_TooMuch T) (v_join (j_fmt (k := 1000) (vn 2) hy (by decide) (j_str (k := 100) (by decide +kernel) (j_int (k := 100) (vn 1) hl ht j_nil))) (by decide)) fun H2 x2 => k2 (of_decide_eq_true hc) H2 (x1.trans x2)
    · exact w_nil (k1 (by have := of_decide_eq_false hc; omega) H1 x1)
/-- each part an int -/
def spNIs (K : PySem.W.Frag) : Sp := fun vs H Q E => ∃ (q : Addr) (xs : List V) (y : Str), vs = [.ref q, .str y] ∧ Sq K H q xs ∧ (∀ x ∈ xs, Sim x) ∧ y.length ≤ 1000 ∧ (xs.all isI = true → RetV .non H Q) ∧ (xs.all isI = false → Err E (He.ga K "WrongKind") H)
theorem d_nis (T : Hd K mg) : Dn P w K mg base 3 "need_integers" [] (spNIs K) := by
  refine fn_dn (F_need_integers T) sc_need_integers (fun vs H Q E h => ?_) B_need_integers fun f cdv A outer s H vs Q E hr h => ?_
  · obtain ⟨_, _, _, rfl, _⟩ := h
    rfl
  · obtain ⟨q, xs, y, rfl, hq, hx, hy, k1, k2⟩ := h
    refine w_callX (E := E) (d_nl T) (hr.mono (by decide)) passE (a_cons (vn 0) (a_cons (vn 1) a_nil)) fun H1 x1 => ⟨q, y, xs, rfl, hq.ex x1, fun H2 x2 => ?_⟩
    refine w_forS (Hb := H) (lv sc_need_integers.nd 2) (vn 0) hq (fun i σ' H' => ∃ y2, σ' = [some (.ref q), some (.str y), y2] ∧ Ex H H' ∧ (xs.take i).all isI = true) (fun _ _ H' ⟨_, _, z, _⟩ o => z _ o) (fun H3 x3 => ⟨none, rfl, (x1.trans x2).trans x3, by simp⟩) ?_ ?_
    · rintro i x σ' H3 hxi ⟨y2, rfl, x3, ha⟩
      have hm := List.mem_of_getElem? hxi
      have tk : xs.take (i + 1) = xs.take i ++ [x] := by rw [List.take_add_one, hxi]; rfl
      refine w_callXD (E := E) (R := fun vs H5 => ∃ z : Str, vs = [x, .str z] ∧ z.length ≤ 1100) (d_ni T) hr passE (ad_consE (vn 2) (ad_last (v_join (j_str (k := 100) (by decide +kernel) (j_fmt (k := 1000) (vn 1) hy (by decide) j_nil)) (by decide)) fun u H4 x4 hu => by
        obtain ⟨z, rfl, hz⟩ := hu
        exact ⟨z, rfl, hz⟩)) ?_
      · rintro vs H5 x5 ⟨z, rfl, hz⟩
        have x35 := x3.trans x5
        refine ⟨x, z, rfl, hx x hm, by omega, fun hi H6 x6 => w_nil ⟨_, rfl, x35.trans x6, ?_⟩, fun hi H6 x6 => k2 ?_ H6 (x35.trans x6)⟩
        · rw [tk, List.all_append, ha, List.all_cons, hi]
          rfl
        · cases e : xs.all isI with
          | false => rfl
          | true =>
            have := List.all_eq_true.mp e x hm
            rw [hi] at this
            cases this
    · rintro σ' H3 ⟨y2, rfl, x3, ha⟩
      rw [List.take_length] at ha
      exact w_nil (k1 ha H3 x3)
theorem lot_isI {l : List Nat} : (lotV l).all isI = true := List.all_eq_true.mpr fun v hv => by
  obtain ⟨w, _, rfl⟩ := List.mem_map.mp hv
  rfl
theorem lot_sim {l : List Nat} : ∀ x ∈ lotV l, Sim x := fun v hv => by
  obtain ⟨w, _, rfl⟩ := List.mem_map.mp hv
  exact .inl ⟨_, rfl⟩
theorem row_isI {n : Nat} {X : Nat → Int} : (rowV n X).all isI = true := List.all_eq_true.mpr fun v hv => by
  obtain ⟨w, _, rfl⟩ := List.mem_map.mp hv
  rfl
theorem row_sim {n : Nat} {X : Nat → Int} : ∀ x ∈ rowV n X, Sim x := fun v hv => by
  obtain ⟨w, _, rfl⟩ := List.mem_map.mp hv
  exact .inl ⟨_, rfl⟩
end
end PwD
end
/-! ### PwYc -/
section
set_option linter.all false
set_option maxRecDepth 100000
set_option maxHeartbeats 8000000
/-! the looks, third part -/
namespace PwD
open PySem PySem.Spec PyProof.Rows L2 Evl Pw Wk PwH
theorem sorted_fil {n : Nat} {l : List Nat} {ms : List Int} (hl : ∀ v ∈ l, v < n) (pw : ms.Pairwise (· < ·)) (mem : ∀ k : Int, k ∈ ms ↔ k ∈ l.map Int.ofNat) : ms.map V.int = filV n (fun v => decide (v ∈ l)) := by
  have pw2 : ((((List.range n).filter fun v => decide (v ∈ l)).map Int.ofNat)).Pairwise (· < ·) := by
    refine List.pairwise_map.mpr (List.Pairwise.imp (fun {a b} h => Int.ofNat_lt.mpr h) (List.Pairwise.filter _ List.pairwise_lt_range))
  have mem2 : ∀ k : Int, k ∈ (((List.range n).filter fun v => decide (v ∈ l)).map Int.ofNat) ↔ k ∈ l.map Int.ofNat := fun k => by
    constructor
    · intro h
      obtain ⟨v, hv, rfl⟩ := List.mem_map.mp h
      exact List.mem_map_of_mem (of_decide_eq_true (List.mem_filter.mp hv).2)
    · intro h
      obtain ⟨v, hv, rfl⟩ := List.mem_map.mp h
      exact List.mem_map_of_mem (List.mem_filter.mpr ⟨List.mem_range.mpr (hl v hv), decide_eq_true hv⟩)
  have e : ms = (((List.range n).filter fun v => decide (v ∈ l)).map Int.ofNat) := by
    have nd : ∀ {l : List Int}, l.Pairwise (· < ·) → l.Nodup := fun h => h.imp fun {a b} h2 => Int.ne_of_lt h2
    have p : ms.Perm (((List.range n).filter fun v => decide (v ∈ l)).map Int.ofNat) := (List.perm_ext_iff_of_nodup (nd pw) (nd pw2)).mpr fun k => by rw [mem k, mem2 k]
    exact p.eq_of_pairwise (fun a b _ _ h1 h2 => absurd h1 (by omega)) pw pw2
  rw [e, filV_ints]
section
variable {P : Program} {w : World} {K : PySem.W.Frag} {mg : Str → Option Value} {base : Heap}
def spStands (K : PySem.W.Frag) : Sp := fun vs H Q E => ∃ (q : Addr) (n : Nat) (l : List Nat), vs = [.ref q, .int (n : Int)] ∧ 1 ≤ n ∧ n ≤ 100 ∧ l.length ≤ 50 ∧ Sq K H q (lotV l) ∧
  ((∀ v ∈ l, v < n) → ∀ p H2, H p = none → Ex H H2 → H2 p = some (.tup (filV n fun v => decide (v ∈ l))) → Q (.ref p) H2) ∧ ((∃ v ∈ l, ¬ v < n) → Err E (He.ga K "WrongNumber") H)
theorem d_stands (T : Hd K mg) : Dn P w K mg base 4 "as_stands" [] (spStands K) := by
  refine fn_dn (F_as_stands T) sc_as_stands (fun vs H Q E h => ?_) B_as_stands fun f cdv A outer s H vs Q E hr h => ?_
  · obtain ⟨_, _, _, rfl, _⟩ := h
    rfl
  · obtain ⟨q, n, l, rfl, h1, h2, hl, hq, k1, k2⟩ := h
    refine w_callX (E := E) (d_nis T) hr passE (a_cons (vn 0) (a_cons v_str a_nil)) fun H1 x1 => ⟨q, lotV l, _, rfl, hq.ex x1, lot_sim, by decide +kernel, fun _ H2 x2 => ?_, fun z => by rw [lot_isI] at z; cases z⟩
    refine w_forS (Hb := H) (lv sc_as_stands.nd 2) (vn 0) hq (fun i σ' H' => ∃ y2, σ' = [some (.ref q), some (.int (n : Int)), y2] ∧ Ex H H' ∧ ∀ v ∈ l.take i, v < n) (fun _ _ H' ⟨_, _, z, _⟩ o => z _ o) (fun H3 x3 => ⟨none, rfl, (x1.trans x2).trans x3, by simp⟩) ?_ ?_
    · rintro i x σ' H3 hx ⟨y2, rfl, x3, ha⟩
      obtain ⟨v, hv, rfl⟩ : ∃ v, l[i]? = some v ∧ x = .int (v : Int) := by
        unfold lotV at hx
        rw [List.getElem?_map] at hx
        cases e : l[i]? with
        | none => rw [e] at hx; cases hx
        | some v => rw [e] at hx; exact ⟨v, rfl, (Option.some.inj hx).symm⟩
      have tk : l.take (i + 1) = l.take i ++ [v] := by rw [List.take_add_one, hv]; rfl
      have en : (n : Int) - 1 = ((n - 1 : Nat) : Int) := by omega
      refine w_callX (E := E) (d_nb T) (hr.mono (by decide)) passE (a_cons (vn 2) (a_cons v_int (a_cons (by rw [← en]; exact v_sub (vn 1) v_int) (a_cons v_str a_nil)))) fun H4 x4 => ⟨(v : Int), n - 1, _, rfl, by omega, by decide +kernel, fun hh H5 x5 => ?_, fun hh H5 x5 => ?_⟩
      · refine w_nil ⟨_, rfl, (x3.trans x4).trans x5, fun u hu => ?_⟩
        rw [tk] at hu
        rcases List.mem_append.mp hu with h | h
        · exact ha u h
        · have : u = v := by simpa using h
          omega
      · exact k2 ⟨v, List.mem_of_getElem? hv, by omega⟩ H5 ((x3.trans x4).trans x5)
    · rintro σ' H3 ⟨y2, rfl, x3, ha⟩
      have tl : l.take (lotV l).length = l := by rw [lotV_len]; exact List.take_length
      rw [tl] at ha
      have hq3 := hq.ex x3
      rw [lotV_ints] at hq3
      refine w_retD (v_tupD (R := fun xs => xs = filV n fun v => decide (v ∈ l)) T.fre (EvD.imp (v_sortSet T.fre (vn 0) hq3 (by rw [List.length_map]; omega)) fun u H4 _ ⟨p, ms, hu, h4, pw, mem⟩ => ⟨p, _, hu, h4, sorted_fil ha pw mem⟩)) fun u H4 x4 hu => ?_
      obtain ⟨p, xs, rfl, hp, h4, rfl⟩ := hu
      exact k1 ha p H4 (fresh_back x3 hp) (x3.trans x4) h4
/-- need_web of a web -/
def spNW (K : PySem.W.Frag) : Sp := fun vs H Q _ => ∃ (q : Addr) (W : Web), vs = [.ref q] ∧ WebAt K H q W ∧ RetV .non H Q
theorem v_isW {X : Cx} {a : Expr} {σ : L2.St} {H : Hp} {q C dx : Addr} {vs : List (Option V)} {x : Str} {p p2 pos : Pos} (fr : Fre X.mg) (c : SlX.SCls X.K C) (i : SlX.SIsi X.K C) (hk : PySem.W.kitOne X.K (.ref C) (.ref C) = some true) (hm : X.mg x = some (.ref C)) (ha : VE X a σ H (.ref q)) (hs : SlX.Slt H q C dx vs) (hg : Gl X "isinstance" := by rfl) (hg2 : Gl X x := by rfl) (hd : (x == ("__debug__" : Str)) = false := by decide)
    (he : starEach [a, .Name x p2] X.env = (false, eval a X.env) :: starEach [.Name x p2] X.env := by rfl) (he2 : starEach [.Name x p2] X.env = (false, eval (.Name x p2) X.env) :: starEach [] X.env := by rfl) (hpl : (backTo pos (starEach [.Name x p2] X.env)).any (·.1) = false := by rfl) :
    VE X (.Call (.Name "isinstance" p) [a, .Name x p2] [] pos) σ H (.bl true) :=
  v_bi (SlX.call_isiSl (.ref C)) fr.isi boot_isinstance (a_cons ha (a_cons (v_gl (v := .ref C) hm rfl hg2 hd) a_nil he2) he) (fun H1 e1 Q k => ⟨q, C, dx, vs, .ref C, true, rfl, rfl, fun _ z => z, slt_ex e1 hs, c, i, hk, k H1 (Ex.refl H1)⟩) hg (by decide) (by decide) he hpl
theorem d_nw (T : Hd K mg) : Dn P w K mg base 1 "need_web" [] (spNW K) := by
  refine fn_dn (F_need_web T) sc_need_web (fun vs H Q E h => ?_) B_need_web fun f cdv A outer s H vs Q E hr h => ?_
  · obtain ⟨_, _, rfl, _⟩ := h
    rfl
  · obtain ⟨q, W, rfl, ⟨sl, qd, qf, qm, qv, qs, s1, s2, o⟩, kq⟩ := h
    obtain ⟨dx, hs⟩ := o.sl
    exact w_skip (t_not (t_val (v_isW T.fre (S_Web T) (I_Web T) (KT_Web T) (g_Web T) (vn 0) hs))) rfl fun H1 x1 => w_nil (kq H1 x1)
def spNM (K : PySem.W.Frag) : Sp := fun vs H Q E => ∃ (q : Addr) (W : Web) (v : Nat), vs = [.ref q, .int (v : Int)] ∧ WebAt K H q W ∧ v < W.n ∧ (W.mv v = true → RetV .non H Q) ∧ (W.mv v = false → Err E (He.ga K "WrongWeb") H)
theorem d_nm (T : Hd K mg) : Dn P w K mg base 3 "need_moving" [] (spNM K) := by
  refine fn_dn (F_need_moving T) sc_need_moving (fun vs H Q E h => ?_) B_need_moving fun f cdv A outer s H vs Q E hr h => ?_
  · obtain ⟨_, _, _, rfl, _⟩ := h
    rfl
  · obtain ⟨q, W, v, rfl, ⟨sl, qd, qf, qm, qv, qs, s1, s2, o⟩, hv, k1, k2⟩ := h
    obtain ⟨as, ha, hl⟩ := id o.first
    refine w_when (t_not (t_seq (v_ix (n := v) (v_first T hr (vn 0) o) (vn 1) ha (refV_at hv)) (hl v hv))) (fun hc H1 x1 => ?_) (fun hc H1 x1 => ?_)
    · rw [fst_emp o hv] at hc
      exact w_raise (E := E) (X_WrongWeb T) (g_WrongWeb T) (vd v_str) fun H2 x2 => k2 (by simpa using hc) H2 (x1.trans x2)
    · rw [fst_emp o hv] at hc
      exact w_nil (k1 (by simpa using hc) H1 x1)
/-- ranks: a wrong length, a number under 0 -/
def spNR (K : PySem.W.Frag) : Sp := fun vs H Q E => ∃ (q b : Addr) (W : Web) (ns : List Int), vs = [.ref q, .ref b] ∧ WebAt K H q W ∧ Sq K H b (ns.map V.int) ∧ (ns.length = W.n → (∀ i ∈ ns, 0 ≤ i) → RetV .non H Q) ∧ (¬ (ns.length = W.n ∧ ∀ i ∈ ns, 0 ≤ i) → Err E (He.ga K "WrongNumber") H)
theorem d_nr (T : Hd K mg) : Dn P w K mg base 3 "need_ranks" [] (spNR K) := by
  refine fn_dn (F_need_ranks T) sc_need_ranks (fun vs H Q E h => ?_) B_need_ranks fun f cdv A outer s H vs Q E hr h => ?_
  · obtain ⟨_, _, _, _, rfl, _⟩ := h
    rfl
  · obtain ⟨q, b, W, ns, rfl, ⟨sl, qd, qf, qm, qv, qs, s1, s2, o⟩, hb, k1, k2⟩ := h
    refine w_when (t_neI (v_lenN (m := ns.length) T.fre (vn 1) hb (by rw [List.length_map])) (v_size T hr (vn 0) o)) (fun hc H1 x1 => ?_) (fun hc H1 x1 => ?_)
    · have : ¬ ((ns.length : Int) = (W.n : Int)) := by simpa using hc
      exact w_raise (E := E) (X_WrongNumber T) (g_WrongNumber T) (vd v_str) fun H2 x2 => k2 (fun z => this (by omega)) H2 (x1.trans x2)
    · have hl : ((ns.length : Int) = (W.n : Int)) := by simpa using hc
      refine w_forS (Hb := H) (lv sc_need_ranks.nd 2) (vn 1) hb (fun i σ' H' => ∃ y2, σ' = [some (.ref q), some (.ref b), y2] ∧ Ex H H' ∧ ∀ v ∈ ns.take i, 0 ≤ v) (fun _ _ H' ⟨_, _, z, _⟩ o => z _ o) (fun H3 x3 => ⟨none, rfl, x1.trans x3, by simp⟩) ?_ ?_
      · rintro i x σ' H3 hx ⟨y2, rfl, x3, ha⟩
        obtain ⟨v, hv, rfl⟩ : ∃ v, ns[i]? = some v ∧ x = .int v := by
          rw [List.getElem?_map] at hx
          cases e : ns[i]? with
          | none => rw [e] at hx; cases hx
          | some v => rw [e] at hx; exact ⟨v, rfl, (Option.some.inj hx).symm⟩
        have tk : ns.take (i + 1) = ns.take i ++ [v] := by rw [List.take_add_one, hv]; rfl
        refine w_callX (E := E) (d_nf T) (hr.mono (by decide)) passE (a_cons (vn 2) (a_cons v_int (a_cons v_str a_nil))) fun H4 x4 => ⟨v, _, rfl, by decide +kernel, fun hh H5 x5 => ?_, fun hh H5 x5 => ?_⟩
        · refine w_nil ⟨_, rfl, (x3.trans x4).trans x5, fun u hu => ?_⟩
          rw [tk] at hu
          rcases List.mem_append.mp hu with h | h
          · exact ha u h
          · have : u = v := by simpa using h
            omega
        · refine k2 (fun z => ?_) H5 ((x3.trans x4).trans x5)
          have := z.2 v (List.mem_of_getElem? hv)
          omega
      · rintro σ' H3 ⟨y2, rfl, x3, ha⟩
        rw [List.length_map, List.take_length] at ha
        exact w_nil (k1 (by omega) ha H3 x3)
end
end PwD
end
/-! ### PwYd -/
section
set_option linter.all false
set_option maxRecDepth 100000
set_option maxHeartbeats 8000000
/-! the looks, fourth part: rows, bounds, the calls' looks -/
namespace Wk
open PySem PySem.Spec PyProof.Rows L2 Evl Pw
theorem fn_dnB {P : Program} {w : World} {K : PySem.W.Frag} {mg : Str → Option Value} {base : Heap} {x : Str} {st : Stmt} {N ps : List Str} {k : Nat} {sp : Sp} {dv dvs : List V}
    (hF : ∃ (f : Addr) (fd : FuncData), FunD K x x (defArgs st) (defBody st) (defScope st) dv [] f fd ∧ mg x = some (.ref f)) (S : FnScope N ps (defScope st)) (len : ∀ vs H Q E, sp vs H Q E → vs.length = ps.length)
    (hb : ∀ (f : Addr) (fd : FuncData), FunD K x x (defArgs st) (defBody st) (defScope st) dv [] f fd → ∃ ds, Vals dvs ds ∧ Binds K fd ps ds)
    (h : ∀ (f : Addr) (cdv : Value) (A : Around) (outer : List Env) (s : Shared) (H : Hp) (vs : List V) (Q : VK) (E : XK), Room k (A.deeper (envOfC x (defScope st) s.heap.objs.size f cdv)) → sp vs H Q E →
      WS (cxOf (L2.CX P w) P w K mg base N x (defScope st) f cdv A outer s H E) (defBody st) { nx := fun _ H' => Q .non H', rt := Q } (start N vs) H) : Dn P w K mg base (k + 1) x dvs sp := by
  obtain ⟨f, fd, F, hm⟩ := hF
  obtain ⟨ds, h1, h2⟩ := hb f fd F
  exact ⟨⟨f, fd, ps, ds, F.ok S len fun cdv A outer s H vs Q E hr hs => ⟨_, pssW, h f cdv A outer s H vs Q E hr hs⟩, hm, F.kp, h2, h1⟩⟩
section
variable {X : Cx} {a b c : Expr} {σ : L2.St} {H : Hp} {pos p : Pos} {i j k : Int} {bs : List Bool}
/-- a ≤ b ≤ c, where it is true -/
theorem v_le2 (ha : VE X a σ H (.int i)) (hb : VE X b σ H (.int j)) (hc : VE X c σ H (.int k)) (h1 : i ≤ j) (h2 : j ≤ k) (hm : lastMarks [.LtE, .LtE] [b, c] = false := by with_unfolding_all rfl) : VE X (.Compare a [.LtE, .LtE] [b, c] pos) σ H (.bl true) := fun H1 e1 Q g =>
  ofE (pe_chain op_le op_le peW peW peW hm) (ha H1 e1 _ fun H2 e2 => hb H2 (e1.trans e2) _ fun H3 e3 => ⟨i, j, rfl, rfl, true, by show V.bl (decide (i ≤ j)) = _; rw [decide_eq_true h1], hc H3 ((e1.trans e2).trans e3) _ fun H4 e4 => ⟨j, k, rfl, rfl, by
    show Q (V.bl (decide (j ≤ k))) H4
    rw [decide_eq_true h2]
    exact g H4 ((e2.trans e3).trans e4)⟩⟩)
theorem v_allL (fr : Fre X.mg) (ha : VL X a σ H (bs.map V.bl)) (hg : Gl X "all" := by rfl) (hc : X.calm = true := by rfl) (hs : starEach [a] X.env = (false, eval a X.env) :: starEach [] X.env := by rfl) (hpl : (backTo pos (starEach [] X.env)).any (·.1) = false := by rfl) :
    VE X (.Call (.Name "all" p) [a] [] pos) σ H (.bl (bs.all id)) := fun H1 e1 Q g =>
  ofE (pe_callB (cr_all hc) hg fr.all_ boot_all (pa_cons peW pa_nil hs) (by decide) (by decide) hs hpl) (ha H1 e1 _ fun q H2 hq e2 h2 => ⟨q, bs, rfl, sq_of h2, g H2 e2⟩)
end
end Wk
namespace PwD
open PySem PySem.Spec PyProof.Rows L2 Evl Pw Wk PwH
section
variable {P : Program} {w : World} {K : PySem.W.Frag} {mg : Str → Option Value} {base : Heap}
def spNRow (K : PySem.W.Frag) : Sp := fun vs H Q _ => ∃ (q a : Addr) (W : Web) (X : Nat → Int) (m : Int), vs = [.ref q, .ref a, .int m] ∧ W.Ok ∧ WebAt K H q W ∧ Row K H a W.n X ∧ (∀ v, v < W.n → 0 ≤ X v ∧ X v ≤ m) ∧ RetV .non H Q
theorem d_nrow (T : Hd K mg) : Dn P w K mg base 3 "need_row" [] (spNRow K) := by
  refine fn_dnB (F_need_row T) sc_need_row (fun vs H Q E h => ?_) (fun f fd F => F.binds1 3 1 (by simp) rfl fun T0 kV doc pm an cdv ct us its hu hi => ?_) fun f cdv A outer s H vs Q E hr h => ?_
  · obtain ⟨_, _, _, _, _, rfl, _⟩ := h
    rfl
  · match us, its, hu, hi with
    | [_, _, _], [_], _, _ => exact ⟨_, rfl, rfl⟩
  · obtain ⟨q, a, W, X, m, rfl, ok, hW, hX, hb, kq⟩ := h
    have hn5 := ok.n5
    obtain ⟨sl, qd, qf, qm, qv, qs, s1, s2, o⟩ := id hW
    refine w_skip (t_neI (v_lenN (m := W.n) T.fre (vn 1) hX rowV_len) (v_size T hr (vn 0) o)) (by simp) fun H1 x1 => ?_
    have eb : (rowV W.n X).map (fun _ => V.bl true) = ((List.range W.n).map fun _ => true).map V.bl := by
      unfold rowV
      rw [List.map_map, List.map_map]
      rfl
    refine w_skip (k := !decide (V.int m = .non) && !(((List.range W.n).map fun _ => true).all id)) (t_bool (p_and (t_notN (vn 2)) fun _ => p_and1 (t_not (t_val (v_allL T.fre (by
      rw [← eb]
      exact ccv (c_mapS (n := 3) sc_need_row.nd (bk sc_need_row (by decide +kernel)) (vn 1) (hX.ex x1) (by rw [rowV_len]; omega) (fun _ => .bl true) (fun y hy s0 H0 C cl1 fp => by
        obtain ⟨v, hv, rfl⟩ := List.mem_map.mp hy
        have := hb v (List.mem_range.mp hv)
        exact v_le2 v_int (vn 3) (vn 2) this.1 this.2)))))))) (by
      have : (((List.range W.n).map fun _ => true).all id) = true := List.all_eq_true.mpr fun x hx => by
        obtain ⟨_, _, rfl⟩ := List.mem_map.mp hx
        rfl
      rw [this]
      simp) fun H2 x2 => w_nil (kq H2 (x1.trans x2))
/-- the bounds: called stands that move, k ≤ most -/
def spBnd (K : PySem.W.Frag) : Sp := fun vs H Q E => ∃ (q c : Addr) (W : Web) (cl : Nat → Bool) (k m : Int), vs = [.ref q, .int k, .ref c, .int m] ∧ WebAt K H q W ∧ W.n ≤ 100 ∧ Fil K H c W.n cl ∧ m.natAbs.log2 < 1920 ∧ ((toString m : String) : Str).length ≤ 100 ∧
  ((∀ v, v < W.n → cl v = true → W.mv v = true) → k ≤ m → RetV .non H Q) ∧ ((∃ v, v < W.n ∧ cl v = true ∧ W.mv v = false) → Err E (He.ga K "WrongWeb") H) ∧ ((∀ v, v < W.n → cl v = true → W.mv v = true) → m < k → Err E (He.ga K "TooMuch") H)
theorem d_bndB (T : Hd K mg) {dvs : List V} (hb : ∀ (f : Addr) (fd : FuncData), FunD K "call_bounds" "call_bounds" (defArgs s_call_bounds) (defBody s_call_bounds) (defScope s_call_bounds) [.int 60] [] f fd → ∃ ds, Vals dvs ds ∧ Binds K fd ["web", "k", "called", "most"] ds) : Dn P w K mg base 4 "call_bounds" dvs (spBnd K) := by
  refine fn_dnB (F_call_bounds T) sc_call_bounds (fun vs H Q E h => ?_) hb fun f cdv A outer s H vs Q E hr h => ?_
  · obtain ⟨_, _, _, _, _, _, rfl, _⟩ := h
    rfl
  · obtain ⟨q, c, W, cl, k, m, rfl, hW, hn, hC, hl, ht, k1, k2, k3⟩ := h
    obtain ⟨gs, hgs⟩ : ∃ gs, gs = (List.range W.n).filter cl := ⟨_, rfl⟩
    have hC' : Sq K H c (lotV gs) := by rw [hgs]; exact hC
    refine w_forS (Hb := H) (lv sc_call_bounds.nd 4) (vn 2) hC' (fun i σ' H' => ∃ y, σ' = [some (.ref q), some (.int k), some (.ref c), some (.int m), y] ∧ Ex H H' ∧ ∀ v ∈ gs.take i, W.mv v = true) (fun _ _ H' ⟨_, _, z, _⟩ o => z _ o) (fun H1 x1 => ⟨none, rfl, x1, by simp⟩) ?_ ?_
    · rintro i x σ' H3 hx ⟨y2, rfl, x3, ha⟩
      obtain ⟨v, hv, rfl⟩ : ∃ v, gs[i]? = some v ∧ x = .int (v : Int) := by
        unfold lotV at hx
        rw [List.getElem?_map] at hx
        cases e : gs[i]? with
        | none => rw [e] at hx; cases hx
        | some v => rw [e] at hx; exact ⟨v, rfl, (Option.some.inj hx).symm⟩
      have tk : gs.take (i + 1) = gs.take i ++ [v] := by rw [List.take_add_one, hv]; rfl
      have hm := List.mem_of_getElem? hv
      rw [hgs] at hm
      obtain ⟨hvn, hvc⟩ := in_filL.mp hm
      refine w_callX (E := E) (d_nm T) hr passE (a_cons (vn 0) (a_cons (vn 4) a_nil)) fun H4 x4 => ⟨q, W, v, rfl, hW.ex (x3.trans x4), hvn, fun hh H5 x5 => w_nil ⟨_, rfl, (x3.trans x4).trans x5, fun u hu => ?_⟩, fun hh H5 x5 => k2 ⟨v, hvn, hvc, hh⟩ H5 ((x3.trans x4).trans x5)⟩
      rw [tk] at hu
      rcases List.mem_append.mp hu with h | h
      · exact ha u h
      · have : u = v := by simpa using h
        rw [this]
        exact hh
    · rintro σ' H3 ⟨y2, rfl, x3, ha⟩
      have tl : gs.take (lotV gs).length = gs := by rw [lotV_len]; exact List.take_length
      rw [tl, hgs] at ha
      have all : ∀ v, v < W.n → cl v = true → W.mv v = true := fun v h1 h2 => ha v (in_filL.mpr ⟨h1, h2⟩)
      exact w_callX (E := E) (d_nu T) (hr.mono (by decide)) passE (a_cons (vn 1) (a_cons (vn 3) (a_cons v_str a_nil))) fun H4 x4 => ⟨k, m, _, rfl, hl, ht, by decide +kernel, fun hh H5 x5 => w_nil (k1 all hh H5 ((x3.trans x4).trans x5)), fun hh H5 x5 => k3 all hh H5 ((x3.trans x4).trans x5)⟩
theorem d_bnd3 (T : Hd K mg) : Dn P w K mg base 4 "call_bounds" [.int 60] (spBnd K) := d_bndB T fun f fd F => F.binds1 3 0 (by simp) rfl fun T0 kV doc pm an cdv ct us its hu hi => by
  match us, its, hu, hi with
  | [_, _, _], [_], _, _ => exact ⟨_, rfl, rfl⟩
theorem d_bnd4 (T : Hd K mg) : Dn P w K mg base 4 "call_bounds" [] (spBnd K) := d_bndB T fun f fd F => F.binds1 4 1 (by simp) rfl fun T0 kV doc pm an cdv ct us its hu hi => by
  match us, its, hu, hi with
  | [_, _, _, _], [_], _, _ => exact ⟨_, rfl, rfl⟩
/-- the kinds of a call -/
def spKinds (K : PySem.W.Frag) : Sp := fun vs H Q E => ∃ (q c : Addr) (W : Web) (k : Int) (xs : List V), vs = [.ref q, .int k, .ref c] ∧ WebAt K H q W ∧ Sq K H c xs ∧ (∀ x ∈ xs, Sim x) ∧ (xs.all isI = true → RetV .non H Q) ∧ (xs.all isI = false → Err E (He.ga K "WrongKind") H)
theorem d_kinds (T : Hd K mg) : Dn P w K mg base 4 "call_kinds" [] (spKinds K) := by
  refine fn_dn (F_call_kinds T) sc_call_kinds (fun vs H Q E h => ?_) B_call_kinds fun f cdv A outer s H vs Q E hr h => ?_
  · obtain ⟨_, _, _, _, _, rfl, _⟩ := h
    rfl
  · obtain ⟨q, c, W, k, xs, rfl, hW, hc, hx, k1, k2⟩ := h
    refine w_callX (E := E) (d_nw T) (hr.mono (by decide)) passE (a_cons (vn 0) a_nil) fun H1 x1 => ⟨q, W, rfl, hW.ex x1, fun H2 x2 => ?_⟩
    refine w_callX (E := E) (d_ni T) (hr.mono (by decide)) passE (a_cons (vn 1) (a_cons v_str a_nil)) fun H3 x3 => ⟨_, _, rfl, .inl ⟨k, rfl⟩, by decide +kernel, fun _ H4 x4 => ?_, fun z => by cases z⟩
    have x14 := ((x1.trans x2).trans x3).trans x4
    exact w_callX (E := E) (d_nis T) (hr.mono (by decide)) passE (a_cons (vn 2) (a_cons v_str a_nil)) fun H5 x5 => ⟨c, xs, _, rfl, hc.ex (x14.trans x5), hx, by decide +kernel, fun hh H6 x6 => w_nil (k1 hh H6 ((x14.trans x5).trans x6)), fun hh H6 x6 => k2 hh H6 ((x14.trans x5).trans x6)⟩
/-- the set of the calls -/
def spCSet (K : PySem.W.Frag) : Sp := fun vs H Q E => ∃ (q c : Addr) (W : Web) (k : Int) (l : List Nat), vs = [.ref q, .int k, .ref c] ∧ W.Ok ∧ WebAt K H q W ∧ 0 ≤ k ∧ l.length ≤ 50 ∧ Sq K H c (lotV l) ∧
  ((∀ v ∈ l, v < W.n) → ∀ p H2, H p = none → Ex H H2 → H2 p = some (.tup (filV W.n fun v => decide (v ∈ l))) → Q (.ref p) H2) ∧ ((∃ v ∈ l, ¬ v < W.n) → Err E (He.ga K "WrongNumber") H)
theorem d_cset (T : Hd K mg) : Dn P w K mg base 5 "call_set" [] (spCSet K) := by
  refine fn_dn (F_call_set T) sc_call_set (fun vs H Q E h => ?_) B_call_set fun f cdv A outer s H vs Q E hr h => ?_
  · obtain ⟨_, _, _, _, _, rfl, _⟩ := h
    rfl
  · obtain ⟨q, c, W, k, l, rfl, ok, hW, hk, hl, hc, k1, k2⟩ := h
    have hn1 := ok.n1
    have hn5 := ok.n5
    refine w_callX (E := E) (d_nf T) (hr.mono (by decide)) passE (a_cons (vn 1) (a_cons v_int (a_cons v_str a_nil))) fun H1 x1 => ⟨k, _, rfl, by decide +kernel, fun _ H2 x2 => ?_, fun z => by omega⟩
    have x12 := x1.trans x2
    obtain ⟨sl, qd, qf, qm, qv, qs, s1, s2, o⟩ := id (hW.ex x12)
    exact w_retX (E := E) (d_stands T) hr passE (a_cons (vn 2) (a_cons (v_size T (hr.mono (by decide)) (vn 0) o) a_nil)) fun H3 x3 => ⟨c, W.n, l, rfl, hn1, by omega, hl, hc.ex (x12.trans x3), fun hh p H4 hp x4 h4 => k1 hh p H4 (fresh_back (x12.trans x3) hp) ((x12.trans x3).trans x4) h4, fun hh H4 x4 => k2 hh H4 ((x12.trans x3).trans x4)⟩
end
end PwD
end
/-! ### PwZ -/
section
set_option linter.all false
set_option maxRecDepth 100000
set_option maxHeartbeats 8000000
/-! the look of a half, of a paper -/
namespace PwD
open PySem PySem.Spec PyProof.Rows L2 Evl Pw Wk PwH
def okN (n : Nat) (xs : List V) : Prop := ∃ ns : List Int, xs = ns.map V.int ∧ ns.length = n ∧ ∀ i ∈ ns, 0 ≤ i
theorem ints_of : ∀ {xs : List V}, xs.all isI = true → ∃ ns : List Int, xs = ns.map V.int
  | [], _ => ⟨[], rfl⟩
  | x :: xs, h => by
    rw [List.all_cons, Bool.and_eq_true] at h
    obtain ⟨ns, e⟩ := ints_of h.2
    cases x with
    | int i => exact ⟨i :: ns, by rw [e]; rfl⟩
    | _ => cases h.1
theorem far_eq : ((10 : Int) ^ 40).natAbs.log2 < 1920 := by decide +kernel
section
variable {P : Program} {w : World} {K : PySem.W.Frag} {mg : Str → Option Value} {base : Heap}
def spHalfL (K : PySem.W.Frag) : Sp := fun vs H Q E => ∃ (q c a pp : Addr) (W : Web) (k : Int) (l : List Nat) (rns : List Int) (ps : List (Addr × List V)), vs = [.ref q, .int k, .ref c, .ref a, .ref pp] ∧ W.Ok ∧ WebAt K H q W ∧ 0 ≤ k ∧ l.length ≤ 50 ∧ Sq K H c (lotV l) ∧ (∀ v ∈ l, v < W.n ∧ W.mv v = true) ∧
  Sq K H a (rns.map V.int) ∧ Sq K H pp (ps.map fun p => V.ref p.1) ∧ (∀ p ∈ ps, Sq K H p.1 p.2 ∧ ∀ x ∈ p.2, Sim x) ∧
  ((∃ p ∈ ps, p.2.all isI = false) → Err E (He.ga K "WrongKind") H) ∧
  ((∀ p ∈ ps, p.2.all isI = true) → ∃ X, rns.map V.int = rowV W.n X ∧ (∀ v, v < W.n → 0 ≤ X v ∧ X v ≤ k + 1)) ∧
  ((∀ p ∈ ps, p.2.all isI = true) → (∃ p ∈ ps, ¬ okN W.n p.2) → Err E (He.ga K "WrongNumber") H) ∧
  ((∀ p ∈ ps, okN W.n p.2) → 10 ^ 40 < k → Err E (He.ga K "TooMuch") H) ∧
  ((∀ p ∈ ps, okN W.n p.2) → k ≤ 10 ^ 40 → ∀ p H2, H p = none → Ex H H2 → H2 p = some (.tup (filV W.n fun v => decide (v ∈ l))) → Q (.ref p) H2)
theorem d_halfL (T : Hd K mg) : Dn P w K mg base 6 "call_half_look" [] (spHalfL K) := by
  refine fn_dn (F_call_half_look T) sc_call_half_look (fun vs H Q E h => ?_) B_call_half_look fun f cdv A outer s H vs Q E hr h => ?_
  · obtain ⟨_, _, _, _, _, _, _, _, _, rfl, _⟩ := h
    rfl
  · obtain ⟨q, c, a, pp, W, k, l, rns, ps, rfl, ok, hW, hk, hl, hc, hlm, ha, hp, hps, k1, kx, k2, k3, k4⟩ := h
    have hn5 := ok.n5
    refine w_callX (E := E) (d_kinds T) (hr.mono (by decide)) passE (a_cons (vn 0) (a_cons (vn 1) (a_cons (vn 2) a_nil))) fun H1 x1 => ⟨q, c, W, k, _, rfl, hW.ex x1, hc.ex x1, lot_sim, fun _ H2 x2 => ?_, fun z => by rw [lot_isI] at z; cases z⟩
    have ri : (rns.map V.int).all isI = true := List.all_eq_true.mpr fun v hv => by
      obtain ⟨w, _, rfl⟩ := List.mem_map.mp hv
      rfl
    have rs : ∀ x ∈ rns.map V.int, Sim x := fun v hv => by
      obtain ⟨w, _, rfl⟩ := List.mem_map.mp hv
      exact .inl ⟨_, rfl⟩
    have x12 := x1.trans x2
    refine w_callX (E := E) (d_nis T) (hr.mono (by decide)) passE (a_cons (vn 3) (a_cons v_str a_nil)) fun H3 x3 => ⟨a, _, _, rfl, ha.ex (x12.trans x3), rs, by decide +kernel, fun _ H4 x4 => ?_, fun z => by rw [ri] at z; cases z⟩
    have x14 := (x12.trans x3).trans x4
    -- for one_half in parts
    refine w_forS (Hb := H) (lv sc_call_half_look.nd 5) (vn 4) hp (fun i σ' H' => ∃ y, σ' = [some (.ref q), some (.int k), some (.ref c), some (.ref a), some (.ref pp), y, none] ∧ Ex H H' ∧ ∀ p ∈ ps.take i, p.2.all isI = true) (fun _ _ H' ⟨_, _, z, _⟩ o => z _ o) (fun H5 x5 => ⟨none, rfl, x14.trans x5, by simp⟩) ?_ ?_
    · rintro i x σ' H5 hx ⟨y, rfl, x5, hd⟩
      obtain ⟨p, hpi, rfl⟩ : ∃ p, ps[i]? = some p ∧ x = .ref p.1 := by
        rw [List.getElem?_map] at hx
        cases e : ps[i]? with
        | none => rw [e] at hx; cases hx
        | some p => rw [e] at hx; exact ⟨p, rfl, (Option.some.inj hx).symm⟩
      have tk : ps.take (i + 1) = ps.take i ++ [p] := by rw [List.take_add_one, hpi]; rfl
      have hm := List.mem_of_getElem? hpi
      refine w_callX (E := E) (d_nis T) (hr.mono (by decide)) passE (a_cons (vn 5) (a_cons v_str a_nil)) fun H6 x6 => ⟨p.1, p.2, _, rfl, (hps p hm).1.ex (x5.trans x6), (hps p hm).2, by decide +kernel, fun hh H7 x7 => w_nil ⟨_, rfl, (x5.trans x6).trans x7, fun u hu => ?_⟩, fun hh H7 x7 => k1 ⟨p, hm, hh⟩ H7 ((x5.trans x6).trans x7)⟩
      rw [tk] at hu
      rcases List.mem_append.mp hu with h | h
      · exact hd u h
      · have : u = p := by simpa using h
        rw [this]
        exact hh
    · rintro σ' H5 ⟨y, rfl, x5, hd⟩
      rw [List.length_map, List.take_length] at hd
      obtain ⟨X, eX, hX⟩ := kx hd
      have hb : ∀ p ∈ ps, ∃ ns : List Int, p.2 = ns.map V.int := fun p hp => ints_of (hd p hp)
      -- called
      refine w_setX (E := E) (lv sc_call_half_look.nd 6) (d_cset T) hr passE (a_cons (vn 0) (a_cons (vn 1) (a_cons (vn 2) a_nil))) fun H6 x6 => ⟨q, c, W, k, l, rfl, ok, hW.ex (x5.trans x6), hk, hl, hc.ex (x5.trans x6), fun _ pc H7 hpc x7 h7 => ?_, fun ⟨v, hv, z⟩ => absurd (hlm v hv).1 z⟩
      have x57 := (x5.trans x6).trans x7
      have hpc' : H pc = none := fresh_back (x5.trans x6) hpc
      have hrow : Row K H a W.n X := by
        show Sq K H a (rowV W.n X)
        rw [← eX]
        exact ha
      refine w_callX (E := E) (d_nrow T) (hr.mono (by decide)) passE (a_cons (vn 0) (a_cons (vn 3) (a_cons (v_add (vn 1) v_int) a_nil))) fun H8 x8 => ⟨q, a, W, X, k + 1, rfl, ok, hW.ex (x57.trans x8), hrow.ex (x57.trans x8), hX, fun H9 x9 => ?_⟩
      have x59 := (x57.trans x8).trans x9
      have h9 := x9 _ _ (x8 _ _ h7)
      refine w_forS (Hb := H) (lv sc_call_half_look.nd 5) (vn 4) hp (fun i σ' H' => ∃ y, σ' = [some (.ref q), some (.int k), some (.ref c), some (.ref a), some (.ref pp), y, some (.ref pc)] ∧ Ex H H' ∧ H' pc = some (.tup (filV W.n fun v => decide (v ∈ l))) ∧ ∀ p ∈ ps.take i, okN W.n p.2) (fun _ _ H' ⟨_, _, z, _⟩ o => z _ o) (fun H10 x10 => ⟨_, rfl, x59.trans x10, x10 _ _ h9, by simp⟩) ?_ ?_
      · rintro i x σ' H10 hx ⟨y, rfl, x10, hpcc, hd2⟩
        obtain ⟨p, hpi, rfl⟩ : ∃ p, ps[i]? = some p ∧ x = .ref p.1 := by
          rw [List.getElem?_map] at hx
          cases e : ps[i]? with
          | none => rw [e] at hx; cases hx
          | some p => rw [e] at hx; exact ⟨p, rfl, (Option.some.inj hx).symm⟩
        have tk : ps.take (i + 1) = ps.take i ++ [p] := by rw [List.take_add_one, hpi]; rfl
        have hm := List.mem_of_getElem? hpi
        obtain ⟨ns, ens⟩ := hb p hm
        have hq1 := (hps p hm).1
        rw [ens] at hq1
        refine w_callX (E := E) (d_nr T) (hr.mono (by decide)) passE (a_cons (vn 0) (a_cons (vn 5) a_nil)) fun H11 x11 => ⟨q, p.1, W, ns, rfl, hW.ex (x10.trans x11), hq1.ex (x10.trans x11), fun g1 g2 H12 x12 => w_nil ⟨_, rfl, (x10.trans x11).trans x12, x12 _ _ (x11 _ _ hpcc), fun u hu => ?_⟩, fun hh H12 x12 => k2 hd ⟨p, hm, fun ⟨ns', e', g1, g2⟩ => hh ?_⟩ H12 ((x10.trans x11).trans x12)⟩
        · rw [tk] at hu
          rcases List.mem_append.mp hu with h | h
          · exact hd2 u h
          · have : u = p := by simpa using h
            rw [this]
            exact ⟨ns, ens, g1, g2⟩
        · have : ns' = ns := int_inj (by rw [← e', ens])
          rw [← this]
          exact ⟨g1, g2⟩
      · rintro σ' H10 ⟨y, rfl, x10, hpcc, hd2⟩
        rw [List.length_map, List.take_length] at hd2
        obtain ⟨tf, hf⟩ := N_FAR_CHIPS T
        have hsub : ∀ v, v < W.n → decide (v ∈ l) = true → W.mv v = true := fun v _ hv => (hlm v (of_decide_eq_true hv)).2
        refine w_callX (E := E) (d_bnd4 T) (hr.mono (by decide)) passE (a_cons (vn 0) (a_cons (vn 1) (a_cons (vn 6) (a_cons (v_gl (v := .int (10 ^ 40)) hf ⟨tf, rfl⟩) a_nil)))) fun H11 x11 => ⟨q, pc, W, _, k, _, rfl, hW.ex (x10.trans x11), by omega, .tp (x11 _ _ hpcc), far_eq, big_text, fun _ hkm H12 x12 => ?_, fun ⟨v, h1, h2, h3⟩ => ?_, fun _ hkm H12 x12 => k3 hd2 hkm H12 ((x10.trans x11).trans x12)⟩
        · exact w_ret (vn 6) fun H13 x13 => k4 hd2 hkm pc H13 hpc' (((x10.trans x11).trans x12).trans x13) (x13 _ _ (x12 _ _ (x11 _ _ hpcc)))
        · rw [hsub v h1 h2] at h3
          cases h3
end
end PwD
end
/-! ### PwZb -/
section
set_option linter.all false
set_option maxRecDepth 100000
set_option maxHeartbeats 8000000
/-! slots: stores, new objects; verdicts, papers -/
namespace Wk
open PySem PySem.Spec PyProof.Rows L2 Evl Pw PwD
section
variable {X : Cx} {o e value : Expr} {es : List Expr} {rest : List Stmt} {σ : L2.St} {H H0 : Hp} {a C dx p q x : Addr} {vs : List (Option V)} {f s : Str} {i k : Nat} {pos pos' p2 : Pos} {P : V → Hp → Prop} {D0 : Ends} {R : List V → Hp → Prop} {sp : Sp}
theorem ex_made (hx : H0 x = none) (hd : H0 dx = none) (hn : dx ≠ x) : Ex H0 (upd (upd H0 dx (.own x)) x (.ins C dx [])) := (Ex.new hd).trans (Ex.new (by rw [upd_ne hn.symm]; exact hx))
theorem ex_sl (e : Ex H0 H) (ha : H0 a = none) (hd : H0 dx = none) : Ex H0 (SlX.slH H a C dx vs) := Ex.mut (Ex.mut e hd) ha
/-- o.f = value -/
theorem w_slW (c : SlX.SCls X.K C) (t : SlX.Slot1 X.K C f p i) (hv : WE X value σ H (fun y H1 => VE X o σ H1 (.ref a) ∧ SlX.Slt H1 a C dx vs ∧ ∀ H2, Ex H1 H2 → WS X rest D0 σ (SlX.slH H2 a C dx (SlX.putS i y vs)))) (hs : swapsWith value (some (.Attribute o f pos')) pos.line X.env = pure false := by rfl) :
    WS X (.Assign [.Attribute o f pos'] value pos :: rest) D0 σ H :=
  w_cons (SlX.ps_sl (ta := WE X o) (tv := fun σ H Q => WE X value σ H Q) peW peW hs) (fun pins s I => thn (hv pins s I) fun u s1 ⟨y, H1, I1, r1, ho, hsl, k⟩ => ⟨y, H1, I1, r1, ho H1 (Ex.refl H1) _ fun H2 e2 => ⟨a, C, dx, p, vs, i, rfl, slt_ex e2 hsl, c, t, k H2 e2⟩⟩)
theorem w_sl (c : SlX.SCls X.K C) (t : SlX.Slot1 X.K C f p i) (hv : VD X value σ H P) (ho : VE X o σ H (.ref a)) (hsl : SlX.Slt H a C dx vs) (k : ∀ y H1 H2, Ex H H1 → P y H1 → Ex H1 H2 → WS X rest D0 σ (SlX.slH H2 a C dx (SlX.putS i y vs))) (hs : swapsWith value (some (.Attribute o f pos')) pos.line X.env = pure false := by rfl) :
    WS X (.Assign [.Attribute o f pos'] value pos :: rest) D0 σ H :=
  w_slW c t (hv H (Ex.refl H) _ fun y H1 e1 hy => ⟨fun H2 e2 => ho H2 (e1.trans e2), slt_ex e1 hsl, fun H2 e2 => k y H1 H2 e1 hy e2⟩) hs
/-- C(..): a new object with slots -/
theorem e_mk {E : XK} {g : Addr} {Q : VK} (M : Mk X.K C g) (F : FnR X.prog X.w X.K X.mg X.base (L2.CX X.prog X.w) k g sp) (hr : Room (k + 1) X.A) (hm : X.mg s = some (.ref C)) (hx : Passes (L2.CX X.prog X.w) X E) (ha : VAD X (e :: es) σ H R)
    (hs : ∀ vs H1 x dx, Ex H H1 → R vs H1 → H1 x = none → H1 dx = none → dx ≠ x → sp (.ref x :: vs) (upd (upd H1 dx (.own x)) x (.ins C dx [])) (fun v H2 => v = .non ∧ Q (.ref x) H2) E)
    (hg : Gl X s := by rfl) (hdb : (s == ("__debug__" : Str)) = false := by decide) (he : starEach (e :: es) X.env = (false, eval e X.env) :: starEach es X.env := by rfl) {p2 pos : Pos} (hpl : (backTo pos (starEach es X.env)).any (·.1) = false := by rfl) : WE X (.Call (.Name s p2) (e :: es) [] pos) σ H Q :=
  ofE (StX.pe_makeR M F hr hg hm hx paW hdb he hpl) (ha H (Ex.refl H) _ fun vs H1 e1 hR x dx h1 h2 h3 => hs vs H1 x dx e1 hR h1 h2 h3)
theorem v_mk {g : Addr} (M : Mk X.K C g) (F : FnR X.prog X.w X.K X.mg X.base (L2.CX X.prog X.w) k g sp) (hr : Room (k + 1) X.A) (hm : X.mg s = some (.ref C)) (ha : VAD X (e :: es) σ H R)
    (hs : ∀ vs H1 x dx, Ex H H1 → R vs H1 → H1 x = none → H1 dx = none → dx ≠ x → ∀ Q : VK, (∀ H2, Ex H1 H2 → P (.ref x) H2 → Q (.ref x) H2) → sp (.ref x :: vs) (upd (upd H1 dx (.own x)) x (.ins C dx [])) (fun v H2 => v = .non ∧ Q (.ref x) H2) E0)
    (hg : Gl X s := by rfl) (hdb : (s == ("__debug__" : Str)) = false := by decide) (he : starEach (e :: es) X.env = (false, eval e X.env) :: starEach es X.env := by rfl) {p2 pos : Pos} (hpl : (backTo pos (starEach es X.env)).any (·.1) = false := by rfl) : VD X (.Call (.Name s p2) (e :: es) [] pos) σ H P := fun H1 e1 Q g =>
  e_mk M F hr hm passL (fun H2 e2 => ha H2 (e1.trans e2)) (fun vs H2 x dx e2 hR h1 h2 h3 => hs vs H2 x dx (e1.trans e2) hR h1 h2 h3 Q fun H3 e3 hP => g _ H3 (e2.trans e3) hP) hg hdb he hpl
end
end Wk
namespace PwD
open PySem PySem.Spec PyProof.Rows L2 Evl Pw Wk PwH
/-- a verdict with the faults of l -/
def VdAt (K : PySem.W.Frag) (H : Hp) (u : Addr) (xs : List V) : Prop := ∃ dx vs pf, SlX.Slt H u (He.ga K "Verdict") dx vs ∧ vs[0]? = some (some (.ref pf)) ∧ SqT K H pf xs
theorem VdAt.ex {K : PySem.W.Frag} {H H' : Hp} {u : Addr} {xs : List V} (e : Ex H H') (h : VdAt K H u xs) : VdAt K H' u xs := by
  obtain ⟨dx, vs, pf, h1, h2, h3⟩ := h
  exact ⟨dx, vs, pf, slt_ex e h1, h2, ex_t e h3⟩
def PapAt (K : PySem.W.Frag) (H : Hp) (u : Addr) (n : Nat) (q : Addr) (k : Int) (cl : Nat → Bool) (X r ct : Nat → Int) : Prop := ∃ dx vs pc px pr pn, SlX.Slt H u (He.ga K "CallPaper") dx vs ∧ vs[0]? = some (some (.ref pc)) ∧ vs[1]? = some (some (.int k)) ∧ vs[2]? = some (some (.ref pn)) ∧ vs[3]? = some (some (.ref pr)) ∧
  vs[4]? = some (some (.ref px)) ∧ vs[5]? = some (some (.ref q)) ∧ SqT K H pc (filV n cl) ∧ SqT K H px (rowV n X) ∧ SqT K H pr (rowV n r) ∧ SqT K H pn (rowV n ct)
theorem PapAt.ex {K : PySem.W.Frag} {H H' : Hp} {u : Addr} {n : Nat} {q : Addr} {k : Int} {cl : Nat → Bool} {X r ct : Nat → Int} (e : Ex H H') (h : PapAt K H u n q k cl X r ct) : PapAt K H' u n q k cl X r ct := by
  obtain ⟨dx, vs, pc, px, pr, pn, h1, g0, g1, g2, g3, g4, g5, t1, t2, t3, t4⟩ := h
  exact ⟨dx, vs, pc, px, pr, pn, slt_ex e h1, g0, g1, g2, g3, g4, g5, ex_t e t1, ex_t e t2, ex_t e t3, ex_t e t4⟩
section
variable {P : Program} {w : World} {K : PySem.W.Frag} {mg : Str → Option Value} {base : Heap}
def spVInit (K : PySem.W.Frag) : Sp := fun vs H Q _ => ∃ (H0 : Hp) (x dx q : Addr) (n : Nat) (l : List Nat), vs = [.ref x, .ref q] ∧ H = upd (upd H0 dx (.own x)) x (.ins (He.ga K "Verdict") dx []) ∧ H0 x = none ∧ H0 dx = none ∧ dx ≠ x ∧ Sq K H0 q (lotV l) ∧ l.length ≤ 50 ∧ (∀ v ∈ l, v < n) ∧
  ∀ H2, Ex H0 H2 → VdAt K H2 x (filV n fun v => decide (v ∈ l)) → Q .non H2
theorem G_Verdict_init (T : Hd K mg) : FnR P w K mg base (L2.CX P w) 4 (He.ma K (He.ga K "Verdict") "__init__") (spVInit K) := by
  refine fn_rn (F_Verdict_init T) sc_Verdict_init (fun vs H Q E h => ?_) B_Verdict_init fun cdv A outer s H vs Q E hr h => ?_
  · obtain ⟨_, _, _, _, _, _, rfl, _⟩ := h
    rfl
  · obtain ⟨H0, x, dx, q, n, l, rfl, rfl, hx, hd, hne, hq, hl, hb, kq⟩ := h
    have e0 := ex_made (C := He.ga K "Verdict") hx hd hne
    have s0 : SlX.Slt (upd (upd H0 dx (.own x)) x (.ins (He.ga K "Verdict") dx [])) x (He.ga K "Verdict") dx [] := .inl ⟨upd_same, rfl⟩
    refine w_callX (E := E) (d_nis T) hr passE (a_cons (vn 1) (a_cons v_str a_nil)) fun H1 x1 => ⟨q, lotV l, _, rfl, hq.ex (e0.trans x1), lot_sim, by decide +kernel, fun _ H2 x2 => ?_, fun z => by rw [lot_isI] at z; cases z⟩
    refine w_forS (Hb := H0) (lv sc_Verdict_init.nd 2) (vn 1) hq (fun i σ' H' => ∃ y, σ' = [some (.ref x), some (.ref q), y] ∧ Ex (upd (upd H0 dx (.own x)) x (.ins (He.ga K "Verdict") dx [])) H') (fun _ _ H' ⟨_, _, z⟩ o => (e0.trans z) _ o) (fun H3 x3 => ⟨none, rfl, (x1.trans x2).trans x3⟩) ?_ ?_
    · rintro i y σ' H3 hy ⟨y2, rfl, x3⟩
      obtain ⟨v, hv, rfl⟩ : ∃ v, l[i]? = some v ∧ y = .int (v : Int) := by
        unfold lotV at hy
        rw [List.getElem?_map] at hy
        cases e : l[i]? with
        | none => rw [e] at hy; cases hy
        | some v => rw [e] at hy; exact ⟨v, rfl, (Option.some.inj hy).symm⟩
      exact w_callX (E := E) (d_nf T) (hr.mono (by decide)) passE (a_cons (vn 2) (a_cons v_int (a_cons v_str a_nil))) fun H4 x4 => ⟨(v : Int), _, rfl, by decide +kernel, fun _ H5 x5 => w_nil ⟨_, rfl, (x3.trans x4).trans x5⟩, fun z => by omega⟩
    · rintro σ' H3 ⟨y2, rfl, x3⟩
      have hq3 := (hq.ex e0).ex x3
      rw [lotV_ints] at hq3
      refine w_sl (S_Verdict T) (L_Verdict_faults T) (v_tupD (R := fun xs => xs = filV n fun v => decide (v ∈ l)) T.fre (EvD.imp (v_sortSet T.fre (vn 1) hq3 (by rw [List.length_map]; omega)) fun u H4 _ ⟨p, ms, hu, h4, pw, mem⟩ => ⟨p, _, hu, h4, sorted_fil hb pw mem⟩)) (vn 0) (slt_ex x3 s0) fun y H4 H5 x4 hy x5 => ?_
      obtain ⟨p, xs, rfl, hp, h4, rfl⟩ := hy
      have e5 := ((e0.trans x3).trans x4).trans x5
      refine w_nil (kq _ (ex_sl e5 hx hd) ⟨dx, _, p, SlX.slH_slt hne, rfl, st_of ?_⟩)
      have hp0 : H3 p = none := hp
      have n1 : p ≠ x := fun z => by
        have h : upd (upd H0 dx (.own x)) x (.ins (He.ga K "Verdict") dx []) x = some (.ins (He.ga K "Verdict") dx []) := upd_same
        have := x3 _ _ h
        rw [← z, hp0] at this
        cases this
      have n2 : p ≠ dx := fun z => by
        have h : upd (upd H0 dx (.own x)) x (.ins (He.ga K "Verdict") dx []) dx = some (.own x) := by rw [upd_ne hne, upd_same]
        have := x3 _ _ h
        rw [← z, hp0] at this
        cases this
      rw [SlX.slH_ne n1 n2]
      exact x5 _ _ h4
/-! papers -/
theorem made_ne {H0 H3 : Hp} {x dx C p : Addr} (hne : dx ≠ x) (x3 : Ex (upd (upd H0 dx (.own x)) x (.ins C dx [])) H3) (hp : H3 p = none) : p ≠ x ∧ p ≠ dx := by
  have a : upd (upd H0 dx (.own x)) x (.ins C dx []) x = some (.ins C dx []) := upd_same
  have b : upd (upd H0 dx (.own x)) x (.ins C dx []) dx = some (.own x) := by rw [upd_ne hne, upd_same]
  refine ⟨fun z => ?_, fun z => ?_⟩
  · have := x3 _ _ a
    rw [← z, hp] at this
    cases this
  · have := x3 _ _ b
    rw [← z, hp] at this
    cases this
theorem sqt_sl {H2 : Hp} {x dx C p : Addr} {vs : List (Option V)} {xs : List V} (h : SqT K H2 p xs) (h1 : p ≠ x) (h2 : p ≠ dx) : SqT K (SlX.slH H2 x C dx vs) p xs := by
  rcases h with (h | ⟨o, h⟩) | h
  · exact .inl (.inl (by rw [SlX.slH_ne h1 h2]; exact h))
  · exact .inl (.inr ⟨o, by rw [SlX.slH_ne h1 h2]; exact h⟩)
  · exact .inr h
/-- what stands in H, and not at x or dx -/
def SqN (K : PySem.W.Frag) (x dx : Addr) (H : Hp) (p : Addr) (xs : List V) : Prop := SqT K H p xs ∧ p ≠ x ∧ p ≠ dx
theorem SqN.sl {H2 : Hp} {x dx C p : Addr} {vs : List (Option V)} {xs : List V} (h : SqN K x dx H2 p xs) : SqN K x dx (SlX.slH H2 x C dx vs) p xs := ⟨sqt_sl h.1 h.2.1 h.2.2, h.2⟩
theorem SqN.ex {H H2 : Hp} {x dx p : Addr} {xs : List V} (e : Ex H H2) (h : SqN K x dx H p xs) : SqN K x dx H2 p xs := ⟨ex_t e h.1, h.2⟩
/-- the cases of a look: all right; a kind; a number; too much -/
def LookC (K : PySem.W.Frag) (H : Hp) (E : XK) (n : Nat) (k : Int) (rns : List Int) (ps : List (List V)) (Good : Prop) : Prop :=
  ((∀ p ∈ ps, okN n p) ∧ k ≤ 10 ^ 40 ∧ (∃ X, rns.map V.int = rowV n X ∧ (∀ v, v < n → 0 ≤ X v ∧ X v ≤ k + 1)) ∧ Good) ∨ ((∃ p ∈ ps, p.all isI = false) ∧ Err E (He.ga K "WrongKind") H) ∨
  ((∀ p ∈ ps, p.all isI = true) ∧ (∃ p ∈ ps, ¬ okN n p) ∧ (∃ X, rns.map V.int = rowV n X ∧ (∀ v, v < n → 0 ≤ X v ∧ X v ≤ k + 1)) ∧ Err E (He.ga K "WrongNumber") H) ∨
  ((∀ p ∈ ps, okN n p) ∧ 10 ^ 40 < k ∧ (∃ X, rns.map V.int = rowV n X ∧ (∀ v, v < n → 0 ≤ X v ∧ X v ≤ k + 1)) ∧ Err E (He.ga K "TooMuch") H)
theorem okN_isI {n : Nat} {xs : List V} (h : okN n xs) : xs.all isI = true := by
  obtain ⟨ns, rfl, _, _⟩ := h
  exact List.all_eq_true.mpr fun v hv => by
    obtain ⟨w, _, rfl⟩ := List.mem_map.mp hv
    rfl
theorem okN_row {n : Nat} {xs : List V} (h : okN n xs) : ∃ r : Nat → Int, xs = rowV n r ∧ ∀ v, v < n → 0 ≤ r v := by
  obtain ⟨ns, rfl, rfl, hp⟩ := h
  refine ⟨fun v => ns.getD v 0, ?_, fun v hv => ?_⟩
  · rw [rowV_ints]
    congr 1
    apply List.ext_getElem?
    intro j
    by_cases hj : j < ns.length
    · rw [map_at hj, List.getElem?_eq_getElem hj, List.getD_eq_getElem?_getD, List.getElem?_eq_getElem hj]
      rfl
    · rw [List.getElem?_eq_none (by omega), List.getElem?_eq_none (by rw [List.length_map, List.length_range]; omega)]
  · show 0 ≤ ns.getD v 0
    rw [List.getD_eq_getElem?_getD, List.getElem?_eq_getElem hv]
    exact hp _ (List.getElem_mem hv)
theorem row_okN {n : Nat} {r : Nat → Int} (h : ∀ v, v < n → 0 ≤ r v) : okN n (rowV n r) := ⟨(List.range n).map r, rowV_ints, by rw [List.length_map, List.length_range], fun i hi => by
  obtain ⟨v, hv, rfl⟩ := List.mem_map.mp hi
  exact h v (List.mem_range.mp hv)⟩
theorem halfL_use {q c a pp : Addr} {W : Web} {k : Int} {l : List Nat} {rns : List Int} {ps : List (Addr × List V)} {H : Hp} {Q : VK} {E : XK} {Good : Prop} (ok : W.Ok) (hW : WebAt K H q W) (hk : 0 ≤ k) (hl : l.length ≤ 50) (hc : Sq K H c (lotV l)) (hlm : ∀ v ∈ l, v < W.n ∧ W.mv v = true)
    (ha : Sq K H a (rns.map V.int)) (hp : Sq K H pp (ps.map fun p => V.ref p.1)) (hps : ∀ p ∈ ps, Sq K H p.1 p.2 ∧ ∀ x ∈ p.2, Sim x) (L : LookC K H E W.n k rns (ps.map (·.2)) Good) (kq : Good → (∀ p ∈ ps, okN W.n p.2) → (∃ X, rns.map V.int = rowV W.n X ∧ (∀ v, v < W.n → 0 ≤ X v ∧ X v ≤ k + 1)) → ∀ p H2, H p = none → Ex H H2 → H2 p = some (.tup (filV W.n fun v => decide (v ∈ l))) → Q (.ref p) H2) :
    spHalfL K [.ref q, .int k, .ref c, .ref a, .ref pp] H Q E := by
  have mm : ∀ {R : List V → Prop}, (∀ p ∈ ps.map (·.2), R p) → ∀ p ∈ ps, R p.2 := fun h p hp => h _ (List.mem_map_of_mem hp)
  refine ⟨q, c, a, pp, W, k, l, rns, ps, rfl, ok, hW, hk, hl, hc, hlm, ha, hp, hps, ?_⟩
  rcases L with ⟨g1, g2, g3, g4⟩ | ⟨⟨p, hp', b1⟩, b2⟩ | ⟨g1, ⟨p, hp', g2⟩, g3, b2⟩ | ⟨g1, g2, g3, b2⟩
  · have g1' := mm g1
    exact ⟨fun ⟨p, h, z⟩ => (by rw [okN_isI (g1' p h)] at z; cases z), fun _ => g3, fun _ ⟨p, h, z⟩ => absurd (g1' p h) z, fun _ z => absurd z (by omega), fun h _ => kq g4 h g3⟩
  · obtain ⟨p0, h0, rfl⟩ := List.mem_map.mp hp'
    exact ⟨fun _ => b2, fun h => (by rw [h p0 h0] at b1; cases b1), fun h => (by rw [h p0 h0] at b1; cases b1), fun h => (by rw [okN_isI (h p0 h0)] at b1; cases b1), fun h => (by rw [okN_isI (h p0 h0)] at b1; cases b1)⟩
  · obtain ⟨p0, h0, rfl⟩ := List.mem_map.mp hp'
    have g1' := mm g1
    exact ⟨fun ⟨p, h, z⟩ => (by rw [g1' p h] at z; cases z), fun _ => g3, fun _ _ => b2, fun h => absurd (h p0 h0) g2, fun h => absurd (h p0 h0) g2⟩
  · have g1' := mm g1
    exact ⟨fun ⟨p, h, z⟩ => (by rw [okN_isI (g1' p h)] at z; cases z), fun _ => g3, fun _ ⟨p, h, z⟩ => absurd (g1' p h) z, fun _ _ => b2, fun _ z => absurd g2 (by omega)⟩
def spPInit (K : PySem.W.Frag) : Sp := fun vs H Q E => ∃ (H0 : Hp) (x dx q c a b1 b2 : Addr) (W : Web) (k : Int) (l : List Nat) (rns : List Int) (xs1 xs2 : List V), vs = [.ref x, .ref q, .int k, .ref c, .ref a, .ref b1, .ref b2] ∧ H = upd (upd H0 dx (.own x)) x (.ins (He.ga K "CallPaper") dx []) ∧ H0 x = none ∧ H0 dx = none ∧ dx ≠ x ∧
  W.Ok ∧ WebAt K H0 q W ∧ 0 ≤ k ∧ l.length ≤ 50 ∧ Sq K H0 c (lotV l) ∧ (∀ v ∈ l, v < W.n ∧ W.mv v = true) ∧ Sq K H0 a (rns.map V.int) ∧ Sq K H0 b1 xs1 ∧ Sq K H0 b2 xs2 ∧ (∀ x ∈ xs1, Sim x) ∧ (∀ x ∈ xs2, Sim x) ∧
  LookC K H0 E W.n k rns [xs1, xs2] (∀ X r ct, rns.map V.int = rowV W.n X → xs1 = rowV W.n r → xs2 = rowV W.n ct → ∀ H2, Ex H0 H2 → PapAt K H2 x W.n q k (fun v => decide (v ∈ l)) X r ct → Q .non H2)
theorem LookC.ex {H H' : Hp} {E : XK} {n : Nat} {k : Int} {rns : List Int} {ps : List (List V)} {Good : Prop} (e : Ex H H') (h : LookC K H E n k rns ps Good) : LookC K H' E n k rns ps Good := by
  rcases h with h | ⟨h1, h2⟩ | ⟨h1, h2, h3, h4⟩ | ⟨h1, h2, h3, h4⟩
  · exact .inl h
  · exact .inr (.inl ⟨h1, h2.ex e⟩)
  · exact .inr (.inr (.inl ⟨h1, h2, h3, h4.ex e⟩))
  · exact .inr (.inr (.inr ⟨h1, h2, h3, h4.ex e⟩))
theorem sq_addr_ne {H0 : Hp} {p x : Addr} {xs : List V} (h : Sq K H0 p xs) (hx : H0 x = none) (hK : K.lookup x = none) : p ≠ x := fun z => by
  subst z
  rcases h with ((h | ⟨o, h⟩) | ⟨o, its, n, h, _⟩) | ((h | ⟨o, h⟩) | ⟨o, its, n, h, _⟩)
  all_goals first | (rw [hx] at h; cases h) | (rw [hK] at h; cases h)
end
end PwD
end
/-! ### PwZc -/
section
set_option linter.all false
set_option maxRecDepth 100000
set_option maxHeartbeats 8000000
/-! papers made; the halves; judged -/
namespace Wk
open PySem PySem.Spec PyProof.Rows L2 Evl Pw
theorem e_call {X : Cx} {e : Expr} {es : List Expr} {σ : L2.St} {H : Hp} {pos p : Pos} {m : Nat} {s : Str} {dvs : List V} {sp : Sp} {R : List V → Hp → Prop} {E : XK} {Q : VK} (D : Dn X.prog X.w X.K X.mg X.base m s dvs sp) (hr : Room m X.A) (hx : Passes (L2.CX X.prog X.w) X E) (ha : VAD X (e :: es) σ H R) (hs : ∀ vs H1, Ex H H1 → R vs H1 → sp (vs ++ dvs) H1 Q E) (hg : Gl X s := by rfl) (hdb : (s == ("__debug__" : Str)) = false := by decide)
    (he : starEach (e :: es) X.env = (false, eval e X.env) :: starEach es X.env := by rfl) (hpl : (backTo pos (starEach es X.env)).any (·.1) = false := by rfl) : WE X (.Call (.Name s p) (e :: es) [] pos) σ H Q :=
  ofE (pe_dn D hr hx paW hg hdb he hpl) (ha H (Ex.refl H) _ fun vs H1 e1 hR => hs vs H1 e1 hR)
end Wk
namespace PwD
open PySem PySem.Spec PyProof.Rows L2 Evl Pw Wk PwH
section
variable {P : Program} {w : World} {K : PySem.W.Frag} {mg : Str → Option Value} {base : Heap}
/-- an object in the making -/
def Mkg (H : Hp) (x C dx : Addr) (vs : List (Option V)) : Prop := SlX.Slt H x C dx vs ∧ (H dx = some (.own x) ∨ H dx = some (.xd []))
theorem Mkg.ex {H H' : Hp} {x C dx : Addr} {vs : List (Option V)} (e : Ex H H') (h : Mkg H x C dx vs) : Mkg H' x C dx vs := ⟨slt_ex e h.1, h.2.imp (e _ _) (e _ _)⟩
theorem Mkg.sl {H : Hp} {x C dx : Addr} {vs : List (Option V)} (hne : dx ≠ x) : Mkg (SlX.slH H x C dx vs) x C dx vs := ⟨SlX.slH_slt hne, .inr (by unfold SlX.slH; rw [upd_ne hne, upd_same])⟩
theorem Mkg.keep {H : Hp} {x C dx p : Addr} {vs vs' : List (Option V)} {xs : List V} (m : Mkg H x C dx vs) (h : SqT K H p xs) : SqT K (SlX.slH H x C dx vs') p xs := by
  have no : ∀ u, H p = some u → ((∃ ys, u = .tup ys) ∨ ∃ o ys, u = .frz o (.tup ys)) → p ≠ x ∧ p ≠ dx := fun u hu ht => by
    refine ⟨fun z => ?_, fun z => ?_⟩
    · subst z
      rcases m.1 with ⟨h1, _⟩ | ⟨h1, _⟩
      · rw [h1] at hu
        rcases ht with ⟨ys, rfl⟩ | ⟨o, ys, rfl⟩ <;> cases hu
      · rw [h1] at hu
        unfold SlX.SlO at hu
        rcases ht with ⟨ys, rfl⟩ | ⟨o, ys, rfl⟩ <;> cases hu
    · subst z
      rcases m.2 with h1 | h1
      · rw [h1] at hu
        rcases ht with ⟨ys, rfl⟩ | ⟨o, ys, rfl⟩ <;> cases hu
      · rw [h1] at hu
        rcases ht with ⟨ys, rfl⟩ | ⟨o, ys, rfl⟩ <;> cases hu
  rcases h with (h | ⟨o, h⟩) | h
  · obtain ⟨n1, n2⟩ := no _ h (.inl ⟨_, rfl⟩)
    exact .inl (.inl (by rw [SlX.slH_ne n1 n2]; exact h))
  · obtain ⟨n1, n2⟩ := no _ h (.inr ⟨_, _, rfl⟩)
    exact .inl (.inr ⟨o, by rw [SlX.slH_ne n1 n2]; exact h⟩)
  · exact .inr h
theorem G_CallPaper_init (T : Hd K mg) : FnR P w K mg base (L2.CX P w) 7 (He.ma K (He.ga K "CallPaper") "__init__") (spPInit K) := by
  refine fn_rn (F_CallPaper_init T) sc_CallPaper_init (fun vs H Q E h => ?_) B_CallPaper_init fun cdv A outer s H vs Q E hr h => ?_
  · obtain ⟨_, _, _, _, _, _, _, _, _, _, _, _, _, _, rfl, _⟩ := h
    rfl
  · obtain ⟨H0, x, dx, q, c, a, b1, b2, W, k, l, rns, xs1, xs2, rfl, rfl, hx, hd, hne, ok, hW, hk, hl, hc, hlm, ha, h1, h2, s1, s2, L⟩ := h
    have e0 := ex_made (C := He.ga K "CallPaper") hx hd hne
    have m0 : Mkg (upd (upd H0 dx (.own x)) x (.ins (He.ga K "CallPaper") dx [])) x (He.ga K "CallPaper") dx [] := ⟨.inl ⟨upd_same, rfl⟩, .inl (by rw [upd_ne hne, upd_same])⟩
    refine w_slW (i := 0) (vs := []) (a := x) (dx := dx) (S_CallPaper T) (L_CallPaper_calls T) (e_call (E := E) (d_halfL T) hr passE (R := fun vs H2 => ∃ pp, vs = [.ref q, .int k, .ref c, .ref a, .ref pp] ∧ H2 pp = some (.tup [.ref b1, .ref b2])) (ad_consE (vn 1) (ad_consE (vn 2) (ad_consE (vn 3) (ad_consE (vn 4) (ad_last (ud (v_tup (a_cons (vn 5) (a_cons (vn 6) a_nil)) (by simp))) fun u H1 x1 hu => by
      obtain ⟨pp, rfl, hp⟩ := hu
      exact ⟨pp, rfl, hp⟩))))) fun vs H1 x1 hvs => ?_)
    obtain ⟨pp, rfl, hpp⟩ := hvs
    have e1 := e0.trans x1
    refine halfL_use (ps := [(b1, xs1), (b2, xs2)]) ok (hW.ex e1) hk hl (hc.ex e1) hlm (ha.ex e1) (.tp hpp) (fun p hp => ?_) (L.ex e1) fun kq hok ⟨X, eX, hX⟩ pc H2 hpc x2 h2c => ?_
    · rcases List.mem_cons.mp hp with rfl | hp
      · exact ⟨h1.ex e1, s1⟩
      · have : p = (b2, xs2) := by simpa using hp
        subst this
        exact ⟨h2.ex e1, s2⟩
    · obtain ⟨r, er, hr0⟩ := okN_row (hok (b1, xs1) (by simp))
      obtain ⟨ct, ect, hc0⟩ := okN_row (hok (b2, xs2) (by simp))
      have e2 := e1.trans x2
      have m2 := m0.ex (x1.trans x2)
      refine ⟨vn 0, m2.1, fun H3 x3 => ?_⟩
      have m3 := m2.ex x3
      have p3 : SqT K (SlX.slH H3 x (He.ga K "CallPaper") dx (SlX.putS 0 (.ref pc) [])) pc (filV W.n fun v => decide (v ∈ l)) := m3.keep (st_of (x3 _ _ h2c))
      have e3 := ex_sl (C := He.ga K "CallPaper") (vs := SlX.putS 0 (.ref pc) []) (e2.trans x3) hx hd
      have g3 : Mkg (SlX.slH H3 x (He.ga K "CallPaper") dx (SlX.putS 0 (.ref pc) [])) x (He.ga K "CallPaper") dx (SlX.putS 0 (.ref pc) []) := Mkg.sl hne
      -- web
      refine w_sl (S_CallPaper T) (L_CallPaper_web T) (vd (vn 1)) (vn 0) g3.1 fun y H4 H5 x4 hy x5 => ?_
      subst hy
      have m5 := g3.ex (x4.trans x5)
      have p5 := m5.keep (vs' := SlX.putS 5 (.ref q) (SlX.putS 0 (.ref pc) [])) (ex_t (x4.trans x5) p3)
      have e5 := ex_sl (C := He.ga K "CallPaper") (vs := SlX.putS 5 (.ref q) (SlX.putS 0 (.ref pc) [])) (e3.trans (x4.trans x5)) hx hd
      have g5 : Mkg (SlX.slH H5 x (He.ga K "CallPaper") dx (SlX.putS 5 (.ref q) (SlX.putS 0 (.ref pc) []))) x (He.ga K "CallPaper") dx (SlX.putS 5 (.ref q) (SlX.putS 0 (.ref pc) [])) := Mkg.sl hne
      -- chips
      refine w_sl (S_CallPaper T) (L_CallPaper_chips T) (vd (vn 2)) (vn 0) g5.1 fun y H6 H7 x6 hy x7 => ?_
      subst hy
      have m7 := g5.ex (x6.trans x7)
      have p7 := m7.keep (vs' := SlX.putS 1 (.int k) (SlX.putS 5 (.ref q) (SlX.putS 0 (.ref pc) []))) (ex_t (x6.trans x7) p5)
      have e7 := ex_sl (C := He.ga K "CallPaper") (vs := SlX.putS 1 (.int k) (SlX.putS 5 (.ref q) (SlX.putS 0 (.ref pc) []))) (e5.trans (x6.trans x7)) hx hd
      have g7 : Mkg (SlX.slH H7 x (He.ga K "CallPaper") dx (SlX.putS 1 (.int k) (SlX.putS 5 (.ref q) (SlX.putS 0 (.ref pc) [])))) x (He.ga K "CallPaper") dx (SlX.putS 1 (.int k) (SlX.putS 5 (.ref q) (SlX.putS 0 (.ref pc) []))) := Mkg.sl hne
      have hrow : Sq K H0 a (rowV W.n X) := by rw [← eX]; exact ha
      rw [show xs1 = rowV W.n r from er] at h1
      rw [show xs2 = rowV W.n ct from ect] at h2
      -- row
      refine w_sl (S_CallPaper T) (L_CallPaper_row T) (v_tupS T.fre (vn 4) (hrow.ex e7)) (vn 0) g7.1 fun y H8 H9 x8 hy x9 => ?_
      obtain ⟨px, rfl, hpx⟩ := hy
      have m9 := g7.ex (x8.trans x9)
      have p9 := m9.keep (vs' := SlX.putS 4 (.ref px) (SlX.putS 1 (.int k) (SlX.putS 5 (.ref q) (SlX.putS 0 (.ref pc) [])))) (ex_t (x8.trans x9) p7)
      have r9 := m9.keep (vs' := SlX.putS 4 (.ref px) (SlX.putS 1 (.int k) (SlX.putS 5 (.ref q) (SlX.putS 0 (.ref pc) [])))) (ex_t x9 hpx)
      have e9 := ex_sl (C := He.ga K "CallPaper") (vs := SlX.putS 4 (.ref px) (SlX.putS 1 (.int k) (SlX.putS 5 (.ref q) (SlX.putS 0 (.ref pc) [])))) (e7.trans (x8.trans x9)) hx hd
      have g9 : Mkg (SlX.slH H9 x (He.ga K "CallPaper") dx (SlX.putS 4 (.ref px) (SlX.putS 1 (.int k) (SlX.putS 5 (.ref q) (SlX.putS 0 (.ref pc) []))))) x (He.ga K "CallPaper") dx (SlX.putS 4 (.ref px) (SlX.putS 1 (.int k) (SlX.putS 5 (.ref q) (SlX.putS 0 (.ref pc) [])))) := Mkg.sl hne
      -- ranks
      refine w_sl (S_CallPaper T) (L_CallPaper_ranks T) (v_tupS T.fre (vn 5) (h1.ex e9)) (vn 0) g9.1 fun y H10 H11 x10 hy x11 => ?_
      obtain ⟨pr, rfl, hpr⟩ := hy
      have m11 := g9.ex (x10.trans x11)
      have p11 := m11.keep (vs' := SlX.putS 3 (.ref pr) (SlX.putS 4 (.ref px) (SlX.putS 1 (.int k) (SlX.putS 5 (.ref q) (SlX.putS 0 (.ref pc) []))))) (ex_t (x10.trans x11) p9)
      have r11 := m11.keep (vs' := SlX.putS 3 (.ref pr) (SlX.putS 4 (.ref px) (SlX.putS 1 (.int k) (SlX.putS 5 (.ref q) (SlX.putS 0 (.ref pc) []))))) (ex_t (x10.trans x11) r9)
      have t11 := m11.keep (vs' := SlX.putS 3 (.ref pr) (SlX.putS 4 (.ref px) (SlX.putS 1 (.int k) (SlX.putS 5 (.ref q) (SlX.putS 0 (.ref pc) []))))) (ex_t x11 hpr)
      have e11 := ex_sl (C := He.ga K "CallPaper") (vs := SlX.putS 3 (.ref pr) (SlX.putS 4 (.ref px) (SlX.putS 1 (.int k) (SlX.putS 5 (.ref q) (SlX.putS 0 (.ref pc) []))))) (e9.trans (x10.trans x11)) hx hd
      have g11 : Mkg (SlX.slH H11 x (He.ga K "CallPaper") dx (SlX.putS 3 (.ref pr) (SlX.putS 4 (.ref px) (SlX.putS 1 (.int k) (SlX.putS 5 (.ref q) (SlX.putS 0 (.ref pc) [])))))) x (He.ga K "CallPaper") dx (SlX.putS 3 (.ref pr) (SlX.putS 4 (.ref px) (SlX.putS 1 (.int k) (SlX.putS 5 (.ref q) (SlX.putS 0 (.ref pc) []))))) := Mkg.sl hne
      -- counts
      refine w_sl (S_CallPaper T) (L_CallPaper_counts T) (v_tupS T.fre (vn 6) (h2.ex e11)) (vn 0) g11.1 fun y H12 H13 x12 hy x13 => ?_
      obtain ⟨pn, rfl, hpn⟩ := hy
      have m13 := g11.ex (x12.trans x13)
      exact w_nil (kq X r ct eX er ect _ (ex_sl (e11.trans (x12.trans x13)) hx hd) ⟨dx, _, pc, px, pr, pn, SlX.slH_slt hne, rfl, rfl, rfl, rfl, rfl, rfl, m13.keep (ex_t (x12.trans x13) p11), m13.keep (ex_t (x12.trans x13) r11), m13.keep (ex_t (x12.trans x13) t11), m13.keep (ex_t x13 hpn)⟩)
end
end PwD
end
/-! ### PwZd -/
section
set_option linter.all false
set_option maxRecDepth 100000
set_option maxHeartbeats 8000000
/-! the halves, judged -/
namespace Wk
open PySem PySem.Spec PyProof.Rows L2 Evl Pw
section
variable {X : Cx} {o e : Expr} {es : List Expr} {σ : L2.St} {H : Hp} {C dx q g : Addr} {vs : List (Option V)} {m : Str} {n : Nat} {sp : Sp} {P : V → Hp → Prop} {pos apos : Pos}
theorem v_meth0 {pl : Sem Bool} (c : SlX.SCls X.K C) (hm : Meth X.K C m g) (F : FnR X.prog X.w X.K X.mg X.base (L2.CX X.prog X.w) n g sp) (hr : Room n X.A) (h : VE X o σ H (.ref q)) (hs : SlX.Slt H q C dx vs) (hp : SpD sp [.ref q] H P)
    (ht : eval (.Call (.Attribute o m apos) [] [] pos) X.env = (do
      let ov ← eval o X.env
      standAt apos.atName
      let (f, first) ← holding [ov] (getMethod ov m pl)
      callWith pos f first (backTo pos (starEach [] X.env)) (backToKw pos (keywordEach [] X.env))) := by rfl) : VD X (.Call (.Attribute o m apos) [] [] pos) σ H P := fun H1 e1 Q k =>
  ofE (SlX.pe_methSl0 (E := E0) peW c hm F hr passL ht) (h H1 e1 _ fun H2 e2 => ⟨q, dx, vs, rfl, PwD.slt_ex (e1.trans e2) hs, hp H2 (e1.trans e2) Q (fun u H3 e3 hu => k u H3 (e2.trans e3) hu) E0⟩)
/-- xs + (a new list) -/
theorem v_catL {a b : Expr} {xs ys : List V} (ha : VE X a σ H (.ref q)) (h1 : H q = some (.lst xs)) (hb : VL X b σ H ys) (hz : xs.length + ys.length ≤ 100000) : VL X (.BinOp a .Add b pos) σ H (xs ++ ys) := fun H1 e1 Q g =>
  ofE (pe_op op_cat peW peW) (ha H1 e1 _ fun H2 e2 => hb H2 (e1.trans e2) _ fun r H3 hr e3 h3 => ⟨q, r, xs, ys, rfl, rfl, e3 _ _ (e2 _ _ (e1 _ _ h1)), h3, sz_of hz, fun l hl => g l _ (fresh_back (e2.trans e3) hl) ((e2.trans e3).trans (Ex.new hl)) upd_same⟩)
end
end Wk
namespace PwD
open PySem PySem.Spec PyProof.Rows L2 Evl Pw Wk PwH
theorem lotV_app {la lb : List Nat} : lotV (la ++ lb) = lotV la ++ lotV lb := by
  unfold lotV
  rw [List.map_append]
theorem fil_mem_eq {n : Nat} {f : Nat → Bool} : (filV n fun v => decide (v ∈ (List.range n).filter f)) = filV n f := filV_congr fun v hv => by
  by_cases h : f v = true
  · rw [h]; exact decide_eq_true (in_filL.mpr ⟨hv, h⟩)
  · have : f v = false := by simpa using h
    rw [this]
    exact decide_eq_false fun z => h (in_filL.mp z).2
section
variable {P : Program} {w : World} {K : PySem.W.Frag} {mg : Str → Option Value} {base : Heap}
def spHalfV (K : PySem.W.Frag) (g : Web → (Nat → Bool) → Int → (Nat → Int) → (Nat → Int) → Nat → Bool) : Sp := fun vs H Q _ => ∃ (q c a b : Addr) (W : Web) (k : Nat) (l : List Nat) (X r : Nat → Int), vs = [.ref q, .int (k : Int), .ref c, .ref a, .ref b] ∧ W.Ok ∧ WebAt K H q W ∧ k ≤ 60 ∧ l.length ≤ 50 ∧ Sq K H c (lotV l) ∧ (∀ v ∈ l, v < W.n ∧ W.mv v = true) ∧
  Row K H a W.n X ∧ (∀ v, v < W.n → 0 ≤ X v ∧ X v ≤ (k : Int) + 1) ∧ Row K H b W.n r ∧ (∀ v, v < W.n → 0 ≤ r v) ∧ RetD (fun u H2 => ∃ p, u = .ref p ∧ VdAt K H2 p (filV W.n fun v => !g W (fun v => decide (v ∈ l)) ((k : Int) + 1) X r v)) H Q
theorem v_vd (T : Hd K mg) {X : Cx} {e : Expr} {σ : L2.St} {H : Hp} {n : Nat} {l : List Nat} {p2 pos : Pos} (hX : X.K = K ∧ X.mg = mg) (hr : Room 5 X.A) (hl : l.length ≤ 50) (hb : ∀ v ∈ l, v < n) (ha : VL X e σ H (lotV l)) (hg : Gl X "Verdict" := by rfl)
    (he : starEach [e] X.env = (false, eval e X.env) :: starEach [] X.env := by rfl) (hpl : (backTo pos (starEach [] X.env)).any (·.1) = false := by rfl) : VD X (.Call (.Name "Verdict" p2) [e] [] pos) σ H (fun u H2 => ∃ p, u = .ref p ∧ VdAt X.K H2 p (filV n fun v => decide (v ∈ l))) := by
  obtain ⟨rfl, rfl⟩ := hX
  refine v_mk (MK_Verdict T) (G_Verdict_init T) hr (g_Verdict T) (R := fun vs H2 => ∃ p, vs = [.ref p] ∧ H2 p = some (.lst (lotV l))) (ad_last (ld ha) (fun u H1 _ hu => by
    obtain ⟨p, rfl, hp⟩ := hu
    exact ⟨p, rfl, hp⟩) he) ?_ hg (by decide) he hpl
  rintro vs H1 x dx e1 ⟨p, rfl, hp⟩ h1 h2 h3 Q k
  exact ⟨H1, x, dx, p, n, l, rfl, rfl, h1, h2, h3, .ls hp, hl, hb, fun H2 e2 hv => ⟨rfl, k H2 e2 ⟨x, rfl, hv⟩⟩⟩
theorem d_hab (T : Hd K mg) : Dn P w K mg base 7 "half_above" [] (spHalfV K abv) := by
  refine fn_dn (F_half_above T) sc_half_above (fun vs H Q E h => ?_) B_half_above fun f cdv A outer s H vs Q E hr h => ?_
  · obtain ⟨_, _, _, _, _, _, _, _, _, rfl, _⟩ := h
    rfl
  · obtain ⟨q, c, a, b, W, k, l, X, r, rfl, ok, hW, hk, hl, hc, hlm, hX, hXr, hb, hr0, kq⟩ := h
    have hn5 := ok.n5
    have hsub : ∀ v, v < W.n → decide (v ∈ l) = true → W.mv v = true := fun v _ hv => (hlm v (of_decide_eq_true hv)).2
    have hX' : Sq K H a (((List.range W.n).map X).map V.int) := by rw [← rowV_ints]; exact hX
    refine w_setD (lv sc_half_above.nd 5) (fun H0 x0 Q0 g0 => e_call (E := E) (d_halfL T) hr passE (R := fun vs H2 => ∃ pp, vs = [.ref q, .int (k : Int), .ref c, .ref a, .ref pp] ∧ H2 pp = some (.tup [.ref b])) (ad_consE (vn 0) (ad_consE (vn 1) (ad_consE (vn 2) (ad_consE (vn 3) (ad_last (ud (v_tup (a_cons (vn 4) a_nil) (by simp))) fun u H1 x1 hu => by
      obtain ⟨pp, rfl, hp⟩ := hu
      exact ⟨pp, rfl, hp⟩))))) fun vs H1 x1 ⟨pp, hvs, hpp⟩ => ?_) (P := fun u H2 => ∃ p, u = .ref p ∧ H2 p = some (.tup (filV W.n fun v => decide (v ∈ l)))) fun u H1 x1 hu => ?_
    · subst hvs
      have e1 := x0.trans x1
      exact halfL_use (ps := [(b, rowV W.n r)]) (Good := True) ok (hW.ex e1) (by omega) hl (hc.ex e1) hlm (hX'.ex e1) (.tp hpp) (fun p hp => by
        have : p = (b, rowV W.n r) := by simpa using hp
        subst this
        exact ⟨hb.ex e1, row_sim⟩) (.inl ⟨fun p hp => (by
        have : p = rowV W.n r := by simpa using hp
        subst this
        exact row_okN hr0), by have : (60 : Int) ≤ 10 ^ 40 := by decide
                               omega, ⟨X, rowV_ints.symm, hXr⟩, trivial⟩) fun _ _ _ pc H2 hpc x2 h2 => g0 _ H2 (x1.trans x2) ⟨pc, rfl, h2⟩
    · obtain ⟨pc, rfl, hpc⟩ := hu
      refine w_retD (EvD.imp (v_vd T ⟨rfl, rfl⟩ (hr.mono (by decide)) (l := (List.range W.n).filter fun v => !abv W (fun v => decide (v ∈ l)) ((k : Int) + 1) X r v) (n := W.n) (by have := List.length_filter_le (fun v => !abv W (fun v => decide (v ∈ l)) ((k : Int) + 1) X r v) (List.range W.n); rw [List.length_range] at this; omega) (fun v hv => (in_filL.mp hv).1)
        (v_callL (d_abvAt T) hr (a_cons (vn 0) (a_cons (vn 1) (a_cons (vn 5) (a_cons (vn 3) (a_cons (vn 4) a_nil))))) fun H2 x2 Q2 k2 E2 => ⟨q, pc, a, b, W, _, X, r, k, rfl, ok, hW.ex (x1.trans x2), .tp (x2 _ _ hpc), hsub, hX.ex (x1.trans x2), hb.ex (x1.trans x2), k2⟩)) fun u H2 x2 hu => ?_) fun u H2 x2 hu => kq u H2 (x1.trans x2) hu
      obtain ⟨p, rfl, hv⟩ := hu
      rw [fil_mem_eq] at hv
      exact ⟨p, rfl, hv⟩
theorem d_hbl (T : Hd K mg) : Dn P w K mg base 7 "half_below" [] (spHalfV K blw) := by
  refine fn_dn (F_half_below T) sc_half_below (fun vs H Q E h => ?_) B_half_below fun f cdv A outer s H vs Q E hr h => ?_
  · obtain ⟨_, _, _, _, _, _, _, _, _, rfl, _⟩ := h
    rfl
  · obtain ⟨q, c, a, b, W, k, l, X, r, rfl, ok, hW, hk, hl, hc, hlm, hX, hXr, hb, hr0, kq⟩ := h
    have hn5 := ok.n5
    have hsub : ∀ v, v < W.n → decide (v ∈ l) = true → W.mv v = true := fun v _ hv => (hlm v (of_decide_eq_true hv)).2
    have hX' : Sq K H a (((List.range W.n).map X).map V.int) := by rw [← rowV_ints]; exact hX
    refine w_setD (lv sc_half_below.nd 5) (fun H0 x0 Q0 g0 => e_call (E := E) (d_halfL T) hr passE (R := fun vs H2 => ∃ pp, vs = [.ref q, .int (k : Int), .ref c, .ref a, .ref pp] ∧ H2 pp = some (.tup [.ref b])) (ad_consE (vn 0) (ad_consE (vn 1) (ad_consE (vn 2) (ad_consE (vn 3) (ad_last (ud (v_tup (a_cons (vn 4) a_nil) (by simp))) fun u H1 x1 hu => by
      obtain ⟨pp, rfl, hp⟩ := hu
      exact ⟨pp, rfl, hp⟩))))) fun vs H1 x1 ⟨pp, hvs, hpp⟩ => ?_) (P := fun u H2 => ∃ p, u = .ref p ∧ H2 p = some (.tup (filV W.n fun v => decide (v ∈ l)))) fun u H1 x1 hu => ?_
    · subst hvs
      have e1 := x0.trans x1
      exact halfL_use (ps := [(b, rowV W.n r)]) (Good := True) ok (hW.ex e1) (by omega) hl (hc.ex e1) hlm (hX'.ex e1) (.tp hpp) (fun p hp => by
        have : p = (b, rowV W.n r) := by simpa using hp
        subst this
        exact ⟨hb.ex e1, row_sim⟩) (.inl ⟨fun p hp => (by
        have : p = rowV W.n r := by simpa using hp
        subst this
        exact row_okN hr0), by have : (60 : Int) ≤ 10 ^ 40 := by decide
                               omega, ⟨X, rowV_ints.symm, hXr⟩, trivial⟩) fun _ _ _ pc H2 hpc x2 h2 => g0 _ H2 (x1.trans x2) ⟨pc, rfl, h2⟩
    · obtain ⟨pc, rfl, hpc⟩ := hu
      refine w_retD (EvD.imp (v_vd T ⟨rfl, rfl⟩ (hr.mono (by decide)) (l := (List.range W.n).filter fun v => !blw W (fun v => decide (v ∈ l)) ((k : Int) + 1) X r v) (n := W.n) (by have := List.length_filter_le (fun v => !blw W (fun v => decide (v ∈ l)) ((k : Int) + 1) X r v) (List.range W.n); rw [List.length_range] at this; omega) (fun v hv => (in_filL.mp hv).1)
        (v_callL (d_blwAt T) hr (a_cons (vn 0) (a_cons (vn 1) (a_cons (vn 5) (a_cons (vn 3) (a_cons (vn 4) a_nil))))) fun H2 x2 Q2 k2 E2 => ⟨q, pc, a, b, W, _, X, r, k, rfl, ok, hW.ex (x1.trans x2), .tp (x2 _ _ hpc), hsub, hX.ex (x1.trans x2), hb.ex (x1.trans x2), k2⟩)) fun u H2 x2 hu => ?_) fun u H2 x2 hu => kq u H2 (x1.trans x2) hu
      obtain ⟨p, rfl, hv⟩ := hu
      rw [fil_mem_eq] at hv
      exact ⟨p, rfl, hv⟩
/-- paper.judged() -/
def spJdg (K : PySem.W.Frag) : Sp := fun vs H Q _ => ∃ (u q : Addr) (W : Web) (k : Nat) (cl : Nat → Bool) (X r ct : Nat → Int), vs = [.ref u] ∧ W.Ok ∧ WebAt K H q W ∧ (∀ v, v < W.n → cl v = true → W.mv v = true) ∧ PapAt K H u W.n q (k : Int) cl X r ct ∧
  RetD (fun u H2 => ∃ p, u = .ref p ∧ VdAt K H2 p (filV W.n fun v => !(abv W cl ((k : Int) + 1) X r v && blw W cl ((k : Int) + 1) X ct v))) H Q
theorem G_judged (T : Hd K mg) : FnR P w K mg base (L2.CX P w) 7 (He.ma K (He.ga K "CallPaper") "judged") (spJdg K) := by
  refine fn_rn (F_CallPaper_judged T) sc_CallPaper_judged (fun vs H Q E h => ?_) B_CallPaper_judged fun cdv A outer s H vs Q E hr h => ?_
  · obtain ⟨_, _, _, _, _, _, _, _, rfl, _⟩ := h
    rfl
  · obtain ⟨u, q, W, k, cl, X, r, ct, rfl, ok, hW, hsub, ⟨dx, sl, pc, px, pr, pn, hs, g0, g1, g2, g3, g4, g5, t1, t2, t3, t4⟩, kq⟩ := h
    have hn5 := ok.n5
    have S := S_CallPaper T
    refine w_setL (xs := filV W.n fun v => !abv W cl ((k : Int) + 1) X r v) (lv sc_CallPaper_judged.nd 1) (v_callL (d_abvAt T) hr (a_cons (v_slot S (L_CallPaper_web T) (vn 0) hs g5) (a_cons (v_slot S (L_CallPaper_chips T) (vn 0) hs g1) (a_cons (v_slot S (L_CallPaper_calls T) (vn 0) hs g0) (a_cons (v_slot S (L_CallPaper_row T) (vn 0) hs g4) (a_cons (v_slot S (L_CallPaper_ranks T) (vn 0) hs g3) a_nil))))) fun H2 x2 Q2 k2 E2 => ⟨q, pc, px, pr, W, cl, X, r, k, rfl, ok, hW.ex x2, .inr (ex_t x2 t1), hsub, .inr (ex_t x2 t2), .inr (ex_t x2 t3), k2⟩) fun p1 H1 hp1 x1 h1 => ?_
    obtain ⟨la, hla⟩ : ∃ la, la = (List.range W.n).filter fun v => !abv W cl ((k : Int) + 1) X r v := ⟨_, rfl⟩
    obtain ⟨lb, hlb⟩ : ∃ lb, lb = (List.range W.n).filter fun v => !blw W cl ((k : Int) + 1) X ct v := ⟨_, rfl⟩
    have h1' : H1 p1 = some (.lst (lotV la)) := by rw [hla]; exact h1
    have n1 : la.length ≤ W.n := by rw [hla]; have := List.length_filter_le (fun v => !abv W cl ((k : Int) + 1) X r v) (List.range W.n); rw [List.length_range] at this; exact this
    have n2 : lb.length ≤ W.n := by rw [hlb]; have := List.length_filter_le (fun v => !blw W cl ((k : Int) + 1) X ct v) (List.range W.n); rw [List.length_range] at this; exact this
    have hs1 := slt_ex x1 hs
    refine w_retD (EvD.imp (v_vd T ⟨rfl, rfl⟩ (hr.mono (by decide)) (l := la ++ lb) (n := W.n) (by rw [List.length_append]; omega) (fun v hv => by
      rcases List.mem_append.mp hv with h | h
      · rw [hla] at h; exact (in_filL.mp h).1
      · rw [hlb] at h; exact (in_filL.mp h).1) (by
      rw [lotV_app]
      exact v_catL (vn 1) h1' (v_callL (xs := lotV lb) (d_blwAt T) hr (a_cons (v_slot S (L_CallPaper_web T) (vn 0) hs1 g5) (a_cons (v_slot S (L_CallPaper_chips T) (vn 0) hs1 g1) (a_cons (v_slot S (L_CallPaper_calls T) (vn 0) hs1 g0) (a_cons (v_slot S (L_CallPaper_row T) (vn 0) hs1 g4) (a_cons (v_slot S (L_CallPaper_counts T) (vn 0) hs1 g2) a_nil))))) fun H2 x2 Q2 k2 E2 => ⟨q, pc, px, pn, W, cl, X, ct, k, rfl, ok, hW.ex (x1.trans x2), .inr (ex_t (x1.trans x2) t1), hsub, .inr (ex_t (x1.trans x2) t2), .inr (ex_t (x1.trans x2) t4), by
        intro p H3 hp e3 h3
        exact k2 p H3 hp e3 (by rw [hlb]; exact h3)⟩) (by rw [lotV_len, lotV_len]; omega))) fun u H2 x2 hu => ?_) fun u H2 x2 hu => kq u H2 (x1.trans x2) hu
    obtain ⟨p, rfl, hv⟩ := hu
    have e : (filV W.n fun v => decide (v ∈ la ++ lb)) = filV W.n fun v => !(abv W cl ((k : Int) + 1) X r v && blw W cl ((k : Int) + 1) X ct v) := filV_congr fun v hv => by
      have ia : v ∈ la ↔ abv W cl ((k : Int) + 1) X r v = false := by rw [hla, in_filL]; simp [hv]
      have ib : v ∈ lb ↔ blw W cl ((k : Int) + 1) X ct v = false := by rw [hlb, in_filL]; simp [hv]
      by_cases h : v ∈ la ++ lb
      · rw [decide_eq_true h]
        rcases List.mem_append.mp h with h | h
        · rw [ia.mp h]; rfl
        · rw [ib.mp h]; simp
      · rw [decide_eq_false h]
        have h1 : ¬ v ∈ la := fun z => h (List.mem_append_left _ z)
        have h2 : ¬ v ∈ lb := fun z => h (List.mem_append_right _ z)
        rw [ia] at h1
        rw [ib] at h2
        have g1 : abv W cl ((k : Int) + 1) X r v = true := by simpa using h1
        have g2 : blw W cl ((k : Int) + 1) X ct v = true := by simpa using h2
        rw [g1, g2]
        rfl
    rw [e] at hv
    exact ⟨p, rfl, hv⟩
end
end PwD
end
/-! ### PwZe -/
section
set_option linter.all false
set_option maxRecDepth 100000
set_option maxHeartbeats 8000000
/-! CallPaper.of -/
namespace Wk
open PySem PySem.Spec PyProof.Rows L2 Evl Pw
section
variable {X : Cx} {e : Expr} {es : List Expr} {σ : L2.St} {H : Hp} {C : Addr} {k : Nat} {s : Str} {R : List V → Hp → Prop} {sp : Sp} {p2 pos : Pos}
/-- cls(..): the class stands in a name of ours -/
theorem e_mkV {E : XK} {g : Addr} {Q : VK} (M : Mk X.K C g) (F : FnR X.prog X.w X.K X.mg X.base (L2.CX X.prog X.w) k g sp) (hr : Room (k + 1) X.A) (hx : Passes (L2.CX X.prog X.w) X E) (hn : VE X (.Name s p2) σ H (.ref C)) (ha : VAD X (e :: es) σ H R)
    (hs : ∀ vs H1 x dx, Ex H H1 → R vs H1 → H1 x = none → H1 dx = none → dx ≠ x → sp (.ref x :: vs) (upd (upd H1 dx (.own x)) x (.ins C dx [])) (fun v H2 => v = .non ∧ Q (.ref x) H2) E)
    (he : starEach (e :: es) X.env = (false, eval e X.env) :: starEach es X.env := by rfl) (hpl : (backTo pos (starEach es X.env)).any (·.1) = false := by rfl) : WE X (.Call (.Name s p2) (e :: es) [] pos) σ H Q := fun pins s0 I => by
  refine wpAny_Call_Name_kw (thn (hn H (Ex.refl H) (fun v H1 => v = .ref C ∧ Ex H H1) (fun H1 e1 => ⟨rfl, e1⟩) pins s0 I) fun u s1 ⟨v, H1, I1, r1, hv, e1⟩ => ?_)
  subst hv
  obtain rfl : u = Value.ref C := r1
  refine PySem.W.callWith_K (h₀ := X.base) I1.ok.mod.kin M.kp (thn ((paW (X := X) (es := e :: es)).run pos pins s1 σ H1 _ I1 (ha H1 e1 _ fun vs H2 e2 hR => (⟨e1.trans e2, hR⟩ : Ex H H2 ∧ R vs H2))) fun us s2 ⟨vs, H2, I2, r, e2, hR⟩ => ⟨I2.kIn, ?_⟩) he hpl
  exact StX.run_makeR M F hr hx I2 r fun x dx h1 h2 h3 => hs vs H2 x dx e2 hR h1 h2 h3
theorem w_retW {D0 : Ends} {rest : List Stmt} (h : WE X e σ H D0.rt) : WS X (.Return (some e) pos :: rest) D0 σ H := w_cons (ps_ret peW) h
/-- (a pair)[0], its first part a tuple of xs -/
theorem v_fst {xs : List V} {m : Nat} (ha : VD X e σ H (fun u H2 => ∃ p t1 t2, u = .ref p ∧ H2 p = some (.tup [.ref t1, .ref t2]) ∧ SqT X.K H2 t1 xs)) : VD X (.Subscript e (.Constant (.int 0) m p2) pos) σ H (fun u H2 => ∃ t, u = .ref t ∧ SqT X.K H2 t xs) := fun H1 e1 Q g =>
  ofE (pe_ix ix_seq peW peW (by intro _ _; rfl)) (ha H1 e1 _ fun u H2 e2 ⟨p, t1, t2, hu, hp, ht⟩ => (v_int : VE X (.Constant (.int 0) m p2) σ H2 (.int 0)) H2 (Ex.refl H2) _ fun H3 e3 => .inr (.inl ⟨p, [.ref t1, .ref t2], 0, .ref t1, hu, rfl, st_of (e3 _ _ hp), rfl, g _ _ (e2.trans e3) ⟨t1, rfl, ex_t e3 ht⟩⟩))
end
end Wk
namespace PwD
open PySem PySem.Spec PyProof.Rows L2 Evl Pw Wk PwH
section
variable {P : Program} {w : World} {K : PySem.W.Frag} {mg : Str → Option Value} {base : Heap}
def OfQ (K : PySem.W.Frag) (H : Hp) (W : Web) (q : Addr) (k : Nat) (l : List Nat) (u : V) (H2 : Hp) : Prop := ∃ p X, u = .ref p ∧ H p = none ∧ IsFev W (fun v => decide (v ∈ l)) ((k : Int) + 1) X ∧ PapAt K H2 p W.n q (k : Int) (fun v => decide (v ∈ l)) X (rkR W (fun v => decide (v ∈ l)) ((k : Int) + 1) X W.n) (rkC W (fun v => decide (v ∈ l)) ((k : Int) + 1) X W.n)
def spOf (K : PySem.W.Frag) : Sp := fun vs H Q E => ∃ (q c : Addr) (W : Web) (k : Int) (xs : List V), vs = [.ref (He.ga K "CallPaper"), .ref q, .int k, .ref c] ∧ W.Ok ∧ WebAt K H q W ∧ Sq K H c xs ∧ (∀ x ∈ xs, Sim x) ∧
  ((xs.all isI = false ∧ Err E (He.ga K "WrongKind") H) ∨ ∃ (l : List Nat) (kn : Nat), xs = lotV l ∧ k = (kn : Int) ∧ l.length ≤ 50 ∧
    (((∃ v ∈ l, ¬ v < W.n) ∧ Err E (He.ga K "WrongNumber") H) ∨ ((∀ v ∈ l, v < W.n) ∧ (∃ v ∈ l, W.mv v = false) ∧ Err E (He.ga K "WrongWeb") H) ∨ ((∀ v ∈ l, v < W.n ∧ W.mv v = true) ∧ 60 < kn ∧ Err E (He.ga K "TooMuch") H) ∨
      ((∀ v ∈ l, v < W.n ∧ W.mv v = true) ∧ kn ≤ 60 ∧ RetD (OfQ K H W q kn l) H Q)))
theorem G_of (T : Hd K mg) : FnR P w K mg base (L2.CX P w) 9 (gc K (He.ma K (He.ga K "CallPaper") "of")) (spOf K) := by
  refine fn_rn (F_CallPaper_of T) sc_CallPaper_of (fun vs H Q E h => ?_) B_CallPaper_of fun cdv A outer s H vs Q E hr h => ?_
  · obtain ⟨_, _, _, _, _, rfl, _⟩ := h
    rfl
  · obtain ⟨q, c, W, k, xs, rfl, ok, hW, hc, hx, L⟩ := h
    have hn5 := ok.n5
    refine w_callX (E := E) (d_kinds T) (hr.mono (by decide)) passE (a_cons (vn 1) (a_cons (vn 2) (a_cons (vn 3) a_nil))) fun H1 x1 => ⟨q, c, W, k, xs, rfl, hW.ex x1, hc.ex x1, hx, fun hk H2 x2 => ?_, fun hk H2 x2 => ?_⟩
    · rcases L with ⟨z, _⟩ | ⟨l, kn, rfl, rfl, hl, L⟩
      · rw [hk] at z
        cases z
      have x12 := x1.trans x2
      refine w_setX (E := E) (lv sc_CallPaper_of.nd 4) (d_cset T) (hr.mono (by decide)) passE (a_cons (vn 1) (a_cons (vn 2) (a_cons (vn 3) a_nil))) fun H3 x3 => ⟨q, c, W, (kn : Int), l, rfl, ok, hW.ex (x12.trans x3), by omega, hl, hc.ex (x12.trans x3), fun hv pc H4 hpc x4 h4 => ?_, fun hv H4 x4 => ?_⟩
      · have x14 := (x12.trans x3).trans x4
        have hlog : ((60 : Int)).natAbs.log2 < 1920 := by decide +kernel
        refine w_callX (E := E) (d_bnd3 T) (hr.mono (by decide)) passE (a_cons (vn 1) (a_cons (vn 2) (a_cons (vn 4) a_nil))) fun H5 x5 => ⟨q, pc, W, _, (kn : Int), 60, rfl, hW.ex (x14.trans x5), by omega, .tp (x5 _ _ h4), hlog, by decide +kernel, fun hm hkm H6 x6 => ?_, fun ⟨v, g1, g2, g3⟩ H6 x6 => ?_, fun hm hkm H6 x6 => ?_⟩
        · rcases L with ⟨⟨v, h1, h2⟩, _⟩ | ⟨h1, ⟨v, h2, h3⟩, _⟩ | ⟨_, h2, _⟩ | ⟨hlm, hk60, kq⟩
          · exact absurd (hv v h1) h2
          · rw [hm v (h1 v h2) (decide_eq_true h2)] at h3
            cases h3
          · omega
          have x16 := (x14.trans x5).trans x6
          have hpc6 := x6 _ _ (x5 _ _ h4)
          have hC6 : Fil K H6 pc W.n (fun v => decide (v ∈ l)) := .tp hpc6
          refine w_setD (lv sc_CallPaper_of.nd 5) (v_callD (d_fev T) hr (a_cons (vn 1) (a_cons (vn 2) (a_cons (vn 4) a_nil))) (P := fun u H2 => ∃ p X, u = .ref p ∧ SqT K H2 p (rowV W.n X) ∧ IsFev W (fun v => decide (v ∈ l)) ((kn : Int) + 1) X) fun H7 x7 Q7 g7 E7 => ⟨q, pc, W, _, kn, rfl, hk60, ok, hW.ex (x16.trans x7), hC6.ex x7, g7⟩) fun u H7 x7 hu => ?_
          obtain ⟨px, X, rfl, hpx, F⟩ := hu
          have x17 := x16.trans x7
          -- ranks
          have hC7 := hC6.ex x7
          have hR7 : Row K H7 px W.n X := .inr hpx
          refine w_setD (lv sc_CallPaper_of.nd 6) (v_fst (xs := rowV W.n (rkR W (fun v => decide (v ∈ l)) ((kn : Int) + 1) X W.n)) (v_callD (d_fall T) (hr.mono (by decide)) (a_cons (vn 1) (a_cons (vn 2) (a_cons (vn 4) (a_cons (vn 5) a_nil)))) fun H8 x8 Q8 g8 E8 => ⟨q, pc, px, W, _, X, kn, rfl, ok, hW.ex (x17.trans x8), hC7.ex x8, hR7.ex x8, F, g8⟩)) fun u H8 x8 hu => ?_
          obtain ⟨pr, rfl, hpr⟩ := hu
          have x18 := x17.trans x8
          have hC8 := hC7.ex x8
          have hR8 := hR7.ex x8
          refine w_retW (e_mkV (E := E) (MK_CallPaper T) (G_CallPaper_init T) (hr.mono (by decide)) passE (vn 0) (R := fun vs H9 => ∃ pn, vs = [.ref q, .int (kn : Int), .ref pc, .ref px, .ref pr, .ref pn] ∧ SqT K H9 pn (rowV W.n (rkC W (fun v => decide (v ∈ l)) ((kn : Int) + 1) X W.n))) (ad_consE (vn 1) (ad_consE (vn 2) (ad_consE (vn 4) (ad_consE (vn 5) (ad_consE (vn 6) (ad_last (v_fst (xs := rowV W.n (rkC W (fun v => decide (v ∈ l)) ((kn : Int) + 1) X W.n)) (v_callD (d_count T) (hr.mono (by decide)) (a_cons (vn 1) (a_cons (vn 2) (a_cons (vn 4) (a_cons (vn 5) a_nil)))) fun H9 x9 Q9 g9 E9 => ⟨q, pc, px, W, _, X, kn, rfl, ok, hW.ex (x18.trans x9), hC8.ex x9, hR8.ex x9, F, g9⟩)) fun u H9 x9 hu => by
            obtain ⟨pn, rfl, hpn⟩ := hu
            exact ⟨pn, rfl, hpn⟩)))))) ?_)
          rintro vs H9 x dx x9 ⟨pn, rfl, hpn⟩ h1 h2 h3
          have x19 := x18.trans x9
          have eC : filV W.n (fun v => decide (v ∈ l)) = lotV ((List.range W.n).filter fun v => decide (v ∈ l)) := rfl
          have hC9 : Sq K H9 pc (lotV ((List.range W.n).filter fun v => decide (v ∈ l))) := hC8.ex x9
          have hR9 : Sq K H9 px (((List.range W.n).map X).map V.int) := by rw [← rowV_ints]; exact hR8.ex x9
          have llen : ((List.range W.n).filter fun v => decide (v ∈ l)).length ≤ 50 := by
            have := List.length_filter_le (fun v => decide (v ∈ l)) (List.range W.n)
            rw [List.length_range] at this
            omega
          have rnn : ∀ v, v < W.n → 0 ≤ rkR W (fun v => decide (v ∈ l)) ((kn : Int) + 1) X W.n v := fun v _ => rkk_nn
          have cnn : ∀ v, v < W.n → 0 ≤ rkC W (fun v => decide (v ∈ l)) ((kn : Int) + 1) X W.n v := fun v _ => rkk_nn
          refine ⟨H9, x, dx, q, pc, px, pr, pn, W, (kn : Int), (List.range W.n).filter fun v => decide (v ∈ l), (List.range W.n).map X, _, _, rfl, rfl, h1, h2, h3, ok, hW.ex x19, by omega, llen, hC9, fun v hv => ?_, hR9, .inr (ex_t x9 hpr), .inr hpn, row_sim, row_sim, .inl ⟨fun p hp => ?_, ?_, ⟨X, rowV_ints.symm, fun v hv => ⟨F.nn v hv, F.le v hv⟩⟩, fun X2 r2 ct2 g1 g2 g3 H10 x10 hpap => ?_⟩⟩
          · obtain ⟨g1, g2⟩ := in_filL.mp hv
            exact ⟨g1, (hlm v (of_decide_eq_true g2)).2⟩
          · rcases List.mem_cons.mp hp with rfl | hp
            · exact row_okN rnn
            · have : p = rowV W.n (rkC W (fun v => decide (v ∈ l)) ((kn : Int) + 1) X W.n) := by simpa using hp
              rw [this]
              exact row_okN cnn
          · have : (60 : Int) ≤ 10 ^ 40 := by decide
            omega
          · rw [← rowV_ints] at g1
            refine ⟨rfl, kq _ H10 (x19.trans x10) ⟨x, X, rfl, fresh_back x19 h1, F, ?_⟩⟩
            obtain ⟨dx', vs', pc', px', pr', pn', q0, q1, q2, q3, q4, q5, q6, t1, t2, t3, t4⟩ := hpap
            rw [fil_mem_eq] at t1
            rw [← g1] at t2
            rw [← g2] at t3
            rw [← g3] at t4
            exact ⟨dx', vs', pc', px', pr', pn', q0, q1, q2, q3, q4, q5, q6, t1, t2, t3, t4⟩
        · rcases L with ⟨⟨v, h1, h2⟩, _⟩ | ⟨_, _, ee⟩ | ⟨hlm, _, _⟩ | ⟨hlm, _, _⟩
          · exact absurd (hv v h1) h2
          · exact ee H6 ((x14.trans x5).trans x6)
          · rw [(hlm v (of_decide_eq_true g2)).2] at g3
            cases g3
          · rw [(hlm v (of_decide_eq_true g2)).2] at g3
            cases g3
        · rcases L with ⟨⟨v, h1, h2⟩, _⟩ | ⟨h1, ⟨v, h2, h3⟩, _⟩ | ⟨_, _, ee⟩ | ⟨_, h2, _⟩
          · exact absurd (hv v h1) h2
          · rw [hm v (h1 v h2) (decide_eq_true h2)] at h3
            cases h3
          · exact ee H6 ((x14.trans x5).trans x6)
          · omega
      · obtain ⟨v, h1, h2⟩ := hv
        rcases L with ⟨_, ee⟩ | ⟨g, _, _⟩ | ⟨g, _, _⟩ | ⟨g, _, _⟩
        · exact ee H4 ((x12.trans x3).trans x4)
        · exact absurd (g v h1) h2
        · exact absurd (g v h1).1 h2
        · exact absurd (g v h1).1 h2
    · rcases L with ⟨_, ee⟩ | ⟨l, kn, rfl, rfl, hl, L⟩
      · exact ee H2 (x1.trans x2)
      · rw [lot_isI] at hk
        cases hk
end
end PwD
end
/-! ### PwN -/
section
set_option linter.all false
set_option maxRecDepth 100000
set_option maxHeartbeats 8000000
/-! a web's looks -/
namespace L2
open PySem PySem.Spec PyProof.Rows
theorem bool_tup {prog : Program} {w : World} {A : Around} {E : Value → Shared → Prop} {s : Shared} {q : Addr} {xs : Array Value} {Q : Value → Shared → Prop} (few : (xs.size : Int) < 2 ^ 63) (tq : IsTup s.heap q xs)
    (k : Q (.bool (!xs.isEmpty)) { s with toks := s.toks + 1 + 1 }) : wpAny (model prog w) A (call (.type "bool") [.ref q]) Q E s := by
  refine call_bool_1 (S := fun _ R s => IsTup s.heap q xs ∧ R (.ok (.ret (.bool (!xs.isEmpty)))) { s with toks := s.toks + 1 + 1 }) (Meets.of_wp fun prog w A R s hs => ?_) ⟨tq, rfl, k⟩
  obtain ⟨tq, hs⟩ := hs
  obtain ⟨hp, g, d, tk, os⟩ := s
  have f1 := F.conv_sub_bool
  repeat (any_goals (first | assumption | (with_reducible refine truthy_tuple tq few ?_) | wp_step))
  all_goals first | exact ⟨_, rfl, hs⟩ | exact hs | skip
theorem call_boolS {X : Cx} : CallR X (.type "bool") (fun xs H Q => ∃ (q : Addr) (zs : List V), xs = [.ref q] ∧ Wk.Sq X.K H q zs ∧ Q (.bl (!zs.isEmpty)) H) := by
  intro pins s σ H xs us Q I r h
  obtain ⟨q, zs, rfl, hq, k⟩ := h
  rcases hq with hq | hq
  · exact call_boolL pins s σ H _ us Q I r ⟨q, zs, rfl, hq, k⟩
  · obtain rfl := Vals.ref1 r
    obtain ⟨its, rv, pl, hz⟩ := I.tuple hq
    have hl := line63
    have hlen := rv.length
    refine bool_tup (by simp only [List.size_toArray]; omega) pl ?_
    exact ⟨.bl (!zs.isEmpty), H, I.tok _, by rw [isEmpty_of rv]; rfl, k⟩
end L2
namespace Wk
open PySem PySem.Spec PyProof.Rows L2 Evl Pw
section
variable {X : Cx} {it a b : Expr} {body rest : List Stmt} {σ : L2.St} {H : Hp} {pos p : Pos} {n : Nat} {s : Str} {q : Addr} {x : V} {xs : List V} {D0 : Ends}
theorem v_boolS (fr : Fre X.mg) (ha : VE X a σ H (.ref q)) (h : Sq X.K H q xs) (hg : Gl X "bool" := by rfl) (hs : starEach [a] X.env = (false, eval a X.env) :: starEach [] X.env := by rfl) (hpl : (backTo pos (starEach [] X.env)).any (·.1) = false := by rfl) : VE X (.Call (.Name "bool" p) [a] [] pos) σ H (.bl (!xs.isEmpty)) :=
  v_ty call_boolS fr.bool_ PyProof.Rows.boot_bool (a_cons ha a_nil hs) (fun H1 e1 Q g => ⟨q, xs, rfl, h.ex e1, g H1 (Ex.refl H1)⟩) hg (by decide) (by decide) hs hpl
/-- for x in (a new tuple), for x in (a new list) -/
theorem w_forU (lw : LV X n s) (h : VU X it σ H xs) (Pv : Addr → Nat → L2.St → Hp → Prop) (hk : ∀ q i σ' H', Pv q i σ' H' → H' q = some (.tup xs)) (h0 : ∀ q H1, H q = none → Ex H H1 → H1 q = some (.tup xs) → Pv q 0 σ H1)
    (hs : ∀ q i x σ' H', xs[i]? = some x → Pv q i σ' H' → WS X body { D0 with nx := Pv q (i + 1), ct := Pv q (i + 1), bk := fun σ' H' => WS X rest D0 σ' H' } (σ'.set n (some x)) H') (hd : ∀ q σ' H', Pv q xs.length σ' H' → WS X rest D0 σ' H')
    (hp : PassesOwn (model X.prog X.w) X.A X.env X.xe := by exact passes_of rfl) (hc : X.calm = true := by rfl) (hf : ∀ x, foldedSetIterable it X.env x = pure x := by intro _; rfl) : WS X (.For (.Name s p) it body [] pos :: rest) D0 σ H :=
  w_cons (ps_for hp hc (pi_tup peW) (pg_name lw.nd lw.ix lw.loc lw.fn) pssW hf) (h H (Ex.refl H) _ fun q H1 hq e1 h1 => ⟨q, rfl, ⟨xs, st_of h1⟩, for_tup (D := { D0 with nx := fun σ' H' => WS X rest D0 σ' H' }) (Pv q) (h0 q H1 hq e1 h1) (fun i σ' H' _ hP => st_of (hk q i σ' H' hP)) (fun i x σ' H' hx hP => hs q i x σ' H' hx hP) (hd q)⟩)
theorem w_forL (lw : LV X n s) (h : VL X it σ H xs) (Pv : Addr → Nat → L2.St → Hp → Prop) (hk : ∀ q i σ' H', Pv q i σ' H' → H' q = some (.lst xs)) (h0 : ∀ q H1, H q = none → Ex H H1 → H1 q = some (.lst xs) → Pv q 0 σ H1)
    (hs : ∀ q i x σ' H', xs[i]? = some x → Pv q i σ' H' → WS X body { D0 with nx := Pv q (i + 1), ct := Pv q (i + 1), bk := fun σ' H' => WS X rest D0 σ' H' } (σ'.set n (some x)) H') (hd : ∀ q σ' H', Pv q xs.length σ' H' → WS X rest D0 σ' H')
    (hp : PassesOwn (model X.prog X.w) X.A X.env X.xe := by exact passes_of rfl) (hc : X.calm = true := by rfl) (hf : ∀ x, foldedSetIterable it X.env x = pure x := by intro _; rfl) : WS X (.For (.Name s p) it body [] pos :: rest) D0 σ H :=
  w_cons (ps_for hp hc (pi_list peW) (pg_name lw.nd lw.ix lw.loc lw.fn) pssW hf) (h H (Ex.refl H) _ fun q H1 hq e1 h1 => ⟨q, rfl, ⟨xs, sq_of h1⟩, for_list (D := { D0 with nx := fun σ' H' => WS X rest D0 σ' H' }) (Pv q) (h0 q H1 hq e1 h1) (fun i σ' H' _ hP => sq_of (hk q i σ' H' hP)) (fun i x σ' H' hx hP => hs q i x σ' H' hx hP) (hd q)⟩)
/-- x in (a new tuple) -/
theorem v_inU (ha : VE X a σ H x) (hb : VU X b σ H xs) (hx : flatV x = true) (hxs : xs.all flatV = true) (hm : behindInMarks .In b = false := by rfl) : VE X (.Compare a [.In] [b] pos) σ H (.bl (inV x xs)) := fun H1 e1 Q g =>
  ofE (pe_cmpR op_in_seq peW peW hm) (ha H1 e1 _ fun H2 e2 => hb H2 (e1.trans e2) _ fun q H3 _ e3 h3 => rv_in (.tp h3) hx hxs H3 (Ex.refl H3) Q fun H4 e4 => g H4 ((e2.trans e3).trans e4))
/-- new lists joined -/
theorem v_catLL {ys : List V} (ha : VL X a σ H xs) (hb : VL X b σ H ys) (hz : xs.length + ys.length ≤ 100000) : VL X (.BinOp a .Add b pos) σ H (xs ++ ys) := fun H1 e1 Q g =>
  ofE (pe_op op_cat peW peW) (ha H1 e1 _ fun q H2 hq e2 h2 => hb H2 (e1.trans e2) _ fun r H3 hr e3 h3 => ⟨q, r, xs, ys, rfl, rfl, e3 _ _ h2, h3, sz_of hz, fun l hl => g l _ (fresh_back (e2.trans e3) hl) ((e2.trans e3).trans (Ex.new hl)) upd_same⟩)
end
end Wk
namespace PwD
open PySem PySem.Spec PyProof.Rows L2 Evl Pw Wk PwH
section
variable {P : Program} {w : World} {K : PySem.W.Frag} {mg : Str → Option Value} {base : Heap}
def spHK (K : PySem.W.Frag) : Sp := fun vs H Q _ => ∃ (u : V) (d : Du), vs = [u] ∧ DueV K H u d ∧ d.nn ∧ RetV (.bl true) H Q
theorem d_hk (T : Hd K mg) : Dn P w K mg base 2 "has_due_kind" [] (spHK K) := by
  refine fn_dn (F_has_due_kind T) sc_has_due_kind (fun vs H Q E h => ?_) B_has_due_kind fun f cdv A outer s H vs Q E hr h => ?_
  · obtain ⟨_, _, rfl, _⟩ := h
    rfl
  · obtain ⟨u, d, rfl, hd, hn, kq⟩ := h
    have go : ∀ (q : Addr) (wd : Str) (x : Int), SqT K H q [.str wd, .int x] → WS (cxOf (L2.CX P w) P w K mg base ["due"] "has_due_kind" (defScope s_has_due_kind) f cdv A outer s H E) (defBody s_has_due_kind) { nx := fun _ H' => Q .non H', rt := Q } (start ["due"] [.ref q]) H := fun q wd x hq => by
      have hq' : Sq K H q [.str wd, .int x] := .inr hq
      refine w_skip (t_isN (vn 0)) rfl fun H1 x1 => ?_
      refine w_skip (k := !true || !decide (((2 : Nat) : Int) = 2)) (t_bool (p_or (t_not (t_val (v_isS T.fre (hq'.ex x1) (vn 0)))) fun _ => p_or1 (t_neI (v_lenN (m := 2) T.fre (vn 0) (hq'.ex x1) rfl) v_int))) (by decide) fun H2 x2 => ?_
      exact w_ret (v := .bl (true && true)) (v_and (v_bi call_isi T.fre.isi boot_isinstance (a_cons (v_ix (n := 0) (vn 0) v_int (hq'.ex (x1.trans x2)) rfl) (a_cons (v_bn T.fre.str_ PyProof.Rows.boot_str) a_nil)) fun H3 e3 Q3 k3 => ⟨_, _, _, _, true, rfl, .ty "str", .base (.str wd), kit_ty (by decide +kernel), k3 H3 (Ex.refl H3)⟩) fun _ => v_one (v_call (d_isint T) hr (a_cons (v_ix (n := 1) (vn 0) v_int (hq'.ex (x1.trans x2)) rfl) a_nil) fun H3 x3 Q3 k3 E3 => ⟨.int x, rfl, .inl ⟨x, rfl⟩, k3⟩)) fun H3 x3 => kq H3 ((x1.trans x2).trans x3)
    cases d with
    | none =>
      cases hd
      exact w_then (t_isN (vn 0)) rfl fun H1 x1 => w_ret v_bl fun H2 x2 => kq H2 (x1.trans x2)
    | chips x => obtain ⟨q, rfl, hq⟩ := hd; exact go q _ x hq
    | less x => obtain ⟨q, rfl, hq⟩ := hd; exact go q _ x hq
theorem d_hr (T : Hd K mg) : Dn P w K mg base 1 "has_due_range" [] (spHK K) := by
  refine fn_dn (F_has_due_range T) sc_has_due_range (fun vs H Q E h => ?_) B_has_due_range fun f cdv A outer s H vs Q E hr h => ?_
  · obtain ⟨_, _, rfl, _⟩ := h
    rfl
  · obtain ⟨u, d, rfl, hd, hn, kq⟩ := h
    have go : ∀ (q : Addr) (wd : Str) (x : Int), SqT K H q [.str wd, .int x] → inV (.str wd) [.str "chips", .str "less"] = true → 0 ≤ x → WS (cxOf (L2.CX P w) P w K mg base ["due"] "has_due_range" (defScope s_has_due_range) f cdv A outer s H E) (defBody s_has_due_range) { nx := fun _ H' => Q .non H', rt := Q } (start ["due"] [.ref q]) H := fun q wd x hq hw hx => by
      have hq' : Sq K H q [.str wd, .int x] := .inr hq
      refine w_ret (v := .bl (decide (V.ref q = .non) || (true && true))) (v_or (v_isN (x := .ref q) (vn 0)) fun _ => v_one (v_and (by rw [← hw]; exact v_inU (v_ix (n := 0) (vn 0) v_int hq' rfl) (v_tup (a_cons v_str (a_cons v_str a_nil)) (by simp)) rfl (by decide)) fun _ => v_one (by rw [← decide_eq_true hx]; exact v_ge (v_ix (n := 1) (vn 0) v_int hq' rfl) v_int))) kq
    cases d with
    | none =>
      cases hd
      exact w_ret (v := .bl (decide (V.non = .non) || true)) (v_or (v_isN (x := .non) (vn 0)) fun z => by cases z) kq
    | chips x => obtain ⟨q, rfl, hq⟩ := hd; exact go q _ x hq (by decide +kernel) hn
    | less x => obtain ⟨q, rfl, hq⟩ := hd; exact go q _ x hq (by decide +kernel) hn
end
end PwD
end
/-! ### PwNb -/
section
set_option linter.all false
set_option maxRecDepth 100000
set_option maxHeartbeats 8000000
/-! a web's looks, second part -/
namespace Wk
open PySem PySem.Spec PyProof.Rows L2 Evl Pw
theorem v_ifD {X : Cx} {a b c : Expr} {σ : L2.St} {H : Hp} {k : Bool} {P : V → Hp → Prop} {pos : Pos} (h : VT X c σ H k) (h1 : k = true → VD X a σ H P) (h2 : k = false → VD X b σ H P) : VD X (.IfExp c a b pos) σ H P := fun H1 e1 Q g =>
  ofE (pe_ifExp ptW peW peW) (h H1 e1 _ fun H2 e2 => by
    cases k with
    | true => exact h1 rfl H2 (e1.trans e2) Q fun u H3 e3 hu => g u H3 (e2.trans e3) hu
    | false => exact h2 rfl H2 (e1.trans e2) Q fun u H3 e3 hu => g u H3 (e2.trans e3) hu)
end Wk
namespace PwD
open PySem PySem.Spec PyProof.Rows L2 Evl Pw Wk PwH
def low40 : Du → Prop
  | .none => True
  | .chips x => x ≤ 10 ^ 40
  | .less x => x ≤ 10 ^ 40
/-- the four lists of a web to be made -/
structure RawW (K : PySem.W.Frag) (H : Hp) (qf qs qm qd : Addr) (W : Web) : Prop where
  ok : W.Ok
  first : Lots K H qf W.n W.s1
  second : Lots K H qs W.n W.s2
  marks : Row K H qm W.n W.mark
  dues : Dues K H qd W.n W.due
  low : ∀ v, v < W.n → low40 (W.due v)
theorem RawW.ex {K : PySem.W.Frag} {H H' : Hp} {qf qs qm qd : Addr} {W : Web} (e : Ex H H') (r : RawW K H qf qs qm qd W) : RawW K H' qf qs qm qd W := ⟨r.ok, r.first.ex e, r.second.ex e, r.marks.ex e, r.dues.ex e, r.low⟩
section
variable {P : Program} {w : World} {K : PySem.W.Frag} {mg : Str → Option Value} {base : Heap}
def spKept (K : PySem.W.Frag) : Sp := fun vs H Q _ => ∃ (u : V) (d : Du), vs = [u] ∧ DueV K H u d ∧ RetD (fun u H2 => DueV K H2 u d) H Q
theorem d_kept (T : Hd K mg) : Dn P w K mg base 1 "kept_due" [] (spKept K) := by
  refine fn_dn (F_kept_due T) sc_kept_due (fun vs H Q E h => ?_) B_kept_due fun f cdv A outer s H vs Q E hr h => ?_
  · obtain ⟨_, _, rfl, _⟩ := h
    rfl
  · obtain ⟨u, d, rfl, hd, kq⟩ := h
    cases d with
    | none =>
      cases hd
      exact w_retD (P := fun u H2 => DueV K H2 u .none) (v_ifD (k := true) (t_isN (x := .non) (vn 0)) (fun _ => EvD.imp (vd v_non) fun u H2 _ e => e) fun z => by cases z) kq
    | chips x =>
      obtain ⟨q, rfl, hq⟩ := hd
      exact w_retD (P := fun u H2 => DueV K H2 u (.chips x)) (v_ifD (k := false) (t_isN (x := .ref q) (vn 0)) (fun z => by cases z) fun _ => EvD.imp (ud (v_tup (a_cons (v_ix (n := 0) (vn 0) v_int (.inr hq) rfl) (a_cons (v_ix (n := 1) (vn 0) v_int (.inr hq) rfl) a_nil)) (by simp))) fun u H2 _ ⟨p, e, hp⟩ => ⟨p, e, st_of hp⟩) kq
    | less x =>
      obtain ⟨q, rfl, hq⟩ := hd
      exact w_retD (P := fun u H2 => DueV K H2 u (.less x)) (v_ifD (k := false) (t_isN (x := .ref q) (vn 0)) (fun z => by cases z) fun _ => EvD.imp (ud (v_tup (a_cons (v_ix (n := 0) (vn 0) v_int (.inr hq) rfl) (a_cons (v_ix (n := 1) (vn 0) v_int (.inr hq) rfl) a_nil)) (by simp))) fun u H2 _ ⟨p, e, hp⟩ => ⟨p, e, st_of hp⟩) kq
def spLK (K : PySem.W.Frag) : Sp := fun vs H Q _ => ∃ (qf qs qm qd : Addr) (W : Web), vs = [.ref qf, .ref qs, .ref qm, .ref qd] ∧ RawW K H qf qs qm qd W ∧ RetV .non H Q
theorem d_lk (T : Hd K mg) : Dn P w K mg base 4 "_look_kinds" [] (spLK K) := by
  refine fn_dn (F__look_kinds T) sc__look_kinds (fun vs H Q E h => ?_) B__look_kinds fun f cdv A outer s H vs Q E hr h => ?_
  · obtain ⟨_, _, _, _, _, rfl, _⟩ := h
    rfl
  · obtain ⟨qf, qs, qm, qd, W, rfl, R, kq⟩ := h
    refine w_forU (xs := [.ref qf, .ref qs]) (lv sc__look_kinds.nd 4) (v_tup (a_cons (vn 0) (a_cons (vn 1) a_nil)) (by simp)) (fun q i σ' H' => ∃ y4 y5, σ' = [some (.ref qf), some (.ref qs), some (.ref qm), some (.ref qd), y4, y5, none] ∧ Ex H H' ∧ H' q = some (.tup [.ref qf, .ref qs])) (fun q i σ' H' ⟨_, _, _, _, z⟩ => z) (fun q H1 hq x1 h1 => ⟨none, none, rfl, x1, h1⟩) ?_ ?_
    · rintro q i x σ' H1 hx ⟨y4, y5, rfl, x1, h1⟩
      obtain ⟨qx, s, rfl, as, ha, hl⟩ : ∃ qx s, x = .ref qx ∧ Lots K H qx W.n s := by
        have hm := List.mem_of_getElem? hx
        rcases List.mem_cons.mp hm with e | e
        · exact ⟨qf, _, e, R.first⟩
        · have : x = .ref qs := by simpa using e
          exact ⟨qs, _, this, R.second⟩
      refine w_callX (E := E) (d_nl T) (hr.mono (by decide)) passE (a_cons (vn 4) (a_cons v_str a_nil)) fun H2 x2 => ⟨qx, _, _, rfl, ha.ex (x1.trans x2), fun H3 x3 => ?_⟩
      refine w_forS (Hb := H) (lv sc__look_kinds.nd 5) (vn 4) ha (fun j σ' H' => ∃ y5, σ' = [some (.ref qf), some (.ref qs), some (.ref qm), some (.ref qd), some (.ref qx), y5, none] ∧ Ex H H' ∧ H' q = some (.tup [.ref qf, .ref qs])) (fun _ _ H' ⟨_, _, z, _⟩ o => z _ o) (fun H4 x4 => ⟨_, rfl, ((x1.trans x2).trans x3).trans x4, x4 _ _ (x3 _ _ (x2 _ _ h1))⟩) ?_ ?_
      · rintro j y σ' H4 hy ⟨y5, rfl, x4, h4⟩
        obtain ⟨hj, rfl⟩ := map_at_lt hy
        exact w_callX (E := E) (d_nis T) (hr.mono (by decide)) passE (a_cons (vn 5) (a_cons v_str a_nil)) fun H5 x5 => ⟨as j, _, _, rfl, (hl j hj).ex (x4.trans x5), lot_sim, by decide +kernel, fun _ H6 x6 => w_nil ⟨_, rfl, (x4.trans x5).trans x6, x6 _ _ (x5 _ _ h4)⟩, fun z => by rw [lot_isI] at z; cases z⟩
      · rintro σ' H4 ⟨y5, rfl, x4, h4⟩
        exact w_nil ⟨_, _, rfl, x4, h4⟩
    · rintro q σ' H1 ⟨y4, y5, rfl, x1, h1⟩
      refine w_callX (E := E) (d_nis T) (hr.mono (by decide)) passE (a_cons (vn 2) (a_cons v_str a_nil)) fun H2 x2 => ⟨qm, _, _, rfl, R.marks.ex (x1.trans x2), row_sim, by decide +kernel, fun _ H3 x3 => ?_, fun z => by rw [row_isI] at z; cases z⟩
      obtain ⟨us, hu, hd⟩ := R.dues
      have x13 := (x1.trans x2).trans x3
      refine w_callX (E := E) (d_nl T) (hr.mono (by decide)) passE (a_cons (vn 3) (a_cons v_str a_nil)) fun H4 x4 => ⟨qd, _, _, rfl, hu.ex (x13.trans x4), fun H5 x5 => ?_⟩
      refine w_forS (Hb := H) (lv sc__look_kinds.nd 6) (vn 3) hu (fun j σ' H' => ∃ y6, σ' = [some (.ref qf), some (.ref qs), some (.ref qm), some (.ref qd), y4, y5, y6] ∧ Ex H H') (fun _ _ H' ⟨_, _, z⟩ o => z _ o) (fun H6 x6 => ⟨_, rfl, ((x13.trans x4).trans x5).trans x6⟩) ?_ ?_
      · rintro j y σ' H6 hy ⟨y6, rfl, x6⟩
        obtain ⟨hj, rfl⟩ := map_at_lt hy
        exact w_skip (k := !true) (t_not (t_val (v_call (d_hk T) (hr.mono (by decide)) (a_cons (vn 6) a_nil) fun H7 x7 Q7 k7 E7 => ⟨us j, W.due j, rfl, (hd j hj).ex (x6.trans x7), R.ok.dn j hj, k7⟩))) rfl fun H7 x7 => w_nil ⟨_, rfl, x6.trans x7⟩
      · rintro σ' H6 ⟨y6, rfl, x6⟩
        exact w_nil (kq H6 x6)
/-- a stand's look -/
def spLSt (K : PySem.W.Frag) : Sp := fun vs H Q _ => ∃ (n : Nat) (a b : Addr) (l1 l2 : List Nat) (m : Int) (u : V) (d : Du), vs = [.int (n : Int), .ref a, .ref b, .int m, u] ∧ Sq K H a (lotV l1) ∧ Sq K H b (lotV l2) ∧ (l1 = [] ↔ l2 = []) ∧ (∀ x ∈ l1 ++ l2, x < n) ∧ l1.length ≤ 100 ∧ l2.length ≤ 100 ∧ (m = 1 ∨ m = 2) ∧ DueV K H u d ∧ d.nn ∧ RetV .non H Q
theorem d_lst (T : Hd K mg) : Dn P w K mg base 2 "_look_stand" [] (spLSt K) := by
  refine fn_dn (F__look_stand T) sc__look_stand (fun vs H Q E h => ?_) B__look_stand fun f cdv A outer s H vs Q E hr h => ?_
  · obtain ⟨_, _, _, _, _, _, _, _, rfl, _⟩ := h
    rfl
  · obtain ⟨n, a, b, l1, l2, m, u, d, rfl, ha, hb, hbo, hin, n1, n2, hm, hd, hdn, kq⟩ := h
    refine w_skip (t_ne (v_boolS T.fre (vn 1) ha) (v_boolS T.fre (vn 2) hb) rfl) (by
      have e : (lotV l1).isEmpty = (lotV l2).isEmpty := by
        unfold lotV
        cases l1 with
        | nil => rw [hbo.mp rfl]
        | cons x r =>
          cases l2 with
          | nil => exact absurd (hbo.mpr rfl) (by simp)
          | cons y t => rfl
      rw [e]
      simp) fun H1 x1 => ?_
    refine w_forL (xs := lotV (l1 ++ l2)) (lv sc__look_stand.nd 5) (by
      rw [lotV_app]
      exact v_catLL (v_list T.fre (vn 1) (ha.ex x1)) (v_list T.fre (vn 2) (hb.ex x1)) (by rw [lotV_len, lotV_len]; omega)) (fun q i σ' H' => ∃ y, σ' = [some (.int (n : Int)), some (.ref a), some (.ref b), some (.int m), some u, y] ∧ Ex H H' ∧ H' q = some (.lst (lotV (l1 ++ l2)))) (fun q i σ' H' ⟨_, _, _, z⟩ => z) (fun q H2 hq x2 h2 => ⟨none, rfl, x1.trans x2, h2⟩) ?_ ?_
    · rintro q i x σ' H2 hx ⟨y, rfl, x2, h2⟩
      obtain ⟨v, hv, rfl⟩ : ∃ v, (l1 ++ l2)[i]? = some v ∧ x = .int (v : Int) := by
        unfold lotV at hx
        rw [List.getElem?_map] at hx
        cases e : (l1 ++ l2)[i]? with
        | none => rw [e] at hx; cases hx
        | some v => rw [e] at hx; exact ⟨v, rfl, (Option.some.inj hx).symm⟩
      have hvn := hin v (List.mem_of_getElem? hv)
      refine w_skip (t_bool (p_or (t_lt (vn 5) v_int) fun _ => p_or1 (t_ge (vn 5) (vn 0)))) (by
        have a1 : ¬ ((v : Int) < 0) := by omega
        have a2 : ¬ ((n : Int) ≤ (v : Int)) := by omega
        rw [decide_eq_false a1, decide_eq_false a2]
        rfl) fun H3 x3 => w_nil ⟨_, rfl, x2.trans x3, x3 _ _ h2⟩
    · rintro q σ' H2 ⟨y, rfl, x2, h2⟩
      refine w_skip (t_bool (p_and (t_neI (vn 3) v_int) fun _ => p_and1 (t_neI (vn 3) v_int))) (by
        rcases hm with rfl | rfl <;> decide) fun H3 x3 => ?_
      exact w_skip (k := !true) (t_not (t_val (v_call (d_hr T) (hr.mono (by decide)) (a_cons (vn 4) a_nil) fun H4 x4 Q4 k4 E4 => ⟨u, d, rfl, hd.ex ((x2.trans x3).trans x4), hdn, k4⟩))) rfl fun H4 x4 => w_nil (kq H4 ((x2.trans x3).trans x4))
def spLW (K : PySem.W.Frag) : Sp := spLK K
theorem d_lw (T : Hd K mg) : Dn P w K mg base 3 "_look_web" [] (spLK K) := by
  refine fn_dn (F__look_web T) sc__look_web (fun vs H Q E h => ?_) B__look_web fun f cdv A outer s H vs Q E hr h => ?_
  · obtain ⟨_, _, _, _, _, rfl, _⟩ := h
    rfl
  · obtain ⟨qf, qs, qm, qd, W, rfl, R, kq⟩ := h
    have ok := R.ok
    have hn1 := ok.n1
    have hn5 := ok.n5
    obtain ⟨us, hu, hd⟩ := id R.dues
    obtain ⟨as, ha, hl⟩ := id R.first
    obtain ⟨bs, hb, hl2⟩ := id R.second
    refine w_set (lv sc__look_web.nd 4) (v_lenN (m := W.n) T.fre (vn 2) R.marks rowV_len) fun H1 x1 => ?_
    refine w_skip (t_bool (p_or (t_eqI (vn 4) v_int) fun _ => p_or (t_neI (v_lenN (m := W.n) T.fre (vn 0) (ha.ex x1) refV_len) (vn 4)) fun _ => p_or (t_neI (v_lenN (m := W.n) T.fre (vn 1) (hb.ex x1) refV_len) (vn 4)) fun _ => p_or1 (t_neI (v_lenN (m := W.n) T.fre (vn 3) (hu.ex x1) (by rw [List.length_map, List.length_range])) (vn 4)))) (by
      have a1 : ¬ ((W.n : Int) = 0) := by omega
      rw [decide_eq_false a1]
      simp) fun H2 x2 => ?_
    have x12 := x1.trans x2
    refine w_forR T.fre (lv sc__look_web.nd 5) (j := (W.n : Int)) (vn 4) (by omega) (fun i σ' H' => ∃ y, σ' = [some (.ref qf), some (.ref qs), some (.ref qm), some (.ref qd), some (.int (W.n : Int)), y, none] ∧ Ex H H') (fun H3 x3 => ⟨none, rfl, x12.trans x3⟩) ?_ ?_
    · rintro v σ' H3 hv ⟨y, rfl, x3⟩
      have hv' : v < W.n := by omega
      exact w_callX (E := E) (d_lst T) hr passE (a_cons (vn 4) (a_cons (v_ix (n := v) (vn 0) (vn 5) (ha.ex x3) (refV_at hv')) (a_cons (v_ix (n := v) (vn 1) (vn 5) (hb.ex x3) (refV_at hv')) (a_cons (v_ix (n := v) (vn 2) (vn 5) (R.marks.ex x3) (rowV_at hv')) (a_cons (v_ix (n := v) (vn 3) (vn 5) (hu.ex x3) (map_at hv')) a_nil))))) fun H4 x4 => ⟨W.n, as v, bs v, W.s1 v, W.s2 v, W.mark v, us v, W.due v, rfl, (hl v hv').ex (x3.trans x4), (hl2 v hv').ex (x3.trans x4), ok.both v hv', fun x hx => (by
        rcases List.mem_append.mp hx with h | h
        · exact ok.in1 v hv' x h
        · exact ok.in2 v hv' x h), ok.len1 v hv', ok.len2 v hv', ok.mks v hv', (hd v hv').ex (x3.trans x4), ok.dn v hv', fun H5 x5 => w_nil ⟨_, rfl, (x3.trans x4).trans x5⟩⟩
    · rintro σ' H3 ⟨y, rfl, x3⟩
      obtain ⟨tm, hm⟩ := N_MOST_STANDS T
      obtain ⟨tg, hg⟩ := N_GREATEST_DUE T
      refine w_callX (E := E) (d_nu T) (hr.mono (by decide)) passE (a_cons (vn 4) (a_cons (v_gl (v := .int 60) hm ⟨tm, rfl⟩) (a_cons v_str a_nil))) fun H4 x4 => ⟨(W.n : Int), 60, _, rfl, by decide +kernel, by decide +kernel, by decide +kernel, fun _ H5 x5 => ?_, fun z => by omega⟩
      have x35 := (x3.trans x4).trans x5
      refine w_forS (Hb := H) (lv sc__look_web.nd 6) (vn 3) hu (fun j σ' H' => ∃ y6, σ' = [some (.ref qf), some (.ref qs), some (.ref qm), some (.ref qd), some (.int (W.n : Int)), y, y6] ∧ Ex H H') (fun _ _ H' ⟨_, _, z⟩ o => z _ o) (fun H6 x6 => ⟨_, rfl, x35.trans x6⟩) ?_ ?_
      · rintro j yv σ' H6 hy ⟨y6, rfl, x6⟩
        obtain ⟨hj, rfl⟩ := map_at_lt hy
        have cs : us j = .non ∨ ∃ (q : Addr) (wd : Str) (x : Int), us j = .ref q ∧ SqT K H q [.str wd, .int x] ∧ x ≤ 10 ^ 40 := by
          have dj := hd j hj
          have lj := R.low j hj
          cases ed : W.due j with
          | none =>
            rw [ed] at dj
            exact .inl dj
          | chips x =>
            rw [ed] at dj lj
            obtain ⟨q, e, hq⟩ := dj
            exact .inr ⟨q, _, x, e, hq, lj⟩
          | less x =>
            rw [ed] at dj lj
            obtain ⟨q, e, hq⟩ := dj
            exact .inr ⟨q, _, x, e, hq, lj⟩
        rcases cs with e | ⟨q, wd, x, e, hq, hx⟩
        · rw [e]
          exact w_skip (k := !decide (V.non = .non)) (t_notN (x := .non) (vn 6)) rfl fun H7 x7 => w_nil ⟨_, rfl, x6.trans x7⟩
        · have hq' : Sq K H q [.str wd, .int x] := .inr hq
          rw [e]
          exact w_then (k := !decide (V.ref q = .non)) (t_notN (x := .ref q) (vn 6)) rfl fun H7 x7 => w_callX (E := E) (d_nu T) (hr.mono (by decide)) passE (a_cons (v_ix (n := 1) (vn 6) v_int (hq'.ex (x6.trans x7)) rfl) (a_cons (v_gl (v := .int (10 ^ 40)) hg ⟨tg, rfl⟩) (a_cons v_str a_nil))) fun H8 x8 => ⟨x, _, _, rfl, far_eq, big_text, by decide +kernel, fun _ H9 x9 => w_nil (w_nil ⟨_, rfl, ((x6.trans x7).trans x8).trans x9⟩), fun z => absurd z (by omega)⟩
      · rintro σ' H6 ⟨y6, rfl, x6⟩
        exact w_nil (kq H6 x6)
end
end PwD
end
/-! ### PwNc -/
section
set_option linter.all false
set_option maxRecDepth 100000
set_option maxHeartbeats 8000000
/-! comprehensions whose parts are new things -/
namespace Wk
open PySem PySem.Spec PyProof.Rows L2 Evl Pw
section
variable {X : Cx} {it elt c : Expr} {ifs : List Expr} {σ : L2.St} {H H' : Hp} {x : V} {pos p : Pos} {n : Nat} {s : Str} {q : Addr} {xs : List V} {sc : Scope} {P : V → V → Hp → Prop}
/-- part for part -/
def RelL (P : V → V → Hp → Prop) (H : Hp) (ys us : List V) : Prop := us.length = ys.length ∧ ∀ (j : Nat) (y u : V), ys[j]? = some y → us[j]? = some u → P y u H
/-- holds on, when the heap grows, when a list is rewritten -/
structure Keeps (P : V → V → Hp → Prop) : Prop where
  ex : ∀ {y u H H'}, Ex H H' → P y u H → P y u H'
  put : ∀ {y u H D acc acc'}, H D = some (.lst acc) → P y u H → P y u (upd H D (.lst acc'))
theorem RelL.ex {ys us : List V} (k : Keeps P) (e : Ex H H') (r : RelL P H ys us) : RelL P H' ys us := ⟨r.1, fun j y u a b => k.ex e (r.2 j y u a b)⟩
theorem RelL.snoc {ys us : List V} {y u : V} (r : RelL P H ys us) (h : P y u H) : RelL P H (ys ++ [y]) (us ++ [u]) := by
  refine ⟨by rw [List.length_append, List.length_append, r.1]; rfl, fun j a b ha hb => ?_⟩
  by_cases hj : j < ys.length
  · rw [List.getElem?_append_left hj] at ha
    rw [List.getElem?_append_left (by rw [r.1]; exact hj)] at hb
    exact r.2 j a b ha hb
  · rw [List.getElem?_append_right (by omega)] at ha
    rw [List.getElem?_append_right (by rw [r.1]; omega), r.1] at hb
    have e : j - ys.length = 0 := by
      have := (List.getElem?_eq_some_iff.mp ha).1
      rw [List.length_singleton] at this
      omega
    rw [e] at ha hb
    have e1 : y = a := by simpa using ha
    have e2 : u = b := by simpa using hb
    rw [← e1, ← e2]
    exact h
def CxD (P : V → V → Hp → Prop) (H : Hp) (xs : List V) (t : V → Bool) (D : Addr) (i : Nat) (H' : Hp) : Prop := H D = none ∧ Ex H H' ∧ ∃ us, H' D = some (.lst us) ∧ RelL P H' ((xs.take i).filter t) us
theorem lc_turnD {tt : TT} {te : TE} {t : V → Bool} {D : Addr} {i : Nat} {σ2 : L2.St} (kp : Keeps P) (C : CxD P H xs t D i H') (hx : xs[i]? = some x) (hz : xs.length ≤ 40000) (ht : EvT tt σ2 H (t x)) (he : t x = true → EvD te σ2 H (P x)) :
    tt σ2 H' fun b H3 => if b = true then te σ2 H3 fun y H4 => ∃ acc, H4 D = some (.lst acc) ∧ acc.length < sizeLine ∧ CxD P H xs t D (i + 1) (upd H4 D (.lst (acc ++ [y]))) else CxD P H xs t D (i + 1) H3 := by
  obtain ⟨p1, p2, us, p3, r⟩ := C
  have tk : xs.take (i + 1) = xs.take i ++ [x] := by
    rw [List.take_add_one, hx]
    rfl
  refine ht H' p2 _ fun H3 e3 => ?_
  cases hf : t x with
  | true =>
    show te σ2 H3 fun y H4 => ∃ acc, H4 D = some (.lst acc) ∧ acc.length < sizeLine ∧ CxD P H xs t D (i + 1) (upd H4 D (.lst (acc ++ [y])))
    refine he hf H3 (p2.trans e3) _ fun u H4 e4 hu => ⟨us, e4 D _ (e3 D _ p3), sz_lt ?_, p1, Ex.mut ((p2.trans e3).trans e4) p1, us ++ [u], upd_same, ?_⟩
    · rw [r.1]
      have := List.length_filter_le t (xs.take i)
      rw [List.length_take] at this
      omega
    · have hD := e4 D _ (e3 D _ p3)
      have r4 := (r.ex kp (e3.trans e4)).snoc hu
      rw [tk, List.filter_append, show [x].filter t = [x] by rw [List.filter_cons, if_pos hf]; rfl]
      exact ⟨r4.1, fun j a b ha hb => kp.put hD (r4.2 j a b ha hb)⟩
  | false =>
    show CxD P H xs t D (i + 1) H3
    refine ⟨p1, p2.trans e3, us, e3 D _ p3, ?_⟩
    rw [tk, List.filter_append, show [x].filter t = [] by rw [List.filter_cons, if_neg (by rw [hf]; decide)]; rfl, List.append_nil]
    exact r.ex kp e3
theorem lcD (nd : X.N.Nodup) (hc : X.calm = true) (ok : BlkOk X.N X.env.scope sc [(s, n)]) (hl : sc.names.lookup s = some .local) (hn : ifs.length ≤ 1) (h : VE X it σ H (.ref q)) (hq : Sq X.K H q xs) (hz : xs.length ≤ 40000) (kp : Keeps P) (t : V → Bool)
    (ht : ∀ y ∈ xs, EvT (WIb X sc ifs) (σ.set n (some y)) H (t y)) (he : ∀ y ∈ xs, t y = true → EvD (WEb X sc elt) (σ.set n (some y)) H (P y)) (hs : ∀ x, foldedSetIterable it X.env x = pure x) :
    VD X (.ListComp elt [⟨.Name s p, it, ifs, 0⟩] sc pos) σ H (fun u H2 => ∃ D us, u = .ref D ∧ H D = none ∧ H2 D = some (.lst us) ∧ RelL P H2 (xs.filter t) us) := by
  have ts : ∀ (i : Nat) (x : V) H1 H2 D, Ex H H1 → xs[i]? = some x → CxD P H1 xs t D i H2 → wipe ((wipe σ [n]).set n (some x)) [n] = wipe σ [n] ∧ WIb X sc ifs ((wipe σ [n]).set n (some x)) H2 fun b H3 =>
      if b = true then WEb X sc elt ((wipe σ [n]).set n (some x)) H3 fun y H4 => ∃ acc, H4 D = some (.lst acc) ∧ acc.length < sizeLine ∧ CxD P H1 xs t D (i + 1) (upd H4 D (.lst (acc ++ [y]))) else CxD P H1 xs t D (i + 1) H3 := fun i x H1 H2 D e1 hx C => by
    refine ⟨wwipe x, ?_⟩
    rw [wset]
    have m : x ∈ xs := List.mem_of_getElem? hx
    exact lc_turnD kp C hx hz ((ht x m).mono e1) fun z => fun H5 e5 Q g => he x m z H5 (e1.trans e5) Q g
  have tk : xs.take xs.length = xs := List.take_length
  rcases hq with hq | hq
  · refine liftD (pe_lcW nd hc ok hl (pi_list peW) hn hs) fun H0 e0 Q g0 => h H0 e0 _ fun H1 e1 => ⟨q, rfl, ⟨xs, ex_l (e0.trans e1) hq⟩, fun D hD => ?_⟩
    refine lc_list (xs := xs) (CxD P H1 xs t D) ⟨hD, Ex.new hD, [], upd_same, rfl, fun j a b ha => by simp at ha⟩ (fun i H' _ C => ex_l ((e0.trans e1).trans C.2.1) hq) (fun i x H' hx C => ts i x H1 H' D (e0.trans e1) hx C) (fun H' C => ?_)
    obtain ⟨p1, p2, us, p3, r⟩ := C
    rw [tk] at r
    exact g0 _ H' (e1.trans p2) ⟨D, us, rfl, fresh_back (e0.trans e1) p1, p3, r⟩
  · refine liftD (pe_lcW nd hc ok hl (pi_tup peW) hn hs) fun H0 e0 Q g0 => h H0 e0 _ fun H1 e1 => ⟨q, rfl, ⟨xs, ex_t (e0.trans e1) hq⟩, fun D hD => ?_⟩
    refine lc_tup (xs := xs) (CxD P H1 xs t D) ⟨hD, Ex.new hD, [], upd_same, rfl, fun j a b ha => by simp at ha⟩ (fun i H' _ C => ex_t ((e0.trans e1).trans C.2.1) hq) (fun i x H' hx C => ts i x H1 H' D (e0.trans e1) hx C) (fun H' C => ?_)
    obtain ⟨p1, p2, us, p3, r⟩ := C
    rw [tk] at r
    exact g0 _ H' (e1.trans p2) ⟨D, us, rfl, fresh_back (e0.trans e1) p1, p3, r⟩
/-- [elt for x in xs], [elt for x in xs if c] -/
theorem v_mapD (nd : X.N.Nodup) (ok : BlkOk X.N X.env.scope sc [(s, n)]) (h : VE X it σ H (.ref q)) (hq : Sq X.K H q xs) (hz : xs.length ≤ 40000) (kp : Keeps P) (he : ∀ y ∈ xs, BD X sc elt (σ.set n (some y)) H (P y)) (hc : X.calm = true := by rfl) (hl : sc.names.lookup s = some .local := by rfl) (hs : ∀ x, foldedSetIterable it X.env x = pure x := by intro _; rfl) :
    VD X (.ListComp elt [⟨.Name s p, it, [], 0⟩] sc pos) σ H (fun u H2 => ∃ D us, u = .ref D ∧ H D = none ∧ H2 D = some (.lst us) ∧ RelL P H2 xs us) := by
  have z := lcD (elt := elt) (ifs := []) (pos := pos) (p := p) nd hc ok hl (by simp) h hq hz kp (fun _ => true) (fun y _ H1 _ Q k => k H1 (Ex.refl H1)) (fun y hy _ => bd (he y hy)) hs
  rw [List.filter_eq_self.mpr (fun _ _ => rfl)] at z
  exact z
theorem v_fltD (nd : X.N.Nodup) (ok : BlkOk X.N X.env.scope sc [(s, n)]) (h : VE X it σ H (.ref q)) (hq : Sq X.K H q xs) (hz : xs.length ≤ 40000) (kp : Keeps P) (t : V → Bool) (ht : ∀ y ∈ xs, BT X sc c (σ.set n (some y)) H (t y)) (he : ∀ y ∈ xs, t y = true → BD X sc elt (σ.set n (some y)) H (P y)) (hc : X.calm = true := by rfl) (hl : sc.names.lookup s = some .local := by rfl) (hs : ∀ x, foldedSetIterable it X.env x = pure x := by intro _; rfl) :
    VD X (.ListComp elt [⟨.Name s p, it, [c], 0⟩] sc pos) σ H (fun u H2 => ∃ D us, u = .ref D ∧ H D = none ∧ H2 D = some (.lst us) ∧ RelL P H2 (xs.filter t) us) :=
  lcD nd hc ok hl (by simp) h hq hz kp t (fun y hy => bt (ht y hy)) (fun y hy z => bd (he y hy z)) hs
end
end Wk
end
/-! ### PwNd -/
section
set_option linter.all false
set_option maxRecDepth 100000
set_option maxHeartbeats 8000000
/-! comprehensions by index; Web.__init__ -/
namespace Wk
open PySem PySem.Spec PyProof.Rows L2 Evl Pw
section
variable {X : Cx} {it elt : Expr} {σ : L2.St} {H H' : Hp} {x : V} {pos p : Pos} {n : Nat} {s : Str} {q : Addr} {xs : List V} {sc : Scope} {P : Nat → V → Hp → Prop}
structure KeepI (P : Nat → V → Hp → Prop) : Prop where
  ex : ∀ {i u H H'}, Ex H H' → P i u H → P i u H'
  put : ∀ {i u H D acc acc'}, H D = some (.lst acc) → P i u H → P i u (upd H D (.lst acc'))
def CxI (P : Nat → V → Hp → Prop) (H : Hp) (D : Addr) (i : Nat) (H' : Hp) : Prop := H D = none ∧ Ex H H' ∧ ∃ us : List V, H' D = some (.lst us) ∧ us.length = i ∧ ∀ (j : Nat) (u : V), us[j]? = some u → P j u H'
theorem lc_turnI {te : TE} {D : Addr} {i : Nat} {σ2 : L2.St} (kp : KeepI P) (C : CxI P H D i H') (hx : xs[i]? = some x) (hz : xs.length ≤ 40000) (he : EvD te σ2 H (P i)) :
    tYes σ2 H' fun b H3 => if b = true then te σ2 H3 fun y H4 => ∃ acc, H4 D = some (.lst acc) ∧ acc.length < sizeLine ∧ CxI P H D (i + 1) (upd H4 D (.lst (acc ++ [y]))) else CxI P H D (i + 1) H3 := by
  obtain ⟨p1, p2, us, p3, r1, r2⟩ := C
  have hl : i < xs.length := (List.getElem?_eq_some_iff.mp hx).1
  show te σ2 H' fun y H4 => ∃ acc, H4 D = some (.lst acc) ∧ acc.length < sizeLine ∧ CxI P H D (i + 1) (upd H4 D (.lst (acc ++ [y])))
  refine he H' p2 _ fun u H4 e4 hu => ⟨us, e4 D _ p3, sz_lt (by omega), p1, Ex.mut (p2.trans e4) p1, us ++ [u], upd_same, by rw [List.length_append, r1]; rfl, fun j a ha => ?_⟩
  have hD := e4 D _ p3
  by_cases hj : j < i
  · rw [List.getElem?_append_left (by omega)] at ha
    exact kp.put hD (kp.ex e4 (r2 j a ha))
  · rw [List.getElem?_append_right (by omega)] at ha
    have e : j - us.length = 0 := by
      have := (List.getElem?_eq_some_iff.mp ha).1
      rw [List.length_singleton] at this
      omega
    rw [e] at ha
    have e2 : u = a := by simpa using ha
    have e3 : j = i := by omega
    rw [← e2, e3]
    exact kp.put hD hu
/-- [elt for x in xs], part i by P i -/
theorem v_mapI (nd : X.N.Nodup) (ok : BlkOk X.N X.env.scope sc [(s, n)]) (h : VE X it σ H (.ref q)) (hq : Sq X.K H q xs) (hz : xs.length ≤ 40000) (kp : KeepI P) (he : ∀ i y, xs[i]? = some y → BD X sc elt (σ.set n (some y)) H (P i)) (hc : X.calm = true := by rfl) (hl : sc.names.lookup s = some .local := by rfl) (hs : ∀ x, foldedSetIterable it X.env x = pure x := by intro _; rfl) :
    VD X (.ListComp elt [⟨.Name s p, it, [], 0⟩] sc pos) σ H (fun u H2 => ∃ D us, u = .ref D ∧ H D = none ∧ H2 D = some (.lst us) ∧ us.length = xs.length ∧ ∀ (j : Nat) (u : V), us[j]? = some u → P j u H2) := by
  have ts : ∀ (i : Nat) (x : V) H1 H2 D, Ex H H1 → xs[i]? = some x → CxI P H1 D i H2 → wipe ((wipe σ [n]).set n (some x)) [n] = wipe σ [n] ∧ tYes ((wipe σ [n]).set n (some x)) H2 fun b H3 =>
      if b = true then WEb X sc elt ((wipe σ [n]).set n (some x)) H3 fun y H4 => ∃ acc, H4 D = some (.lst acc) ∧ acc.length < sizeLine ∧ CxI P H1 D (i + 1) (upd H4 D (.lst (acc ++ [y]))) else CxI P H1 D (i + 1) H3 := fun i x H1 H2 D e1 hx C => by
    refine ⟨wwipe x, ?_⟩
    rw [wset]
    exact lc_turnI kp C hx hz fun H5 e5 Q g => bd (he i x hx) H5 (e1.trans e5) Q g
  rcases hq with hq | hq
  · refine liftD (pe_lcW (ifs := []) nd hc ok hl (pi_list peW) (by simp) hs) fun H0 e0 Q g0 => h H0 e0 _ fun H1 e1 => ⟨q, rfl, ⟨xs, ex_l (e0.trans e1) hq⟩, fun D hD => ?_⟩
    refine lc_list (xs := xs) (CxI P H1 D) ⟨hD, Ex.new hD, [], upd_same, rfl, fun j a ha => by simp at ha⟩ (fun i H' _ C => ex_l ((e0.trans e1).trans C.2.1) hq) (fun i x H' hx C => ts i x H1 H' D (e0.trans e1) hx C) (fun H' C => ?_)
    obtain ⟨p1, p2, us, p3, r⟩ := C
    exact g0 _ H' (e1.trans p2) ⟨D, us, rfl, fresh_back (e0.trans e1) p1, p3, r⟩
  · refine liftD (pe_lcW (ifs := []) nd hc ok hl (pi_tup peW) (by simp) hs) fun H0 e0 Q g0 => h H0 e0 _ fun H1 e1 => ⟨q, rfl, ⟨xs, ex_t (e0.trans e1) hq⟩, fun D hD => ?_⟩
    refine lc_tup (xs := xs) (CxI P H1 D) ⟨hD, Ex.new hD, [], upd_same, rfl, fun j a ha => by simp at ha⟩ (fun i H' _ C => ex_t ((e0.trans e1).trans C.2.1) hq) (fun i x H' hx C => ts i x H1 H' D (e0.trans e1) hx C) (fun H' C => ?_)
    obtain ⟨p1, p2, us, p3, r⟩ := C
    exact g0 _ H' (e1.trans p2) ⟨D, us, rfl, fresh_back (e0.trans e1) p1, p3, r⟩
/-- tuple(a new list), more told -/
theorem v_tupW {a : Expr} {R : List V → Hp → Prop} (fr : Fre X.mg) (hR : ∀ us H H', Ex H H' → R us H → R us H') (ha : VD X a σ H (fun u H2 => ∃ p us, u = .ref p ∧ H2 p = some (.lst us) ∧ R us H2)) (hg : Gl X "tuple" := by rfl) (hs : starEach [a] X.env = (false, eval a X.env) :: starEach [] X.env := by rfl) (hpl : (backTo pos (starEach [] X.env)).any (·.1) = false := by rfl) :
    VD X (.Call (.Name "tuple" p) [a] [] pos) σ H (fun u H2 => ∃ p us, u = .ref p ∧ H p = none ∧ H2 p = some (.tup us) ∧ R us H2) := fun H1 e1 Q g =>
  ofE (pe_callTy call_tuple_of hg fr.tuple_ PyProof.Rows.boot_tuple (pa_cons peW pa_nil hs) (by decide) (by decide) hs hpl) (ha H1 e1 _ fun u H2 e2 hu => by
    obtain ⟨p, us, rfl, h2, hr⟩ := hu
    exact ⟨p, us, rfl, .inl ⟨sq_of h2, fun l hl => g _ _ (e2.trans (Ex.new hl)) ⟨l, us, rfl, fresh_back (e1.trans e2) hl, upd_same, hR _ _ _ (Ex.new hl) hr⟩⟩⟩)
end
end Wk
namespace PwD
open PySem PySem.Spec PyProof.Rows L2 Evl Pw Wk PwH
section
variable {P : Program} {w : World} {K : PySem.W.Frag} {mg : Str → Option Value} {base : Heap}
/-- part i: a tuple of the stands of s i -/
def LotP (K : PySem.W.Frag) (n : Nat) (s : Nat → List Nat) (i : Nat) (u : V) (H : Hp) : Prop := ∃ p, u = .ref p ∧ SqT K H p (filV n fun v => decide (v ∈ s i))
theorem sqt_put {H : Hp} {p D : Addr} {xs acc acc' : List V} (hD : H D = some (.lst acc)) (h : SqT K H p xs) : SqT K (upd H D (.lst acc')) p xs := by
  have ne : ∀ u, H p = some u → ((∃ ys, u = .tup ys) ∨ ∃ o ys, u = .frz o (.tup ys)) → p ≠ D := fun u hu ht z => by
    subst z
    rw [hD] at hu
    rcases ht with ⟨ys, rfl⟩ | ⟨o, ys, rfl⟩ <;> cases hu
  rcases h with (h | ⟨o, h⟩) | h
  · exact .inl (.inl (by rw [upd_ne (ne _ h (.inl ⟨_, rfl⟩))]; exact h))
  · exact .inl (.inr ⟨o, by rw [upd_ne (ne _ h (.inr ⟨_, _, rfl⟩))]; exact h⟩)
  · exact .inr h
theorem keep_lot {n : Nat} {s : Nat → List Nat} : KeepI (LotP K n s) := ⟨fun e ⟨p, h1, h2⟩ => ⟨p, h1, ex_t e h2⟩, fun hD ⟨p, h1, h2⟩ => ⟨p, h1, sqt_put hD h2⟩⟩
theorem keep_due {d : Nat → Du} : KeepI (fun i u H => DueV K H u (d i)) := ⟨fun e h => h.ex e, fun {i u H D acc acc'} hD h => by
  have h : DueV K H u (d i) := h
  show DueV K (upd H D (.lst acc')) u (d i)
  cases e : d i with
  | none => rw [e] at h; exact h
  | chips x => rw [e] at h; obtain ⟨p, h1, h2⟩ := h; exact ⟨p, h1, sqt_put hD h2⟩
  | less x => rw [e] at h; obtain ⟨p, h1, h2⟩ := h; exact ⟨p, h1, sqt_put hD h2⟩⟩
/-- tuple([tuple(sorted(set(x))) for x in ..]) -/
theorem lots_of {H : Hp} {us : List V} {n : Nat} {s : Nat → List Nat} {p : Addr} (hl : us.length = n) (hp : SqT K H p us) (hR : ∀ (j : Nat) (u : V), us[j]? = some u → LotP K n s j u H) : ∃ s', Lots K H p n s' ∧ (∀ v, v < n → ∀ x, x ∈ s' v ↔ (x < n ∧ x ∈ s v)) ∧ ∀ v, v < n → (s' v).length ≤ n := by
  have ex : ∀ j, ∃ a, j < n → us[j]? = some (.ref a) ∧ SqT K H a (filV n fun v => decide (v ∈ s j)) := fun j => by
    by_cases hj : j < n
    · obtain ⟨a, ha, ht⟩ := hR j us[j] (List.getElem?_eq_getElem (by omega))
      exact ⟨a, fun _ => ⟨by rw [List.getElem?_eq_getElem (by omega), ha], ht⟩⟩
    · exact ⟨0, fun z => absurd z hj⟩
  obtain ⟨as, has⟩ : ∃ as : Nat → Addr, ∀ j, j < n → us[j]? = some (.ref (as j)) ∧ SqT K H (as j) (filV n fun v => decide (v ∈ s j)) := ⟨fun j => (ex j).choose, fun j => (ex j).choose_spec⟩
  refine ⟨fun v => (List.range n).filter fun x => decide (x ∈ s v), ⟨as, .inr ?_, fun v hv => .inr (has v hv).2⟩, fun v hv x => ?_, fun v hv => ?_⟩
  · have e : us = refV n as := by
      apply List.ext_getElem?
      intro j
      by_cases hj : j < n
      · rw [refV_at hj, (has j hj).1]
      · rw [List.getElem?_eq_none (by omega), List.getElem?_eq_none (by rw [refV_len]; omega)]
    rw [← e]
    exact hp
  · rw [in_filL, decide_eq_true_iff]
  · have := List.length_filter_le (fun x => decide (x ∈ s v)) (List.range n)
    rw [List.length_range] at this
    exact this
end
end PwD
end
/-! ### PwM -/
section
set_option linter.all false
set_option maxRecDepth 100000
set_option maxHeartbeats 8000000
/-! the heap without its lists -/
namespace PwD
open PySem PySem.Spec PyProof.Rows L2 Evl Pw Wk PwH
def noL (H : Hp) : Hp := fun z => match H z with
  | some (.lst _) => none
  | o => o
theorem noL_some {H : Hp} {z : Addr} {o : HO} (h : noL H z = some o) : H z = some o ∧ ∀ xs, o ≠ .lst xs := by
  unfold noL at h
  cases e : H z with
  | none => rw [e] at h; cases h
  | some u =>
    rw [e] at h
    cases u with
    | lst xs => cases h
    | _ => (have e2 := Option.some.inj h; subst e2; exact ⟨rfl, fun xs z => by cases z⟩)
theorem noL_of {H : Hp} {z : Addr} {o : HO} (h : H z = some o) (hn : ∀ xs, o ≠ .lst xs) : noL H z = some o := by
  unfold noL
  rw [h]
  cases o with
  | lst xs => exact absurd rfl (hn xs)
  | _ => rfl
theorem noL_self {H : Hp} : Ex (noL H) H := fun z o h => (noL_some h).1
theorem noL_ex {H H' : Hp} (e : Ex H H') : Ex (noL H) (noL H') := fun z o h => noL_of (e _ _ (noL_some h).1) (noL_some h).2
theorem st_noL {K : PySem.W.Frag} {H : Hp} {q : Addr} {xs : List V} (h : SqT K H q xs) : SqT K (noL H) q xs := by
  rcases h with (h | ⟨o, h⟩) | h
  · exact .inl (.inl (noL_of h fun _ z => by cases z))
  · exact .inl (.inr ⟨o, noL_of h fun _ z => by cases z⟩)
  · exact .inr h
theorem due_noL {K : PySem.W.Frag} {H : Hp} {u : V} {d : Du} (h : DueV K H u d) : DueV K (noL H) u d := by
  cases d with
  | none => exact h
  | chips x => obtain ⟨p, e, h⟩ := h; exact ⟨p, e, st_noL h⟩
  | less x => obtain ⟨p, e, h⟩ := h; exact ⟨p, e, st_noL h⟩
theorem slt_noL {H : Hp} {a C dx : Addr} {vs : List (Option V)} (h : SlX.Slt H a C dx vs) : SlX.Slt (noL H) a C dx vs := by
  rcases h with ⟨h1, h2⟩ | ⟨h1, h2⟩
  · refine .inl ⟨noL_of h1 ?_, h2⟩
    intro xs z
    cases z
  · refine .inr ⟨noL_of h1 ?_, noL_of h2 ?_⟩
    · intro xs z
      unfold SlX.SlO at z
      cases z
    · intro xs z
      cases z
/-- .. its lists of steps short -/
def WebB (K : PySem.W.Frag) (H : Hp) (q : Addr) (W : Web) : Prop := ∃ vs qd qf qm qv qs s1 s2, WebO K H q W vs qd qf qm qv qs s1 s2 ∧ ∀ v, v < W.n → (s1 v).length ≤ 60 ∧ (s2 v).length ≤ 60
theorem WebB.at {K : PySem.W.Frag} {H : Hp} {q : Addr} {W : Web} (h : WebB K H q W) : WebAt K H q W := by
  obtain ⟨vs, qd, qf, qm, qv, qs, s1, s2, o, _⟩ := h
  exact ⟨vs, qd, qf, qm, qv, qs, s1, s2, o⟩
theorem WebB.ex {K : PySem.W.Frag} {H H' : Hp} {q : Addr} {W : Web} (e : Ex H H') (h : WebB K H q W) : WebB K H' q W := by
  obtain ⟨vs, qd, qf, qm, qv, qs, s1, s2, o, z⟩ := h
  exact ⟨vs, qd, qf, qm, qv, qs, s1, s2, o.ex e, z⟩
end PwD
end
/-! ### PwNe -/
section
set_option linter.all false
set_option maxRecDepth 100000
set_option maxHeartbeats 8000000
/-! Web.__init__ -/
namespace Wk
open PySem PySem.Spec PyProof.Rows L2 Evl Pw
section
variable {X : Cx} {a b : Expr} {σ : L2.St} {H : Hp} {pos p : Pos} {xs : List V} {R : List V → Prop}
theorem v_catD (ha : VL X a σ H xs) (hb : VD X b σ H (fun u H2 => ∃ D us, u = .ref D ∧ H2 D = some (.lst us) ∧ R us)) (hz : ∀ us, R us → xs.length + us.length ≤ 100000) : VD X (.BinOp a .Add b pos) σ H (fun u H2 => ∃ D us, u = .ref D ∧ H2 D = some (.lst (xs ++ us)) ∧ R us) := fun H1 e1 Q g =>
  ofE (pe_op op_cat peW peW) (ha H1 e1 _ fun q H2 hq e2 h2 => hb H2 (e1.trans e2) _ fun u H3 e3 ⟨D, us, hu, h3, hr⟩ => ⟨q, D, xs, us, rfl, hu, e3 _ _ h2, h3, sz_of (hz us hr), fun l hl => g _ _ ((e2.trans e3).trans (Ex.new hl)) ⟨l, us, rfl, upd_same, hr⟩⟩)
theorem v_maxD (fr : Fre X.mg) (ha : VD X a σ H (fun u H2 => ∃ (D : Addr) (ns : List Int), u = .ref D ∧ H2 D = some (.lst (ns.map V.int)) ∧ 0 < ns.length)) (hg : Gl X "max" := by rfl) (hc : X.calm = true := by rfl) (hs : starEach [a] X.env = (false, eval a X.env) :: starEach [] X.env := by rfl) (hpl : (backTo pos (starEach [] X.env)).any (·.1) = false := by rfl) :
    VD X (.Call (.Name "max" p) [a] [] pos) σ H (fun u _ => ∃ i, u = .int i) := fun H1 e1 Q g =>
  ofE (pe_callB (cr_max hc) hg fr.max_ boot_max (pa_cons peW pa_nil hs) (by decide) (by decide) hs hpl) (ha H1 e1 _ fun u H2 e2 ⟨D, ns, hu, h2, hn⟩ => ⟨D, ns, by rw [hu], sq_of h2, hn, fun m hm hl => g _ H2 e2 ⟨m, rfl⟩⟩)
end
end Wk
namespace PwD
open PySem PySem.Spec PyProof.Rows L2 Evl Pw Wk PwH
section
variable {P : Program} {w : World} {K : PySem.W.Frag} {mg : Str → Option Value} {base : Heap}
def Raw1 (K : PySem.W.Frag) (n : Nat) (s : Nat → List Nat) (p : Addr) (H : Hp) : Prop := ∃ us : List V, us.length = n ∧ SqT K H p us ∧ ∀ (j : Nat) (u : V), us[j]? = some u → LotP K n s j u H
def RawD (K : PySem.W.Frag) (n : Nat) (d : Nat → Du) (p : Addr) (H : Hp) : Prop := ∃ us : List V, us.length = n ∧ SqT K H p us ∧ ∀ (j : Nat) (u : V), us[j]? = some u → DueV K H u (d j)
theorem Raw1.ex {n : Nat} {s : Nat → List Nat} {p : Addr} {H H' : Hp} (e : Ex H H') (r : Raw1 K n s p H) : Raw1 K n s p H' := by
  obtain ⟨us, h1, h2, h3⟩ := r
  exact ⟨us, h1, ex_t e h2, fun j u hu => keep_lot.ex e (h3 j u hu)⟩
theorem RawD.ex {n : Nat} {d : Nat → Du} {p : Addr} {H H' : Hp} (e : Ex H H') (r : RawD K n d p H) : RawD K n d p H' := by
  obtain ⟨us, h1, h2, h3⟩ := r
  exact ⟨us, h1, ex_t e h2, fun j u hu => (h3 j u hu).ex e⟩
theorem Raw1.sl {n : Nat} {s : Nat → List Nat} {p x C dx : Addr} {vs vs' : List (Option V)} {H : Hp} (m : Mkg H x C dx vs) (r : Raw1 K n s p H) : Raw1 K n s p (SlX.slH H x C dx vs') := by
  obtain ⟨us, h1, h2, h3⟩ := r
  refine ⟨us, h1, m.keep h2, fun j u hu => ?_⟩
  obtain ⟨p, e, h⟩ := h3 j u hu
  exact ⟨p, e, m.keep h⟩
theorem Raw1.noL {n : Nat} {s : Nat → List Nat} {p : Addr} {H : Hp} (r : Raw1 K n s p H) : Raw1 K n s p (noL H) := by
  obtain ⟨us, h1, h2, h3⟩ := r
  refine ⟨us, h1, st_noL h2, fun j u hu => ?_⟩
  obtain ⟨p, e, h⟩ := h3 j u hu
  exact ⟨p, e, st_noL h⟩
theorem RawD.noL {n : Nat} {d : Nat → Du} {p : Addr} {H : Hp} (r : RawD K n d p H) : RawD K n d p (noL H) := by
  obtain ⟨us, h1, h2, h3⟩ := r
  exact ⟨us, h1, st_noL h2, fun j u hu => due_noL (h3 j u hu)⟩
theorem RawD.sl {n : Nat} {d : Nat → Du} {p x C dx : Addr} {vs vs' : List (Option V)} {H : Hp} (m : Mkg H x C dx vs) (r : RawD K n d p H) : RawD K n d p (SlX.slH H x C dx vs') := by
  obtain ⟨us, h1, h2, h3⟩ := r
  refine ⟨us, h1, m.keep h2, fun j u hu => ?_⟩
  have h := h3 j u hu
  cases e : d j with
  | none => rw [e] at h; exact h
  | chips y => rw [e] at h; obtain ⟨p, e1, h1⟩ := h; exact ⟨p, e1, m.keep h1⟩
  | less y => rw [e] at h; obtain ⟨p, e1, h1⟩ := h; exact ⟨p, e1, m.keep h1⟩
def spWInit (K : PySem.W.Frag) : Sp := fun vs H Q _ => ∃ (H0 : Hp) (x dx qf qs qm qd : Addr) (W : Web), vs = [.ref x, .ref qf, .ref qs, .ref qm, .ref qd] ∧ H = upd (upd H0 dx (.own x)) x (.ins (He.ga K "Web") dx []) ∧ H0 x = none ∧ H0 dx = none ∧ dx ≠ x ∧ RawW K H0 qf qs qm qd W ∧ (∀ v, v < W.n → (W.s1 v).length < 64 ∧ (W.s2 v).length < 64) ∧
  ∀ H2, Ex H0 H2 → WebB K (noL H2) x W → Q .non H2
theorem G_Web_init (T : Hd K mg) : FnR P w K mg base (L2.CX P w) 5 (He.ma K (He.ga K "Web") "__init__") (spWInit K) := by
  refine fn_rn (F_Web_init T) sc_Web_init (fun vs H Q E h => ?_) B_Web_init fun cdv A outer s H vs Q E hr h => ?_
  · obtain ⟨_, _, _, _, _, _, _, _, rfl, _⟩ := h
    rfl
  · obtain ⟨H0, x, dx, qf, qs, qm, qd, W, rfl, rfl, hx, hd, hne, R, h64, kq⟩ := h
    have ok := R.ok
    have hn5 := ok.n5
    have e0 := ex_made (C := He.ga K "Web") hx hd hne
    have m0 : Mkg (upd (upd H0 dx (.own x)) x (.ins (He.ga K "Web") dx [])) x (He.ga K "Web") dx [] := ⟨.inl ⟨upd_same, rfl⟩, .inl (by rw [upd_ne hne, upd_same])⟩
    refine w_callX (E := E) (d_lk T) hr passE (a_cons (vn 1) (a_cons (vn 2) (a_cons (vn 3) (a_cons (vn 4) a_nil)))) fun H1 x1 => ⟨qf, qs, qm, qd, W, rfl, R.ex (e0.trans x1), fun H2 x2 => ?_⟩
    refine w_callX (E := E) (d_lw T) (hr.mono (by decide)) passE (a_cons (vn 1) (a_cons (vn 2) (a_cons (vn 3) (a_cons (vn 4) a_nil)))) fun H3 x3 => ⟨qf, qs, qm, qd, W, rfl, R.ex ((e0.trans (x1.trans x2)).trans x3), fun H4 x4 => ?_⟩
    have x14 := ((x1.trans x2).trans x3).trans x4
    have e4 := e0.trans x14
    have m4 := m0.ex x14
    have el : ∀ {l : List Nat} {n : Nat} {ms : List Int}, (∀ v ∈ l, v < n) → ms.Pairwise (· < ·) → (∀ k : Int, k ∈ ms ↔ k ∈ l.map Int.ofNat) → ms.map V.int = filV n (fun v => decide (v ∈ l)) := fun h1 h2 h3 => sorted_fil h1 h2 h3
    -- first
    obtain ⟨as, ha, hl⟩ := id R.first
    refine w_sl (P := fun u H2 => ∃ p, u = .ref p ∧ Raw1 K W.n W.s1 p H2) (S_Web T) (L_Web_first T) (EvD.imp (v_tupW (R := fun us H2 => us.length = W.n ∧ ∀ (j : Nat) (u : V), us[j]? = some u → LotP K W.n W.s1 j u H2) T.fre (fun us H H' e ⟨g1, g2⟩ => ⟨g1, fun j u hu => keep_lot.ex e (g2 j u hu)⟩) (EvD.imp (v_mapI (n := 5) (P := LotP K W.n W.s1) sc_Web_init.nd (bk sc_Web_init (by decide +kernel)) (vn 1) (ha.ex e4) (by rw [refV_len]; omega) keep_lot (fun i y hy s0 H0' C cl1 fp => by
      obtain ⟨hi, rfl⟩ := map_at_lt hy
      have hq := (hl i hi).ex e4
      rw [lotV_ints] at hq
      exact EvD.imp (v_tupD (R := fun xs => xs = filV W.n fun v => decide (v ∈ W.s1 i)) T.fre (EvD.imp (v_sortSet T.fre (vn 5) hq (by rw [List.length_map]; exact (h64 i hi).1)) fun u H4 _ ⟨p, ms, hu, h4, pw, mem⟩ => ⟨p, _, hu, h4, sorted_fil (ok.in1 i hi) pw mem⟩)) fun u H4 _ ⟨p, xs, hu, _, h4, e⟩ => ⟨p, hu, by rw [← e]; exact st_of h4⟩)) fun u H2 _ ⟨D, us, hu, _, h2, hlen, hr2⟩ => ⟨D, us, hu, h2, by rw [hlen, refV_len], hr2⟩)) fun u H2 _ ⟨p, us, hu, _, h2, hlen, hr2⟩ => ⟨p, hu, us, hlen, st_of h2, hr2⟩) (vn 0) m4.1 fun y H5 H6 x5 hy x6 => ?_
    obtain ⟨pf, rfl, f1⟩ := hy
    have m6 := m4.ex (x5.trans x6)
    have e6 := ex_sl (C := He.ga K "Web") (vs := SlX.putS 2 (.ref pf) []) (e4.trans (x5.trans x6)) hx hd
    have f6 := (f1.ex x6).sl (vs' := SlX.putS 2 (.ref pf) []) m6
    have g6 : Mkg (SlX.slH H6 x (He.ga K "Web") dx (SlX.putS 2 (.ref pf) [])) x (He.ga K "Web") dx (SlX.putS 2 (.ref pf) []) := Mkg.sl hne
    -- second
    obtain ⟨bs, hb, hl2⟩ := id R.second
    refine w_sl (P := fun u H2 => ∃ p, u = .ref p ∧ Raw1 K W.n W.s2 p H2) (S_Web T) (L_Web_second T) (EvD.imp (v_tupW (R := fun us H2 => us.length = W.n ∧ ∀ (j : Nat) (u : V), us[j]? = some u → LotP K W.n W.s2 j u H2) T.fre (fun us H H' e ⟨g1, g2⟩ => ⟨g1, fun j u hu => keep_lot.ex e (g2 j u hu)⟩) (EvD.imp (v_mapI (n := 5) (P := LotP K W.n W.s2) sc_Web_init.nd (bk sc_Web_init (by decide +kernel)) (vn 2) (hb.ex e6) (by rw [refV_len]; omega) keep_lot (fun i y hy s0 H0' C cl1 fp => by
      obtain ⟨hi, rfl⟩ := map_at_lt hy
      have hq := (hl2 i hi).ex e6
      rw [lotV_ints] at hq
      exact EvD.imp (v_tupD (R := fun xs => xs = filV W.n fun v => decide (v ∈ W.s2 i)) T.fre (EvD.imp (v_sortSet T.fre (vn 5) hq (by rw [List.length_map]; exact (h64 i hi).2)) fun u H4 _ ⟨p, ms, hu, h4, pw, mem⟩ => ⟨p, _, hu, h4, sorted_fil (ok.in2 i hi) pw mem⟩)) fun u H4 _ ⟨p, xs, hu, _, h4, e⟩ => ⟨p, hu, by rw [← e]; exact st_of h4⟩)) fun u H2 _ ⟨D, us, hu, _, h2, hlen, hr2⟩ => ⟨D, us, hu, h2, by rw [hlen, refV_len], hr2⟩)) fun u H2 _ ⟨p, us, hu, _, h2, hlen, hr2⟩ => ⟨p, hu, us, hlen, st_of h2, hr2⟩) (vn 0) g6.1 fun y H7 H8 x7 hy x8 => ?_
    obtain ⟨ps, rfl, s7⟩ := hy
    have m8 := g6.ex (x7.trans x8)
    have e8 := ex_sl (C := He.ga K "Web") (vs := SlX.putS 6 (.ref ps) (SlX.putS 2 (.ref pf) [])) (e6.trans (x7.trans x8)) hx hd
    have f8 := (f6.ex (x7.trans x8)).sl (vs' := SlX.putS 6 (.ref ps) (SlX.putS 2 (.ref pf) [])) m8
    have s8 := (s7.ex x8).sl (vs' := SlX.putS 6 (.ref ps) (SlX.putS 2 (.ref pf) [])) m8
    have g8 : Mkg (SlX.slH H8 x (He.ga K "Web") dx (SlX.putS 6 (.ref ps) (SlX.putS 2 (.ref pf) []))) x (He.ga K "Web") dx (SlX.putS 6 (.ref ps) (SlX.putS 2 (.ref pf) [])) := Mkg.sl hne
    -- marks
    refine w_sl (S_Web T) (L_Web_marks T) (v_tupS T.fre (vn 3) (R.marks.ex e8)) (vn 0) g8.1 fun y H9 H10 x9 hy x10 => ?_
    obtain ⟨pm, rfl, k9⟩ := hy
    have m10 := g8.ex (x9.trans x10)
    have e10 := ex_sl (C := He.ga K "Web") (vs := SlX.putS 4 (.ref pm) (SlX.putS 6 (.ref ps) (SlX.putS 2 (.ref pf) []))) (e8.trans (x9.trans x10)) hx hd
    have f10 := (f8.ex (x9.trans x10)).sl (vs' := SlX.putS 4 (.ref pm) (SlX.putS 6 (.ref ps) (SlX.putS 2 (.ref pf) []))) m10
    have s10 := (s8.ex (x9.trans x10)).sl (vs' := SlX.putS 4 (.ref pm) (SlX.putS 6 (.ref ps) (SlX.putS 2 (.ref pf) []))) m10
    have k10 := m10.keep (vs' := SlX.putS 4 (.ref pm) (SlX.putS 6 (.ref ps) (SlX.putS 2 (.ref pf) []))) (ex_t x10 k9)
    have g10 : Mkg (SlX.slH H10 x (He.ga K "Web") dx (SlX.putS 4 (.ref pm) (SlX.putS 6 (.ref ps) (SlX.putS 2 (.ref pf) [])))) x (He.ga K "Web") dx (SlX.putS 4 (.ref pm) (SlX.putS 6 (.ref ps) (SlX.putS 2 (.ref pf) []))) := Mkg.sl hne
    -- dues
    obtain ⟨us0, hu0, hd0⟩ := id R.dues
    refine w_sl (P := fun u H2 => ∃ p, u = .ref p ∧ RawD K W.n W.due p H2) (S_Web T) (L_Web_dues T) (EvD.imp (v_tupW (R := fun us H2 => us.length = W.n ∧ ∀ (j : Nat) (u : V), us[j]? = some u → DueV K H2 u (W.due j)) T.fre (fun us H H' e ⟨g1, g2⟩ => ⟨g1, fun j u hu => (g2 j u hu).ex e⟩) (EvD.imp (v_mapI (n := 6) (P := fun i u H => DueV K H u (W.due i)) sc_Web_init.nd (bk sc_Web_init (by decide +kernel)) (vn 4) (hu0.ex e10) (by rw [List.length_map, List.length_range]; omega) keep_due (fun i y hy s0 H0' C cl1 fp => by
      obtain ⟨hi, rfl⟩ := map_at_lt hy
      exact v_callD (d_kept T) (hr.mono (by decide)) (a_cons (vn 6) a_nil) fun H11 x11 Q11 g11 E11 => ⟨us0 i, W.due i, rfl, (hd0 i hi).ex (e10.trans x11), g11⟩)) fun u H2 _ ⟨D, us, hu, _, h2, hlen, hr2⟩ => ⟨D, us, hu, h2, by rw [hlen, List.length_map, List.length_range], hr2⟩)) fun u H2 _ ⟨p, us, hu, _, h2, hlen, hr2⟩ => ⟨p, hu, us, hlen, st_of h2, hr2⟩) (vn 0) g10.1 fun y H11 H12 x11 hy x12 => ?_
    obtain ⟨pd, rfl, d11⟩ := hy
    have m12 := g10.ex (x11.trans x12)
    have e12 := ex_sl (C := He.ga K "Web") (vs := SlX.putS 0 (.ref pd) (SlX.putS 4 (.ref pm) (SlX.putS 6 (.ref ps) (SlX.putS 2 (.ref pf) [])))) (e10.trans (x11.trans x12)) hx hd
    have f12 := (f10.ex (x11.trans x12)).sl (vs' := SlX.putS 0 (.ref pd) (SlX.putS 4 (.ref pm) (SlX.putS 6 (.ref ps) (SlX.putS 2 (.ref pf) [])))) m12
    have s12 := (s10.ex (x11.trans x12)).sl (vs' := SlX.putS 0 (.ref pd) (SlX.putS 4 (.ref pm) (SlX.putS 6 (.ref ps) (SlX.putS 2 (.ref pf) [])))) m12
    have k12 := m12.keep (vs' := SlX.putS 0 (.ref pd) (SlX.putS 4 (.ref pm) (SlX.putS 6 (.ref ps) (SlX.putS 2 (.ref pf) [])))) (ex_t (x11.trans x12) k10)
    have d12 := (d11.ex x12).sl (vs' := SlX.putS 0 (.ref pd) (SlX.putS 4 (.ref pm) (SlX.putS 6 (.ref ps) (SlX.putS 2 (.ref pf) [])))) m12
    have g12 : Mkg (SlX.slH H12 x (He.ga K "Web") dx (SlX.putS 0 (.ref pd) (SlX.putS 4 (.ref pm) (SlX.putS 6 (.ref ps) (SlX.putS 2 (.ref pf) []))))) x (He.ga K "Web") dx (SlX.putS 0 (.ref pd) (SlX.putS 4 (.ref pm) (SlX.putS 6 (.ref ps) (SlX.putS 2 (.ref pf) [])))) := Mkg.sl hne
    -- ends
    have emp : ∀ v, (!(lotV (W.s1 v)).isEmpty) = W.mv v := fun v => by
      unfold lotV Web.mv
      cases W.s1 v <;> rfl
    refine w_sl (S_Web T) (L_Web_ends T) (ud (v_tupL (xs := filV W.n fun v => !W.mv v) T.fre (ccv (c_fltR (n := 7) T.fre sc_Web_init.nd (bk sc_Web_init (by decide +kernel)) (v_lenN (m := W.n) T.fre (vn 3) (R.marks.ex e12) rowV_len) (by omega) (fun v => !W.mv v) iv (fun v hv s0 H0' C cl1 fp => by
      rw [← emp v]
      exact t_not (t_seq (v_ix (n := v) (vn 1) (vn 7) (ha.ex e12) (refV_at hv)) ((hl v hv).ex e12))) (fun v hv _ s0 H0' C cl1 fp => vn 7))))) (vn 0) g12.1 fun y H13 H14 x13 hy x14' => ?_
    obtain ⟨pe, rfl, _⟩ := hy
    have m14 := g12.ex (x13.trans x14')
    have e14 := ex_sl (C := He.ga K "Web") (vs := SlX.putS 1 (.ref pe) (SlX.putS 0 (.ref pd) (SlX.putS 4 (.ref pm) (SlX.putS 6 (.ref ps) (SlX.putS 2 (.ref pf) []))))) (e12.trans (x13.trans x14')) hx hd
    have f14 := (f12.ex (x13.trans x14')).sl (vs' := SlX.putS 1 (.ref pe) (SlX.putS 0 (.ref pd) (SlX.putS 4 (.ref pm) (SlX.putS 6 (.ref ps) (SlX.putS 2 (.ref pf) []))))) m14
    have s14 := (s12.ex (x13.trans x14')).sl (vs' := SlX.putS 1 (.ref pe) (SlX.putS 0 (.ref pd) (SlX.putS 4 (.ref pm) (SlX.putS 6 (.ref ps) (SlX.putS 2 (.ref pf) []))))) m14
    have k14 := m14.keep (vs' := SlX.putS 1 (.ref pe) (SlX.putS 0 (.ref pd) (SlX.putS 4 (.ref pm) (SlX.putS 6 (.ref ps) (SlX.putS 2 (.ref pf) []))))) (ex_t (x13.trans x14') k12)
    have d14 := (d12.ex (x13.trans x14')).sl (vs' := SlX.putS 1 (.ref pe) (SlX.putS 0 (.ref pd) (SlX.putS 4 (.ref pm) (SlX.putS 6 (.ref ps) (SlX.putS 2 (.ref pf) []))))) m14
    have g14 : Mkg (SlX.slH H14 x (He.ga K "Web") dx (SlX.putS 1 (.ref pe) (SlX.putS 0 (.ref pd) (SlX.putS 4 (.ref pm) (SlX.putS 6 (.ref ps) (SlX.putS 2 (.ref pf) [])))))) x (He.ga K "Web") dx (SlX.putS 1 (.ref pe) (SlX.putS 0 (.ref pd) (SlX.putS 4 (.ref pm) (SlX.putS 6 (.ref ps) (SlX.putS 2 (.ref pf) []))))) := Mkg.sl hne
    -- moving
    refine w_sl (S_Web T) (L_Web_moving T) (ud (v_tupL (xs := filV W.n W.mv) T.fre (ccv (c_fltR (n := 7) T.fre sc_Web_init.nd (bk sc_Web_init (by decide +kernel)) (v_lenN (m := W.n) T.fre (vn 3) (R.marks.ex e14) rowV_len) (by omega) W.mv iv (fun v hv s0 H0' C cl1 fp => by
      rw [← emp v]
      exact t_seq (v_ix (n := v) (vn 1) (vn 7) (ha.ex e14) (refV_at hv)) ((hl v hv).ex e14)) (fun v hv _ s0 H0' C cl1 fp => vn 7))))) (vn 0) g14.1 fun y H15 H16 x15 hy x16 => ?_
    obtain ⟨pv, rfl, v15⟩ := hy
    obtain ⟨sv, hsv⟩ : ∃ sv, sv = SlX.putS 5 (.ref pv) (SlX.putS 1 (.ref pe) (SlX.putS 0 (.ref pd) (SlX.putS 4 (.ref pm) (SlX.putS 6 (.ref ps) (SlX.putS 2 (.ref pf) []))))) := ⟨_, rfl⟩
    rw [← hsv]
    have m16 := g14.ex (x15.trans x16)
    have e16 := ex_sl (C := He.ga K "Web") (vs := sv) (e14.trans (x15.trans x16)) hx hd
    have f16 := (f14.ex (x15.trans x16)).sl (vs' := sv) m16
    have s16 := (s14.ex (x15.trans x16)).sl (vs' := sv) m16
    have k16 := m16.keep (vs' := sv) (ex_t (x15.trans x16) k14)
    have d16 := (d14.ex (x15.trans x16)).sl (vs' := sv) m16
    have v16 := m16.keep (K := K) (vs' := sv) (st_of (x16 _ _ v15))
    have g16 : Mkg (SlX.slH H16 x (He.ga K "Web") dx sv) x (He.ga K "Web") dx sv := Mkg.sl hne
    -- greatest_due
    obtain ⟨ud, du1, du2, du3⟩ := id d16
    have vd0 : sv[0]? = some (some (.ref pd)) := by rw [hsv]; rfl
    refine w_sl (P := fun u _ => ∃ i, u = .int i) (S_Web T) (L_Web_greatest_due T) (v_maxD T.fre (EvD.imp (v_catD (R := fun us => us.all isI = true ∧ us.length ≤ 100) (v_lst (a_cons v_int a_nil) (by simp)) (EvD.imp (v_fltD (n := 6) (P := fun _ u _ => ∃ i, u = .int i) sc_Web_init.nd (bk sc_Web_init (by decide +kernel)) (v_slot (S_Web T) (L_Web_dues T) (vn 0) g16.1 vd0) (.inr du2) (by omega) ⟨fun _ h => h, fun _ h => h⟩ (fun y => !decide (y = .non)) (fun y hy s0 H0' C cl1 fp => t_notN (vn 6)) (fun y hy ht s0 H0' C cl1 fp => by
      obtain ⟨j, hj, rfl⟩ := List.getElem_of_mem hy
      have hdj : DueV K (SlX.slH H16 x (He.ga K "Web") dx sv) ud[j] (W.due j) := du3 j _ (List.getElem?_eq_getElem hj)
      have cs : ∃ (q : Addr) (wd : Str) (y : Int), ud[j] = .ref q ∧ SqT K (SlX.slH H16 x (He.ga K "Web") dx sv) q [.str wd, .int y] := by
        cases e : W.due j with
        | none =>
          rw [e] at hdj
          have z : ud[j] = .non := hdj
          rw [z] at ht
          cases ht
        | chips y => rw [e] at hdj; obtain ⟨q, e1, h1⟩ := hdj; exact ⟨q, _, y, e1, h1⟩
        | less y => rw [e] at hdj; obtain ⟨q, e1, h1⟩ := hdj; exact ⟨q, _, y, e1, h1⟩
      obtain ⟨q, wd, y, e1, h1⟩ := cs
      rw [e1]
      exact EvD.imp (vd (v_ix (n := 1) (vn 6) v_int (.inr h1) rfl)) fun u _ _ e => ⟨y, e⟩)) fun u H2 _ ⟨D, us, hu, _, h2, r1, r2⟩ => ⟨D, us, hu, h2, ?_, ?_⟩) (fun us h => ?_)) fun u H2 _ ⟨D, us, hu, h2, r1, r2⟩ => ?_)) (vn 0) g16.1 fun y H17 H18 x17 hy x18 => ?_
    · refine List.all_eq_true.mpr fun v hv => ?_
      obtain ⟨j, hj, rfl⟩ := List.getElem_of_mem hv
      have hj2 : j < (ud.filter fun y => !decide (y = .non)).length := by rw [← r1]; exact hj
      obtain ⟨i, e⟩ := r2 j _ _ (List.getElem?_eq_getElem hj2) (List.getElem?_eq_getElem hj)
      rw [e]
      rfl
    · rw [r1]
      have := List.length_filter_le (fun y => !decide (y = V.non)) ud
      omega
    · have := h.2
      rw [List.length_singleton]
      omega
    · obtain ⟨ns, rfl⟩ := ints_of r1
      exact ⟨D, 0 :: ns, hu, h2, by simp⟩
    · have m18 := g16.ex (x17.trans x18)
      have f18 := (f16.ex (x17.trans x18)).sl (vs' := SlX.putS 3 y sv) m18
      have s18 := (s16.ex (x17.trans x18)).sl (vs' := SlX.putS 3 y sv) m18
      have k18 := m18.keep (vs' := SlX.putS 3 y sv) (ex_t (x17.trans x18) k16)
      have d18 := (d16.ex (x17.trans x18)).sl (vs' := SlX.putS 3 y sv) m18
      have v18 := m18.keep (vs' := SlX.putS 3 y sv) (ex_t (x17.trans x18) v16)
      obtain ⟨u1, a1, a2, a3⟩ := f18.noL
      obtain ⟨u2, b1, b2, b3⟩ := s18.noL
      obtain ⟨u3, c1, c2, c3⟩ := d18.noL
      obtain ⟨s1', L1, M1, N1⟩ := lots_of a1 a2 a3
      obtain ⟨s2', L2', M2, N2⟩ := lots_of b1 b2 b3
      have dues : Dues K (noL (SlX.slH H18 x (He.ga K "Web") dx (SlX.putS 3 y sv))) pd W.n W.due := by
        refine ⟨fun j => u3.getD j .non, .inr ?_, fun v hv => ?_⟩
        · have e : u3 = (List.range W.n).map fun j => u3.getD j .non := by
            apply List.ext_getElem?
            intro j
            by_cases hj : j < W.n
            · rw [map_at hj, List.getD_eq_getElem?_getD, List.getElem?_eq_getElem (by omega)]
              rfl
            · rw [List.getElem?_eq_none (by omega), List.getElem?_eq_none (by rw [List.length_map, List.length_range]; omega)]
          rw [← e]
          exact c2
        · show DueV K _ (u3.getD v .non) (W.due v)
          rw [List.getD_eq_getElem?_getD, List.getElem?_eq_getElem (by omega)]
          exact c3 v _ (List.getElem?_eq_getElem (by omega))
      refine w_nil (kq _ (ex_sl (e16.trans (x17.trans x18)) hx hd) ⟨SlX.putS 3 y sv, pd, pf, pm, pv, ps, s1', s2', ⟨⟨dx, slt_noL (SlX.slH_slt hne)⟩, ?_, ?_, ?_, ?_, ?_, dues, L1, L2', .inr (st_noL k18), .inr (st_noL v18), fun v hv z => ?_, fun v hv z => ?_, fun v hv => ?_, fun v hv => ?_⟩, fun v hv => ⟨?_, ?_⟩⟩)
      · rw [hsv]; rfl
      · rw [hsv]; rfl
      · rw [hsv]; rfl
      · rw [hsv]; rfl
      · rw [hsv]; rfl
      · rw [M1 v hv z]
        exact ⟨fun h => h.2, fun h => ⟨ok.in1 v hv z h, h⟩⟩
      · rw [M2 v hv z]
        exact ⟨fun h => h.2, fun h => ⟨ok.in2 v hv z h, h⟩⟩
      · have := N1 v hv; omega
      · have := N2 v hv; omega
      · have := N1 v hv; omega
      · have := N2 v hv; omega
end
end PwD
end
/-! ### PwNf -/
section
set_option linter.all false
set_option maxRecDepth 100000
set_option maxHeartbeats 8000000
/-! lists of new lists; _law_built -/
namespace Wk
open PySem PySem.Spec PyProof.Rows L2 Evl Pw
section
variable {X : Cx} {it elt : Expr} {σ : L2.St} {H H' : Hp} {x : V} {pos p : Pos} {n : Nat} {s : Str} {q : Addr} {xs : List V} {sc : Scope} {f : Nat → List V}
def CxN (f : Nat → List V) (H : Hp) (D : Addr) (i : Nat) (H' : Hp) : Prop := H D = none ∧ Ex H H' ∧ ∃ ps : List Addr, H' D = some (.lst (ps.map V.ref)) ∧ ps.length = i ∧ ∀ (j : Nat) (p : Addr), ps[j]? = some p → H p = none ∧ p ≠ D ∧ H' p = some (.lst (f j))
theorem lc_turnN {te : TE} {D : Addr} {i : Nat} {σ2 : L2.St} (C : CxN f H D i H') (hx : xs[i]? = some x) (hz : xs.length ≤ 40000) (he : EvL te σ2 H (f i)) :
    tYes σ2 H' fun b H3 => if b = true then te σ2 H3 fun y H4 => ∃ acc, H4 D = some (.lst acc) ∧ acc.length < sizeLine ∧ CxN f H D (i + 1) (upd H4 D (.lst (acc ++ [y]))) else CxN f H D (i + 1) H3 := by
  obtain ⟨p1, p2, ps, p3, r1, r2⟩ := C
  have hl : i < xs.length := (List.getElem?_eq_some_iff.mp hx).1
  show te σ2 H' fun y H4 => ∃ acc, H4 D = some (.lst acc) ∧ acc.length < sizeLine ∧ CxN f H D (i + 1) (upd H4 D (.lst (acc ++ [y])))
  refine he H' p2 _ fun u H4 hu e4 h4 => ⟨ps.map V.ref, e4 D _ p3, sz_lt (by rw [List.length_map]; omega), p1, Ex.mut (p2.trans e4) p1, ps ++ [u], by rw [upd_same, List.map_append]; rfl, by rw [List.length_append, r1]; rfl, fun j a ha => ?_⟩
  have nD : u ≠ D := (ne_of_none p3 hu).symm
  by_cases hj : j < i
  · rw [List.getElem?_append_left (by omega)] at ha
    obtain ⟨a0, a1, a2⟩ := r2 j a ha
    exact ⟨a0, a1, by rw [upd_ne a1]; exact e4 _ _ a2⟩
  · rw [List.getElem?_append_right (by omega)] at ha
    have e : j - ps.length = 0 := by
      have := (List.getElem?_eq_some_iff.mp ha).1
      rw [List.length_singleton] at this
      omega
    rw [e] at ha
    have e2 : u = a := by simpa using ha
    have e3 : j = i := by omega
    rw [← e2, e3]
    exact ⟨fresh_back p2 hu, nD, by rw [upd_ne nD]; exact h4⟩
/-- [elt for x in xs], part i a new list of f i -/
theorem v_mapN (nd : X.N.Nodup) (ok : BlkOk X.N X.env.scope sc [(s, n)]) (h : VE X it σ H (.ref q)) (hq : Sq X.K H q xs) (hz : xs.length ≤ 40000) (f : Nat → List V) (he : ∀ i y, xs[i]? = some y → ∀ (s0 : Shared) (H0 : Hp) (C : Addr) (cl : List (Str × Addr)) (fp : List Addr), VL (X.blk s0 H0 sc (compEnvC sc cl C X.env) fp) elt (σ.set n (some y)) H (f i)) (hc : X.calm = true := by rfl) (hl : sc.names.lookup s = some .local := by rfl) (hs : ∀ x, foldedSetIterable it X.env x = pure x := by intro _; rfl) :
    VD X (.ListComp elt [⟨.Name s p, it, [], 0⟩] sc pos) σ H (fun u H2 => ∃ (D : Addr) (ps : List Addr), u = .ref D ∧ H D = none ∧ H2 D = some (.lst (ps.map V.ref)) ∧ ps.length = xs.length ∧ ∀ (j : Nat) (p : Addr), ps[j]? = some p → H p = none ∧ p ≠ D ∧ H2 p = some (.lst (f j))) := by
  have ts : ∀ (i : Nat) (x : V) H1 H2 D, Ex H H1 → xs[i]? = some x → CxN f H1 D i H2 → wipe ((wipe σ [n]).set n (some x)) [n] = wipe σ [n] ∧ tYes ((wipe σ [n]).set n (some x)) H2 fun b H3 =>
      if b = true then WEb X sc elt ((wipe σ [n]).set n (some x)) H3 fun y H4 => ∃ acc, H4 D = some (.lst acc) ∧ acc.length < sizeLine ∧ CxN f H1 D (i + 1) (upd H4 D (.lst (acc ++ [y]))) else CxN f H1 D (i + 1) H3 := fun i x H1 H2 D e1 hx C => by
    refine ⟨wwipe x, ?_⟩
    rw [wset]
    exact lc_turnN C hx hz fun H5 e5 Q g => fun s0 H0 C0 cl fp => he i x hx s0 H0 C0 cl fp H5 (e1.trans e5) Q g
  rcases hq with hq | hq
  · refine liftD (pe_lcW (ifs := []) nd hc ok hl (pi_list peW) (by simp) hs) fun H0 e0 Q g0 => h H0 e0 _ fun H1 e1 => ⟨q, rfl, ⟨xs, ex_l (e0.trans e1) hq⟩, fun D hD => ?_⟩
    refine lc_list (xs := xs) (CxN f H1 D) ⟨hD, Ex.new hD, [], upd_same, rfl, fun j a ha => by simp at ha⟩ (fun i H' _ C => ex_l ((e0.trans e1).trans C.2.1) hq) (fun i x H' hx C => ts i x H1 H' D (e0.trans e1) hx C) (fun H' C => ?_)
    obtain ⟨p1, p2, ps, p3, r1, r2⟩ := C
    exact g0 _ H' (e1.trans p2) ⟨D, ps, rfl, fresh_back (e0.trans e1) p1, p3, r1, fun j p hp => ⟨fresh_back (e0.trans e1) (r2 j p hp).1, (r2 j p hp).2⟩⟩
  · refine liftD (pe_lcW (ifs := []) nd hc ok hl (pi_tup peW) (by simp) hs) fun H0 e0 Q g0 => h H0 e0 _ fun H1 e1 => ⟨q, rfl, ⟨xs, ex_t (e0.trans e1) hq⟩, fun D hD => ?_⟩
    refine lc_tup (xs := xs) (CxN f H1 D) ⟨hD, Ex.new hD, [], upd_same, rfl, fun j a ha => by simp at ha⟩ (fun i H' _ C => ex_t ((e0.trans e1).trans C.2.1) hq) (fun i x H' hx C => ts i x H1 H' D (e0.trans e1) hx C) (fun H' C => ?_)
    obtain ⟨p1, p2, ps, p3, r1, r2⟩ := C
    exact g0 _ H' (e1.trans p2) ⟨D, ps, rfl, fresh_back (e0.trans e1) p1, p3, r1, fun j p hp => ⟨fresh_back (e0.trans e1) (r2 j p hp).1, (r2 j p hp).2⟩⟩
end
end Wk
namespace PwD
open PySem PySem.Spec PyProof.Rows L2 Evl Pw Wk PwH
section
variable {P : Program} {w : World} {K : PySem.W.Frag} {mg : Str → Option Value} {base : Heap}
theorem lots_new {H : Hp} {D : Addr} {ps : List Addr} {n : Nat} {s : Nat → List Nat} (hl : ps.length = n) (hD : H D = some (.lst (ps.map V.ref))) (hp : ∀ (j : Nat) (p : Addr), ps[j]? = some p → H p = some (.lst (lotV (s j)))) : Lots K H D n s := by
  refine ⟨fun j => ps.getD j 0, .inl (sq_of ?_), fun v hv => .inl (sq_of ?_)⟩
  · rw [hD]
    congr 2
    apply List.ext_getElem?
    intro j
    by_cases hj : j < n
    · rw [refV_at hj, List.getElem?_map, List.getElem?_eq_getElem (by omega), List.getD_eq_getElem?_getD, List.getElem?_eq_getElem (by omega)]
      rfl
    · rw [List.getElem?_eq_none (by rw [List.length_map]; omega), List.getElem?_eq_none (by rw [refV_len]; omega)]
  · show H (ps.getD v 0) = _
    rw [List.getD_eq_getElem?_getD, List.getElem?_eq_getElem (by omega)]
    exact hp v _ (List.getElem?_eq_getElem (by omega))
def spLBuilt (K : PySem.W.Frag) : Sp := fun vs H Q _ => ∃ (q : Addr) (W : Web), vs = [.ref q] ∧ W.Ok ∧ LWeb K H q W ∧ (∀ v, v < W.n → low40 (W.due v)) ∧ (∀ v, v < W.n → (W.s1 v).length < 64 ∧ (W.s2 v).length < 64) ∧ RetD (fun u H2 => ∃ p, u = .ref p ∧ WebB K (noL H2) p W) H Q
theorem d_lbuilt (T : Hd K mg) : Dn P w K mg base 7 "_law_built" [] (spLBuilt K) := by
  refine fn_dn (F__law_built T) sc__law_built (fun vs H Q E h => ?_) B__law_built fun f cdv A outer s H vs Q E hr h => ?_
  · obtain ⟨_, _, rfl, _⟩ := h
    rfl
  · obtain ⟨q, W, rfl, ok, ⟨qf, qs, qm, qd, hL, ⟨as, ha, hl⟩, ⟨bs, hb, hl2⟩, hM, ⟨us, hu, hd⟩⟩, low, h64, kq⟩ := h
    have hn5 := ok.n5
    refine w_retD (v_mk (MK_Web T) (G_Web_init T) (hr.mono (by decide)) (g_Web T) (R := fun vs H2 => ∃ p1 p2 p3 p4, vs = [.ref p1, .ref p2, .ref p3, .ref p4] ∧ Lots K H2 p1 W.n W.s1 ∧ Lots K H2 p2 W.n W.s2 ∧ H2 p3 = some (.lst (rowV W.n W.mark)) ∧ Dues K H2 p4 W.n W.due)
      (ad_cons (v_mapN (n := 1) sc__law_built.nd (bk sc__law_built (by decide +kernel)) (v_ix (n := 0) (vn 0) v_int (.inl hL) rfl) ha (by rw [refV_len]; omega) (fun i => lotV (W.s1 i)) (fun i y hy s0 H0 C cl1 fp => by
        obtain ⟨hi, rfl⟩ := map_at_lt hy
        exact v_list T.fre (vn 1) (hl i hi))) fun u1 H1 x1 h1 => ad_cons (v_mapN (n := 1) sc__law_built.nd (bk sc__law_built (by decide +kernel)) (v_ix (n := 1) (vn 0) v_int (.inl (ex_l x1 hL)) rfl) (hb.ex x1) (by rw [refV_len]; omega) (fun i => lotV (W.s2 i)) (fun i y hy s0 H0 C cl1 fp => by
        obtain ⟨hi, rfl⟩ := map_at_lt hy
        exact v_list T.fre (vn 1) ((hl2 i hi).ex x1))) fun u2 H2 x2 h2 => ad_cons (ld (v_list T.fre (v_ix (n := 2) (vn 0) v_int (.inl (ex_l (x1.trans x2) hL)) rfl) (hM.ex (x1.trans x2)))) fun u3 H3 x3 h3 => ad_last (ld (v_list T.fre (v_ix (n := 3) (vn 0) v_int (.inl (ex_l ((x1.trans x2).trans x3) hL)) rfl) (hu.ex ((x1.trans x2).trans x3)))) fun u4 H4 x4 h4 => ?_) ?_) kq
    · obtain ⟨D1, ps1, rfl, _, a1, a2, a3⟩ := h1
      obtain ⟨D2, ps2, rfl, _, b1, b2, b3⟩ := h2
      obtain ⟨p3, rfl, c1⟩ := h3
      obtain ⟨p4, rfl, c2⟩ := h4
      rw [refV_len] at a2 b2
      have L1 : Lots K H1 D1 W.n W.s1 := lots_new a2 a1 fun j p hp => (a3 j p hp).2.2
      have L2' : Lots K H2 D2 W.n W.s2 := lots_new b2 b1 fun j p hp => (b3 j p hp).2.2
      exact ⟨D1, D2, p3, p4, rfl, L1.ex ((x2.trans x3).trans x4), L2'.ex (x3.trans x4), x4 _ _ c1, us, .ls c2, fun v hv => (hd v hv).ex (((x1.trans x2).trans x3).trans x4)⟩
    · rintro vs H1 x dx e1 ⟨p1, p2, p3, p4, rfl, g1, g2, g3, g4⟩ h1 h2 h3 Q2 k2
      exact ⟨H1, x, dx, p1, p2, p3, p4, W, rfl, rfl, h1, h2, h3, ⟨ok, g1, g2, .ls g3, g4, low⟩, h64, fun H2 e2 hw => ⟨rfl, k2 H2 e2 ⟨x, rfl, hw⟩⟩⟩
end
end PwD
end
/-! ### PwNg -/
section
set_option linter.all false
set_option maxRecDepth 100000
set_option maxHeartbeats 8000000
/-! the law's small looks -/
namespace PwD
open PySem PySem.Spec PyProof.Rows L2 Evl Pw Wk PwH
section
variable {P : Program} {w : World} {K : PySem.W.Frag} {mg : Str → Option Value} {base : Heap}
def spWhole : Sp := fun vs H Q _ => ∃ i : Int, vs = [.int i] ∧ RetV (.bl true) H Q
theorem d_lwhole (T : Hd K mg) : Dn P w K mg base 1 "_law_whole" [] spWhole := by
  refine fn_dn (F__law_whole T) sc__law_whole (fun vs H Q E h => ?_) B__law_whole fun f cdv A outer s H vs Q E hr h => ?_
  · obtain ⟨_, rfl, _⟩ := h
    rfl
  · obtain ⟨i, rfl, kq⟩ := h
    exact w_ret (v := .bl (true && !false)) (v_and (v_bi call_isi T.fre.isi boot_isinstance (a_cons (vn 0) (a_cons (v_bn T.fre.int_ PyProof.Rows.boot_int) a_nil)) fun H1 e1 Q1 k1 => ⟨_, _, _, _, true, rfl, .ty "int", .base (.int i), kit_ty (by decide +kernel), k1 H1 (Ex.refl H1)⟩) fun _ => v_one (v_not (v_bi call_isi T.fre.isi boot_isinstance (a_cons (vn 0) (a_cons (v_bn T.fre.bool_ PyProof.Rows.boot_bool) a_nil)) fun H1 e1 Q1 k1 => ⟨_, _, _, _, false, rfl, .ty "bool", .base (.int i), kit_ty (by decide +kernel), k1 H1 (Ex.refl H1)⟩))) kq
theorem ty_tup {H : Hp} {q : Addr} {xs : List V} (h : SqT K H q xs) : TyX K H (.ref q) (.type "tuple") := by
  rcases h with (h | ⟨o, h⟩) | ⟨o, its, n, h, hc, _⟩
  · exact .base (.tup h)
  · exact .fTuple h
  · exact .kTuple h hc
def spIsRow (K : PySem.W.Frag) : Sp := fun vs H Q _ => ∃ (q : Addr) (n : Nat) (X : Nat → Int), vs = [.ref q, .int (n : Int)] ∧ SqT K H q (rowV n X) ∧ RetV (.bl true) H Q
theorem d_lisrow (T : Hd K mg) : Dn P w K mg base 2 "_law_is_row" [] (spIsRow K) := by
  refine fn_dn (F__law_is_row T) sc__law_is_row (fun vs H Q E h => ?_) B__law_is_row fun f cdv A outer s H vs Q E hr h => ?_
  · obtain ⟨_, _, _, rfl, _⟩ := h
    rfl
  · obtain ⟨q, n, X, rfl, hq, kq⟩ := h
    refine w_skip (k := !true || !decide ((n : Int) = (n : Int))) (t_bool (p_or (t_not (t_val (v_bi call_isi T.fre.isi boot_isinstance (a_cons (vn 0) (a_cons (v_bn T.fre.tuple_ PyProof.Rows.boot_tuple) a_nil)) fun H1 e1 Q1 k1 => ⟨_, _, _, _, true, rfl, .ty "tuple", ty_tup (ex_t e1 hq), kit_ty (by decide +kernel), k1 H1 (Ex.refl H1)⟩))) fun _ => p_or1 (t_neI (v_lenN (m := n) T.fre (vn 0) (.inr hq) rowV_len) (vn 1)))) (by simp) fun H1 x1 => ?_
    refine w_forS (Hb := H) (lv sc__law_is_row.nd 2) (vn 0) (.inr hq) (fun i σ' H' => ∃ y, σ' = [some (.ref q), some (.int (n : Int)), y] ∧ Ex H H') (fun _ _ H' ⟨_, _, z⟩ o => z _ o) (fun H2 x2 => ⟨none, rfl, x1.trans x2⟩) ?_ ?_
    · rintro i x σ' H2 hx ⟨y, rfl, x2⟩
      obtain ⟨hi, rfl⟩ := map_at_lt hx
      exact w_skip (k := !true) (t_not (t_val (v_call (d_lwhole T) (hr.mono (by decide)) (a_cons (vn 2) a_nil) fun H3 x3 Q3 k3 E3 => ⟨X i, rfl, k3⟩))) rfl fun H3 x3 => w_nil ⟨_, rfl, x2.trans x3⟩
    · rintro σ' H2 ⟨y, rfl, x2⟩
      exact w_ret v_bl fun H3 x3 => kq H3 (x2.trans x3)
end
end PwD
end
/-! ### PwNh -/
section
set_option linter.all false
set_option maxRecDepth 100000
set_option maxHeartbeats 8000000
/-! drawing from the pot -/
namespace PwD
open PySem PySem.Spec PyProof.Rows L2 Evl Pw Wk PwH
/-- all but p stays -/
def Exo (p : Addr) (H H' : Hp) : Prop := ∀ z, z ≠ p → ∀ o, H z = some o → H' z = some o
theorem Exo.trans {p : Addr} {H H1 H2 : Hp} (a : Exo p H H1) (b : Exo p H1 H2) : Exo p H H2 := fun z hz o ho => b z hz o (a z hz o ho)
theorem Exo.of {p : Addr} {H H1 : Hp} (a : Ex H H1) : Exo p H H1 := fun z _ o ho => a z o ho
/-- the pot: a list of numbers -/
def Pot (H : Hp) (p : Addr) : Prop := ∃ ns : List Nat, ns.length ≤ 100000 ∧ H p = some (.lst (lotV ns))
section
variable {P : Program} {w : World} {K : PySem.W.Frag} {mg : Str → Option Value} {base : Heap}
def spDraw : Sp := fun vs H Q _ => ∃ (p : Addr) (m : Nat), vs = [.ref p, .int (m : Int)] ∧ 1 ≤ m ∧ Pot H p ∧ ∀ (r : Nat) H2, r < m → Exo p H H2 → Pot H2 p → Q (.int (r : Int)) H2
theorem d_ldraw (T : Hd K mg) : Dn P w K mg base 1 "_law_draw" [] spDraw := by
  refine fn_dn (F__law_draw T) sc__law_draw (fun vs H Q E h => ?_) B__law_draw fun f cdv A outer s H vs Q E hr h => ?_
  · obtain ⟨_, _, rfl, _⟩ := h
    rfl
  · obtain ⟨p, m, rfl, hm, ⟨ns, hn, hp⟩, kq⟩ := h
    refine w_when (t_eqI (v_lenN (m := ns.length) T.fre (vn 0) (.ls hp) lotV_len) v_int) (fun hc H1 x1 => ?_) (fun hc H1 x1 => ?_)
    · exact w_ret v_int fun H2 x2 => kq 0 H2 hm (.of (x1.trans x2)) ⟨ns, hn, x2 _ _ (x1 _ _ hp)⟩
    · have hl : ns.length ≠ 0 := fun z => by
        have := of_decide_eq_false hc
        omega
      have hp1 := x1 _ _ hp
      have z0 : ns[ns.length - 1]? = some (ns[ns.length - 1]'(by omega)) := List.getElem?_eq_getElem (by omega)
      have e1 : (lotV ns)[(lotV ns).length - 1]? = some (.int ((ns[ns.length - 1]'(by omega) : Nat) : Int)) := by
        rw [lotV_len]
        unfold lotV
        rw [List.getElem?_map, z0]
        rfl
      refine w_retW (ofE (pe_op op_mod (pe_callTy call_int1 rfl T.fre.int_ PyProof.Rows.boot_int (pa_cons (pe_bm0 PySem.F.plainAttrs_list PySem.F.slot_list_pop PySem.F.type_list_pop mt_pop peW) pa_nil)) peW) ?_)
      refine (vn (v := .ref p) 0) H1 (Ex.refl H1) _ fun H2 x2 => ?_
      refine ⟨Or.inl ⟨rfl, lotV ns, sq_of (x2 _ _ hp1)⟩, p, lotV ns, _, rfl, rfl, x2 _ _ hp1, e1, ?_⟩
      refine .inl ⟨_, rfl, ?_⟩
      refine (vn (v := .int (m : Int)) 1) _ (Ex.refl _) _ fun H3 x3 => ?_
      refine ⟨_, _, rfl, rfl, by show (0 : Int) < (m : Int); omega, ?_⟩
      have eM : ((ns[ns.length - 1]'(by omega) : Nat) : Int) % (m : Int) = (((ns[ns.length - 1]'(by omega)) % m : Nat) : Int) := by omega
      show Q (.int (((ns[ns.length - 1]'(by omega) : Nat) : Int) % (m : Int))) H3
      rw [eM]
      refine kq _ H3 (Nat.mod_lt _ (by omega)) (fun z hz o ho => x3 _ _ (by rw [upd_ne hz]; exact x2 _ _ (x1 _ _ ho))) ⟨ns.dropLast, by rw [List.length_dropLast]; omega, ?_⟩
      rw [x3 _ _ upd_same]
      unfold lotV
      rw [List.map_dropLast]
end
end PwD
end
/-! ### PwNi -/
section
set_option linter.all false
set_option maxRecDepth 100000
set_option maxHeartbeats 8000000
/-! rows whose parts change the pot; _law_lot -/
namespace Wk
open PySem PySem.Spec PyProof.Rows L2 Evl Pw
section
variable {X : Cx} {a e : Expr} {body rest : List Stmt} {σ : L2.St} {H : Hp} {pos p p2 p3 : Pos} {n : Nat} {s : Str} {D0 : Ends}
theorem w_setW (lv : LV X n s) (h : WE X e σ H (fun u H1 => WS X rest D0 (σ.set n (some u)) H1)) (hs : swapsWith e (some (.Name s p)) pos.line X.env = pure false := by rfl) : WS X (.Assign [.Name s p] e pos :: rest) D0 σ H :=
  w_cons (ps_set lv.nd lv.ix lv.loc peW hs lv.fn) h
/-- for x in range(e), e changes things -/
theorem w_forRW (fr : Fre X.mg) (lw : LV X n s) (Pv : Nat → Nat → L2.St → Hp → Prop) (h : WE X a σ H (fun u H1 => ∃ m : Nat, u = .int (m : Int) ∧ m ≤ 100000 ∧ Pv m 0 σ H1))
    (hs : ∀ (m i : Nat) σ' H', i < m → Pv m i σ' H' → WS X body { D0 with nx := Pv m (i + 1), ct := Pv m (i + 1), bk := fun σ' H' => WS X rest D0 σ' H' } (σ'.set n (some (.int (i : Int)))) H') (hd : ∀ m σ' H', Pv m m σ' H' → WS X rest D0 σ' H')
    (hg : Gl X "range" := by rfl) (hp : PassesOwn (model X.prog X.w) X.A X.env X.xe := by exact passes_of rfl) (hc : X.calm = true := by rfl) (hst : starEach [a] X.env = (false, eval a X.env) :: starEach [] X.env := by rfl) (hst2 : starEach [a] X.env = [(false, eval a X.env)] := by rfl)
    (hf : ∀ x, foldedSetIterable (.Call (.Name "range" p2) [a] [] p3) X.env x = pure x := by intro _; rfl) :
    WS X (.For (.Name s p) (.Call (.Name "range" p2) [a] [] p3) body [] pos :: rest) D0 σ H :=
  w_cons (ps_for hp hc (pi_range1 hg fr.range_ (pa_cons peW pa_nil hst) hst2) (pg_name lw.nd lw.ix lw.loc lw.fn) pssW hf) (fun pins s0 I => thn (h pins s0 I) fun u s1 ⟨v, H1, I1, r1, m, hv, hm, h0⟩ => ⟨v, H1, I1, r1, (m : Int), by rw [hv], by omega, by omega, for_range (D := { D0 with nx := fun σ' H' => WS X rest D0 σ' H' }) (lo := 0) (n := ((m : Int)).toNat) (Pv m) h0 (fun i σ' H' hi p => by
    have e0 : (0 : Int) + (i : Int) = (i : Int) := Int.zero_add _
    show WS X body _ (σ'.set n (some (.int ((0 : Int) + (i : Int))))) H'
    rw [e0]
    exact hs m i σ' H' hi p) (hd m)⟩)
end
end Wk
namespace PwD
open PySem PySem.Spec PyProof.Rows L2 Evl Pw Wk PwH
section
variable {P : Program} {w : World} {K : PySem.W.Frag} {mg : Str → Option Value} {base : Heap}
/-- a draw, from a name -/
theorem e_draw (T : Hd K mg) {X : Cx} (hX : X.K = K ∧ X.mg = mg) {e1 e2 : Expr} {σ : L2.St} {H : Hp} {p : Addr} {m : Nat} {Q : VK} {pos p2 : Pos} (hr : Room 1 X.A) (h1 : VE X e1 σ H (.ref p)) (h2 : VE X e2 σ H (.int (m : Int))) (hm : 1 ≤ m) (hp : Pot H p)
    (k : ∀ (r : Nat) H2, r < m → Exo p H H2 → Pot H2 p → Q (.int (r : Int)) H2) (hg : Gl X "_law_draw" := by rfl) (he : starEach [e1, e2] X.env = (false, eval e1 X.env) :: starEach [e2] X.env := by rfl) (he2 : starEach [e2] X.env = (false, eval e2 X.env) :: starEach [] X.env := by rfl) (hpl : (backTo pos (starEach [e2] X.env)).any (·.1) = false := by rfl) : WE X (.Call (.Name "_law_draw" p2) [e1, e2] [] pos) σ H Q := by
  obtain ⟨rfl, rfl⟩ := hX
  refine e_call (E := E0) (R := fun vs H2 => vs = [.ref p, .int (m : Int)]) (d_ldraw T) hr passL (ad_consE h1 (ad_last (vd h2) (fun u H1 x1 hu => by rw [hu]) he2) he) (fun vs H1 x1 hv => ?_) hg (by decide) he hpl
  subst hv
  obtain ⟨ns, g1, g2⟩ := hp
  exact ⟨p, m, rfl, hm, ⟨ns, g1, x1 _ _ g2⟩, fun r H2 h1 h2 h3 => k r H2 h1 ((Exo.of x1).trans h2) h3⟩
def spLot : Sp := fun vs H Q _ => ∃ (p : Addr) (m : Nat), vs = [.ref p, .int (m : Int)] ∧ 1 ≤ m ∧ Pot H p ∧ ∀ (l : Addr) (ls : List Nat) H2, H l = none → Exo p H H2 → Pot H2 p → H2 l = some (.lst (lotV ls)) → ls ≠ [] → (∀ v ∈ ls, v < m) → ls.length ≤ 3 → Q (.ref l) H2
theorem d_llot (T : Hd K mg) : Dn P w K mg base 2 "_law_lot" [] spLot := by
  refine fn_dn (F__law_lot T) sc__law_lot (fun vs H Q E h => ?_) B__law_lot fun f cdv A outer s H vs Q E hr h => ?_
  · obtain ⟨_, _, rfl, _⟩ := h
    rfl
  · obtain ⟨p, m, rfl, hm, hp, kq⟩ := h
    refine w_setW (lv sc__law_lot.nd 2) (ofE (pe_lst (pa_cons peW pa_nil)) (e_draw T ⟨rfl, rfl⟩ hr (vn 0) (vn 1) hm hp fun r H1 h1 x1 p1 => ?_))
    refine ⟨sz_of (by simp), fun l hl => ?_⟩
    have hpl : p ≠ l := fun z => by
      obtain ⟨ns, _, e⟩ := p1
      rw [z, hl] at e
      cases e
    have hl0 : H l = none := by
      cases e : H l with
      | none => rfl
      | some o =>
        have := x1 l (fun z => hpl z.symm) o e
        rw [hl] at this
        cases this
    have x2 : Exo p H (upd H1 l (.lst [.int (r : Int)])) := fun z hz o ho => (Ex.new hl) _ _ (x1 z hz o ho)
    have p2 : Pot (upd H1 l (.lst [.int (r : Int)])) p := by
      obtain ⟨ns, g, e⟩ := p1
      exact ⟨ns, g, (Ex.new hl) _ _ e⟩
    refine w_forRW T.fre (lv sc__law_lot.nd 3) (fun mt i σ' H' => mt ≤ 2 ∧ ∃ y3 y4 ls, σ' = [some (.ref p), some (.int (m : Int)), some (.ref l), y3, y4] ∧ Exo p H H' ∧ Pot H' p ∧ H' l = some (.lst (lotV ls)) ∧ ls ≠ [] ∧ (∀ v ∈ ls, v < m) ∧ ls.length ≤ i + 1) (e_draw (m := 3) T ⟨rfl, rfl⟩ hr (vn 0) v_int (by omega) p2 fun r2 H2 h2 x3 p3 => ⟨r2, rfl, by omega, by omega, none, none, [r], rfl, x2.trans x3, p3, x3 l (fun z => hpl z.symm) _ upd_same, by simp, fun v hv => by
      have : v = r := by simpa using hv
      omega, by simp⟩) ?_ ?_
    · rintro mt i σ' H3 hi ⟨hmt, y3, y4, ls, rfl, x3, p3, h3, ne, hin, hlen⟩
      refine w_setW (lv sc__law_lot.nd 4) (e_draw T ⟨rfl, rfl⟩ hr (vn 0) (vn 1) hm p3 fun r2 H4 h4 x4 p4 => ?_)
      have h4' := x4 l (fun z => hpl z.symm) _ h3
      refine w_when (t_niS (vn 4) (vn 2) (.ls h4') rfl lot_flat) (fun hc H5 x5 => ?_) (fun hc H5 x5 => ?_)
      · refine w_app (q := l) (x5 _ _ h4') (vn 2) (vn 4) (by rw [lotV_len]; omega) fun H6 x6 => ?_
        refine w_nil (w_nil ⟨hmt, _, _, ls ++ [r2], rfl, fun z hz o ho => ?_, ?_, ?_, by simp, fun v hv => ?_, by rw [List.length_append, List.length_singleton]; omega⟩)
        · have : z ≠ l := fun e => by rw [e, hl0] at ho; cases ho
          rw [upd_ne this]
          exact x6 _ _ (x5 _ _ (x4 z hz o (x3 z hz o ho)))
        · obtain ⟨ns, g, e⟩ := p4
          exact ⟨ns, g, by rw [upd_ne hpl]; exact x6 _ _ (x5 _ _ e)⟩
        · rw [upd_same, lotV_app]
          rfl
        · rcases List.mem_append.mp hv with h | h
          · exact hin v h
          · have : v = r2 := by simpa using h
            omega
      · obtain ⟨ns, g, e⟩ := p4
        exact w_nil ⟨hmt, _, _, ls, rfl, (x3.trans x4).trans (.of x5), ⟨ns, g, x5 _ _ e⟩, x5 _ _ h4', ne, hin, by omega⟩
    · rintro mt σ' H3 ⟨hmt, y3, y4, ls, rfl, x3, ⟨ns, g, e⟩, h3, ne, hin, hlen⟩
      exact w_ret (vn 2) fun H4 x4 => kq l ls H4 hl0 (x3.trans (.of x4)) ⟨ns, g, x4 _ _ e⟩ (x4 _ _ h3) ne hin (by omega)
end
end PwD
end
/-! ### PwNj -/
section
set_option linter.all false
set_option maxRecDepth 100000
set_option maxHeartbeats 8000000
/-! _law_due -/
namespace PwD
open PySem PySem.Spec PyProof.Rows L2 Evl Pw Wk PwH
theorem le40 {x : Int} (h : x ≤ 10) : x ≤ 10 ^ 40 := Int.le_trans h (by decide)
theorem Pot.ex {H H' : Hp} {p : Addr} (e : Ex H H') (h : Pot H p) : Pot H' p := by
  obtain ⟨ns, g, z⟩ := h
  exact ⟨ns, g, e _ _ z⟩
section
variable {P : Program} {w : World} {K : PySem.W.Frag} {mg : Str → Option Value} {base : Heap}
def spLDue (K : PySem.W.Frag) : Sp := fun vs H Q _ => ∃ p : Addr, vs = [.ref p] ∧ Pot H p ∧ ∀ (u : V) (d : Du) H2, Exo p H H2 → Pot H2 p → DueV K H2 u d → d.nn → low40 d → Q u H2
theorem d_ldueP (T : Hd K mg) : Dn P w K mg base 2 "_law_due" [] (spLDue K) := by
  refine fn_dn (F__law_due T) sc__law_due (fun vs H Q E h => ?_) B__law_due fun f cdv A outer s H vs Q E hr h => ?_
  · obtain ⟨_, rfl, _⟩ := h
    rfl
  · obtain ⟨p, rfl, hp, kq⟩ := h
    refine w_setW (lv sc__law_due.nd 1) (e_draw (m := 6) T ⟨rfl, rfl⟩ hr (vn 0) v_int (by omega) hp fun r H1 h1 x1 p1 => ?_)
    refine w_when (t_le (vn 1) v_int) (fun hc H2 x2 => ?_) (fun hc H2 x2 => ?_)
    · exact w_retU (v_tup (a_cons v_str (a_cons v_int a_nil)) (by simp)) fun q H3 hq x3 h3 => kq _ (.chips 0) H3 (x1.trans (.of (x2.trans x3))) ((p1.ex x2).ex x3) ⟨q, rfl, st_of h3⟩ (by show (0 : Int) ≤ 0; omega) (by show (0 : Int) ≤ 10 ^ 40; decide)
    · have p2 := p1.ex x2
      have x12 : Exo p H H2 := x1.trans (.of x2)
      refine w_when (t_eqI (vn 1) v_int) (fun hc3 H3 x3 => ?_) (fun hc3 H3 x3 => ?_)
      · refine w_retW (ofE (pe_tup (pa_cons peW (pa_cons (pe_op op_add peW peW) pa_nil))) ?_)
        refine v_str H3 (Ex.refl H3) _ fun H4 x4 => ?_
        refine v_int H4 (Ex.refl H4) _ fun H5 x5 => ?_
        refine e_draw (m := 4) T ⟨rfl, rfl⟩ hr (vn 0) v_int (by omega) (((p2.ex x3).ex x4).ex x5) fun r2 H6 h6 x6 p6 => ?_
        refine ⟨_, _, rfl, rfl, ?_⟩
        refine ⟨sz_of (by simp), fun q hq => ?_⟩
        have e : Ex H6 (upd H6 q (.tup [.str "chips", .int (1 + (r2 : Int))])) := Ex.new hq
        exact kq _ (.chips (1 + (r2 : Int))) _ (((x12.trans (.of ((x3.trans x4).trans x5))).trans x6).trans (.of e)) (p6.ex e) ⟨q, rfl, st_of upd_same⟩ (by show (0 : Int) ≤ 1 + (r2 : Int); omega) (le40 (by omega))
      · refine w_when (t_eqI (vn 1) v_int) (fun hc4 H4 x4 => ?_) (fun hc4 H4 x4 => ?_)
        · refine w_retW (ofE (pe_tup (pa_cons peW (pa_cons (pe_op op_add peW peW) pa_nil))) ?_)
          refine v_str H4 (Ex.refl H4) _ fun H5 x5 => ?_
          refine v_int H5 (Ex.refl H5) _ fun H6 x6 => ?_
          refine e_draw (m := 3) T ⟨rfl, rfl⟩ hr (vn 0) v_int (by omega) ((((p2.ex x3).ex x4).ex x5).ex x6) fun r2 H7 h7 x7 p7 => ?_
          refine ⟨_, _, rfl, rfl, ?_⟩
          refine ⟨sz_of (by simp), fun q hq => ?_⟩
          have e : Ex H7 (upd H7 q (.tup [.str "less", .int (1 + (r2 : Int))])) := Ex.new hq
          exact kq _ (.less (1 + (r2 : Int))) _ (((x12.trans (.of (((x3.trans x4).trans x5).trans x6))).trans x7).trans (.of e)) (p7.ex e) ⟨q, rfl, st_of upd_same⟩ (by show (0 : Int) ≤ 1 + (r2 : Int); omega) (le40 (by omega))
        · exact w_ret v_non fun H5 x5 => kq _ .none H5 (x12.trans (.of ((x3.trans x4).trans x5))) (((p2.ex x3).ex x4).ex x5) rfl trivial trivial
end
end PwD
end
/-! ### PwNk -/
section
set_option linter.all false
set_option maxRecDepth 100000
set_option maxHeartbeats 8000000
/-! _law_path -/
namespace Wk
open PySem PySem.Spec PyProof.Rows L2 Evl Pw
theorem ldn {X : Cx} {e : Expr} {σ : L2.St} {H : Hp} {xs : List V} (h : VL X e σ H xs) : VD X e σ H (fun u H2 => ∃ p : Addr, u = .ref p ∧ H p = none ∧ H2 p = some (.lst xs)) := fun H1 e1 Q g => h H1 e1 Q fun q H2 hq e2 h2 => g _ H2 e2 ⟨q, rfl, fresh_back e1 hq, h2⟩
end Wk
namespace PwD
open PySem PySem.Spec PyProof.Rows L2 Evl Pw Wk PwH
def pathS (n v : Nat) : List Nat := if v < 2 then [] else [if v = 2 then 0 else v - 1, if v = n - 1 then 1 else v + 1]
section
variable {P : Program} {w : World} {K : PySem.W.Frag} {mg : Str → Option Value} {base : Heap}
def spPath : Sp := fun vs H Q _ => ∃ n : Nat, vs = [.int (n : Int)] ∧ 2 ≤ n ∧ n ≤ 100 ∧ ∀ (D : Addr) (ps : List Addr) H2, H D = none → Ex H H2 → H2 D = some (.lst (ps.map V.ref)) → ps.length = n → (∀ (j : Nat) (p : Addr), ps[j]? = some p → H p = none ∧ H2 p = some (.lst (lotV (pathS n j)))) → Q (.ref D) H2
theorem d_lpath (T : Hd K mg) : Dn P w K mg base 1 "_law_path" [] spPath := by
  refine fn_dn (F__law_path T) sc__law_path (fun vs H Q E h => ?_) B__law_path fun f cdv A outer s H vs Q E hr h => ?_
  · obtain ⟨_, rfl, _⟩ := h
    rfl
  · obtain ⟨n, rfl, hn, hn2, kq⟩ := h
    refine w_setD (lv sc__law_path.nd 1) (v_lstAD (R := fun vs H2 => ∃ a b, vs = [.ref a, .ref b] ∧ H a = none ∧ H b = none ∧ H2 a = some (.lst []) ∧ H2 b = some (.lst [])) (ad_cons (ldn (v_lst a_nil (by simp))) fun u H1 x1 hu => ad_last (ldn (v_lst a_nil (by simp))) fun u2 H2 x2 hu2 => ?_) (fun vs H1 ⟨a, b, e, _⟩ => by rw [e]; simp)) fun u H1 x1 hu => ?_
    · obtain ⟨p1, rfl, n1, a1⟩ := hu
      obtain ⟨p2, rfl, n2, a2⟩ := hu2
      exact ⟨p1, p2, rfl, n1, fresh_back x1 n2, x2 _ _ a1, a2⟩
    · obtain ⟨D, vs, H2, rfl, hD, ⟨p1, p2, rfl, n1, n2, a1, a2⟩, x2, x3, h1⟩ := hu
      refine w_forR2 T.fre (lv sc__law_path.nd 2) (lo := 2) (j := (n : Int)) v_int (vn 0) (by omega) (fun i σ' H' => ∃ y2 y3 y4 ps, σ' = [some (.int (n : Int)), some (.ref D), y2, y3, y4] ∧ Ex H H' ∧ H' D = some (.lst (ps.map V.ref)) ∧ ps.length = 2 + i ∧ ∀ (j : Nat) (p : Addr), ps[j]? = some p → H p = none ∧ p ≠ D ∧ H' p = some (.lst (lotV (pathS n j))))
        (fun H3 x4 => ⟨none, none, none, [p1, p2], rfl, x1.trans x4, x4 _ _ h1, rfl, fun j p hj => ?_⟩) ?_ ?_
      · have d1 : p1 ≠ D := fun z => by
          have := x3 _ _ a1
          rw [z, h1] at this
          cases this
        have d2 : p2 ≠ D := fun z => by
          have := x3 _ _ a2
          rw [z, h1] at this
          cases this
        match j, hj with
        | 0, hj => obtain rfl : p1 = p := by simpa using hj
                   exact ⟨n1, d1, x4 _ _ (x3 _ _ a1)⟩
        | 1, hj => obtain rfl : p2 = p := by simpa using hj
                   exact ⟨n2, d2, x4 _ _ (x3 _ _ a2)⟩
      · rintro i σ' H3 hi ⟨y2, y3, y4, ps, rfl, x4, h3, hl, hp⟩
        obtain ⟨lo, hlo⟩ : ∃ lo : Int, lo = if (2 : Int) + (i : Int) = 2 then 0 else 2 + (i : Int) - 1 := ⟨_, rfl⟩
        obtain ⟨hh, hhi⟩ : ∃ hh : Int, hh = if (2 : Int) + (i : Int) = (n : Int) - 1 then 1 else 2 + (i : Int) + 1 := ⟨_, rfl⟩
        refine w_set (lv sc__law_path.nd 3) (v_sub (vn 2) v_int) fun H4 x5 => ?_
        refine w_ifM (fun σ' H' => σ' = [some (.int (n : Int)), some (.ref D), some (.int (2 + (i : Int))), some (.int lo), y4] ∧ Ex H3 H') (t_eqI (vn 2) v_int) (fun hc H5 x6 => w_set (lv sc__law_path.nd 3) v_int fun H6 x7 => w_nil ⟨by rw [hlo, if_pos (of_decide_eq_true hc)]; rfl, (x5.trans x6).trans x7⟩) (fun hc H5 x6 => w_nil ⟨by rw [hlo, if_neg (of_decide_eq_false hc)]; rfl, x5.trans x6⟩) ?_
        rintro σ' H5 ⟨rfl, x6⟩
        refine w_set (lv sc__law_path.nd 4) (v_add (vn 2) v_int) fun H6 x7 => ?_
        refine w_ifM (fun σ' H' => σ' = [some (.int (n : Int)), some (.ref D), some (.int (2 + (i : Int))), some (.int lo), some (.int hh)] ∧ Ex H3 H') (t_eqI (vn 2) (v_sub (vn 0) v_int)) (fun hc H7 x8 => w_set (lv sc__law_path.nd 4) v_int fun H8 x9 => w_nil ⟨by rw [hhi, if_pos (of_decide_eq_true hc)]; rfl, ((x6.trans x7).trans x8).trans x9⟩) (fun hc H7 x8 => w_nil ⟨by rw [hhi, if_neg (of_decide_eq_false hc)]; rfl, (x6.trans x7).trans x8⟩) ?_
        rintro σ' H7 ⟨rfl, x8⟩
        have x47 := x4.trans x8
        have h7 := x8 _ _ h3
        refine w_appD (q := D) h7 (vn 1) (ldn (v_lst (a_cons (vn 3) (a_cons (vn 4) a_nil)) (by simp))) (by rw [List.length_map]; omega) fun u H8 x9 hu => ?_
        obtain ⟨q, rfl, hq, h8⟩ := hu
        have dq : q ≠ D := (ne_of_none h7 hq).symm
        refine w_nil ⟨_, _, _, ps ++ [q], rfl, Ex.mut (x47.trans x9) hD, by rw [upd_same, List.map_append]; rfl, by rw [List.length_append, hl]; rfl, fun j p hj => ?_⟩
        by_cases hjl : j < ps.length
        · rw [List.getElem?_append_left hjl] at hj
          obtain ⟨b1, b2, b3⟩ := hp j p hj
          exact ⟨b1, b2, by rw [upd_ne b2]; exact x9 _ _ (x8 _ _ b3)⟩
        · rw [List.getElem?_append_right (by omega)] at hj
          have e : j - ps.length = 0 := by
            have := (List.getElem?_eq_some_iff.mp hj).1
            rw [List.length_singleton] at this
            omega
          rw [e] at hj
          obtain rfl : q = p := by simpa using hj
          refine ⟨fresh_back x47 hq, dq, ?_⟩
          rw [upd_ne dq, h8]
          have ej : j = 2 + i := by omega
          subst ej
          have e1 : lo = ((if 2 + i = 2 then 0 else 2 + i - 1 : Nat) : Int) := by
            rw [hlo]
            by_cases g : i = 0
            · subst g; rfl
            · rw [if_neg (by omega), if_neg (by omega)]; omega
          have e2 : hh = ((if 2 + i = n - 1 then 1 else 2 + i + 1 : Nat) : Int) := by
            rw [hhi]
            by_cases g : 2 + i = n - 1
            · rw [if_pos (by omega), if_pos g]; rfl
            · rw [if_neg (by omega), if_neg g]; omega
          rw [e1, e2]
          have e3 : pathS n (2 + i) = [if 2 + i = 2 then 0 else 2 + i - 1, if 2 + i = n - 1 then 1 else 2 + i + 1] := if_neg (show ¬ (2 + i < 2) by omega)
          rw [e3]
          rfl
      · rintro σ' H3 ⟨y2, y3, y4, ps, rfl, x4, h3, hl, hp⟩
        exact w_ret (vn 1) fun H4 x5 => kq D ps H4 hD (x4.trans x5) (x5 _ _ h3) (by omega) fun j p hj => ⟨(hp j p hj).1, x5 _ _ (hp j p hj).2.2⟩
end
end PwD
end
/-! ### PwNl -/
section
set_option linter.all false
set_option maxRecDepth 100000
set_option maxHeartbeats 8000000
/-! comprehensions that change things -/
namespace Wk
open PySem PySem.Spec PyProof.Rows L2 Evl Pw
section
variable {X : Cx} {a it elt c : Expr} {ifs : List Expr} {σ : L2.St} {H : Hp} {pos p p2 p3 : Pos} {n m : Nat} {s : Str} {q : Addr} {xs : List V} {sc : Scope} {Q : VK}
/-- the answer of a test, of a part, in every block -/
abbrev WTB (X : Cx) (sc : Scope) (c : Expr) (σ : L2.St) (H : Hp) (R : Bool → Hp → Prop) : Prop := ∀ (s0 : Shared) (H0 : Hp) (C : Addr) (cl : List (Str × Addr)) (fp : List Addr), WT (X.blk s0 H0 sc (compEnvC sc cl C X.env) fp) c σ H R
abbrev WEB (X : Cx) (sc : Scope) (e : Expr) (σ : L2.St) (H : Hp) (R : VK) : Prop := ∀ (s0 : Shared) (H0 : Hp) (C : Addr) (cl : List (Str × Addr)) (fp : List Addr), WE (X.blk s0 H0 sc (compEnvC sc cl C X.env) fp) e σ H R
/-- [elt for x in range(a)] -/
theorem e_lcR (fr : Fre X.mg) (nd : X.N.Nodup) (ok : BlkOk X.N X.env.scope sc [(s, n)]) (h : VE X a σ H (.int (m : Int))) (hz : m ≤ 40000) (Pv : Addr → Nat → Hp → Prop) (h0 : ∀ D H1, Ex H H1 → H1 D = none → Pv D 0 (upd H1 D (.lst [])))
    (he : ∀ D i H', i < m → Pv D i H' → WEB X sc elt (σ.set n (some (.int (i : Int)))) H' (fun y H4 => ∃ acc, H4 D = some (.lst acc) ∧ acc.length < sizeLine ∧ Pv D (i + 1) (upd H4 D (.lst (acc ++ [y]))))) (hd : ∀ D H', Pv D m H' → Q (.ref D) H')
    (hc : X.calm = true := by rfl) (hl : sc.names.lookup s = some .local := by rfl) (hg : Gl X "range" := by rfl) (hst : starEach [a] X.env = (false, eval a X.env) :: starEach [] X.env := by rfl) (hst2 : starEach [a] X.env = [(false, eval a X.env)] := by rfl)
    (hs : ∀ x, foldedSetIterable (.Call (.Name "range" p2) [a] [] p3) X.env x = pure x := by intro _; rfl) : WE X (.ListComp elt [⟨.Name s p, .Call (.Name "range" p2) [a] [] p3, [], 0⟩] sc pos) σ H Q := by
  refine ofE (pe_lcW (ifs := []) nd hc ok hl (pi_range1 hg fr.range_ paW hst2) (by simp) hs) (a_cons h a_nil hst H (Ex.refl H) _ fun H1 e1 => ⟨(m : Int), rfl, by omega, by omega, fun D hD => lc_range (lo := 0) (n := ((m : Int)).toNat) (Pv D) (h0 D H1 e1 hD) (fun i H' hi p => ?_) (hd D)⟩)
  have e0 : (0 : Int) + (i : Int) = (i : Int) := Int.zero_add _
  show wipe ((wipe σ [n]).set n (some (.int ((0 : Int) + (i : Int))))) [n] = wipe σ [n] ∧ tYes ((wipe σ [n]).set n (some (.int ((0 : Int) + (i : Int))))) H' fun b H3 => if b = true then WEb X sc elt ((wipe σ [n]).set n (some (.int ((0 : Int) + (i : Int))))) H3 fun y H4 => ∃ acc, H4 D = some (.lst acc) ∧ acc.length < sizeLine ∧ Pv D (i + 1) (upd H4 D (.lst (acc ++ [y]))) else Pv D (i + 1) H3
  rw [e0]
  refine ⟨wwipe _, ?_⟩
  rw [wset]
  show WEb X sc elt (σ.set n (some (.int (i : Int)))) H' _
  exact fun s0 H0 C cl fp => he D i H' hi p s0 H0 C cl fp
end
end Wk
namespace PwD
open PySem PySem.Spec PyProof.Rows L2 Evl Pw Wk PwH
section
variable {P : Program} {w : World} {K : PySem.W.Frag} {mg : Str → Option Value} {base : Heap}
def spMarks : Sp := fun vs H Q _ => ∃ (p : Addr) (n : Nat), vs = [.ref p, .int (n : Int)] ∧ n ≤ 100 ∧ Pot H p ∧ ∀ (l : Addr) (mk : Nat → Int) H2, H l = none → Exo p H H2 → Pot H2 p → H2 l = some (.lst (rowV n mk)) → (∀ v, v < n → mk v = 1 ∨ mk v = 2) → Q (.ref l) H2
theorem d_lmarks (T : Hd K mg) : Dn P w K mg base 2 "_law_marks" [] spMarks := by
  refine fn_dn (F__law_marks T) sc__law_marks (fun vs H Q E h => ?_) B__law_marks fun f cdv A outer s H vs Q E hr h => ?_
  · obtain ⟨_, _, rfl, _⟩ := h
    rfl
  · obtain ⟨p, n, rfl, hn, hp, kq⟩ := h
    refine w_setW (lv sc__law_marks.nd 2) (e_draw (m := 4) T ⟨rfl, rfl⟩ hr (vn 0) v_int (by omega) hp fun r H1 h1 x1 p1 => ?_)
    refine w_when (t_le (vn 2) v_int) (fun hc H2 x2 => ?_) (fun hc H2 x2 => ?_)
    · have hr1 : (r : Int) ≤ 1 := of_decide_eq_true hc
      refine w_retL (xs := rowV n fun _ => 1 + (r : Int)) (ccv (c_mapR (n := 3) T.fre sc__law_marks.nd (bk sc__law_marks (by decide +kernel)) (vn 1) (by omega) (fun _ => .int (1 + (r : Int))) (fun i hi s0 H0 C cl1 fp => v_add v_int (vn 2)))) fun l H3 hl x3 h3 => ?_
      have hl0 : H l = none := by
        cases e : H l with
        | none => rfl
        | some o =>
          by_cases z : l = p
          · obtain ⟨ns, _, e2⟩ := p1.ex x2
            rw [z, e2] at hl
            cases hl
          · have := x2 _ _ (x1 l z o e)
            rw [hl] at this
            cases this
      exact kq l _ H3 hl0 (x1.trans (.of (x2.trans x3))) ((p1.ex x2).ex x3) h3 fun v _ => by omega
    · have p2 := p1.ex x2
      have x12 : Exo p H H2 := x1.trans (.of x2)
      refine w_retW (e_lcR (n := 3) (m := n) T.fre sc__law_marks.nd (bk sc__law_marks (by decide +kernel)) (vn 1) (by omega) (fun D i H' => H D = none ∧ p ≠ D ∧ Exo p H H' ∧ Pot H' p ∧ ∃ us : List Int, H' D = some (.lst (us.map V.int)) ∧ us.length = i ∧ ∀ u ∈ us, u = 1 ∨ u = 2) (fun D H3 x3 hD => ?_) (fun D i H' hi ⟨hD, nD, x', p', us, h', hl, hu⟩ s0 H0 C cl1 fp => ?_) (fun D H' ⟨hD, nD, x', p', us, h', hl, hu⟩ => ?_))
      · have pp := p2.ex x3
        have nD : p ≠ D := fun z => by
          obtain ⟨ns, _, e⟩ := pp
          rw [z, hD] at e
          cases e
        have hD0 : H D = none := by
          cases e : H D with
          | none => rfl
          | some o =>
            have := x3 _ _ (x12 D (fun z => nD z.symm) o e)
            rw [hD] at this
            cases this
        exact ⟨hD0, nD, x12.trans ((Exo.of x3).trans (.of (Ex.new hD))), pp.ex (Ex.new hD), [], upd_same, rfl, fun u hu => by simp at hu⟩
      · refine ofE (pe_op op_add peW peW) (v_int H' (Ex.refl H') _ fun H3 x3 => ?_)
        refine e_draw (m := 2) T ⟨rfl, rfl⟩ hr (vn 0) v_int (by omega) (p'.ex x3) fun r2 H4 h4 x4 p4 => ?_
        refine ⟨_, _, rfl, rfl, us.map V.int, x4 D (fun z => nD z.symm) _ (x3 _ _ h'), sz_lt (by rw [List.length_map]; omega), hD, nD, fun z hz o ho => ?_, ?_, us ++ [1 + (r2 : Int)], ?_, by rw [List.length_append, hl]; rfl, fun u hu' => ?_⟩
        · have : z ≠ D := fun e => by rw [e, hD] at ho; cases ho
          rw [upd_ne this]
          exact x4 z hz o (x3 _ _ (x' z hz o ho))
        · obtain ⟨ns, g, e⟩ := p4
          exact ⟨ns, g, by rw [upd_ne nD]; exact e⟩
        · rw [upd_same, List.map_append]; rfl
        · rcases List.mem_append.mp hu' with h | h
          · exact hu u h
          · have : u = 1 + (r2 : Int) := by simpa using h
            omega
      · refine kq D (fun v => us.getD v 0) H' hD x' p' ?_ fun v hv => ?_
        · rw [h', rowV_ints]
          congr 3
          apply List.ext_getElem?
          intro j
          by_cases hj : j < n
          · rw [map_at hj, List.getD_eq_getElem?_getD, List.getElem?_eq_getElem (by omega)]
            rfl
          · rw [List.getElem?_eq_none (by omega), List.getElem?_eq_none (by rw [List.length_map, List.length_range]; omega)]
        · show us.getD v 0 = 1 ∨ us.getD v 0 = 2
          rw [List.getD_eq_getElem?_getD, List.getElem?_eq_getElem (by omega)]
          exact hu _ (List.getElem_mem _)
end
end PwD
end
/-! ### PwNm -/
section
set_option linter.all false
set_option maxRecDepth 100000
set_option maxHeartbeats 8000000
/-! comprehensions over a list whose test changes things -/
namespace Wk
open PySem PySem.Spec PyProof.Rows L2 Evl Pw
section
variable {X : Cx} {it elt c : Expr} {σ : L2.St} {H : Hp} {pos p : Pos} {n : Nat} {s : Str} {q : Addr} {xs : List V} {sc : Scope} {Q : VK}
/-- [elt for x in xs if c], xs a list -/
theorem e_lcL (nd : X.N.Nodup) (ok : BlkOk X.N X.env.scope sc [(s, n)]) (h : VE X it σ H (.ref q)) (hq : SqL X.K H q xs) (Pv : Addr → Nat → Hp → Prop) (hk : ∀ D i H', Pv D i H' → SqL X.K H' q xs) (h0 : ∀ D H1, Ex H H1 → H1 D = none → Pv D 0 (upd H1 D (.lst [])))
    (he : ∀ D i x H', xs[i]? = some x → Pv D i H' → WTB X sc c (σ.set n (some x)) H' (fun b H3 => if b = true then WEB X sc elt (σ.set n (some x)) H3 (fun y H4 => ∃ acc, H4 D = some (.lst acc) ∧ acc.length < sizeLine ∧ Pv D (i + 1) (upd H4 D (.lst (acc ++ [y])))) else Pv D (i + 1) H3)) (hd : ∀ D H', Pv D xs.length H' → Q (.ref D) H')
    (hc : X.calm = true := by rfl) (hl : sc.names.lookup s = some .local := by rfl) (hs : ∀ x, foldedSetIterable it X.env x = pure x := by intro _; rfl) : WE X (.ListComp elt [⟨.Name s p, it, [c], 0⟩] sc pos) σ H Q := by
  refine ofE (pe_lcW (ifs := [c]) nd hc ok hl (pi_list peW) (by simp) hs) (h H (Ex.refl H) _ fun H1 e1 => ⟨q, rfl, ⟨xs, ex_l e1 hq⟩, fun D hD => lc_list (xs := xs) (Pv D) (h0 D H1 e1 hD) (fun i H' _ p => hk D i H' p) (fun i x H' hx p => ?_) (hd D)⟩)
  refine ⟨wwipe x, ?_⟩
  rw [wset]
  exact fun s0 H0 C cl fp => he D i x H' hx p s0 H0 C cl fp
end
end Wk
end
/-! ### PwNn -/
section
set_option linter.all false
set_option maxRecDepth 100000
set_option maxHeartbeats 8000000
/-! facts apart from the pot -/
namespace PwD
open PySem PySem.Spec PyProof.Rows L2 Evl Pw Wk PwH
/-- the heap without p -/
def rem (H : Hp) (p : Addr) : Hp := fun z => if z = p then none else H z
theorem rem_ex {H H2 : Hp} {p : Addr} (e : Exo p H H2) : Ex (rem H p) H2 := fun z o h => by
  unfold rem at h
  by_cases hz : z = p
  · rw [if_pos hz] at h; cases h
  · rw [if_neg hz] at h; exact e z hz o h
theorem rem_rem {H H2 : Hp} {p : Addr} (e : Exo p H H2) : Ex (rem H p) (rem H2 p) := fun z o h => by
  unfold rem at h ⊢
  by_cases hz : z = p
  · rw [if_pos hz] at h; cases h
  · rw [if_neg hz] at h ⊢; exact e z hz o h
theorem rem_self {H : Hp} {p : Addr} : Ex (rem H p) H := rem_ex fun _ _ _ h => h
end PwD
end
/-! ### PwNp -/
section
set_option linter.all false
set_option maxRecDepth 100000
set_option maxHeartbeats 8000000
/-! y = [..], the test changes things -/
namespace Wk
open PySem PySem.Spec PyProof.Rows L2 Evl Pw
section
variable {X : Cx} {it elt c : Expr} {σ : L2.St} {H : Hp} {pos pos2 p p2 : Pos} {n m : Nat} {s f : Str} {q : Addr} {xs : List V} {sc : Scope} {rest : List Stmt} {D0 : Ends}
theorem w_setCW (lw : LV X m f) (hy : X.env.scope.names.lookup f = some .local) (nd : X.N.Nodup) (ok : BlkOk X.N X.env.scope sc [(s, n)]) (h : VE X it σ H (.ref q)) (hq : SqL X.K H q xs) (hsw : swapsWith (.ListComp elt [⟨.Name s p, it, [c], 0⟩] sc pos) (some (.Name f p2)) pos2.line X.env = pure true) (Pv : Addr → Nat → Hp → Prop) (hk : ∀ D i H', Pv D i H' → SqL X.K H' q xs) (h0 : ∀ D H1, Ex H H1 → H1 D = none → Pv D 0 (upd H1 D (.lst [])))
    (he : ∀ D i x H', xs[i]? = some x → Pv D i H' → WTB X sc c (σ.set n (some x)) H' (fun b H3 => if b = true then WEB X sc elt (σ.set n (some x)) H3 (fun y H4 => ∃ acc, H4 D = some (.lst acc) ∧ acc.length < sizeLine ∧ Pv D (i + 1) (upd H4 D (.lst (acc ++ [y])))) else Pv D (i + 1) H3)) (hd : ∀ D H', Pv D xs.length H' → WS X rest D0 (σ.set m (some (.ref D))) H')
    (hc : X.calm = true := by rfl) (hl : sc.names.lookup s = some .local := by rfl) (hs : ∀ x, foldedSetIterable it X.env x = pure x := by intro _; rfl) : WS X (.Assign [.Name f p2] (.ListComp elt [⟨.Name s p, it, [c], 0⟩] sc pos) pos2 :: rest) D0 σ H := by
  refine w_cons (ps_setLc (own := [(s, n)]) hc nd lw.ix hy hsw (pi_list peW) ok (fun s0 H0 C cl fp => pgb nd ok hl s0 H0 C cl fp) (fun s0 H0 C cl fp => ptsW (ifs := [c]) (by simp) s0 H0 C cl fp) (fun s0 H0 C cl fp => peb s0 H0 C cl fp) hs) (h H (Ex.refl H) _ fun H1 e1 => ⟨q, rfl, ⟨xs, ex_l e1 hq⟩, fun D hD => lc_list (xs := xs) (Pv D) (h0 D H1 e1 hD) (fun i H' _ p => hk D i H' p) (fun i x H' hx p => ?_) (hd D)⟩)
  refine ⟨wwipe x, ?_⟩
  show WIb X sc [c] (List.set (wipe σ [n]) n (some x)) H' fun b H3 => if b = true then WEb X sc elt (List.set (wipe σ [n]) n (some x)) H3 fun y H4 => ∃ acc, H4 D = some (.lst acc) ∧ acc.length < sizeLine ∧ Pv D (i + 1) (upd H4 D (.lst (acc ++ [y]))) else Pv D (i + 1) H3
  rw [wset]
  exact fun s0 H0 C cl fp => he D i x H' hx p s0 H0 C cl fp
end
end Wk
end
/-! ### PwNo -/
section
set_option linter.all false
set_option maxRecDepth 100000
set_option maxHeartbeats 8000000
/-! _law_calls -/
namespace Wk
open PySem PySem.Spec PyProof.Rows L2 Evl Pw
theorem it_t {a b : Prop} (h : a) : if true = true then a else b := by rw [if_pos rfl]; exact h
theorem it_f {a b : Prop} (h : b) : if false = true then a else b := by rw [if_neg (by simp)]; exact h
theorem w_ifW {X : Cx} {c : Expr} {st1 st2 rest : List Stmt} {σ : L2.St} {H : Hp} {pos : Pos} {D0 : Ends} (h : WT X c σ H (fun b H1 => if b = true then WS X st1 { D0 with nx := fun σ' H' => WS X rest D0 σ' H' } σ H1 else WS X st2 { D0 with nx := fun σ' H' => WS X rest D0 σ' H' } σ H1)) : WS X (.If c st1 st2 pos :: rest) D0 σ H :=
  w_cons (ps_if ptW pssW pssW) h
end Wk
namespace PwD
open PySem PySem.Spec PyProof.Rows L2 Evl Pw Wk PwH
theorem none_back {H H2 : Hp} {p l : Addr} (e : Exo p H H2) (hp : ∃ o, H2 p = some o) (hl : H2 l = none) : H l = none := by
  cases h : H l with
  | none => rfl
  | some o =>
    by_cases z : l = p
    · obtain ⟨o2, h2⟩ := hp
      rw [z, h2] at hl
      cases hl
    · have := e l z o h
      rw [hl] at this
      cases this
theorem Pot.at {H : Hp} {p : Addr} (h : Pot H p) : ∃ o, H p = some o := by
  obtain ⟨ns, _, e⟩ := h
  exact ⟨_, e⟩
section
variable {P : Program} {w : World} {K : PySem.W.Frag} {mg : Str → Option Value} {base : Heap}
def spCalls (K : PySem.W.Frag) : Sp := fun vs H Q _ => ∃ (p q : Addr) (W : Web), vs = [.ref p, .ref q] ∧ W.Ok ∧ Pot H p ∧ LWeb K (rem H p) q W ∧ ∀ (l : Addr) (cs : List Nat) H2, H l = none → Exo p H H2 → Pot H2 p → H2 l = some (.lst (lotV cs)) → cs.Nodup → (∀ v ∈ cs, v < W.n ∧ W.mv v = true) → cs.Pairwise (· < ·) → Q (.ref l) H2
theorem d_lcalls (T : Hd K mg) : Dn P w K mg base 2 "_law_calls" [] (spCalls K) := by
  refine fn_dn (F__law_calls T) sc__law_calls (fun vs H Q E h => ?_) B__law_calls fun f cdv A outer s H vs Q E hr h => ?_
  · obtain ⟨_, _, _, rfl, _⟩ := h
    rfl
  · obtain ⟨p, q, W, rfl, ok, hp, hW, kq⟩ := h
    have hn5 := ok.n5
    obtain ⟨qf, qs, qm, qd, hL, ⟨as, ha, hl⟩, _, _, _⟩ := hW.ex rem_self
    refine w_setC (xs := filV W.n W.mv) (lv sc__law_calls.nd 2) rfl (c_fltR (n := 4) T.fre sc__law_calls.nd (bk sc__law_calls (by decide +kernel)) (v_lenN (m := W.n) T.fre (v_ix (n := 0) (vn 1) v_int (.inl hL) rfl) ha refV_len) (by omega) W.mv iv (fun v hv s0 H0 C cl1 fp => by
      rw [← lenp_mv]
      exact t_gt (v_lenN (m := (W.s1 v).length) T.fre (v_ix (n := v) (v_ix (n := 0) (vn 1) v_int (.inl hL) rfl) (vn 4) ha (refV_at hv)) (hl v hv) lotV_len) v_int) (fun v hv _ s0 H0 C cl1 fp => vn 4)) (sw_true rfl rfl rfl (by decide +kernel)) fun pm H1 hpm x1 h1 => ?_
    have hpm0 : H pm = none := hpm
    have p1 := hp.ex x1
    have npm : pm ≠ p := fun z => by
      obtain ⟨o, e⟩ := hp.at
      rw [← z, hpm0] at e
      cases e
    obtain ⟨ms, hms⟩ : ∃ ms, ms = (List.range W.n).filter W.mv := ⟨_, rfl⟩
    have h1' : H1 pm = some (.lst (lotV ms)) := by rw [hms]; exact h1
    have mlen : ms.length ≤ W.n := by
      rw [hms]
      have := List.length_filter_le W.mv (List.range W.n)
      rw [List.length_range] at this
      exact this
    have mmem : ∀ v ∈ ms, v < W.n ∧ W.mv v = true := fun v hv => by rw [hms] at hv; exact in_filL.mp hv
    have mnd : ms.Nodup := by rw [hms]; exact List.filter_sublist.nodup List.nodup_range
    have mpw : ms.Pairwise (· < ·) := by rw [hms]; exact List.Pairwise.filter _ List.pairwise_lt_range
    -- calls
    refine w_setCW (xs := lotV ms) (lv sc__law_calls.nd 3) rfl sc__law_calls.nd (bk (own := [("_law_stand", 4)]) sc__law_calls (by decide +kernel)) (vn 2) (sq_of h1') (sw_true rfl rfl rfl (by decide +kernel)) (fun D i H' => H D = none ∧ D ≠ p ∧ D ≠ pm ∧ Exo p H H' ∧ Pot H' p ∧ H' pm = some (.lst (lotV ms)) ∧ ∃ cs : List Nat, H' D = some (.lst (lotV cs)) ∧ cs.Sublist (ms.take i)) (fun D i H' h => sq_of h.2.2.2.2.2.1) (fun D H2 x2 hD => ?_) (fun D i x H' hx hP s0 H0 C cl1 fp => ?_) (fun D H' hP => ?_)
    · have pp := p1.ex x2
      refine ⟨fresh_back (x1.trans x2) hD, fun z => ?_, fun z => ?_, (Exo.of x1).trans ((Exo.of x2).trans (.of (Ex.new hD))), pp.ex (Ex.new hD), (Ex.new hD) _ _ (x2 _ _ h1'), [], upd_same, by simp⟩
      · obtain ⟨o, e⟩ := pp.at
        rw [← z, hD] at e
        cases e
      · have := x2 _ _ h1'
        rw [← z, hD] at this
        cases this
    · obtain ⟨hD, n1, n2, x', p', hm', cs, h', hsub⟩ := hP
      obtain ⟨v, hv, rfl⟩ : ∃ v, ms[i]? = some v ∧ x = .int (v : Int) := by
        unfold lotV at hx
        rw [List.getElem?_map] at hx
        cases e : ms[i]? with
        | none => rw [e] at hx; cases hx
        | some v => rw [e] at hx; exact ⟨v, rfl, (Option.some.inj hx).symm⟩
      have tk : ms.take (i + 1) = ms.take i ++ [v] := by rw [List.take_add_one, hv]; rfl
      refine ofT (pt_cmpR op_eq peW peW (nomark _)) (e_draw (m := 3) T ⟨rfl, rfl⟩ hr (vn 0) v_int (by omega) p' fun r H3 hr3 x3 p3 => ?_)
      refine v_int H3 (Ex.refl H3) _ fun H4 x4 => ?_
      refine rv_eq (x := .int (r : Int)) (y := .int 0) rfl H4 (Ex.refl H4) _ fun H5 x5 => ?_
      have x45 := x4.trans x5
      have h5 := x45 _ _ (x3 D n1 _ h')
      have m5 := x45 _ _ (x3 pm npm _ hm')
      have e5 : Exo p H H5 := (x'.trans x3).trans (.of x45)
      refine ⟨_, rfl, ?_⟩
      by_cases hz : V.int (r : Int) = V.int 0
      · rw [decide_eq_true hz]
        refine it_t ?_
        intro s1 H1' C1 cl2 fp2
        refine (vn 4) H5 (Ex.refl H5) _ fun H6 x6 => ⟨_, x6 _ _ h5, sz_lt ?_, hD, n1, n2, fun z hz o ho => ?_, ?_, ?_, cs ++ [v], ?_, ?_⟩
        · rw [lotV_len]
          have := hsub.length_le
          rw [List.length_take] at this
          omega
        · have : z ≠ D := fun e => by rw [e, hD] at ho; cases ho
          rw [upd_ne this]
          exact x6 _ _ (e5 z hz o ho)
        · obtain ⟨ns, g, e⟩ := (p3.ex x45).ex x6
          exact ⟨ns, g, by rw [upd_ne n1.symm]; exact e⟩
        · rw [upd_ne n2.symm]
          exact x6 _ _ m5
        · rw [upd_same, lotV_app]
          rfl
        · rw [tk]
          exact hsub.append (List.Sublist.refl [v])
      · rw [decide_eq_false hz]
        refine it_f ?_
        refine ⟨hD, n1, n2, e5, p3.ex x45, m5, cs, h5, ?_⟩
        rw [tk]
        exact hsub.trans (List.sublist_append_left _ _)
    · obtain ⟨hD, n1, n2, x', p', hm', cs, h', hsub⟩ := hP
      rw [lotV_len, List.take_length] at hsub
      have mem : ∀ v ∈ cs, v < W.n ∧ W.mv v = true := fun v hv => mmem v (hsub.subset hv)
      have nd : cs.Nodup := hsub.nodup mnd
      have pw : cs.Pairwise (· < ·) := mpw.sublist hsub
      have fin : ∀ H3, Ex H' H3 → Q (.ref D) H3 := fun H3 x3 => kq D cs H3 hD (x'.trans (.of x3)) (p'.ex x3) (x3 _ _ h') nd mem pw
      refine w_ifW (ofT (pw_and ptW (pw_and ptW (pw_and1 ptW))).pt ?_)
      refine (t_eqI (v_lenN (m := cs.length) T.fre (vn 3) (.ls h') lotV_len) v_int) H' (Ex.refl H') _ fun H2 x2 => ?_
      by_cases c1 : (cs.length : Int) = 0
      · rw [decide_eq_true c1]
        refine it_t ?_
        refine (t_gt (v_lenN (m := ms.length) T.fre (vn 2) (.ls (x2 _ _ hm')) lotV_len) v_int) H2 (Ex.refl H2) _ fun H3 x3 => ?_
        have x23 := x2.trans x3
        by_cases c2 : 0 < (ms.length : Int)
        · rw [decide_eq_true c2]
          refine it_t ?_
          refine ofT (pt_cmpR op_lt peW peW (nomark _)) (e_draw (m := 6) T ⟨rfl, rfl⟩ hr (vn 0) v_int (by omega) (p'.ex x23) fun r H4 hr4 x4 p4 => ?_)
          refine v_int H4 (Ex.refl H4) _ fun H5 x5 => ?_
          refine rv_I0 H5 (Ex.refl H5) _ fun H6 x6 => ⟨_, rfl, ?_⟩
          have x46 := x5.trans x6
          have e6 : Exo p H H6 := (x'.trans (.of x23)).trans (x4.trans (.of x46))
          have p6 := p4.ex x46
          have h6 := x46 _ _ (x4 D n1 _ (x23 _ _ h'))
          have m6 := x46 _ _ (x4 pm npm _ (x23 _ _ hm'))
          by_cases hz : (r : Int) < 5
          · rw [decide_eq_true hz]
            refine it_t ?_
            refine w_setW (lv sc__law_calls.nd 3) (ofE (pe_lst (pa_cons (pe_ix ix_seq peW peW (by intro _ _; rfl)) pa_nil)) ?_)
            refine (vn (v := .ref pm) 2) H6 (Ex.refl H6) _ fun H7 x7 => ?_
            refine e_draw (m := ms.length) T ⟨rfl, rfl⟩ hr (vn 0) (v_lenN (m := ms.length) T.fre (vn 2) (.ls (x7 _ _ m6)) lotV_len) (by omega) (p6.ex x7) fun r2 H8 hr8 x8 p8 => ?_
            have z0 : ms[r2]? = some (ms[r2]'hr8) := List.getElem?_eq_getElem hr8
            have e1 : (lotV ms)[r2]? = some (.int ((ms[r2]'hr8 : Nat) : Int)) := by
              unfold lotV
              rw [List.getElem?_map, z0]
              rfl
            refine .inl ⟨pm, lotV ms, (r2 : Int), .int ((ms[r2]'hr8 : Nat) : Int), rfl, rfl, sq_of (x8 pm npm _ (x7 _ _ m6)), atI_nat e1, ?_⟩
            refine ⟨sz_of (by simp), fun l hl => ?_⟩
            have e8 : Exo p H H8 := (e6.trans (.of x7)).trans x8
            have en : Ex H8 (upd H8 l (.lst [.int ((ms[r2]'hr8 : Nat) : Int)])) := Ex.new hl
            refine w_nil (w_ret (vn 3) fun H9 x9 => kq l [ms[r2]'hr8] H9 (none_back e8 p8.at hl) ((e8.trans (.of en)).trans (.of x9)) ((p8.ex en).ex x9) (x9 _ _ upd_same) (by simp) (fun v hv => ?_) (by simp))
            have : v = ms[r2]'hr8 := by simpa using hv
            rw [this]
            exact mmem _ (List.getElem_mem hr8)
          · rw [decide_eq_false hz]
            refine it_f ?_
            exact w_nil (w_ret (vn 3) fun H7 x7 => kq D cs H7 hD (e6.trans (.of x7)) (p6.ex x7) (x7 _ _ h6) nd mem pw)
        · rw [decide_eq_false c2]
          refine it_f ?_
          refine it_f ?_
          exact w_nil (w_ret (vn 3) fun H4 x4 => fin H4 (x23.trans x4))
      · rw [decide_eq_false c1]
        refine it_f ?_
        refine it_f ?_
        exact w_nil (w_ret (vn 3) fun H4 x4 => fin H4 (x2.trans x4))
end
end PwD
end
/-! ### PwNr -/
section
set_option linter.all false
set_option maxRecDepth 100000
set_option maxHeartbeats 8000000
/-! heaps that change at lists only -/
namespace Wk
open PySem PySem.Spec PyProof.Rows L2 Evl Pw
section
variable {X : Cx} {c e o : Expr} {st1 st2 rest : List Stmt} {σ : L2.St} {H : Hp} {pos p p2 : Pos} {q : Addr} {xs : List V} {D0 : Ends}
theorem wt_mono {Q Q' : Bool → Hp → Prop} (h : WT X c σ H Q) (k : ∀ b H1, Q b H1 → Q' b H1) : WT X c σ H Q' := fun pins s I => thn (h pins s I) fun b s1 ⟨H1, I1, q⟩ => ⟨H1, I1, k b H1 q⟩
theorem we_mono {Q Q' : VK} (h : WE X e σ H Q) (k : ∀ b H1, Q b H1 → Q' b H1) : WE X e σ H Q' := fun pins s I => thn (h pins s I) fun u s1 ⟨v, H1, I1, r, q⟩ => ⟨v, H1, I1, r, k v H1 q⟩
theorem w_ifWM (M : L2.St → Hp → Prop) (h : WT X c σ H (fun b H1 => if b = true then WS X st1 { D0 with nx := M } σ H1 else WS X st2 { D0 with nx := M } σ H1)) (hM : ∀ σ' H', M σ' H' → WS X rest D0 σ' H') : WS X (.If c st1 st2 pos :: rest) D0 σ H :=
  w_ifW (wt_mono h fun b H1 q => by
    cases b with
    | true => exact w_mono (D0 := { D0 with nx := fun σ' H' => WS X rest D0 σ' H' }) q hM
    | false => exact w_mono (D0 := { D0 with nx := fun σ' H' => WS X rest D0 σ' H' }) q hM)
theorem w_appW (hl : H q = some (.lst xs)) (ha : VE X o σ H (.ref q)) (h : ∀ H1, Ex H H1 → WE X e σ H1 (fun v H2 => ∃ ys, H2 q = some (.lst ys) ∧ ys.length < 100000 ∧ WS X rest D0 σ (upd H2 q (.lst (ys ++ [v])))))
    (hbase : attributeBase o "append" X.env (eval o X.env) = eval o X.env := by rfl)
    (hfew : ((backTo pos (starEach [e] X.env)).all (fun x => !x.1) && (backToKw pos (keywordEach [] X.env)).all (fun x => x.1.isSome) && decide ([e].length + ([] : List Keyword).length + (if ([] : List Keyword).isEmpty then 0 else 1) < 30)) = true := by rfl)
    (hline : (p.endLine == pos.line) = true := by rfl) (hs : starEach [e] X.env = (false, eval e X.env) :: starEach [] X.env := by rfl) (hplain : (backTo pos (starEach [] X.env)).any (·.1) = false := by rfl)
    (hsw : swapsWith (.Call (.Attribute o "append" p) [e] [] pos) none p2.line X.env = pure false := by rfl) :
    WS X (.Expr (.Call (.Attribute o "append" p) [e] [] pos) p2 :: rest) D0 σ H :=
  w_cons (ps_expr (pe_bm PySem.F.plainAttrs_list PySem.F.slot_list_append PySem.F.type_list_append mt_append peW (pa_cons peW pa_nil hs) hbase hfew hline hs hplain) hsw) (ha H (Ex.refl H) _ fun H1 e1 =>
    ⟨Or.inl ⟨rfl, xs, sq_of (e1 q _ hl)⟩, we_mono (h H1 e1) fun v H2 ⟨ys, h2, hz, k⟩ => ⟨q, ys, v, rfl, rfl, h2, sz_lt hz, k⟩⟩)
end
end Wk
namespace PwD
open PySem PySem.Spec PyProof.Rows L2 Evl Pw Wk PwH
theorem noL_exo {H H' : Hp} {p : Addr} {xs : List V} (hp : H p = some (.lst xs)) (e : Exo p H H') : Ex (noL H) (noL H') := fun z o h => by
  obtain ⟨h1, h2⟩ := noL_some h
  refine noL_of (e z (fun ez => ?_) o h1) h2
  rw [ez, hp] at h1
  exact h2 xs (Option.some.inj h1).symm
theorem noL_put {H : Hp} {q : Addr} {xs ys : List V} (hq : H q = some (.lst xs)) : Ex (noL H) (noL (upd H q (.lst ys))) := fun z o h => by
  obtain ⟨h1, h2⟩ := noL_some h
  refine noL_of ?_ h2
  rw [upd_ne (fun ez => ?_)]
  · exact h1
  · rw [ez, hq] at h1
    exact h2 xs (Option.some.inj h1).symm
theorem noL_rem {H : Hp} {p : Addr} {xs : List V} (hp : H p = some (.lst xs)) : Ex (noL H) (rem H p) := fun z o h => by
  obtain ⟨h1, h2⟩ := noL_some h
  unfold rem
  rw [if_neg (fun ez => ?_)]
  · exact h1
  · rw [ez, hp] at h1
    exact h2 xs (Option.some.inj h1).symm
theorem rem_put {H : Hp} {p : Addr} {o : HO} : Ex (rem H p) (rem (upd H p o) p) := fun z u h => by
  unfold rem at h ⊢
  by_cases hz : z = p
  · rw [if_pos hz] at h; cases h
  · rw [if_neg hz] at h ⊢; rw [upd_ne hz]; exact h
theorem rem_of {H : Hp} {p z : Addr} {o : HO} (h : H z = some o) (hz : z ≠ p) : rem H p z = some o := by
  unfold rem
  rw [if_neg hz]
  exact h
/-- all but M stays; what is no list stays -/
def Mv (M : List Addr) (H H' : Hp) : Prop := (∀ z, z ∉ M → ∀ o, H z = some o → H' z = some o) ∧ Ex (noL H) (noL H')
section
variable {M : List Addr} {H H1 H2 : Hp} {p q : Addr}
theorem Mv.refl : Mv M H H := ⟨fun _ _ _ h => h, Ex.refl _⟩
theorem Mv.trans (a : Mv M H H1) (b : Mv M H1 H2) : Mv M H H2 := ⟨fun z hz o h => b.1 z hz o (a.1 z hz o h), a.2.trans b.2⟩
theorem Mv.of (e : Ex H H1) : Mv M H H1 := ⟨fun z _ o h => e z o h, noL_ex e⟩
theorem Mv.exo (hm : p ∈ M) (hp : ∃ xs, H p = some (.lst xs)) (e : Exo p H H1) : Mv M H H1 := by
  obtain ⟨xs, hp⟩ := hp
  exact ⟨fun z hz o h => e z (fun ez => hz (by rw [ez]; exact hm)) o h, noL_exo hp e⟩
theorem Mv.put (hm : q ∈ M) {xs ys : List V} (hq : H q = some (.lst xs)) : Mv M H (upd H q (.lst ys)) := ⟨fun z hz o h => by rw [upd_ne (fun ez => hz (by rw [ez]; exact hm))]; exact h, noL_put hq⟩
theorem Pot.lst (h : Pot H p) : ∃ xs, H p = some (.lst xs) := by
  obtain ⟨ns, _, e⟩ := h
  exact ⟨_, e⟩
theorem Pot.put (h : Pot H p) (hq : p ≠ q) {o : HO} : Pot (upd H q o) p := by
  obtain ⟨ns, g, e⟩ := h
  exact ⟨ns, g, by rw [upd_ne hq]; exact e⟩
theorem notM {a : Addr} (h : H a = none) (hM : ∀ m ∈ M, ∃ o, H m = some o) : a ∉ M := fun z => by
  obtain ⟨o, e⟩ := hM a z
  rw [h] at e
  cases e
end
end PwD
end
/-! ### PwNs -/
section
set_option linter.all false
set_option maxRecDepth 100000
set_option maxHeartbeats 8000000
/-! _law_web -/
namespace PwD
open PySem PySem.Spec PyProof.Rows L2 Evl Pw Wk PwH
/-- one stand of a web in the making -/
structure RwS where
  a : Addr
  l1 : List Nat
  b : Addr
  l2 : List Nat
  u : V
  d : Du
def okL (n : Nat) (l1 l2 : List Nat) (d : Du) : Prop := (∀ w ∈ l1, w < n) ∧ (∀ w ∈ l2, w < n) ∧ (l1 = [] ↔ l2 = []) ∧ l1.length ≤ 3 ∧ l2.length ≤ 3 ∧ d.nn ∧ low40 d
def RGood (K : PySem.W.Frag) (M : List Addr) (n : Nat) (H : Hp) (r : RwS) : Prop := r.a ∉ M ∧ H r.a = some (.lst (lotV r.l1)) ∧ r.b ∉ M ∧ H r.b = some (.lst (lotV r.l2)) ∧ DueV K (noL H) r.u r.d ∧ okL n r.l1 r.l2 r.d
theorem RGood.mv {K : PySem.W.Frag} {M : List Addr} {n : Nat} {H H1 : Hp} {r : RwS} (m : Mv M H H1) (g : RGood K M n H r) : RGood K M n H1 r := ⟨g.1, m.1 _ g.1 _ g.2.1, g.2.2.1, m.1 _ g.2.2.1 _ g.2.2.2.1, g.2.2.2.2.1.ex m.2, g.2.2.2.2.2⟩
/-- the three lists of the rows -/
def Thr (H : Hp) (F S D : Addr) (rs : List RwS) : Prop := H F = some (.lst (rs.map fun r => .ref r.a)) ∧ H S = some (.lst (rs.map fun r => .ref r.b)) ∧ H D = some (.lst (rs.map fun r => r.u))
theorem Thr.mv {H H1 : Hp} {F S D : Addr} {rs : List RwS} (e : ∀ z, z = F ∨ z = S ∨ z = D → ∀ o, H z = some o → H1 z = some o) (t : Thr H F S D rs) : Thr H1 F S D rs := ⟨e F (.inl rfl) _ t.1, e S (.inr (.inl rfl)) _ t.2.1, e D (.inr (.inr rfl)) _ t.2.2⟩
def WEnd (K : PySem.W.Frag) (H0 H : Hp) (p : Addr) (n : Nat) (F S D : Addr) (rs : List RwS) : Prop := Exo p H0 H ∧ Pot H p ∧ F ≠ p ∧ S ≠ p ∧ D ≠ p ∧ Thr H F S D rs ∧ rs.length = n ∧ ∀ r ∈ rs, RGood K [p] n H r
def rowsW (n : Nat) (rs : List RwS) (mk : Nat → Int) : Web := ⟨n, fun j => ((rs[j]?).map (·.l1)).getD [], fun j => ((rs[j]?).map (·.l2)).getD [], mk, fun j => ((rs[j]?).map (·.d)).getD .none⟩
theorem rows_at {n : Nat} {rs : List RwS} (hl : rs.length = n) {v : Nat} (hv : v < n) : ∃ r, rs[v]? = some r ∧ r ∈ rs := ⟨rs[v]'(by omega), List.getElem?_eq_getElem (by omega), List.getElem_mem (by omega)⟩
theorem rowsW_ok {n : Nat} {rs : List RwS} {mk : Nat → Int} (hl : rs.length = n) (h1 : 1 ≤ n) (h5 : n ≤ 5) (hr : ∀ r ∈ rs, okL n r.l1 r.l2 r.d) (hm : ∀ v, v < n → mk v = 1 ∨ mk v = 2) : (rowsW n rs mk).Ok ∧ (∀ v, v < n → low40 ((rowsW n rs mk).due v)) ∧ ∀ v, v < n → ((rowsW n rs mk).s1 v).length < 64 ∧ ((rowsW n rs mk).s2 v).length < 64 := by
  have key : ∀ v, v < n → okL n ((rowsW n rs mk).s1 v) ((rowsW n rs mk).s2 v) ((rowsW n rs mk).due v) := fun v hv => by
    obtain ⟨r, e, hm⟩ := rows_at hl hv
    have := hr r hm
    show okL n (((rs[v]?).map (·.l1)).getD []) (((rs[v]?).map (·.l2)).getD []) (((rs[v]?).map (·.d)).getD .none)
    rw [e]
    exact this
  exact ⟨⟨h1, h5, fun v hv => (key v hv).1, fun v hv => (key v hv).2.1, fun v hv => by have := (key v hv).2.2.2.1; omega, fun v hv => by have := (key v hv).2.2.2.2.1; omega, fun v hv => (key v hv).2.2.1, hm, fun v hv => (key v hv).2.2.2.2.2.1⟩, fun v hv => (key v hv).2.2.2.2.2.2, fun v hv => by have h1 := (key v hv).2.2.2.1; have h2 := (key v hv).2.2.2.2.1; omega⟩
theorem rowsW_l {K : PySem.W.Frag} {H : Hp} {p q F S D m : Addr} {n : Nat} {rs : List RwS} {mk : Nat → Int} (hl : rs.length = n) (pp : Pot H p) (hF : F ≠ p) (hS : S ≠ p) (hD : D ≠ p) (t : Thr H F S D rs) (hr : ∀ r ∈ rs, RGood K [p] n H r) (hmp : m ≠ p) (hm : H m = some (.lst (rowV n mk))) (hqp : q ≠ p) (hq : H q = some (.lst [.ref F, .ref S, .ref m, .ref D])) : LWeb K (rem H p) q (rowsW n rs mk) := by
  have mapE : ∀ {α : Type} (f : RwS → α) (g : Nat → α), (∀ v r, rs[v]? = some r → g v = f r) → rs.map f = (List.range n).map g := fun f g h => by
    apply List.ext_getElem?
    intro j
    by_cases hj : j < n
    · obtain ⟨r, e, _⟩ := rows_at hl hj
      rw [map_at hj, List.getElem?_map, e, h j r e]
      rfl
    · rw [List.getElem?_eq_none (by rw [List.length_map]; omega), List.getElem?_eq_none (by rw [List.length_map, List.length_range]; omega)]
  obtain ⟨xp, ep⟩ := pp.lst
  refine ⟨F, S, m, D, sq_of (rem_of hq hqp), ⟨fun j => ((rs[j]?).map (·.a)).getD 0, .ls ?_, fun v hv => ?_⟩, ⟨fun j => ((rs[j]?).map (·.b)).getD 0, .ls ?_, fun v hv => ?_⟩, .ls (rem_of hm hmp), ⟨fun j => ((rs[j]?).map (·.u)).getD .non, .ls ?_, fun v hv => ?_⟩⟩
  · rw [rem_of t.1 hF]
    congr 2
    exact mapE _ _ fun v r e => by simp [e]
  · obtain ⟨r, e, hm⟩ := rows_at hl hv
    have g := hr r hm
    show Sq K (rem H p) (((rs[v]?).map (·.a)).getD 0) (lotV (((rs[v]?).map (·.l1)).getD []))
    rw [e]
    exact .ls (rem_of g.2.1 (by simpa using g.1))
  · rw [rem_of t.2.1 hS]
    congr 2
    exact mapE _ _ fun v r e => by simp [e]
  · obtain ⟨r, e, hm⟩ := rows_at hl hv
    have g := hr r hm
    show Sq K (rem H p) (((rs[v]?).map (·.b)).getD 0) (lotV (((rs[v]?).map (·.l2)).getD []))
    rw [e]
    exact .ls (rem_of g.2.2.2.1 (by simpa using g.2.2.1))
  · rw [rem_of t.2.2 hD]
    congr 2
    exact mapE _ _ fun v r e => by simp [e]
  · obtain ⟨r, e, hm⟩ := rows_at hl hv
    have g := hr r hm
    show DueV K (rem H p) (((rs[v]?).map (·.u)).getD .non) (((rs[v]?).map (·.d)).getD .none)
    rw [e]
    exact g.2.2.2.2.1.ex (noL_rem ep)
end PwD
end
/-! ### PwNu -/
section
set_option linter.all false
set_option maxRecDepth 100000
set_option maxHeartbeats 8000000
/-! operations of instances: !=, ==, bool, ~ ; == of data -/
namespace L2
open PySem PySem.Spec PyProof.Rows PwH
theorem ns_some_of {K : PySem.W.Frag} {h : Heap} {N : Addr} {mg : Str → Option Value} {n : Str} {v : Value} (X : K.In h) (G : h.Ns N mg) (e : PySem.W.nsIn K N n = some (some v)) : mg n = some v := by
  obtain ⟨o, es, ep, ho, hd, _, hf⟩ := G
  unfold PySem.W.nsIn at e
  split at e
  · rename_i q
    have := X _ _ q
    rw [ho] at this
    cases this
    cases hd
    split at e
    · rename_i he
      cases e
      rw [← hf]
      unfold nsFind findBy
      rw [← Array.find?_toList, he]
      rfl
    · split at e <;> cases e
  · cases e
theorem own_ne {K : PySem.W.Frag} {h : Heap} {a C : Addr} {ox : Obj} {od : Option Obj} (X : K.In h) (J : PySem.W.InstAt h a ox C od) (hn : neB K C = true) (hf : PySem.W.isFn K (.ref (He.ma K C "__eq__")) = true) : h.OwnEqNoNe a C (He.ma K C "__eq__") "object" [.type "object"] := by
  unfold neB at hn
  split at hn
  · rename_i dd cd sl ho
    split at hn
    · rename_i C' k0 k1 k2 k3 n k5 hm hs
      obtain ⟨e1, hn⟩ := He.ba hn
      obtain ⟨e2, hn⟩ := He.ba hn
      obtain ⟨e3, hn⟩ := He.ba hn
      obtain ⟨e4, hn⟩ := He.ba hn
      obtain ⟨e5, e6⟩ := He.ba hn
      have e1 : C' = C := of_decide_eq_true e1
      subst e1
      obtain ⟨nm, bs, mro, ns, qn, hd, sn, sub, ab, col, del⟩ := cd
      dsimp only at hm e3 e4 e5 e6
      have e3 : del = false := by simpa using e3
      subst hm e3
      have hsl : sl = #[k0, k1, k2, k3, some (.builtin n), k5] := by
        obtain ⟨l⟩ := sl
        simp only at hs
        rw [hs]
      subst hsl
      have G : h.Ns ns (h.nsMap ns) := .of_isNs (PySem.W.isNs_of_in X e4)
      obtain ⟨of, hof, hcf⟩ : ∃ of, h.get? (He.ma K C' "__eq__") = some of ∧ of.cls = .type "function" := by
        unfold PySem.W.isFn PySem.W.typeIn at hf
        have := beq_iff_eq.mp hf
        cases hl : K.lookup (He.ma K C' "__eq__") with
        | none => simp [hl] at this
        | some o =>
          refine ⟨o, X _ _ hl, ?_⟩
          simpa [hl] using this
      exact ⟨ox, of, nm, qn, ns, bs, hd, sn, sub, ab, col, dd, k0, k1, k2, k3, k5, n, h.nsMap ns, _, J.at_, J.cls, X _ _ ho, G, ns_some_of X G (He.eqO_ok e6), hof, hcf, PySem.F.mro_object, PySem.F.cmp_object.eq.lookup, PySem.W.ns_none_of X G (He.eqO_ok e5)⟩
    · cases hn
  · cases hn
/-- x != y of two instances of one class with its own == -/
def rNeI (C : Addr) (sp : Sp) (E : XK) : R2 := fun x y H Q => ∃ a dx vs b dy ws, x = .ref a ∧ y = .ref b ∧ SlX.Slt H a C dx vs ∧ SlX.Slt H b C dy ws ∧ sp [x, y] H (fun v H' => ∃ k, v = .bl k ∧ Q (.bl (!k)) H') E
theorem op_neI {X : Cx} {CX : CXT} {C : Addr} {sp : Sp} {E : XK} {n : Nat} (hn : neB X.K C = true) (hf : PySem.W.isFn X.K (.ref (He.ma X.K C "__eq__")) = true) (F : FnR X.prog X.w X.K X.mg X.base CX n (He.ma X.K C "__eq__") sp) (hr : Room (n + 1) X.A) (hx : Passes CX X E) : OpR X (compareOp .NotEq) (rNeI C sp E) := by
  intro pins s σ H x y v u Q I rx ry h
  obtain ⟨a, dx, vs, b, dy, ws, rfl, rfl, ha, hb, q⟩ := h
  cases (show v = Value.ref a from rx)
  cases (show u = Value.ref b from ry)
  obtain ⟨sl, od, _, J, _⟩ := SlX.slt_inst I ha
  obtain ⟨sl', od', _, J', _⟩ := SlX.slt_inst I hb
  have own := own_ne I.kIn J hn hf
  have hu := hr.units
  have hcall := wpAny_mono (wpAny_call (SlX.run_at (A := X.A.in1) (us := [.ref a, .ref b]) (ws := [.ref a, .ref b]) F hr.in1 I.env0.in1 hx I (.cons rfl (.cons rfl .nil)) q)) (Q' := fun v s' => ∃ b, v = .bool b ∧ EP X pins σ Q (.bool (!b)) s') (fun w s' z => by
    obtain ⟨z', H', I', rz, k, ez, qz⟩ := z
    subst ez
    cases (show w = Value.bool k from rz)
    exact ⟨k, rfl, .bl (!k), H', I', rfl, qz⟩) fun _ _ x => x
  obtain ⟨hp, g, d, tk, os⟩ := s
  exact compareOp_ne_ownEq PySem.F.cmp_object own J'.at_ J'.cls (by omega) hcall
/-- bool(x), x an instance with its own __bool__ -/
theorem bool_own {prog : Program} {w : World} {A : Around} {E : Value → Shared → Prop} {s : Shared} {x : Addr} {Q : Value → Shared → Prop} (h : wpAny (model prog w) A.in1.in1 (truthy (.ref x)) (fun b s₁ => Q (.bool b) s₁) E s) : wpAny (model prog w) A (call (.type "bool") [.ref x]) Q E s := by
  refine callType_codes (T := "bool") (Bi := Builtin.«object.__init__») (Q₁ := fun r s₁ => ∃ b, r = Value.bool b ∧ Q r s₁) PySem.F.called_bool (PySem.F.typeCall_bool_1 _) PySem.F.entry_object_init ?_ ?_
  · refine codeAny_of_tree ?_
    show wpAny _ A.in1.in1 (do checkBuiltinCall "bool.__new__" ⟨[.type "bool", .ref x], []⟩; again (.builtin "bool.__new__" ⟨[.type "bool", .ref x], []⟩)) _ _ s
    refine wpAny_bind (wpAny_of_eq (PySem.F.newCall_bool_1 _) (wpAny_pure ⟨plainId_quiet (by decide +kernel) _, codeAny_builtin PySem.F.entry_bool_new ?_⟩))
    rw [Around.under_plainId (by decide +kernel) _]
    have f1 := PySem.F.conv_sub_bool
    obtain ⟨hp, g, d, tk, os⟩ := s
    unfold Builtin.«bool.__new__»
    repeat (any_goals (first | assumption | (with_reducible refine wpAny_mono h (fun b s₁ hq => ?_) (fun _ _ z => z)) | wp_step))
    all_goals first | exact ⟨_, rfl, hq⟩ | exact hq | skip
  · rintro obj s₁ ⟨b, rfl, hq⟩
    exact ⟨PySem.typeIs_bool _ _, PySem.F.args_object_init_2 _ _, object_init_meets PySem.F.called_bool.init.lookup PySem.F.called_bool.made (by decide) prog w A.in1 _ s₁ ⟨PySem.typeIs_bool _ _, rfl, hq⟩⟩
section
variable {X : Cx} {pins : List (Addr × Obj)} {σ : L2.St} {H : Hp} {s : Shared} {a C dx g : Addr} {vs : List (Option V)} {sp : Sp} {n : Nat}
theorem tru_own {A : Around} {Q' : Bool → Shared → Prop} (hm : Meth X.K C "__bool__" g) (F : FnR X.prog X.w X.K X.mg X.base (L2.CX X.prog X.w) n g sp) (hr : Room n A) (e0 : Env0 X.prog X.w X.K X.mg X.base A X.stack s H) (I : Inv X pins σ H s) (hs : SlX.Slt H a C dx vs) (q : sp [.ref a] H (fun v H2 => ∃ k, v = .bl k ∧ ∀ s', Inv X pins σ H2 s' → Q' k s') E0) : wpAny (model X.prog X.w) A (truthy (.ref a)) Q' X.xe s := by
  obtain ⟨sl, od, _, J, _⟩ := SlX.slt_inst I hs
  obtain ⟨m, hF⟩ := I.fr
  refine PySem.W.truthy_K hF I.ok.mod.kin J hm.at_ hm.fn (wpAny_mono (wpAny_call (SlX.run_at (A := A) (us := [.ref a]) (ws := [.ref a]) F hr e0 passL I (.cons rfl .nil) q)) (fun w s' z => ?_) fun _ _ x => x)
  obtain ⟨z', H', I', rz, k, ez, qz⟩ := z
  subst ez
  cases (show w = Value.bool k from rz)
  exact qz s' I'
theorem call_boolI (hm : Meth X.K C "__bool__" g) (F : FnR X.prog X.w X.K X.mg X.base (L2.CX X.prog X.w) n g sp) (hr : Room (n + 2) X.A) : CallR X (.type "bool") (fun xs H Q => ∃ a dx vs, xs = [.ref a] ∧ SlX.Slt H a C dx vs ∧ sp [.ref a] H (fun v H2 => ∃ k, v = .bl k ∧ Q (.bl k) H2) E0) := by
  intro pins s σ H xs us Q I r h
  obtain ⟨a, dx, vs, rfl, hs, q⟩ := h
  obtain rfl := Vals.ref1 r
  have sq : (fun v H2 => ∃ k, v = V.bl k ∧ ∀ s', Inv X pins σ H2 s' → EP X pins σ Q (Value.bool k) s') = (fun v H2 => ∃ k, v = V.bl k ∧ ∀ s', Inv X pins σ H2 s' → EP X pins σ Q (Value.bool k) s') := rfl
  obtain ⟨sl, od, _, J, _⟩ := SlX.slt_inst I hs
  obtain ⟨m, hF⟩ := I.fr
  have hr2 : Room n X.A.in1.in1 := (show Room (n + 1) X.A.in1 from Room.in1 hr).in1
  refine bool_own (PySem.W.truthy_K hF I.ok.mod.kin J hm.at_ hm.fn (wpAny_mono (wpAny_call (SlX.run_at (A := X.A.in1.in1) (us := [.ref a]) (ws := [.ref a]) F hr2 I.env0.in1.in1 passL I (.cons rfl .nil) q)) (fun w s' z => ?_) fun _ _ x => x))
  obtain ⟨z', H', I', rz, k, ez, qz⟩ := z
  subst ez
  cases (show w = Value.bool k from rz)
  exact ⟨.bl k, H', I', rfl, qz⟩
end
end L2
namespace Wk
open PySem PySem.Spec PyProof.Rows L2 Evl Pw
section
variable {X : Cx} {e a b : Expr} {σ : L2.St} {H : Hp} {C g : Addr} {n : Nat} {sp : Sp} {pos p : Pos} {Q : VK}
/-- the test e, an instance with its own __bool__ -/
theorem wt_own {Q' : Bool → Hp → Prop} (hm : Meth X.K C "__bool__" g) (F : FnR X.prog X.w X.K X.mg X.base (L2.CX X.prog X.w) n g sp) (hr : Room n X.A) (h : WE X e σ H (fun u H1 => ∃ a dx vs, u = .ref a ∧ SlX.Slt H1 a C dx vs ∧ sp [.ref a] H1 (fun v H2 => ∃ k, v = .bl k ∧ Q' k H2) E0)) (he : ∀ whole, isTrue e X.env whole = (do let v ← whole; standAt e.pos; holding [v] (truthy v)) := by intro _; rfl) : WT X e σ H Q' := fun pins s I => by
  refine isTrue_plain (thn (h pins s I) fun v s1 ⟨x, H1, I1, r1, a, dx, vs, ex, hs, q⟩ => ?_) (he _)
  subst ex
  obtain rfl : v = Value.ref a := r1
  obtain ⟨sl, od, _, J, _⟩ := SlX.slt_inst I1 hs
  obtain ⟨m, hF⟩ := I1.fr
  refine PySem.W.truthy_K hF I1.ok.mod.kin J hm.at_ hm.fn (wpAny_mono (wpAny_call (run_fnR (us := [.ref a]) (vs := [.ref a]) F hr passL I1 (.cons rfl .nil) q)) (fun w s' z => ?_) fun _ _ x => x)
  obtain ⟨z', H', I', rz, k, ez, qz⟩ := z
  subst ez
  cases (show w = Value.bool k from rz)
  exact ⟨H', I', qz⟩
/-- ~e -/
theorem e_inv {E : XK} (hm : Meth X.K C "__invert__" g) (F : FnR X.prog X.w X.K X.mg X.base (L2.CX X.prog X.w) n g sp) (hr : Room n X.A) (hx : Passes (L2.CX X.prog X.w) X E) (h : WE X e σ H (fun u H1 => ∃ a dx vs, u = .ref a ∧ SlX.Slt H1 a C dx vs ∧ sp [.ref a] H1 Q E)) : WE X (.UnaryOp .Invert e pos) σ H Q := fun pins s I => by
  refine UnaryOp_ (thn (h pins s I) fun v s1 ⟨x, H1, I1, r1, a, dx, vs, ex, hs, q⟩ => ?_)
  subst ex
  obtain rfl : v = Value.ref a := r1
  obtain ⟨sl, od, _, J, _⟩ := SlX.slt_inst I1 hs
  obtain ⟨m, hF⟩ := I1.fr
  exact PySem.W.ksp_inv hF I1.ok.mod.kin J hm.at_ hm.fn (wpAny_mono (wpAny_call (run_fnR (us := [.ref a]) (vs := [.ref a]) F hr hx I1 (.cons rfl .nil) q)) (fun w s' z => z) fun _ _ x => x)
end
end Wk
end
/-! ### PwNv -/
section
set_option linter.all false
set_option maxRecDepth 100000
set_option maxHeartbeats 8000000
/-! list(o), o an instance whose __iter__ gives the iterator of a tuple -/
namespace L2
open PySem PySem.Spec PyProof.Rows Evl
section
variable {prog : Program} {w : World} {A : Around} {E : Value → Shared → Prop} {s : Shared}
theorem iter_tup {l : Addr} {items : Array Value} {Q : Value → Shared → Prop} (hl : s.heap.IsTuple l items) (h : Q (.ref s.heap.objs.size) { s with heap := s.heap.push { cls := .type "tuple_iterator", data := .fields #[.ref l, .int 0 0] } }) : wpAny (model prog w) A (call (.builtin "iter") [.ref l]) Q E s := by
  refine Calls.call_function_entry (by decide +kernel) (by decide +kernel) PySem.W.kdk_entry_iter (PySem.W.kdk_args_iter _) ?_
  unfold Builtin.«iter»
  refine wpAny_bind (m := someArgs "iter" 1 2 _) (wpAny_of_eq (a := [Value.ref l]) (by first | rfl | kernel_rfl!) ?_)
  show wpAny _ _ (pyIter (.ref l) >>= _) _ _ _
  exact wpAny_bind (wpAny_pyIter_tuple hl (wpAny_pure ⟨_, rfl, h⟩))
/-- the turn that ends: the iterator's object still stands -/
theorem tup_end {it t : Addr} {i : Nat} {items : Array Value} {Q : Option Value → Shared → Prop} (hh : A.handled = none) (hit : s.heap.IsTupleIter it t i) (ht : s.heap.IsTuple t items) (hx : items[i]? = none)
    (hQ : ∀ h' o, h'.get? it = some o → Heap.ExtBut it s.heap h' → Q none { s with heap := h' }) : wpAny (model prog w) A (pyNext (.ref it)) Q E s := by
  obtain ⟨o, ho, hc, hd⟩ := id hit
  obtain ⟨ol, hol, _, nl, hdl⟩ := ht
  unfold pyNext
  refine wpAny_bind (wpAny_attempt (wpAny_callSpecial?_slot (name := Str.ofString "__next__") hit.typeIs F.slot_tuple_iterator_next (wpAny_call_entry F.slot_tuple_iterator_next hit.typeIs F.entry_tuple_iterator_next ?_ (F.args_tuple_iterator_next_1 _))))
  show wpAny _ _ (field (.ref it) 0 >>= _) _ _ s
  refine wpAny_bind (wpAny_field ho hd (x := .ref t) rfl ?_)
  show wpAny _ _ (if (Value.ref t == Value.none) = true then _ else _) _ _ s
  rw [if_neg (show ¬ ((Value.ref t == Value.none) = true) from Bool.false_ne_true)]
  show wpAny _ _ (field (.ref it) 1 >>= _) _ _ s
  refine wpAny_bind (wpAny_field ho hd (x := .int i 0) rfl ?_)
  show wpAny _ _ (seqItems? (.ref t) >>= _) _ _ s
  refine wpAny_bind (wpAny_seqItems hol hdl ?_)
  simp only [Int.toNat_natCast, hx]
  refine wpAny_bind (wpAny_rule (wpAny_bind (wpAny_setField ho hd (by simp) ?_)))
  show wpAny _ _ (newExc (.type "StopIteration") [] >>= _) _ _ _
  refine wpAny_bind ?_
  simp only [newExc, newTuple]
  refine wpAny_bind (wpAny_newObj_type ?_ (by size_fits))
  refine wpAny_bind (m := firstArgMember _ _) (wpAny_of_eq (a := Value.none) (by first | rfl | (simp only [firstArgMember]; rfl)) ?_)
  refine wpAny_newObj_type ?_ (by size_fits)
  simp only [raiseNew]
  refine wpAny_bind (wpAny_handled ?_)
  first | rw [show A.in1.handled = none from hh] | rw [hh]
  refine wpAny_bind (wpAny_pure (wpAny_throw ?_))
  refine wpAny_bind (wpAny_isInstance (T := "StopIteration") (b := true) ⟨_, Heap.get?_push_size _ rfl, rfl⟩ isSubtype_stop ?_)
  exact wpAny_pure (hQ _ _ (Heap.get?_push_of_some _ (Heap.get?_push_of_some _ (Heap.get?_update_self _ ho (Obj.isFreed_of_fields (Obj.data_mapFields hd _))))) (((Heap.SameBut.update ..).extBut.push _).push _))
end
/-- a tuple's iterator; one that has ended -/
def TiO (t it : Addr) (i : Nat) : HO := .ext fun h => h.IsTupleIter it t i
def TiE : HO := .ext fun _ => True
theorem tiO_ok {P : Program} {w : World} {H : Hp} {h : Heap} {t it : Addr} {i : Nat} (e : h.IsTupleIter it t i) : ObjOk P w H h it (TiO t it i) := ⟨e, let ⟨o, ho, _⟩ := e; ⟨o, ho⟩, fun h1 h2 ⟨o, ho, r⟩ k => ⟨o, k _ ho, r⟩⟩
theorem tiE_ok {P : Program} {w : World} {H : Hp} {h : Heap} {it : Addr} {o : Obj} (e : h.get? it = some o) : ObjOk P w H h it TiE := ⟨trivial, ⟨o, e⟩, fun _ _ _ _ => trivial⟩
section
variable {X : Cx} {pins : List (Addr × Obj)} {σ : L2.St}
/-- iter(a tuple) -/
theorem call_iterU : CallR X (.builtin "iter") (fun xs H Q => ∃ (l : Addr) (zs : List V), xs = [.ref l] ∧ SqT X.K H l zs ∧ ∀ it, H it = none → Q (.ref it) (upd H it (TiO l it 0))) := by
  intro pins s σ H xs us Q I r h
  obtain ⟨l, zs, rfl, hq, q⟩ := h
  obtain rfl := Vals.ref1 r
  obtain ⟨its, rv, pl, hz⟩ := I.tuple hq
  refine iter_tup (items := its.toArray) pl ?_
  exact ⟨.ref s.heap.objs.size, _, I.laid (t' := s.toks) (fun b u e => Heap.get?_push_of_some _ e) (Nat.le_refl _) (tiO_ok ⟨_, Heap.get?_push_size _ rfl, rfl, rfl⟩), rfl, q _ (I.hok.fresh (Nat.le_refl _))⟩
theorem tup_loop {A1 : Around} {q it l : Addr} {zs : List V} {H0 : Hp} {Rs : Result → Shared → Prop} (hh : A1.in1.handled = none) (hz : zs.length < 100000) (hi0 : H0 it = none) (hq0 : H0 q = none) (hqi : q ≠ it) (hl : SqT X.K H0 l zs)
    (hdone : ∀ H s, Inv X pins σ H s → Ex H0 H → H q = some (.lst zs) → Rs (.ok (.ret .none)) s) :
    ∀ (m i : Nat) (H : Hp) (s : Shared), zs.length = i + m → Inv X pins σ H s → Ex H0 H → H it = some (TiO l it i) → H q = some (.lst (zs.take i)) → codeAny (model X.prog X.w) A1 (.builtin "list.extend.loop" ⟨[.ref q, .ref it, .none], []⟩) Rs s := by
  intro m
  induction m with
  | zero =>
    intro i H s hm I hx hi hq
    refine codeAny_builtin PySem.F.entry_extend_loop ?_
    rw [Around.under_plainId PySem.F.plain_extend_loop _]
    show wpAny _ A1.in1 (pyNext (.ref it) >>= _) _ _ s
    obtain ⟨its, rv, pl, _⟩ := I.tuple (ex_t hx hl)
    have hit : s.heap.IsTupleIter it l i := (I.hok it _ hi).1
    have len := rv.length
    have mu : Mut (H it) := by rw [hi]; exact True.intro
    refine wpAny_bind (tup_end hh hit pl (by rw [List.getElem?_toArray]; exact List.getElem?_eq_none (by omega)) fun h' o ho sb => ?_)
    have I' := I.write (x := it) (e := it) (t' := s.toks) mu (.inl rfl) (fun b u nb z => sb b u nb z) ⟨_, ho⟩ (tiE_ok ho)
    refine wpAny_pure (hdone _ _ I' (Ex.mut hx hi0) ?_)
    rw [upd_ne hqi, hq, List.take_of_length_le (by omega)]
  | succ m ih =>
    intro i H s hm I hx hi hq
    refine codeAny_builtin PySem.F.entry_extend_loop ?_
    rw [Around.under_plainId PySem.F.plain_extend_loop _]
    show wpAny _ A1.in1 (pyNext (.ref it) >>= _) _ _ s
    obtain ⟨its, rv, pl, _⟩ := I.tuple (ex_t hx hl)
    have hit : s.heap.IsTupleIter it l i := (I.hok it _ hi).1
    have len := rv.length
    have mu : Mut (H it) := by rw [hi]; exact True.intro
    have hlt : i < zs.length := by omega
    obtain ⟨u, hu, ru⟩ := rv.get (List.getElem?_eq_getElem hlt)
    refine wpAny_bind (wpAny_pyNext_tuple_item hit pl (x := u) (by rw [List.getElem?_toArray]; exact hu) fun h' e' sb => ?_)
    have I' := I.write (x := it) (e := it) (t' := s.toks) mu (.inl rfl) (fun b u nb z => sb.extBut b u nb z) (let ⟨o, ho, _⟩ := e'; ⟨o, ho⟩) (tiO_ok e')
    have hq' : (upd H it (TiO l it (i + 1))) q = some (.lst (zs.take i)) := by rw [upd_ne hqi]; exact hq
    show wpAny _ A1.in1 (updateSeq q (·.push u) >>= _) _ _ _
    obtain ⟨z, its2, k, r2, hl2, e⟩ := I'.lstM hq'
    have zl := sizeLine_eq
    have tl : (zs.take i).length = i := by rw [List.length_take]; omega
    refine wpAny_bind (wpAny_updateSeq e rfl (wpAny_pure ⟨plainId_quiet PySem.F.plain_extend_loop _, ?_⟩) (by rw [List.size_toArray]; omega) (by show (its2.toArray.push u).size ≤ sizeLine + 1; rw [Array.size_push, List.size_toArray]; omega))
    have I2 := I'.lset (f := (·.push u)) (its' := its2 ++ [u]) (t' := s.toks) hq' e (by simp) (r2.append (.cons ru .nil)) (by rw [List.length_append, List.length_singleton]; omega)
    refine ih (i + 1) _ _ (by omega) I2 (Ex.mut (Ex.mut hx hi0) hq0) (by rw [upd_ne hqi.symm, upd_same]) ?_
    rw [upd_same, List.take_add_one, List.getElem?_eq_getElem hlt]
    rfl
theorem hint_none {M : Model} {A : Around} {E : Value → Shared → Prop} {Q : Bool → Shared → Prop} {K : PySem.W.Frag} {s : Shared} {a C : Addr} {ox : Obj} {od : Option Obj} (nl : PySem.W.findIn K (.ref C) "__len__" = some none) (nh : PySem.W.findIn K (.ref C) "__length_hint__" = some none) (hK : K.In s.heap) (J : PySem.W.InstAt s.heap a ox C od) (h : Q true s) :
    wpAny M A (Builtin.List.listLengthHint (.ref a)) Q E s := by
  unfold Builtin.List.listLengthHint
  refine wpAny_bind (wpAny_bind (J.type.here ((PySem.W.looks_findIn hK nl).here ?_)))
  refine PySem.W.KFB.if_not rfl ?_
  refine PySem.W.KFB.if_not rfl ?_
  exact wpAny_bind (wpAny_bind (J.type.here ((PySem.W.looks_findIn hK nh).here (wpAny_pure h))))
theorem slt_some {H : Hp} {a C dx : Addr} {vs : List (Option V)} (h : SlX.Slt H a C dx vs) : ∃ o, H a = some o := by
  rcases h with ⟨h, _⟩ | ⟨h, _⟩
  · exact ⟨_, h⟩
  · exact ⟨_, h⟩
/-- list(o) -/
theorem call_listV {C g : Addr} {n : Nat} {sp : Sp} (hm : Meth X.K C "__iter__" g) (nl : PySem.W.findIn X.K (.ref C) "__len__" = some none) (nh : PySem.W.findIn X.K (.ref C) "__length_hint__" = some none) (F : FnR X.prog X.w X.K X.mg X.base (L2.CX X.prog X.w) n g sp) (hr : Room (n + 2) X.A) (hc : X.calm = true) :
    CallR X (.type "list") (fun xs H Q => ∃ (a dx : Addr) (vs : List (Option V)) (l : Addr) (zs : List V), xs = [.ref a] ∧ SlX.Slt H a C dx vs ∧ zs.length < 100000 ∧ SqT X.K H l zs ∧ (∀ H1, Ex H H1 → sp [.ref a] H1 (fun v H2 => ∃ (it : Addr) (H3 : Hp), v = .ref it ∧ Ex H1 H3 ∧ H3 it = none ∧ H2 = upd H3 it (TiO l it 0)) E0) ∧ ∀ q H2, H q = none → Ex H H2 → H2 q = some (.lst zs) → Q (.ref q) H2) := by
  intro pins s σ H xs us Q I rv h
  obtain ⟨a, dx, vs, l, zs, rfl, ha, hz, hl, hsp, q⟩ := h
  obtain rfl := Vals.ref1 rv
  have hr2 : Room n X.A.in1.in1 := (show Room (n + 1) X.A.in1 from Room.in1 hr).in1
  refine callType_codes (Q₁ := fun obj s₁ => obj = .ref s.heap.objs.size ∧ s₁ = { s with heap := s.heap.push { cls := .type "list", data := .seq #[] } }) PySem.F.called_list (PySem.F.typeCall_list_1 _) PySem.F.entry_list_init
    (code_list_new _ ⟨rfl, rfl⟩) fun obj s₁ h₁ => ?_
  obtain ⟨rfl, rfl⟩ := h₁
  have hS : (s.heap.push { cls := .type "list", data := .seq #[] }).get? s.heap.objs.size = some { cls := .type "list", data := .seq #[] } := Heap.get?_push_size _ rfl
  refine ⟨⟨_, hS, rfl⟩, PySem.F.args_list_init_2 _ _, ?_⟩
  have fr : H s.heap.objs.size = none := I.hok.fresh (Nat.le_refl _)
  have I1 : Inv X pins σ (upd H s.heap.objs.size (.lst [])) { s with heap := s.heap.push { cls := .type "list", data := .seq #[] } } := I.lnew (its := []) (t' := s.toks) .nil (Nat.zero_le _)
  show wpAny _ _ (do let old ← Builtin.List.listItems (.ref s.heap.objs.size); Builtin.List.listUpdate (.ref s.heap.objs.size) (fun _ => #[]); letGo old.toList.reverse; Builtin.List.listExtendWith (.ref s.heap.objs.size) (.ref a) .none) _ _ _
  refine wpAny_bind ?_
  unfold Builtin.List.listItems
  refine wpAny_bind (wpAny_seqItems hS rfl (wpAny_pure ?_))
  show wpAny _ _ (updateSeq s.heap.objs.size (fun _ => #[]) >>= fun _ => letGo (#[] : Array Value).toList.reverse >>= fun _ => Builtin.List.listExtendWith (.ref s.heap.objs.size) (.ref a) .none) _ _ _
  refine wpAny_bind (wpAny_updateSeq hS rfl ?_)
  have I2 := I1.lset (f := fun _ => #[]) (its := []) (its' := []) (ys := []) (t' := s.toks) upd_same hS rfl .nil (Nat.zero_le _)
  rw [upd_upd] at I2
  refine wpAny_bind (wpAny_letGo ?_)
  generalize hq0 : s.heap.objs.size = z at fr I2 ⊢
  have x2 : Ex H (upd H z (.lst [])) := Ex.new fr
  obtain ⟨oa, hoa⟩ := slt_some ha
  have hne : z ≠ a := (ne_of_none hoa fr).symm
  have ha2 := PwD.slt_ex x2 ha
  obtain ⟨sl, od, _, J, _⟩ := SlX.slt_inst I2 ha2
  obtain ⟨m0, hF⟩ := I2.fr
  unfold Builtin.List.listExtendWith
  refine wpAny_bind (J.type.here ?_)
  have h1 : Builtin.List.listSameRef (.ref z) (.ref a) = false := by simp [Builtin.List.listSameRef, hne]
  have h2 : (Value.ref C == Value.type "list") = false := rfl
  have h3 : (Value.ref C == Value.type "tuple") = false := rfl
  simp only [h1, h2, h3, Bool.or_false, Bool.false_eq_true, if_false]
  refine wpAny_bind (PySem.W.owit_iter hF I2.ok.mod.kin J hm.at_ hm.fn ?_)
  refine wpAny_mono (wpAny_call (SlX.run_at (A := X.A.in1.in1) (us := [.ref a]) (ws := [.ref a]) F hr2 I2.env0.in1.in1 passL I2 (.cons rfl .nil) (hsp _ x2))) (fun w s' z' => ?_) fun _ _ x => x
  obtain ⟨v, H', I', rv', it, H3, ev, x3, hi3, eH⟩ := z'
  subst ev eH
  cases rv'
  have hit : s'.heap.IsTupleIter it l 0 := (I'.hok it _ upd_same).1
  refine wpAny_specialOf (name := Str.ofString "__next__") hit.typeIs PySem.F.slot_tuple_iterator_next.lookup ?_
  have x3' : Ex H3 (upd H3 it (TiO l it 0)) := Ex.new hi3
  have hz3 : H3 z = some (.lst []) := x3 _ _ upd_same
  have nzi : z ≠ it := ne_of_none hz3 hi3
  have hz4 : (upd H3 it (TiO l it 0)) z = some (.lst []) := x3' _ _ hz3
  have xa := x2.trans (x3.trans x3')
  obtain ⟨sl2, od2, _, J2, _⟩ := SlX.slt_inst I' (PwD.slt_ex xa ha)
  have hi0 : H it = none := fresh_back (x2.trans x3) hi3
  have fin : ∀ s3, Inv X pins σ (upd H3 it (TiO l it 0)) s3 → codeAny (model X.prog X.w) X.A.in1 (.builtin "list.extend.loop" ⟨[.ref z, .ref it, .none], []⟩) (wants (fun r s₂ => r = .none ∧ EP X pins σ Q (.ref z) s₂) X.xe) s3 := fun s3 I3 =>
    tup_loop (A1 := X.A.in1) (H0 := H) (show X.A.in1.in1.handled = none from I.ok.hd hc) hz hi0 fr nzi hl (fun H4 s4 I4 e4 h4 => ⟨rfl, .ref z, H4, I4, rfl, q z H4 fr e4 h4⟩) zs.length 0 _ s3 (by omega) I3 xa upd_same (by rw [hz4]; rfl)
  refine wpAny_bind (wpAny_holding (hint_none nl nh I'.kIn J2 ?_))
  refine wpAny_ite_split (fun _ => ?_) (fun _ => wpAny_pure ⟨plainId_quiet PySem.F.plain_extend_loop _, fin _ I'⟩)
  refine wpAny_bind (wpAny_rule ?_)
  obtain ⟨z5, its, k, r3, hl3, e3⟩ := I'.lstM hz4
  cases r3
  refine wpAny_bind ?_
  show wpAny _ _ (updateSeq z (·.push .none) >>= fun _ => updateSeq z (·.pop)) _ _ _
  refine wpAny_bind (wpAny_updateSeq e3 rfl ?_)
  have I6 := I'.lset (f := (·.push Value.none)) (its' := [Value.none]) (ys := [.non]) (t' := s'.toks) hz4 e3 (by simp) (.cons rfl .nil) (by rw [List.length_singleton, sizeLine_eq]; decide)
  obtain ⟨z4, its4, k4, r4, hl4, e4⟩ := I6.lstM upd_same
  obtain ⟨u4, rfl, ru4⟩ := r4.one
  refine wpAny_updateSeq e4 rfl ?_ (by show 1 ≤ sizeLine; rw [sizeLine_eq]; decide) (by show 0 ≤ sizeLine + 1; exact Nat.zero_le _)
  refine wpAny_pure ⟨plainId_quiet PySem.F.plain_extend_loop _, fin _ ?_⟩
  have I7 := I6.lset (f := (·.pop)) (its := [u4]) (its' := []) (ys := []) (t' := s'.toks) upd_same e4 (by rfl) .nil (Nat.zero_le _)
  rw [upd_upd] at I7
  have hH : upd (upd H3 it (TiO l it 0)) z (.lst []) = upd H3 it (TiO l it 0) := by
    funext b
    by_cases hb : b = z
    · rw [hb, upd_same, hz4]
    · rw [upd_ne hb]
  rw [hH] at I7
  exact I7
end
end L2
end
/-! ### PwNw -/
section
set_option linter.all false
set_option maxRecDepth 100000
set_option maxHeartbeats 8000000
/-! == of data: rows, sets, lists of steps, dues -/
namespace L2
open PySem PySem.Spec PyProof.Rows Evl
mutual
theorem Dp.ex {K : PySem.W.Frag} {H H' : Hp} (e : Ex H H') : ∀ (d : PyData) (v : V), Dp K H v d → Dp K H' v d
  | .none, _, h => by cases h; exact .non
  | .bool b, _, h => by cases h; exact .bl b
  | .int i, _, h => by cases h; exact .int i
  | .str x, _, h => by cases h; exact .str x
  | .list ds, _, h => by
    cases h with
    | lst hs ha => exact .lst (ex_l e hs) (Dp.exAll e ds _ ha)
  | .tuple ds, _, h => by
    cases h with
    | tup hs ha => exact .tup (ex_t e hs) (Dp.exAll e ds _ ha)
  | .dict _, _, h => by cases h
theorem Dp.exAll {K : PySem.W.Frag} {H H' : Hp} (e : Ex H H') : ∀ (ds : List PyData) (vs : List V), DpAll K H vs ds → DpAll K H' vs ds
  | [], _, h => by cases h; exact .nil
  | d :: ds, _, h => by
    cases h with
    | cons h1 h2 => exact .cons (Dp.ex e d _ h1) (Dp.exAll e ds _ h2)
end
theorem dpAll_ints {K : PySem.W.Frag} {H : Hp} : ∀ ns : List Int, DpAll K H (ns.map V.int) (ns.map PyData.int)
  | [] => .nil
  | n :: ns => .cons (.int n) (dpAll_ints ns)
theorem lay_intsD : ∀ ns : List Int, PyData.canLayAll0 (ns.map PyData.int) = true ∧ PyData.depthAll (ns.map PyData.int) = 0
  | [] => ⟨rfl, rfl⟩
  | n :: ns => by
    have := lay_intsD ns
    simp [PyData.canLayAll0, PyData.canLay0, PyData.depthAll, PyData.depth, this.1, this.2]
theorem eqv_ints : ∀ ns ms : List Int, PyData.eqvAll (ns.map PyData.int) (ms.map PyData.int) = decide (ns = ms)
  | [], [] => by simp [PyData.eqvAll]
  | [], m :: ms => by simp [PyData.eqvAll]
  | n :: ns, [] => by simp [PyData.eqvAll]
  | n :: ns, m :: ms => by
    simp only [List.map_cons, PyData.eqvAll, PyData.eqv, eqv_ints ns ms, List.cons.injEq]
    by_cases h1 : n = m <;> by_cases h2 : ns = ms <;> simp [h1, h2]
end L2
namespace Wk
open PySem PySem.Spec PyProof.Rows L2 Evl Pw
/-- u is the data d -/
def DI (K : PySem.W.Frag) (H : Hp) (u : V) (d : PyData) : Prop := Dp K H u d ∧ PyData.canLay0 d = true ∧ PyData.depth d ≤ 8
theorem DI.ex {K : PySem.W.Frag} {H H' : Hp} {u : V} {d : PyData} (e : Ex H H') (h : DI K H u d) : DI K H' u d := ⟨Dp.ex e d u h.1, h.2⟩
theorem DI.sh {K : PySem.W.Frag} {H : Hp} {u : V} {d : PyData} (h : DI K H u d) : SeqAt.shaped d = true := by
  unfold SeqAt.shaped
  rw [h.2.1, Bool.true_and]
  have := h.2.2
  exact decide_eq_true (by omega)
theorem DI.tI {K : PySem.W.Frag} {H : Hp} {p : Addr} {ns : List Int} (h : SqT K H p (ns.map V.int)) : DI K H (.ref p) (.tuple (ns.map PyData.int)) := ⟨.tup h (dpAll_ints ns), (lay_intsD ns).1, by
  show PyData.depthAll _ + 1 ≤ 8
  rw [(lay_intsD ns).2]
  omega⟩
theorem DI.lI {K : PySem.W.Frag} {H : Hp} {p : Addr} {ns : List Int} (h : SqL K H p (ns.map V.int)) : DI K H (.ref p) (.list (ns.map PyData.int)) := ⟨.lst h (dpAll_ints ns), (lay_intsD ns).1, by
  show PyData.depthAll _ + 1 ≤ 8
  rw [(lay_intsD ns).2]
  omega⟩
section
variable {X : Cx} {a b : Expr} {σ : L2.St} {H : Hp} {pos : Pos} {d e : PyData}
abbrev VDI (X : Cx) (a : Expr) (σ : L2.St) (H : Hp) (d : PyData) : Prop := VD X a σ H (fun u H2 => DI X.K H2 u d)
theorem vdi {u : V} (h : VE X a σ H u) (hd : DI X.K H u d) : VDI X a σ H d := fun H1 e1 Q k => h H1 e1 Q fun H2 e2 => k u H2 e2 (hd.ex (e1.trans e2))
theorem v_eqPD (hu : X.A.units + 64 < cLine) (ha : VDI X a σ H d) (hb : VDI X b σ H e) : VE X (.Compare a [.Eq] [b] pos) σ H (.bl (PyData.eqv d e)) := fun H1 e1 Q k =>
  ofE (pe_cmpR (op_eqD hu) peW peW (nomark _)) (ha H1 e1 _ fun u H2 e2 h2 => hb H2 (e1.trans e2) _ fun v H3 e3 h3 => ⟨d, e, (h2.ex e3).1, h3.1, h2.sh, h3.sh, k H3 (e2.trans e3)⟩)
theorem v_nePD (hu : X.A.units + 64 < cLine) (ha : VDI X a σ H d) (hb : VDI X b σ H e) : VE X (.Compare a [.NotEq] [b] pos) σ H (.bl (!PyData.eqv d e)) := fun H1 e1 Q k =>
  ofE (pe_cmpR (op_neD hu) peW peW (nomark _)) (ha H1 e1 _ fun u H2 e2 h2 => hb H2 (e1.trans e2) _ fun v H3 e3 h3 => ⟨d, e, (h2.ex e3).1, h3.1, h2.sh, h3.sh, k H3 (e2.trans e3)⟩)
theorem t_eqPD (hu : X.A.units + 64 < cLine) (ha : VDI X a σ H d) (hb : VDI X b σ H e) : VT X (.Compare a [.Eq] [b] pos) σ H (PyData.eqv d e) := fun H1 e1 Q k =>
  ofT (pt_cmpR (op_eqD hu) peW peW (nomark _)) (ha H1 e1 _ fun u H2 e2 h2 => hb H2 (e1.trans e2) _ fun v H3 e3 h3 => ⟨d, e, (h2.ex e3).1, h3.1, h2.sh, h3.sh, _, rfl, k H3 (e2.trans e3)⟩)
theorem t_nePD (hu : X.A.units + 64 < cLine) (ha : VDI X a σ H d) (hb : VDI X b σ H e) : VT X (.Compare a [.NotEq] [b] pos) σ H (!PyData.eqv d e) := fun H1 e1 Q k =>
  ofT (pt_cmpR (op_neD hu) peW peW (nomark _)) (ha H1 e1 _ fun u H2 e2 h2 => hb H2 (e1.trans e2) _ fun v H3 e3 h3 => ⟨d, e, (h2.ex e3).1, h3.1, h2.sh, h3.sh, _, rfl, k H3 (e2.trans e3)⟩)
end
theorem eqv_tI {ns ms : List Int} : PyData.eqv (.tuple (ns.map PyData.int)) (.tuple (ms.map PyData.int)) = decide (ns = ms) := by
  show PyData.eqvAll _ _ = _
  exact eqv_ints ns ms
theorem eqv_lI {ns ms : List Int} : PyData.eqv (.list (ns.map PyData.int)) (.list (ms.map PyData.int)) = decide (ns = ms) := by
  show PyData.eqvAll _ _ = _
  exact eqv_ints ns ms
end Wk
namespace PwD
open PySem PySem.Spec PyProof.Rows L2 Evl Pw Wk PwH
/-- the data of a set of stands, of a row -/
def lotI (l : List Nat) : List Int := l.map Int.ofNat
def filI (n : Nat) (c : Nat → Bool) : List Int := ((List.range n).filter c).map Int.ofNat
def rowI (n : Nat) (X : Nat → Int) : List Int := (List.range n).map X
theorem lotI_eq {l : List Nat} : lotV l = (lotI l).map V.int := lotV_ints
theorem filI_eq {n : Nat} {c : Nat → Bool} : filV n c = (filI n c).map V.int := filV_ints
theorem rowI_eq {n : Nat} {X : Nat → Int} : rowV n X = (rowI n X).map V.int := rowV_ints
theorem lotI_inj {l m : List Nat} (h : lotI l = lotI m) : l = m := by
  have := congrArg (List.map Int.toNat) h
  unfold lotI at this
  rw [List.map_map, List.map_map] at this
  have e : Int.toNat ∘ Int.ofNat = id := funext fun _ => rfl
  rw [e, List.map_id, List.map_id] at this
  exact this
theorem rowI_inj {n : Nat} {X Y : Nat → Int} (h : rowI n X = rowI n Y) : ∀ v, v < n → X v = Y v := fun v hv => by
  have e : (rowI n X)[v]? = (rowI n Y)[v]? := by rw [h]
  unfold rowI at e
  rw [map_at hv, map_at hv] at e
  exact Option.some.inj e
theorem rowI_congr {n : Nat} {X Y : Nat → Int} (h : ∀ v, v < n → X v = Y v) : rowI n X = rowI n Y := List.map_congr_left fun v hv => h v (List.mem_range.mp hv)
/-- a list or a tuple of data -/
theorem di_sq {K : PySem.W.Frag} {H : Hp} {q : Addr} {us : List V} (h : Sq K H q us) (hu : ∀ u ∈ us, ∃ d, DI K H u d ∧ PyData.depth d ≤ 4) : ∃ d, DI K H (.ref q) d ∧ PyData.depth d ≤ 5 := by
  have all : ∀ us : List V, (∀ u ∈ us, ∃ d, DI K H u d ∧ PyData.depth d ≤ 4) → ∃ ds, DpAll K H us ds ∧ PyData.canLayAll0 ds = true ∧ PyData.depthAll ds ≤ 4 := fun us => by
    induction us with
    | nil => exact fun _ => ⟨[], .nil, rfl, by show 0 ≤ 4; omega⟩
    | cons u us ih =>
      intro h
      obtain ⟨d, h1, h2⟩ := h u (by simp)
      obtain ⟨ds, g1, g2, g3⟩ := ih fun v hv => h v (List.mem_cons_of_mem _ hv)
      exact ⟨d :: ds, .cons h1.1 g1, by show (PyData.canLay0 d && PyData.canLayAll0 ds) = true; rw [h1.2.1, g2]; rfl, by show max (PyData.depth d) (PyData.depthAll ds) ≤ 4; omega⟩
  obtain ⟨ds, g1, g2, g3⟩ := all us hu
  rcases h with h | h
  · exact ⟨.list ds, ⟨.lst h g1, g2, by show PyData.depthAll ds + 1 ≤ 8; omega⟩, by show PyData.depthAll ds + 1 ≤ 5; omega⟩
  · exact ⟨.tuple ds, ⟨.tup h g1, g2, by show PyData.depthAll ds + 1 ≤ 8; omega⟩, by show PyData.depthAll ds + 1 ≤ 5; omega⟩
theorem di_ints {K : PySem.W.Frag} {H : Hp} {q : Addr} {ns : List Int} (h : Sq K H q (ns.map V.int)) : ∃ d, DI K H (.ref q) d ∧ PyData.depth d ≤ 4 := by
  rcases h with h | h
  · exact ⟨_, .lI h, by show PyData.depthAll _ + 1 ≤ 4; rw [(lay_intsD ns).2]; omega⟩
  · exact ⟨_, .tI h, by show PyData.depthAll _ + 1 ≤ 4; rw [(lay_intsD ns).2]; omega⟩
theorem di_lots {K : PySem.W.Frag} {H : Hp} {q : Addr} {n : Nat} {s : Nat → List Nat} (h : Lots K H q n s) : ∃ d, DI K H (.ref q) d := by
  obtain ⟨as, h1, h2⟩ := h
  obtain ⟨d, h, _⟩ := di_sq h1 fun u hu => by
    obtain ⟨v, hv, rfl⟩ := List.mem_map.mp hu
    have := h2 v (List.mem_range.mp hv)
    rw [lotV_ints] at this
    exact di_ints this
  exact ⟨d, h⟩
theorem di_dues {K : PySem.W.Frag} {H : Hp} {q : Addr} {n : Nat} {d : Nat → Du} (h : Dues K H q n d) : ∃ e, DI K H (.ref q) e := by
  have pair : ∀ (p : Addr) (x : Str) (i : Int), PyData.canLay0 (.str x) = true → SqT K H p [.str x, .int i] → ∃ e, DI K H (.ref p) e ∧ PyData.depth e ≤ 4 := fun p x i hx hp =>
    ⟨.tuple [.str x, .int i], ⟨.tup hp (.cons (.str x) (.cons (.int i) .nil)), by show (PyData.canLay0 (.str x) && (PyData.canLay0 (.int i) && PyData.canLayAll0 [])) = true; rw [hx]; rfl, by show 1 ≤ 8; omega⟩, by show 1 ≤ 4; omega⟩
  obtain ⟨us, h1, h2⟩ := h
  obtain ⟨e, h, _⟩ := di_sq h1 fun u hu => by
    obtain ⟨v, hv, rfl⟩ := List.mem_map.mp hu
    have := h2 v (List.mem_range.mp hv)
    cases e : d v with
    | none => rw [e] at this; rw [show us v = .non from this]; exact ⟨.none, ⟨.non, rfl, by show 0 ≤ 8; omega⟩, by show 0 ≤ 4; omega⟩
    | chips x => rw [e] at this; obtain ⟨p, e1, hp⟩ := this; rw [e1]; exact pair p _ x (by decide +kernel) hp
    | less x => rw [e] at this; obtain ⟨p, e1, hp⟩ := this; rw [e1]; exact pair p _ x (by decide +kernel) hp
  exact ⟨e, h⟩
theorem di_refl {d : PyData} (h : PyData.canLay0 d = true) : PyData.eqv d d = true := SeqAt.eqv_refl d h
end PwD
end
/-! ### PwNx -/
section
set_option linter.all false
set_option maxRecDepth 100000
set_option maxHeartbeats 8000000
/-! own ==, ~, bool, iter -/
namespace PwD
open PySem PySem.Spec PyProof.Rows L2 Evl Pw Wk PwH
section
variable {P : Program} {w : World} {K : PySem.W.Frag} {mg : Str → Option Value} {base : Heap}
/-- web == web: the same one, or marks that differ -/
def spWEq (K : PySem.W.Frag) : Sp := fun vs H Q _ => ∃ (a b : Addr) (W : Web), vs = [.ref a, .ref b] ∧ WebAt K H a W ∧ ((a = b ∧ RetV (.bl true) H Q) ∨ ∃ W' : Web, WebAt K H b W' ∧ W.n = W'.n ∧ (∃ v, v < W.n ∧ W.mark v ≠ W'.mark v) ∧ RetV (.bl false) H Q)
theorem di_row {H : Hp} {q : Addr} {n : Nat} {X : Nat → Int} (h : Row K H q n X) : ∃ d, DI K H (.ref q) d ∧ (d = .list ((rowI n X).map PyData.int) ∨ d = .tuple ((rowI n X).map PyData.int)) := by
  unfold Row at h
  rw [rowI_eq] at h
  rcases h with h | h
  · exact ⟨_, .lI h, .inl rfl⟩
  · exact ⟨_, .tI h, .inr rfl⟩
theorem G_Web_eq (T : Hd K mg) : FnR P w K mg base (L2.CX P w) 1 (He.ma K (He.ga K "Web") "__eq__") (spWEq K) := by
  refine fn_rn (F_Web_eq T) sc_Web_eq (fun vs H Q E h => ?_) B_Web_eq fun cdv A outer s H vs Q E hr h => ?_
  · obtain ⟨_, _, _, rfl, _⟩ := h
    rfl
  · obtain ⟨a, b, W, rfl, hW, L⟩ := h
    have hu := hr.units
    have S := S_Web T
    obtain ⟨vs, qd, qf, qm, qv, qs, s1, s2, o⟩ := hW
    obtain ⟨dx, hs⟩ := o.sl
    obtain ⟨df, hf⟩ := di_lots o.first
    obtain ⟨ds, hsn⟩ := di_lots o.second
    obtain ⟨dm, hm, hm2⟩ := di_row o.marks
    obtain ⟨dd, hdd⟩ := di_dues o.dues
    rcases L with ⟨rfl, kq⟩ | ⟨W', hW', en, ⟨v, hv, ne⟩, kq⟩
    · refine w_ret (v := .bl (true && (PyData.eqv df df && (PyData.eqv ds ds && (PyData.eqv dm dm && PyData.eqv dd dd))))) (v_and (v_isW T.fre S (I_Web T) (KT_Web T) (g_Web T) (vn 1) hs) fun _ => v_and (v_eqPD hu (vdi (v_slot S (L_Web_first T) (vn 0) hs o.v2) hf) (vdi (v_slot S (L_Web_first T) (vn 1) hs o.v2) hf)) fun _ => v_and (v_eqPD hu (vdi (v_slot S (L_Web_second T) (vn 0) hs o.v6) hsn) (vdi (v_slot S (L_Web_second T) (vn 1) hs o.v6) hsn)) fun _ => v_and (v_eqPD hu (vdi (v_slot S (L_Web_marks T) (vn 0) hs o.v4) hm) (vdi (v_slot S (L_Web_marks T) (vn 1) hs o.v4) hm)) fun _ => v_one (v_eqPD hu (vdi (v_slot S (L_Web_dues T) (vn 0) hs o.v0) hdd) (vdi (v_slot S (L_Web_dues T) (vn 1) hs o.v0) hdd))) ?_
      rw [di_refl hf.2.1, di_refl hsn.2.1, di_refl hm.2.1, di_refl hdd.2.1]
      exact kq
    · obtain ⟨vs', qd', qf', qm', qv', qs', s1', s2', o'⟩ := hW'
      obtain ⟨dx', hs'⟩ := o'.sl
      obtain ⟨df', hf'⟩ := di_lots o'.first
      obtain ⟨ds', hsn'⟩ := di_lots o'.second
      obtain ⟨dm', hm', hm2'⟩ := di_row o'.marks
      have e : PyData.eqv dm dm' = false := by
        have z : ¬ rowI W.n W.mark = rowI W'.n W'.mark := fun z => by
          rw [← en] at z
          exact ne (rowI_inj z v hv)
        rcases hm2 with rfl | rfl <;> rcases hm2' with rfl | rfl
        · rw [eqv_lI]; exact decide_eq_false z
        · rfl
        · rfl
        · rw [eqv_tI]; exact decide_eq_false z
      refine w_ret (v := .bl (true && (PyData.eqv df df' && (PyData.eqv ds ds' && (PyData.eqv dm dm' && false))))) (v_and (v_isW T.fre S (I_Web T) (KT_Web T) (g_Web T) (vn 1) hs') fun _ => v_and (v_eqPD hu (vdi (v_slot S (L_Web_first T) (vn 0) hs o.v2) hf) (vdi (v_slot S (L_Web_first T) (vn 1) hs' o'.v2) hf')) fun _ => v_and (v_eqPD hu (vdi (v_slot S (L_Web_second T) (vn 0) hs o.v6) hsn) (vdi (v_slot S (L_Web_second T) (vn 1) hs' o'.v6) hsn')) fun _ => v_and (v_eqPD hu (vdi (v_slot S (L_Web_marks T) (vn 0) hs o.v4) hm) (vdi (v_slot S (L_Web_marks T) (vn 1) hs' o'.v4) hm')) fun z => by rw [e] at z; cases z) ?_
      rw [e, Bool.false_and, Bool.and_false, Bool.and_false, Bool.and_false]
      exact kq
theorem row_map3 {n : Nat} {X : Nat → Int} : (rowV n X).map (fun x => match x with | .int i => .int (3 - i) | x => x) = rowV n (fun v => 3 - X v) := by
  unfold rowV
  rw [List.map_map]
  rfl
/-- ~web -/
def spWInv (K : PySem.W.Frag) : Sp := fun vs H Q _ => ∃ (q : Addr) (W : Web), vs = [.ref q] ∧ W.Ok ∧ (∀ v, v < W.n → low40 (W.due v)) ∧ WebB K H q W ∧ ∀ (p : Addr) (W' : Web) H2, Ex H H2 → WebAt K (noL H2) p W' → W'.Ok → W'.n = W.n → (∀ v, v < W.n → W'.mark v = 3 - W.mark v) → (∀ v, v < W.n → W'.mv v = W.mv v) → Q (.ref p) H2
theorem G_Web_invert (T : Hd K mg) : FnR P w K mg base (L2.CX P w) 7 (He.ma K (He.ga K "Web") "__invert__") (spWInv K) := by
  refine fn_rn (F_Web_invert T) sc_Web_invert (fun vs H Q E h => ?_) B_Web_invert fun cdv A outer s H vs Q E hr h => ?_
  · obtain ⟨_, _, rfl, _⟩ := h
    rfl
  · obtain ⟨q, W, rfl, ok, low, hW, kq⟩ := h
    have hn5 := ok.n5
    have S := S_Web T
    obtain ⟨vs, qd, qf, qm, qv, qs, s1, s2, o, l60⟩ := hW
    obtain ⟨dx, hs⟩ := o.sl
    obtain ⟨W', hW'⟩ : ∃ W', W' = (⟨W.n, s2, s1, fun v => 3 - W.mark v, W.due⟩ : Web) := ⟨_, rfl⟩
    have nil1 : ∀ v, v < W.n → (s1 v = [] ↔ W.s1 v = []) := fun v hv => by
      have := o.m1 v hv
      constructor
      · intro z
        rw [List.eq_nil_iff_forall_not_mem]
        intro x hx
        have := (this x).mpr hx
        rw [z] at this
        cases this
      · intro z
        rw [List.eq_nil_iff_forall_not_mem]
        intro x hx
        have := (this x).mp hx
        rw [z] at this
        cases this
    have nil2 : ∀ v, v < W.n → (s2 v = [] ↔ W.s2 v = []) := fun v hv => by
      have := o.m2 v hv
      constructor
      · intro z
        rw [List.eq_nil_iff_forall_not_mem]
        intro x hx
        have := (this x).mpr hx
        rw [z] at this
        cases this
      · intro z
        rw [List.eq_nil_iff_forall_not_mem]
        intro x hx
        have := (this x).mp hx
        rw [z] at this
        cases this
    have ok' : W'.Ok := by
      rw [hW']
      exact ⟨ok.n1, ok.n5, fun v hv x hx => ok.in2 v hv x ((o.m2 v hv x).mp hx), fun v hv x hx => ok.in1 v hv x ((o.m1 v hv x).mp hx), fun v hv => o.l2 v hv, fun v hv => o.l1 v hv, fun v hv => by rw [nil1 v hv, nil2 v hv]; exact (ok.both v hv).symm, fun v hv => by rcases ok.mks v hv with e | e <;> show 3 - W.mark v = 1 ∨ 3 - W.mark v = 2 <;> omega, ok.dn⟩
    have mv' : ∀ v, v < W.n → W'.mv v = W.mv v := fun v hv => by
      rw [hW']
      cases e : W.mv v with
      | true => exact Web.mv_iff.mpr fun z => (ok.s2ne hv e) ((nil2 v hv).mp z)
      | false => exact Web.mv_not.mpr ((nil2 v hv).mpr ((ok.both v hv).mp (Web.mv_not.mp e)))
    refine w_retW (e_mk (E := E0) (MK_Web T) (G_Web_init T) (hr.mono (by decide)) (g_Web T) passL (R := fun vs H2 => ∃ p3, vs = [.ref qs, .ref qf, .ref p3, .ref qd] ∧ H2 p3 = some (.lst (rowV W.n fun v => 3 - W.mark v)))
      (ad_consE (v_slot S (L_Web_second T) (vn 0) hs o.v6) (ad_consE (v_slot S (L_Web_first T) (vn 0) hs o.v2) (ad_cons (ld (xs := rowV W.n fun v => 3 - W.mark v) (by
        rw [← row_map3]
        exact ccv (c_mapS (n := 1) sc_Web_invert.nd (bk sc_Web_invert (by decide +kernel)) (v_slot S (L_Web_marks T) (vn 0) hs o.v4) o.marks (by rw [rowV_len]; omega) (fun x => match x with | .int i => .int (3 - i) | x => x) (fun y hy s0 H0 C cl1 fp => by
          obtain ⟨v, hv, rfl⟩ := List.mem_map.mp hy
          exact v_sub v_int (vn 1))))) fun u1 H1 x1 h1 => ad_last (vd (v_slot S (L_Web_dues T) (vn 0) (slt_ex x1 hs) o.v0)) fun u2 H2 x2 h2 => ?_))) ?_)
    · obtain ⟨p3, rfl, h3⟩ := h1
      subst h2
      exact ⟨p3, rfl, x2 _ _ h3⟩
    · rintro vs H1 x dx2 e1 ⟨p3, rfl, h3⟩ g1 g2 g3
      refine ⟨H1, x, dx2, qs, qf, p3, qd, W', rfl, rfl, g1, g2, g3, ⟨ok', ?_, ?_, ?_, ?_, ?_⟩, ?_, fun H2 e2 hw => ⟨rfl, kq x W' H2 (e1.trans e2) hw.at ok' (by rw [hW']) (fun v _ => by rw [hW']) mv'⟩⟩
      · rw [hW']; exact o.second.ex e1
      · rw [hW']; exact o.first.ex e1
      · rw [hW']; exact .ls h3
      · rw [hW']; exact o.dues.ex e1
      · rw [hW']; exact low
      · rw [hW']
        intro v hv
        have := l60 v hv
        show (s2 v).length < 64 ∧ (s1 v).length < 64
        omega
theorem fil_dec {n : Nat} {c d : Nat → Bool} : decide (filI n c = filI n d) = true ↔ ∀ v, v < n → c v = d v := by
  constructor
  · intro h v hv
    have e : filI n c = filI n d := of_decide_eq_true h
    have m : ∀ c : Nat → Bool, (v : Int) ∈ filI n c ↔ c v = true := fun c => by
      unfold filI
      constructor
      · intro h
        obtain ⟨w, hw, ew⟩ := List.mem_map.mp h
        have : w = v := by
          have : ((w : Nat) : Int) = (v : Int) := ew
          omega
        rw [← this]
        exact (List.mem_filter.mp hw).2
      · intro h
        exact List.mem_map.mpr ⟨v, List.mem_filter.mpr ⟨List.mem_range.mpr hv, h⟩, rfl⟩
    have := m c
    rw [e, m d] at this
    cases h1 : c v <;> cases h2 : d v <;> simp_all
  · intro h
    refine decide_eq_true ?_
    unfold filI
    congr 1
    exact List.filter_congr fun v hv => h v (List.mem_range.mp hv)
def papB (n : Nat) (k k' : Int) (cl cl' : Nat → Bool) (X X' r r' ct ct' : Nat → Int) : Bool := decide (k = k') && (decide (filI n cl = filI n cl') && (decide (rowI n X = rowI n X') && (decide (rowI n r = rowI n r') && decide (rowI n ct = rowI n ct'))))
/-- paper == paper, paper == a list -/
def spPEq (K : PySem.W.Frag) : Sp := fun vs H Q _ => ∃ (a b : Addr) (n : Nat) (q : Addr) (k : Int) (cl : Nat → Bool) (X r ct : Nat → Int), vs = [.ref a, .ref b] ∧ PapAt K H a n q k cl X r ct ∧
  ((∃ xs, SqL K H b xs ∧ RetV (.bl false) H Q) ∨ ∃ (q' : Addr) (k' : Int) (cl' : Nat → Bool) (X' r' ct' : Nat → Int), PapAt K H b n q' k' cl' X' r' ct' ∧
    ((q = q' ∧ (∃ W, WebAt K H q W) ∧ RetV (.bl (papB n k k' cl cl' X X' r r' ct ct')) H Q) ∨ ∃ W W' : Web, WebAt K H q W ∧ WebAt K H q' W' ∧ W.n = W'.n ∧ (∃ v, v < W.n ∧ W.mark v ≠ W'.mark v) ∧ RetV (.bl false) H Q))
theorem v_eqW (T : Hd K mg) {X : Cx} (hX : X.K = K ∧ X.mg = mg) {a b : Expr} {σ : L2.St} {H : Hp} {p q : Addr} {z : Bool} {pos : Pos} (hr : Room 1 X.A) (ha : VE X a σ H (.ref p)) (hb : VE X b σ H (.ref q)) (hp : ∃ W, WebAt X.K H p W) (hq : ∃ W, WebAt X.K H q W) (hs : SpV (spWEq X.K) [.ref p, .ref q] H (.bl z)) : VE X (.Compare a [.Eq] [b] pos) σ H (.bl z) := by
  obtain ⟨rfl, rfl⟩ := hX
  obtain ⟨W1, vs, _, _, _, _, _, _, _, o⟩ := hp
  obtain ⟨dx, hs1⟩ := o.sl
  obtain ⟨W2, vs2, _, _, _, _, _, _, _, o2⟩ := hq
  obtain ⟨dx2, hs2⟩ := o2.sl
  exact fun H1 e1 Q k => ofE (pe_cmpR (SlX.op_own (E := E0) (op := .Eq) (fun _ _ => rfl) (ME_Web_eq T).at_ (ME_Web_eq T).fn (G_Web_eq T) hr passL) peW peW (nomark _)) (ha H1 e1 _ fun H2 e2 => hb H2 (e1.trans e2) _ fun H3 e3 => ⟨p, dx, vs, q, _, dx2, vs2, rfl, rfl, slt_ex (e1.trans (e2.trans e3)) hs1, slt_ex (e1.trans (e2.trans e3)) hs2, by unfold PySem.W.notFirst; simp, hs H3 (e1.trans (e2.trans e3)) Q (fun H4 e4 => k H4 ((e2.trans e3).trans e4)) E0⟩)
theorem ty_lst {H : Hp} {q : Addr} {xs : List V} (h : SqL K H q xs) : TyX K H (.ref q) (.type "list") := by
  rcases h with (h | ⟨o, h⟩) | ⟨o, its, n, h, hc, _⟩
  · exact .base (.lst h)
  · exact .base (.frz h)
  · exact .kList h hc
theorem G_CallPaper_eq (T : Hd K mg) : FnR P w K mg base (L2.CX P w) 2 (He.ma K (He.ga K "CallPaper") "__eq__") (spPEq K) := by
  refine fn_rn (F_CallPaper_eq T) sc_CallPaper_eq (fun vs H Q E h => ?_) B_CallPaper_eq fun cdv A outer s H vs Q E hr h => ?_
  · obtain ⟨_, _, _, _, _, _, _, _, _, rfl, _⟩ := h
    rfl
  · obtain ⟨a, b, n, q, k, cl, X, r, ct, rfl, ⟨dx, vs, pc, px, pr, pn, hs, g0, g1, g2, g3, g4, g5, t1, t2, t3, t4⟩, L⟩ := h
    have hu := hr.units
    have S := S_CallPaper T
    rcases L with ⟨xs, hx, kq⟩ | ⟨q', k', cl', X', r', ct', ⟨dx', vs', pc', px', pr', pn', hs', g0', g1', g2', g3', g4', g5', t1', t2', t3', t4'⟩, L⟩
    · exact w_ret (v := .bl (false && true)) (v_and (v_bi call_isi T.fre.isi boot_isinstance (a_cons (vn 1) (a_cons (v_gl (v := .ref (He.ga K "CallPaper")) (g_CallPaper T) rfl) a_nil)) fun H1 e1 Q1 k1 => ⟨_, _, _, _, false, rfl, .own _, ty_lst (ex_l e1 hx), (KL_CallPaper T).1, k1 H1 (Ex.refl H1)⟩) fun z => by cases z) kq
    · rw [filI_eq] at t1 t1'
      rw [rowI_eq] at t2 t3 t4 t2' t3' t4'
      rcases L with ⟨rfl, hW, kq⟩ | ⟨W, W', hW, hW', en, ne, kq⟩
      · refine w_ret (v := .bl (true && (true && (decide (k = k') && (PyData.eqv _ _ && (PyData.eqv _ _ && (PyData.eqv _ _ && PyData.eqv _ _))))))) (v_and (v_isW T.fre S (I_CallPaper T) (KT_CallPaper T) (g_CallPaper T) (vn 1) hs') fun _ => v_and (v_eqW T ⟨rfl, rfl⟩ hr (v_slot S (L_CallPaper_web T) (vn 0) hs g5) (v_slot S (L_CallPaper_web T) (vn 1) hs' g5') hW hW fun H1 e1 Q1 k1 E1 => by
          obtain ⟨W, hW⟩ := hW
          exact ⟨q, q, W, rfl, hW.ex e1, .inl ⟨rfl, k1⟩⟩) fun _ => v_and (v_eqI (v_slot S (L_CallPaper_chips T) (vn 0) hs g1) (v_slot S (L_CallPaper_chips T) (vn 1) hs' g1')) fun _ => v_and (v_eqPD hu (vdi (v_slot S (L_CallPaper_calls T) (vn 0) hs g0) (.tI t1)) (vdi (v_slot S (L_CallPaper_calls T) (vn 1) hs' g0') (.tI t1'))) fun _ => v_and (v_eqPD hu (vdi (v_slot S (L_CallPaper_row T) (vn 0) hs g4) (.tI t2)) (vdi (v_slot S (L_CallPaper_row T) (vn 1) hs' g4') (.tI t2'))) fun _ => v_and (v_eqPD hu (vdi (v_slot S (L_CallPaper_ranks T) (vn 0) hs g3) (.tI t3)) (vdi (v_slot S (L_CallPaper_ranks T) (vn 1) hs' g3') (.tI t3'))) fun _ => v_one (v_eqPD hu (vdi (v_slot S (L_CallPaper_counts T) (vn 0) hs g2) (.tI t4)) (vdi (v_slot S (L_CallPaper_counts T) (vn 1) hs' g2') (.tI t4')))) ?_
        rw [eqv_tI, eqv_tI, eqv_tI, eqv_tI, Bool.true_and, Bool.true_and]
        exact kq
      · refine w_ret (v := .bl (true && (false && true))) (v_and (v_isW T.fre S (I_CallPaper T) (KT_CallPaper T) (g_CallPaper T) (vn 1) hs') fun _ => v_and (v_eqW T ⟨rfl, rfl⟩ hr (v_slot S (L_CallPaper_web T) (vn 0) hs g5) (v_slot S (L_CallPaper_web T) (vn 1) hs' g5') ⟨W, hW⟩ ⟨W', hW'⟩ fun H1 e1 Q1 k1 E1 => ⟨q, q', W, rfl, hW.ex e1, .inr ⟨W', hW'.ex e1, en, ne, k1⟩⟩) fun z => by cases z) kq
/-- bool(verdict) -/
def spVB (K : PySem.W.Frag) : Sp := fun vs H Q _ => ∃ (u : Addr) (xs : List V), vs = [.ref u] ∧ VdAt K H u xs ∧ RetV (.bl xs.isEmpty) H Q
theorem G_Verdict_bool (T : Hd K mg) : FnR P w K mg base (L2.CX P w) 1 (He.ma K (He.ga K "Verdict") "__bool__") (spVB K) := by
  refine fn_rn (F_Verdict_bool T) sc_Verdict_bool (fun vs H Q E h => ?_) B_Verdict_bool fun cdv A outer s H vs Q E hr h => ?_
  · obtain ⟨_, _, rfl, _⟩ := h
    rfl
  · obtain ⟨u, xs, rfl, ⟨dx, vs, pf, hs, g0, hp⟩, kq⟩ := h
    refine w_retW (ofE (pe_notT peW) ?_)
    refine (v_slot (v := .ref pf) (S_Verdict T) (L_Verdict_faults T) (vn 0) hs g0) H (Ex.refl H) _ fun H1 x1 => ⟨!xs.isEmpty, .inr (.inl ⟨xs, ex_t x1 hp, rfl⟩), ?_⟩
    rw [Bool.not_not]
    exact kq H1 x1
/-- iter(verdict) -/
def spVI (K : PySem.W.Frag) : Sp := fun vs H Q _ => ∃ (u dx : Addr) (sl : List (Option V)) (pf : Addr) (xs : List V), vs = [.ref u] ∧ SlX.Slt H u (He.ga K "Verdict") dx sl ∧ sl[0]? = some (some (.ref pf)) ∧ SqT K H pf xs ∧ ∀ it H3, Ex H H3 → H3 it = none → Q (.ref it) (upd H3 it (TiO pf it 0))
theorem G_Verdict_iter (T : Hd K mg) : FnR P w K mg base (L2.CX P w) 1 (He.ma K (He.ga K "Verdict") "__iter__") (spVI K) := by
  refine fn_rn (F_Verdict_iter T) sc_Verdict_iter (fun vs H Q E h => ?_) B_Verdict_iter fun cdv A outer s H vs Q E hr h => ?_
  · obtain ⟨_, _, _, _, _, rfl, _⟩ := h
    rfl
  · obtain ⟨u, dx, sl, pf, xs, rfl, hs, g0, hp, kq⟩ := h
    refine w_retW (ofE (pe_callB call_iterU rfl T.fre.iter_ boot_iter (pa_cons peW pa_nil) (by decide) (by decide) rfl rfl) ?_)
    exact (v_slot (v := .ref pf) (S_Verdict T) (L_Verdict_faults T) (vn 0) hs g0) H (Ex.refl H) _ fun H1 x1 => ⟨pf, xs, rfl, ex_t x1 hp, fun it hit => kq it H1 x1 hit⟩
/-- list(verdict) -/
theorem v_listVd (T : Hd K mg) {X : Cx} (hX : X.K = K ∧ X.mg = mg) {a : Expr} {σ : L2.St} {H : Hp} {u : Addr} {xs : List V} {p pos : Pos} (hr : Room 3 X.A) (ha : VE X a σ H (.ref u)) (hv : VdAt X.K H u xs) (hz : xs.length < 100000) (hc : X.calm = true := by rfl) (hg : Gl X "list" := by rfl) (hs : starEach [a] X.env = (false, eval a X.env) :: starEach [] X.env := by rfl) (hpl : (backTo pos (starEach [] X.env)).any (·.1) = false := by rfl) : VL X (.Call (.Name "list" p) [a] [] pos) σ H xs := by
  obtain ⟨rfl, rfl⟩ := hX
  obtain ⟨dx, vs, pf, h1, h2, h3⟩ := hv
  exact fun H1 e1 Q k => ofE (pe_callTy (call_listV (ME_Verdict_iter T) (NO_Verdict_len T) (NO_Verdict_length_hint T) (G_Verdict_iter T) hr hc) hg T.fre.list_ PyProof.Rows.boot_list (pa_cons peW pa_nil hs) (by decide) (by decide) hs hpl) (ha H1 e1 _ fun H2 e2 => ⟨u, dx, vs, pf, xs, rfl, slt_ex (e1.trans e2) h1, hz, ex_t (e1.trans e2) h3, fun H3 e3 => ⟨u, dx, vs, pf, xs, rfl, slt_ex (e1.trans (e2.trans e3)) h1, h2, ex_t (e1.trans (e2.trans e3)) h3, fun it H4 e4 hi => ⟨it, H4, rfl, e4, hi, rfl⟩⟩, fun q H3 hq e3 h3 => k q H3 (fresh_back e2 hq) (e2.trans e3) h3⟩)
/-- bool(verdict) -/
theorem v_boolVd (T : Hd K mg) {X : Cx} (hX : X.K = K ∧ X.mg = mg) {a : Expr} {σ : L2.St} {H : Hp} {u : Addr} {xs : List V} {p pos : Pos} (hr : Room 3 X.A) (ha : VE X a σ H (.ref u)) (hv : VdAt X.K H u xs) (hg : Gl X "bool" := by rfl) (hs : starEach [a] X.env = (false, eval a X.env) :: starEach [] X.env := by rfl) (hpl : (backTo pos (starEach [] X.env)).any (·.1) = false := by rfl) : VE X (.Call (.Name "bool" p) [a] [] pos) σ H (.bl xs.isEmpty) := by
  obtain ⟨rfl, rfl⟩ := hX
  have hv2 := hv
  obtain ⟨dx, vs, pf, h1, h2, h3⟩ := hv
  exact v_ty (call_boolI (ME_Verdict_bool T) (G_Verdict_bool T) hr) T.fre.bool_ PyProof.Rows.boot_bool (a_cons ha a_nil hs) (fun H1 e1 Q k => ⟨u, dx, vs, rfl, slt_ex e1 h1, u, xs, rfl, hv2.ex e1, fun H2 e2 => ⟨_, rfl, k H2 e2⟩⟩) hg (by decide) (by decide) hs hpl
end
end PwD
end
/-! ### PwO -/
section
set_option linter.all false
set_option maxRecDepth 100000
set_option maxHeartbeats 8000000
/-! _law_parts, _law_judged -/
namespace PwD
open PySem PySem.Spec PyProof.Rows L2 Evl Pw Wk PwH
section
variable {P : Program} {w : World} {K : PySem.W.Frag} {mg : Str → Option Value} {base : Heap}
theorem vdi_tup {X : Cx} {a : Expr} {σ : L2.St} {H : Hp} {q : Addr} {ns : List Int} {p pos : Pos} (fr : Fre X.mg) (ha : VE X a σ H (.ref q)) (h : Sq X.K H q (ns.map V.int)) (hg : Gl X "tuple" := by rfl) (hs : starEach [a] X.env = (false, eval a X.env) :: starEach [] X.env := by rfl) (hpl : (backTo pos (starEach [] X.env)).any (·.1) = false := by rfl) :
    VDI X (.Call (.Name "tuple" p) [a] [] pos) σ H (.tuple (ns.map PyData.int)) := EvD.imp (v_tupS fr ha h hg hs hpl) fun u H2 _ ⟨r, e, t⟩ => by rw [e]; exact .tI t
theorem vdi_lst {X : Cx} {a : Expr} {σ : L2.St} {H : Hp} {ns : List Int} (h : VL X a σ H (ns.map V.int)) : VDI X a σ H (.list (ns.map PyData.int)) := EvD.imp (ld h) fun u H2 _ ⟨r, e, t⟩ => by rw [e]; exact .lI (sq_of t)
theorem t_neW (T : Hd K mg) {X : Cx} (hX : X.K = K ∧ X.mg = mg) {a b : Expr} {σ : L2.St} {H : Hp} {p q : Addr} {z : Bool} {pos : Pos} (hr : Room 2 X.A) (ha : VE X a σ H (.ref p)) (hb : VE X b σ H (.ref q)) (hp : ∃ W, WebAt X.K H p W) (hq : ∃ W, WebAt X.K H q W) (hs : SpV (spWEq X.K) [.ref p, .ref q] H (.bl z)) : VT X (.Compare a [.NotEq] [b] pos) σ H (!z) := by
  obtain ⟨rfl, rfl⟩ := hX
  obtain ⟨W1, vs, _, _, _, _, _, _, _, o⟩ := hp
  obtain ⟨dx, hs1⟩ := o.sl
  obtain ⟨W2, vs2, _, _, _, _, _, _, _, o2⟩ := hq
  obtain ⟨dx2, hs2⟩ := o2.sl
  exact fun H1 e1 Q k => ofT (pt_cmpR (op_neI (E := E0) (NE_Web T) (ME_Web_eq T).fn (G_Web_eq T) hr passL) peW peW (nomark _)) (ha H1 e1 _ fun H2 e2 => hb H2 (e1.trans e2) _ fun H3 e3 => ⟨p, dx, vs, q, dx2, vs2, rfl, rfl, slt_ex (e1.trans (e2.trans e3)) hs1, slt_ex (e1.trans (e2.trans e3)) hs2, hs H3 (e1.trans (e2.trans e3)) _ (fun H4 e4 => ⟨z, rfl, _, rfl, k H4 ((e2.trans e3).trans e4)⟩) E0⟩)
/-- the paper has these parts -/
def spParts (K : PySem.W.Frag) : Sp := fun vs H Q _ => ∃ (u q c a b1 b2 : Addr) (W : Web) (k : Int) (cl : Nat → Bool) (X r ct : Nat → Int), vs = [.ref u, .ref q, .int k, .ref c, .ref a, .ref b1, .ref b2] ∧ WebAt K H q W ∧ PapAt K H u W.n q k cl X r ct ∧ Fil K H c W.n cl ∧ Row K H a W.n X ∧ Row K H b1 W.n r ∧ Row K H b2 W.n ct ∧ RetV (.bl true) H Q
theorem d_lparts (T : Hd K mg) : Dn P w K mg base 3 "_law_parts" [] (spParts K) := by
  refine fn_dn (F__law_parts T) sc__law_parts (fun vs H Q E h => ?_) B__law_parts fun f cdv A outer s H vs Q E hr h => ?_
  · obtain ⟨_, _, _, _, _, _, _, _, _, _, _, _, rfl, _⟩ := h
    rfl
  · obtain ⟨u, q, c, a, b1, b2, W, k, cl, X, r, ct, rfl, hW, ⟨dx, vs, pc, px, pr, pn, hs, g0, g1, g2, g3, g4, g5, t1, t2, t3, t4⟩, hC, hA, hB1, hB2, kq⟩ := h
    have hu := hr.units
    have S := S_CallPaper T
    refine w_skip (k := !true || (!true || !decide (k = k))) (t_bool (p_or (t_not (t_val (v_isW T.fre S (I_CallPaper T) (KT_CallPaper T) (g_CallPaper T) (vn 0) hs))) fun _ => p_or (t_neW T ⟨rfl, rfl⟩ hr (v_prop S (P_CallPaper_web T) (G_CallPaper_web T) hr (vn 0) hs (spGet_v hs g5)) (vn 1) ⟨W, hW⟩ ⟨W, hW⟩ fun H1 e1 Q1 k1 E1 => ⟨q, q, W, rfl, hW.ex e1, .inl ⟨rfl, k1⟩⟩) fun _ => p_or1 (t_neI (v_prop S (P_CallPaper_chips T) (G_CallPaper_chips T) hr (vn 0) hs (spGet_v hs g1)) (vn 2)))) (by simp) fun H1 x1 => ?_
    have hs1 := slt_ex x1 hs
    have hC1 := hC.ex x1
    have hA1 := hA.ex x1
    have t1' := ex_t x1 t1
    have t2' := ex_t x1 t2
    unfold Fil at hC1
    unfold Row at hA1
    rw [filI_eq] at hC1 t1'
    rw [rowI_eq] at hA1 t2'
    refine w_skip (k := !PyData.eqv (.tuple ((filI W.n cl).map PyData.int)) (.tuple ((filI W.n cl).map PyData.int)) || !PyData.eqv (.tuple ((rowI W.n X).map PyData.int)) (.tuple ((rowI W.n X).map PyData.int))) (t_bool (p_or (t_nePD hu (vdi (v_prop S (P_CallPaper_calls T) (G_CallPaper_calls T) hr (vn 0) hs1 (spGet_v hs1 g0)) (.tI t1')) (vdi_tup T.fre (vn 3) hC1)) fun _ => p_or1 (t_nePD hu (vdi (v_prop S (P_CallPaper_row T) (G_CallPaper_row T) hr (vn 0) hs1 (spGet_v hs1 g4)) (.tI t2')) (vdi_tup T.fre (vn 4) hA1)))) (by rw [eqv_tI, eqv_tI]; simp) fun H2 x2 => ?_
    have x12 := x1.trans x2
    have hs2 := slt_ex x12 hs
    refine w_skip (k := !true || !true) (t_bool (p_or (t_not (t_val (v_call (d_lisrow T) hr (a_cons (v_prop S (P_CallPaper_row T) (G_CallPaper_row T) hr (vn 0) hs2 (spGet_v hs2 g4)) (a_cons (v_lenN (m := W.n) T.fre (vn 4) (hA.ex x12) rowV_len) a_nil)) fun H3 x3 Q3 k3 E3 => ⟨px, W.n, X, rfl, ex_t (x12.trans x3) t2, k3⟩))) fun _ => p_or1 (t_not (t_val (v_call (d_lisrow T) hr (a_cons (v_prop S (P_CallPaper_ranks T) (G_CallPaper_ranks T) hr (vn 0) hs2 (spGet_v hs2 g3)) (a_cons (v_lenN (m := W.n) T.fre (vn 4) (hA.ex x12) rowV_len) a_nil)) fun H3 x3 Q3 k3 E3 => ⟨pr, W.n, r, rfl, ex_t (x12.trans x3) t3, k3⟩))))) rfl fun H3 x3 => ?_
    have x13 := x12.trans x3
    have hs3 := slt_ex x13 hs
    have hB1' := hB1.ex x13
    have hB2' := hB2.ex x13
    have t3' := ex_t x13 t3
    have t4' := ex_t x13 t4
    unfold Row at hB1' hB2'
    rw [rowI_eq] at hB1' hB2' t3' t4'
    refine w_ret (v := .bl (PyData.eqv (.tuple ((rowI W.n r).map PyData.int)) (.tuple ((rowI W.n r).map PyData.int)) && (PyData.eqv (.tuple ((rowI W.n ct).map PyData.int)) (.tuple ((rowI W.n ct).map PyData.int)) && true))) (v_and (v_eqPD hu (vdi (v_prop S (P_CallPaper_ranks T) (G_CallPaper_ranks T) hr (vn 0) hs3 (spGet_v hs3 g3)) (.tI t3')) (vdi_tup T.fre (vn 5) hB1')) fun _ => v_and (v_eqPD hu (vdi (v_prop S (P_CallPaper_counts T) (G_CallPaper_counts T) hr (vn 0) hs3 (spGet_v hs3 g2)) (.tI t4')) (vdi_tup T.fre (vn 6) hB2')) fun _ => v_one (v_call (d_lisrow T) hr (a_cons (v_prop S (P_CallPaper_counts T) (G_CallPaper_counts T) hr (vn 0) hs3 (spGet_v hs3 g2)) (a_cons (v_lenN (m := W.n) T.fre (vn 4) (hA.ex x13) rowV_len) a_nil)) fun H4 x4 Q4 k4 E4 => ⟨pn, W.n, ct, rfl, ex_t (x13.trans x4) t4, k4⟩)) fun H4 x4 => ?_
    rw [eqv_tI, eqv_tI, decide_eq_true rfl, decide_eq_true rfl]
    exact kq H4 (x13.trans x4)
theorem vdi_faults (T : Hd K mg) {X : Cx} (hX : X.K = K ∧ X.mg = mg) {e : Expr} {σ : L2.St} {H : Hp} {ns : List Int} {pos : Pos} (hr : Room 2 X.A) (h : VD X e σ H (fun u H2 => ∃ p, u = .ref p ∧ VdAt X.K H2 p (ns.map V.int))) (hb : attributeBase e "faults" X.env (eval e X.env) = eval e X.env := by rfl) : VDI X (.Attribute e "faults" pos) σ H (.tuple (ns.map PyData.int)) := by
  obtain ⟨rfl, rfl⟩ := hX
  exact fun H1 e1 Q k => ofE (SlX.pe_propSl (E := E0) peW (S_Verdict T) (P_Verdict_faults T).at_ (P_Verdict_faults T).get (P_Verdict_faults T).tk (P_Verdict_faults T).rc (G_Verdict_faults T) hr (fun H s e s' x => by obtain ⟨_, _, _, _, _, _, _, _, _, _, _, _, z⟩ := x; exact z.elim) hb) (h H1 e1 _ fun u H2 e2 ⟨p, hu, dx, vs, pf, h1, h2, h3⟩ => ⟨p, dx, vs, hu, h1, p, dx, vs, .ref pf, rfl, h1, h2, fun H3 e3 => k _ H3 (e2.trans e3) (.tI (ex_t e3 h3))⟩)
/-- the paper's faults are those of both halves -/
def spLJudged (K : PySem.W.Frag) : Sp := fun vs H Q _ => ∃ (u q lw c a b1 b2 : Addr) (W : Web) (k : Nat) (cs : List Nat) (X r ct : Nat → Int), vs = [.ref u, .ref q, .ref lw, .int (k : Int), .ref c, .ref a, .ref b1, .ref b2] ∧ W.Ok ∧ WebAt K H q W ∧ LWeb K H lw W ∧ PapAt K H u W.n q (k : Int) (fun v => decide (v ∈ cs)) X r ct ∧ k ≤ 60 ∧ cs.length ≤ 50 ∧ Sq K H c (lotV cs) ∧ lotV cs = filV W.n (fun v => decide (v ∈ cs)) ∧ (∀ v ∈ cs, v < W.n ∧ W.mv v = true) ∧
  Row K H a W.n X ∧ (∀ v, v < W.n → 0 ≤ X v ∧ X v ≤ (k : Int) + 1) ∧ Row K H b1 W.n r ∧ (∀ v, v < W.n → 0 ≤ r v) ∧ Row K H b2 W.n ct ∧ (∀ v, v < W.n → 0 ≤ ct v) ∧ RetV (.bl true) H Q
theorem d_ljudged (T : Hd K mg) : Dn P w K mg base 8 "_law_judged" [] (spLJudged K) := by
  refine fn_dn (F__law_judged T) sc__law_judged (fun vs H Q E h => ?_) B__law_judged fun f cdv A outer s H vs Q E hr h => ?_
  · obtain ⟨_, _, _, _, _, _, _, _, _, _, _, _, _, rfl, _⟩ := h
    rfl
  · obtain ⟨u, q, lw, c, a, b1, b2, W, k, cs, X, r, ct, rfl, ok, hW, hL, hP, hk, hcl, hc, ec, hcm, hX, hXb, hR, hR0, hT, hT0, kq⟩ := h
    have hn5 := ok.n5
    have hu := hr.units
    obtain ⟨cl, hcl'⟩ : ∃ cl : Nat → Bool, cl = fun v => decide (v ∈ cs) := ⟨_, rfl⟩
    have hsub : ∀ v, v < W.n → cl v = true → W.mv v = true := fun v _ hv => by rw [hcl'] at hv; exact (hcm v (of_decide_eq_true hv)).2
    have hF : Fil K H c W.n cl := by rw [hcl']; rw [ec] at hc; exact hc
    obtain ⟨fa, hfa⟩ : ∃ fa : Nat → Bool, fa = fun v => !abv W cl ((k : Int) + 1) X r v := ⟨_, rfl⟩
    obtain ⟨fb, hfb⟩ : ∃ fb : Nat → Bool, fb = fun v => !blw W cl ((k : Int) + 1) X ct v := ⟨_, rfl⟩
    refine w_setL (xs := filV W.n fa) (lv sc__law_judged.nd 8) (v_callL (d_labv T) (hr.mono (by decide)) (a_cons (vn 2) (a_cons (vn 3) (a_cons (vn 4) (a_cons (vn 5) (a_cons (vn 6) a_nil))))) fun H2 x2 Q2 k2 E2 => ⟨lw, c, a, b1, W, cl, X, r, k, rfl, ok, hL.ex x2, hF.ex x2, hX.ex x2, hR.ex x2, by rw [hfa] at k2; exact k2⟩) fun p8 H1 hp8 x1 h8 => ?_
    refine w_setL (xs := filV W.n fb) (lv sc__law_judged.nd 9) (v_callL (d_lblw T) (hr.mono (by decide)) (a_cons (vn 2) (a_cons (vn 3) (a_cons (vn 4) (a_cons (vn 5) (a_cons (vn 7) a_nil))))) fun H2 x2 Q2 k2 E2 => ⟨lw, c, a, b2, W, cl, X, ct, k, rfl, ok, hL.ex (x1.trans x2), hF.ex (x1.trans x2), hX.ex (x1.trans x2), hT.ex (x1.trans x2), by rw [hfb] at k2; exact k2⟩) fun p9 H2 hp9 x2 h9 => ?_
    have x12 := x1.trans x2
    obtain ⟨fc, hfc⟩ : ∃ fc : Nat → Bool, fc = fun v => fa v || fb v := ⟨_, rfl⟩
    refine w_setC (xs := filV W.n fc) (lv sc__law_judged.nd 10) rfl (c_fltR (n := 12) T.fre sc__law_judged.nd (bk sc__law_judged (by decide +kernel)) (v_lenN (m := W.n) T.fre (vn 5) (hX.ex x12) rowV_len) (by omega) fc iv (fun v hv s0 H0 C cl1 fp => by
      have e : fc v = (inV (.int (v : Int)) (filV W.n fa) || inV (.int (v : Int)) (filV W.n fb)) := by rw [in_fil hv, in_fil hv, hfc]
      rw [e]
      exact t_bool (p_or (t_inS (vn 12) (vn 8) (.ls (x2 _ _ h8)) rfl lot_flat) fun _ => p_or1 (t_inS (vn 12) (vn 9) (.ls h9) rfl lot_flat))) (fun v hv _ s0 H0 C cl1 fp => vn 12)) (sw_true rfl rfl rfl (by decide +kernel)) fun p10 H3 hp10 x3 h10 => ?_
    have x13 := x12.trans x3
    have hP' : PapAt K H u W.n q (k : Int) cl X r ct := by rw [hcl']; exact hP
    obtain ⟨dx, vs, pc, px, pr, pn, hs, _⟩ := id hP'
    refine w_setD (lv sc__law_judged.nd 11) (v_meth0 (S_CallPaper T) (ME_CallPaper_judged T) (G_judged T) hr (vn 0) (slt_ex x13 hs) (P := fun u H2 => ∃ p, u = .ref p ∧ VdAt K H2 p (filV W.n fc)) fun H4 x4 Q4 k4 E4 => ⟨u, q, W, k, cl, X, r, ct, rfl, ok, hW.ex (x13.trans x4), hsub, hP'.ex (x13.trans x4), fun w H5 x5 ⟨p, e, hv⟩ => k4 w H5 x5 ⟨p, e, by
      have e2 : (filV W.n fun v => !(abv W cl ((k : Int) + 1) X r v && blw W cl ((k : Int) + 1) X ct v)) = filV W.n fc := filV_congr fun v hv => by
        rw [hfc, hfa, hfb]
        show (!(abv W cl ((k : Int) + 1) X r v && blw W cl ((k : Int) + 1) X ct v)) = (!abv W cl ((k : Int) + 1) X r v || !blw W cl ((k : Int) + 1) X ct v)
        exact Bool.not_and _ _
      rw [e2] at hv
      exact hv⟩⟩) fun w H4 x4 hw => ?_
    obtain ⟨pv, rfl, hv⟩ := hw
    have x14 := x13.trans x4
    have hv' := hv
    rw [filI_eq] at hv'
    obtain ⟨dv, vv, pf, v1, v2, v3⟩ := id hv'
    have h10' := x4 _ _ h10
    have l10 : H4 p10 = some (.lst ((filI W.n fc).map V.int)) := by rw [← filI_eq]; exact h10'
    have lz : (filV W.n fc).length < 100000 := by have := filV_len (n := W.n) (c := fc); omega
    refine w_skip (k := !PyData.eqv (.tuple ((filI W.n fc).map PyData.int)) (.tuple ((filI W.n fc).map PyData.int)) || (!PyData.eqv (.list ((filI W.n fc).map PyData.int)) (.list ((filI W.n fc).map PyData.int)) || !decide (V.bl (filV W.n fc).isEmpty = V.bl (decide (((filV W.n fc).length : Int) = 0))))) (t_bool (p_or (t_nePD hu (vdi (v_prop (S_Verdict T) (P_Verdict_faults T) (G_Verdict_faults T) (hr.mono (by decide)) (vn 11) v1 (spGet_v v1 v2)) (.tI v3)) (vdi_tup T.fre (vn 10) (.ls l10))) fun _ => p_or (t_nePD hu (vdi_lst (by rw [← filI_eq]; exact v_listVd T ⟨rfl, rfl⟩ (hr.mono (by decide)) (vn 11) hv lz)) (vdi (vn 10) (.lI (sq_of l10)))) fun _ => p_or1 (t_ne (v_boolVd T ⟨rfl, rfl⟩ (hr.mono (by decide)) (vn 11) hv) (v_eqI (v_lenN T.fre (vn 10) (.ls h10') rfl) v_int) rfl))) (by
      rw [eqv_tI, eqv_lI]
      cases filV W.n fc with
      | nil => simp
      | cons z zs => simp; omega) fun H5 x5 => ?_
    have x15 := x14.trans x5
    have h8' : H5 p8 = some (.lst ((filI W.n fa).map V.int)) := by rw [← filI_eq]; exact x5 _ _ (x4 _ _ (x3 _ _ (x2 _ _ h8)))
    refine w_skip (k := !PyData.eqv (.tuple ((filI W.n fa).map PyData.int)) (.tuple ((filI W.n fa).map PyData.int))) (t_nePD hu (vdi_faults T ⟨rfl, rfl⟩ (hr.mono (by decide)) (v_callD (d_hab T) hr (a_cons (vn 1) (a_cons (vn 3) (a_cons (vn 4) (a_cons (vn 5) (a_cons (vn 6) a_nil))))) fun H6 x6 Q6 k6 E6 => ⟨q, c, a, b1, W, k, cs, X, r, rfl, ok, hW.ex (x15.trans x6), hk, hcl, hc.ex (x15.trans x6), hcm, hX.ex (x15.trans x6), hXb, hR.ex (x15.trans x6), hR0, fun w H7 x7 ⟨p, e, hv⟩ => k6 w H7 x7 ⟨p, e, by rw [← hcl', ← hfa, filI_eq] at hv; exact hv⟩⟩)) (vdi_tup T.fre (vn 8) (.ls h8'))) (by rw [eqv_tI]; simp) fun H6 x6 => ?_
    have x16 := x15.trans x6
    have h9' : H6 p9 = some (.lst ((filI W.n fb).map V.int)) := by rw [← filI_eq]; exact x6 _ _ (x5 _ _ (x4 _ _ (x3 _ _ h9)))
    refine w_ret (v := .bl (PyData.eqv (.tuple ((filI W.n fb).map PyData.int)) (.tuple ((filI W.n fb).map PyData.int)))) (v_eqPD hu (vdi_faults T ⟨rfl, rfl⟩ (hr.mono (by decide)) (v_callD (d_hbl T) hr (a_cons (vn 1) (a_cons (vn 3) (a_cons (vn 4) (a_cons (vn 5) (a_cons (vn 7) a_nil))))) fun H7 x7 Q7 k7 E7 => ⟨q, c, a, b2, W, k, cs, X, ct, rfl, ok, hW.ex (x16.trans x7), hk, hcl, hc.ex (x16.trans x7), hcm, hX.ex (x16.trans x7), hXb, hT.ex (x16.trans x7), hT0, fun w H8 x8 ⟨p, e, hv⟩ => k7 w H8 x8 ⟨p, e, by rw [← hcl', ← hfb, filI_eq] at hv; exact hv⟩⟩)) (vdi_tup T.fre (vn 9) (.ls h9'))) fun H7 x7 => ?_
    rw [eqv_tI, decide_eq_true rfl]
    exact kq H7 (x16.trans x7)
end
end PwD
end
/-! ### PwP -/
section
set_option linter.all false
set_option maxRecDepth 100000
set_option maxHeartbeats 8000000
/-! _law_code -/
namespace Wk
open PySem PySem.Spec PyProof.Rows L2 Evl Pw
/-- a suite of one row -/
def tsW (X : Cx) (b : Stmt) : Addr → Value → Option Addr → TS := fun a _ _ D σ H => ∀ (oe : Obj) (pn : List (Addr × Obj)), WS (X.suite a ((a, oe) :: pn)) [b] D σ H
/-- what four clauses wish -/
abbrev WM4 (X : Cx) (D : Ends) (c1 c2 c3 c4 : Value) (b1 b2 b3 b4 : Stmt) : WX := wMany X.K (fun _ _ _ _ => False) D [(c1, tsW X b1), (c2, tsW X b2), (c3, tsW X b3), (c4, tsW X b4)]
/-- what a callee lets out, taken by the number of locals alone -/
theorem passN {X : Cx} {W : WX} (tk : Takes X W) : Passes (L2.CX X.prog X.w) X (fun cls d H' => ∀ σ' : L2.St, σ'.length = X.N.length → W cls d σ' H') := fun pins σ H s e s' I c => tk e s' (XE.of_call I (fun cls d H' h => h σ I.len) c)
theorem w_try4 {X : Cx} {body rest : List Stmt} {x1 x2 x3 x4 : Str} {c1 c2 c3 c4 : Value} {b1 b2 b3 b4 : Stmt} {p1 p2 p3 p4 q1 q2 q3 q4 pos : Pos} {σ : L2.St} {H : Hp} {D0 : Ends} (n1 : Names X x1 c1) (n2 : Names X x2 c2) (n3 : Names X x3 c3) (n4 : Names X x4 c4)
    (m11 : PySem.W.exmOne X.K c1 c1 = some true) (m21 : PySem.W.exmOne X.K c2 c1 = some false) (m22 : PySem.W.exmOne X.K c2 c2 = some true) (m31 : PySem.W.exmOne X.K c3 c1 = some false) (m32 : PySem.W.exmOne X.K c3 c2 = some false) (m33 : PySem.W.exmOne X.K c3 c3 = some true)
    (m41 : PySem.W.exmOne X.K c4 c1 = some false) (m42 : PySem.W.exmOne X.K c4 c2 = some false) (m43 : PySem.W.exmOne X.K c4 c3 = some false) (m44 : PySem.W.exmOne X.K c4 c4 = some true)
    (h : ∀ (pn : List (Addr × Obj)) (xe : Value → Shared → Prop) (E : XK), Passes (L2.CX (X.tr pn xe).prog (X.tr pn xe).w) (X.tr pn xe) E →
      (∀ H2, (∀ (σ' : L2.St) (a : Addr) (oe : Obj) (pn' : List (Addr × Obj)), σ'.length = X.N.length → WS (X.suite a ((a, oe) :: pn')) [b1] { D0 with nx := fun σ' H' => WS X rest D0 σ' H' } σ' H2) → E c1 none H2) →
      (∀ H2, (∀ (σ' : L2.St) (a : Addr) (oe : Obj) (pn' : List (Addr × Obj)), σ'.length = X.N.length → WS (X.suite a ((a, oe) :: pn')) [b2] { D0 with nx := fun σ' H' => WS X rest D0 σ' H' } σ' H2) → E c2 none H2) →
      (∀ H2, (∀ (σ' : L2.St) (a : Addr) (oe : Obj) (pn' : List (Addr × Obj)), σ'.length = X.N.length → WS (X.suite a ((a, oe) :: pn')) [b3] { D0 with nx := fun σ' H' => WS X rest D0 σ' H' } σ' H2) → E c3 none H2) →
      (∀ H2, (∀ (σ' : L2.St) (a : Addr) (oe : Obj) (pn' : List (Addr × Obj)), σ'.length = X.N.length → WS (X.suite a ((a, oe) :: pn')) [b4] { D0 with nx := fun σ' H' => WS X rest D0 σ' H' } σ' H2) → E c4 none H2) →
      WS (X.tr pn xe) body { D0 with nx := fun σ' H' => WS X rest D0 σ' H' } σ H)
    (hs : X.stack = X.env :: X.outer := by rfl) (hf : X.env.frame = some X.env.locals := by rfl) :
    WS X (.Try body [.ExceptHandler (some (.Name x1 p1)) none [b1] q1, .ExceptHandler (some (.Name x2 p2)) none [b2] q2, .ExceptHandler (some (.Name x3 p3)) none [b3] q3, .ExceptHandler (some (.Name x4 p4)) none [b4] q4] [] [] pos :: rest) D0 σ H := by
  have su : ∀ (b : Stmt) (a : Addr) (oe : Obj) (cls : Value) (d : Option Addr) (pn : List (Addr × Obj)), PSs (X.suite a ((a, oe) :: pn)) [b] (tsW X b a cls d) := fun b a oe cls d pn => ⟨fun pins s1 σ1 H1 D I h => h oe pn pins s1 I⟩
  exact w_cons (ps_try_many (tb := fun W D σ H => ∀ (pn : List (Addr × Obj)) (xe : Value → Shared → Prop), Takes (X.tr pn xe) W → WS (X.tr pn xe) body D σ H) hs hf takes_none5 (fun W pn xe tk po => ⟨fun pins s1 σ1 H1 D I h => h pn xe tk pins s1 I⟩)
    (.cons n1 (fun a oe cls d pn _ _ => su b1 a oe cls d pn) (.cons n2 (fun a oe cls d pn _ _ => su b2 a oe cls d pn) (.cons n3 (fun a oe cls d pn _ _ => su b3 a oe cls d pn) (.cons n4 (fun a oe cls d pn _ _ => su b4 a oe cls d pn) .nil))))) fun pn xe tk => h pn xe _ (passN tk)
      (fun H2 g σ' hl => ⟨true, m11, fun _ a ha oe pn' => g σ' a oe pn' hl, fun z => by cases z⟩)
      (fun H2 g σ' hl => ⟨false, m21, (fun z => by cases z), fun _ => ⟨true, m22, fun _ a ha oe pn' => g σ' a oe pn' hl, fun z => by cases z⟩⟩)
      (fun H2 g σ' hl => ⟨false, m31, (fun z => by cases z), fun _ => ⟨false, m32, (fun z => by cases z), fun _ => ⟨true, m33, fun _ a ha oe pn' => g σ' a oe pn' hl, fun z => by cases z⟩⟩⟩)
      (fun H2 g σ' hl => ⟨false, m41, (fun z => by cases z), fun _ => ⟨false, m42, (fun z => by cases z), fun _ => ⟨false, m43, (fun z => by cases z), fun _ => ⟨true, m44, fun _ a ha oe pn' => g σ' a oe pn' hl, fun z => by cases z⟩⟩⟩⟩)
end Wk
namespace PwD
open PySem PySem.Spec PyProof.Rows L2 Evl Pw Wk PwH
section
variable {P : Program} {w : World} {K : PySem.W.Frag} {mg : Str → Option Value} {base : Heap}
def spCode (K : PySem.W.Frag) : Sp := fun vs H Q _ => ∃ (z : Int) (q c : Addr) (W : Web) (k : Int) (u3 u4 u5 : V), vs = [.ref q, .int k, .ref c, u3, u4, u5] ∧ W.Ok ∧ WebAt K H q W ∧ RetV (.int z) H Q ∧
  ((∃ xs, u3 = .non ∧ Sq K H c xs ∧ (∀ x ∈ xs, Sim x) ∧ ((xs.all isI = false ∧ z = 1) ∨ ∃ (l : List Nat) (kn : Nat), xs = lotV l ∧ k = (kn : Int) ∧ l.length ≤ 50 ∧ (((∃ v ∈ l, ¬ v < W.n) ∧ z = 2) ∨ ((∀ v ∈ l, v < W.n) ∧ (∃ v ∈ l, W.mv v = false) ∧ z = 3) ∨ ((∀ v ∈ l, v < W.n ∧ W.mv v = true) ∧ 60 < kn ∧ z = 4)))) ∨
   ∃ (a b1 b2 : Addr) (l : List Nat) (rns : List Int) (xs1 xs2 : List V), u3 = .ref a ∧ u4 = .ref b1 ∧ u5 = .ref b2 ∧ 0 ≤ k ∧ l.length ≤ 50 ∧ Sq K H c (lotV l) ∧ (∀ v ∈ l, v < W.n ∧ W.mv v = true) ∧ Sq K H a (rns.map V.int) ∧ Sq K H b1 xs1 ∧ Sq K H b2 xs2 ∧ (∀ x ∈ xs1, Sim x) ∧ (∀ x ∈ xs2, Sim x) ∧
    (((∃ p ∈ [xs1, xs2], p.all isI = false) ∧ z = 1) ∨ ((∀ p ∈ [xs1, xs2], p.all isI = true) ∧ (∃ p ∈ [xs1, xs2], ¬ okN W.n p) ∧ (∃ X, rns.map V.int = rowV W.n X ∧ (∀ v, v < W.n → 0 ≤ X v ∧ X v ≤ k + 1)) ∧ z = 2) ∨ ((∀ p ∈ [xs1, xs2], okN W.n p) ∧ 10 ^ 40 < k ∧ (∃ X, rns.map V.int = rowV W.n X ∧ (∀ v, v < W.n → 0 ≤ X v ∧ X v ≤ k + 1)) ∧ z = 4)))
theorem d_lcode (T : Hd K mg) : Dn P w K mg base 10 "_law_code" [] (spCode K) := by
  refine fn_dn (F__law_code T) sc__law_code (fun vs H Q E h => ?_) B__law_code fun f cdv A outer s H vs Q E hr h => ?_
  · obtain ⟨_, _, _, _, _, _, _, _, rfl, _⟩ := h
    rfl
  · obtain ⟨z, q, c, W, k, u3, u4, u5, rfl, ok, hW, kq, L⟩ := h
    refine w_set (lv sc__law_code.nd 6) v_int fun H1 x1 => ?_
    refine w_try4 (c1 := .ref (He.ga K "WrongKind")) (c2 := .ref (He.ga K "WrongNumber")) (c3 := .ref (He.ga K "WrongWeb")) (c4 := .ref (He.ga K "TooMuch")) ⟨rfl, by decide, .inl (g_WrongKind T)⟩ ⟨rfl, by decide, .inl (g_WrongNumber T)⟩ ⟨rfl, by decide, .inl (g_WrongWeb T)⟩ ⟨rfl, by decide, .inl (g_TooMuch T)⟩
      (XM_WrongKind_WrongKind T) (XM_WrongNumber_WrongKind T) (XM_WrongNumber_WrongNumber T) (XM_WrongWeb_WrongKind T) (XM_WrongWeb_WrongNumber T) (XM_WrongWeb_WrongWeb T) (XM_TooMuch_WrongKind T) (XM_TooMuch_WrongNumber T) (XM_TooMuch_WrongWeb T) (XM_TooMuch_TooMuch T) fun pn xe EE ps k1 k2 k3 k4 => ?_
    have r1 : z = 1 → ∀ H2, Ex H H2 → EE (.ref (He.ga K "WrongKind")) none H2 := fun hz H2 x => k1 H2 fun σ' a oe pn' hl => w_set (lv sc__law_code.nd 6) v_int fun H3 x3 => w_nil (w_ret (vn (v := .int 1) 6 (hs := List.getElem?_set_self (by rw [hl]; show 6 < 7; omega))) fun H4 x4 => by rw [hz] at kq; exact kq H4 ((x.trans x3).trans x4))
    have r2 : z = 2 → ∀ H2, Ex H H2 → EE (.ref (He.ga K "WrongNumber")) none H2 := fun hz H2 x => k2 H2 fun σ' a oe pn' hl => w_set (lv sc__law_code.nd 6) v_int fun H3 x3 => w_nil (w_ret (vn (v := .int 2) 6 (hs := List.getElem?_set_self (by rw [hl]; show 6 < 7; omega))) fun H4 x4 => by rw [hz] at kq; exact kq H4 ((x.trans x3).trans x4))
    have r3 : z = 3 → ∀ H2, Ex H H2 → EE (.ref (He.ga K "WrongWeb")) none H2 := fun hz H2 x => k3 H2 fun σ' a oe pn' hl => w_set (lv sc__law_code.nd 6) v_int fun H3 x3 => w_nil (w_ret (vn (v := .int 3) 6 (hs := List.getElem?_set_self (by rw [hl]; show 6 < 7; omega))) fun H4 x4 => by rw [hz] at kq; exact kq H4 ((x.trans x3).trans x4))
    have r4 : z = 4 → ∀ H2, Ex H H2 → EE (.ref (He.ga K "TooMuch")) none H2 := fun hz H2 x => k4 H2 fun σ' a oe pn' hl => w_set (lv sc__law_code.nd 6) v_int fun H3 x3 => w_nil (w_ret (vn (v := .int 4) 6 (hs := List.getElem?_set_self (by rw [hl]; show 6 < 7; omega))) fun H4 x4 => by rw [hz] at kq; exact kq H4 ((x.trans x3).trans x4))
    rcases L with ⟨xs, rfl, hc, hx, L⟩ | ⟨a, b1, b2, l, rns, xs1, xs2, rfl, rfl, rfl, hk, hl, hc, hlm, ha, h1, h2, s1, s2, L⟩
    · refine w_then (t_isN (x := .non) (vn 3)) rfl fun H2 x2 => ?_
      have x12 := x1.trans x2
      refine w_cons (ps_expr (ClX.pe_cmeth (E := EE) peW (CM_CallPaper_of T).1 (CM_CallPaper_of T).2 (G_of T) hr ps paW) rfl) ?_
      refine (v_gl (v := .ref (He.ga K "CallPaper")) (g_CallPaper T) rfl) H2 (Ex.refl H2) _ fun H3 x3 => ⟨rfl, ?_⟩
      refine (a_cons (vn (v := .ref q) 0) (a_cons (vn (v := .int k) 1) (a_cons (vn (v := .ref c) 2) a_nil))) H3 (Ex.refl H3) _ fun H4 x4 => ?_
      have x14 := (x12.trans x3).trans x4
      refine ⟨q, c, W, k, xs, rfl, ok, hW.ex x14, hc.ex x14, hx, ?_⟩
      rcases L with ⟨g, hz⟩ | ⟨l, kn, g1, g2, g3, L⟩
      · exact .inl ⟨g, fun H5 x5 => r1 hz H5 (x14.trans x5)⟩
      · refine .inr ⟨l, kn, g1, g2, g3, ?_⟩
        rcases L with ⟨g, hz⟩ | ⟨g, g', hz⟩ | ⟨g, g', hz⟩
        · exact .inl ⟨g, fun H5 x5 => r2 hz H5 (x14.trans x5)⟩
        · exact .inr (.inl ⟨g, g', fun H5 x5 => r3 hz H5 (x14.trans x5)⟩)
        · exact .inr (.inr (.inl ⟨g, g', fun H5 x5 => r4 hz H5 (x14.trans x5)⟩))
    · refine w_else (t_isN (x := .ref a) (vn 3)) rfl fun H2 x2 => ?_
      have x12 := x1.trans x2
      refine w_cons (ps_expr peW rfl) ?_
      refine e_mk (E := EE) (MK_CallPaper T) (G_CallPaper_init T) (hr.mono (by decide)) (g_CallPaper T) ps (R := fun vs _ => vs = [.ref q, .int k, .ref c, .ref a, .ref b1, .ref b2]) (ad_consE (vn 0) (ad_consE (vn 1) (ad_consE (vn 2) (ad_consE (vn 3) (ad_consE (vn 4) (ad_last (vd (vn 5)) fun u H3 _ hu => by rw [hu])))))) fun vs H3 x dx e3 hv g1 g2 g3 => ?_
      subst hv
      have x13 := x12.trans e3
      refine ⟨H3, x, dx, q, c, a, b1, b2, W, k, l, rns, xs1, xs2, rfl, rfl, g1, g2, g3, ok, hW.ex x13, hk, hl, hc.ex x13, hlm, ha.ex x13, h1.ex x13, h2.ex x13, s1, s2, ?_⟩
      rcases L with ⟨g, hz⟩ | ⟨g, g', g'', hz⟩ | ⟨g, g', g'', hz⟩
      · exact .inr (.inl ⟨g, fun H5 x5 => r1 hz H5 (x13.trans x5)⟩)
      · exact .inr (.inr (.inl ⟨g, g', g'', fun H5 x5 => r2 hz H5 (x13.trans x5)⟩))
      · exact .inr (.inr (.inr ⟨g, g', g'', fun H5 x5 => r4 hz H5 (x13.trans x5)⟩))
end
end PwD
end
/-! ### PwQ -/
section
set_option linter.all false
set_option maxRecDepth 100000
set_option maxHeartbeats 8000000
/-! _law_alike -/
namespace Wk
open PySem PySem.Spec PyProof.Rows L2 Evl Pw
section
variable {X : Cx} {a : Expr} {σ : L2.St} {H : Hp} {pos p p2 : Pos} {q : Addr} {xs : List V} {m : Nat}
theorem cut1 (hne : 1 ≤ xs.length) : cutV xs (some 1) none = xs.drop 1 := by
  unfold cutV
  rw [show HT.sIx xs.length 0 (some 1) = 1 from by rw [show (some (1 : Int)) = some ((1 : Nat) : Int) from rfl, HT.sIx_nat]; omega, HT.sIx_none]
  exact List.take_of_length_le (by rw [List.length_drop]; omega)
/-- xs[1:] -/
theorem v_tail1 (ha : VE X a σ H (.ref q)) (hq : SqL X.K H q xs) (hne : 1 ≤ xs.length) : VL X (.Subscript a (.Slice (some (.Constant (.int 1) m p)) none none p2) pos) σ H (xs.drop 1) := fun H1 e1 Q k =>
  ofE (pe_slice sl_list peW (po_some peW) po_none) (ha H1 e1 _ fun H2 e2 => (v_int : VE X (.Constant (.int 1) m p) σ H2 (.int 1)) H2 (Ex.refl H2) _ fun H3 e3 => ⟨1, rfl, q, xs, rfl, ex_l (e1.trans (e2.trans e3)) hq, fun l hl => by
    rw [cut1 hne]
    exact k l _ (fresh_back (e2.trans e3) hl) ((e2.trans e3).trans (Ex.new hl)) upd_same⟩)
/-- len of a new list -/
theorem v_lenVL (fr : Fre X.mg) (ha : VL X a σ H xs) (hg : Gl X "len" := by rfl) (hs : starEach [a] X.env = (false, eval a X.env) :: starEach [] X.env := by rfl) (hpl : (backTo pos (starEach [] X.env)).any (·.1) = false := by rfl) : VE X (.Call (.Name "len" p) [a] [] pos) σ H (.int (xs.length : Int)) := fun H1 e1 Q k =>
  ofE (pe_callB call_len_seq hg fr.len PySem.boot_len (pa_cons peW pa_nil hs) (by decide) (by decide) hs hpl) (ha H1 e1 _ fun q H2 hq e2 h2 => ⟨q, xs, rfl, .inl (sq_of h2), k H2 e2⟩)
end
end Wk
namespace PwD
open PySem PySem.Spec PyProof.Rows L2 Evl Pw Wk PwH
section
variable {P : Program} {w : World} {K : PySem.W.Frag} {mg : Str → Option Value} {base : Heap}
theorem PapAt.row {H : Hp} {u : Addr} {n : Nat} {q : Addr} {k : Int} {cl : Nat → Bool} {X r ct X' r' ct' : Nat → Int} (h : PapAt K H u n q k cl X r ct) (e1 : rowV n X = rowV n X') (e2 : rowV n r = rowV n r') (e3 : rowV n ct = rowV n ct') : PapAt K H u n q k cl X' r' ct' := by
  obtain ⟨dx', vs', pc', px', pr', pn', q0, q1, q2, q3, q4, q5, q6, t1, t2, t3, t4⟩ := h
  rw [e1] at t2
  rw [e2] at t3
  rw [e3] at t4
  exact ⟨dx', vs', pc', px', pr', pn', q0, q1, q2, q3, q4, q5, q6, t1, t2, t3, t4⟩
theorem PapAt.noL {H : Hp} {u : Addr} {n : Nat} {q : Addr} {k : Int} {cl : Nat → Bool} {X r ct : Nat → Int} (h : PapAt K H u n q k cl X r ct) : PapAt K (noL H) u n q k cl X r ct := by
  obtain ⟨dx', vs', pc', px', pr', pn', q0, q1, q2, q3, q4, q5, q6, t1, t2, t3, t4⟩ := h
  exact ⟨dx', vs', pc', px', pr', pn', slt_noL q0, q1, q2, q3, q4, q5, q6, st_noL t1, st_noL t2, st_noL t3, st_noL t4⟩
/-- CallPaper(..) of good arguments -/
theorem e_pap (T : Hd K mg) {X : Cx} (hX : X.K = K ∧ X.mg = mg) {e : Expr} {es : List Expr} {σ : L2.St} {H : Hp} {R : List V → Hp → Prop} {Q : VK} {p2 pos : Pos} (hr : Room 8 X.A) (ha : VAD X (e :: es) σ H R)
    (hR : ∀ vs H1, Ex H H1 → R vs H1 → ∃ (q c a b1 b2 : Addr) (W : Web) (k : Int) (l : List Nat) (Y r ct : Nat → Int), vs = [.ref q, .int k, .ref c, .ref a, .ref b1, .ref b2] ∧ W.Ok ∧ WebAt K H1 q W ∧ 0 ≤ k ∧ k ≤ 10 ^ 40 ∧ l.length ≤ 50 ∧ Sq K H1 c (lotV l) ∧ (∀ v ∈ l, v < W.n ∧ W.mv v = true) ∧ Row K H1 a W.n Y ∧ (∀ v, v < W.n → 0 ≤ Y v ∧ Y v ≤ k + 1) ∧ Row K H1 b1 W.n r ∧ (∀ v, v < W.n → 0 ≤ r v) ∧ Row K H1 b2 W.n ct ∧ (∀ v, v < W.n → 0 ≤ ct v) ∧
      ∀ x H2, H x = none → Ex H1 H2 → PapAt K H2 x W.n q k (fun v => decide (v ∈ l)) Y r ct → Q (.ref x) H2)
    (hg : Gl X "CallPaper" := by rfl) (he : starEach (e :: es) X.env = (false, eval e X.env) :: starEach es X.env := by rfl) (hpl : (backTo pos (starEach es X.env)).any (·.1) = false := by rfl) : WE X (.Call (.Name "CallPaper" p2) (e :: es) [] pos) σ H Q := by
  obtain ⟨rfl, rfl⟩ := hX
  refine e_mk (E := E0) (MK_CallPaper T) (G_CallPaper_init T) hr (g_CallPaper T) passL ha (fun vs H1 x dx e1 hv g1 g2 g3 => ?_) hg (by decide) he hpl
  obtain ⟨q, c, a, b1, b2, W, k, l, Y, r, ct, rfl, ok, hW, hk, hk2, hl, hc, hm, hA, hAb, hB, hB0, hC, hC0, kq⟩ := hR vs H1 e1 hv
  refine ⟨H1, x, dx, q, c, a, b1, b2, W, k, l, rowI W.n Y, rowV W.n r, rowV W.n ct, rfl, rfl, g1, g2, g3, ok, hW, hk, hl, hc, hm, by rw [← rowI_eq]; exact hA, hB, hC, row_sim, row_sim, .inl ⟨fun p hp => ?_, hk2, ⟨Y, rowI_eq.symm, hAb⟩, fun Y2 r2 ct2 f1 f2 f3 H2 e2 hp => ⟨rfl, kq x H2 (fresh_back e1 g1) e2 (hp.row (by rw [← f1, rowI_eq]) f2.symm f3.symm)⟩⟩⟩
  rcases List.mem_cons.mp hp with rfl | hp
  · exact row_okN hB0
  · have : p = rowV W.n ct := by simpa using hp
    rw [this]
    exact row_okN hC0
theorem t_eqP (T : Hd K mg) {X : Cx} (hX : X.K = K ∧ X.mg = mg) {a b : Expr} {σ : L2.St} {H : Hp} {p q dx dx2 : Addr} {vs vs2 : List (Option V)} {z : Bool} {pos : Pos} (hr : Room 2 X.A) (ha : VE X a σ H (.ref p)) (hb : VE X b σ H (.ref q)) (hp : SlX.Slt H p (He.ga X.K "CallPaper") dx vs) (hq : SlX.Slt H q (He.ga X.K "CallPaper") dx2 vs2) (hs : SpV (spPEq X.K) [.ref p, .ref q] H (.bl z)) : VT X (.Compare a [.Eq] [b] pos) σ H z := by
  obtain ⟨rfl, rfl⟩ := hX
  exact fun H1 e1 Q k => ofT (pt_cmpR (SlX.op_own (E := E0) (op := .Eq) (fun _ _ => rfl) (ME_CallPaper_eq T).at_ (ME_CallPaper_eq T).fn (G_CallPaper_eq T) hr passL) peW peW (nomark _)) (ha H1 e1 _ fun H2 e2 => hb H2 (e1.trans e2) _ fun H3 e3 => ⟨p, dx, vs, q, _, dx2, vs2, rfl, rfl, slt_ex (e1.trans (e2.trans e3)) hp, slt_ex (e1.trans (e2.trans e3)) hq, by unfold PySem.W.notFirst; simp, hs H3 (e1.trans (e2.trans e3)) _ (fun H4 e4 => ⟨z, rfl, k H4 ((e2.trans e3).trans e4)⟩) E0⟩)
theorem v_eqP (T : Hd K mg) {X : Cx} (hX : X.K = K ∧ X.mg = mg) {a b : Expr} {σ : L2.St} {H : Hp} {p q dx dx2 : Addr} {vs vs2 : List (Option V)} {z : Bool} {pos : Pos} (hr : Room 2 X.A) (ha : VE X a σ H (.ref p)) (hb : VE X b σ H (.ref q)) (hp : SlX.Slt H p (He.ga X.K "CallPaper") dx vs) (hq : SlX.Slt H q (He.ga X.K "CallPaper") dx2 vs2) (hs : SpV (spPEq X.K) [.ref p, .ref q] H (.bl z)) : VE X (.Compare a [.Eq] [b] pos) σ H (.bl z) := by
  obtain ⟨rfl, rfl⟩ := hX
  exact fun H1 e1 Q k => ofE (pe_cmpR (SlX.op_own (E := E0) (op := .Eq) (fun _ _ => rfl) (ME_CallPaper_eq T).at_ (ME_CallPaper_eq T).fn (G_CallPaper_eq T) hr passL) peW peW (nomark _)) (ha H1 e1 _ fun H2 e2 => hb H2 (e1.trans e2) _ fun H3 e3 => ⟨p, dx, vs, q, _, dx2, vs2, rfl, rfl, slt_ex (e1.trans (e2.trans e3)) hp, slt_ex (e1.trans (e2.trans e3)) hq, by unfold PySem.W.notFirst; simp, hs H3 (e1.trans (e2.trans e3)) Q (fun H4 e4 => k H4 ((e2.trans e3).trans e4)) E0⟩)
/-- no field changed gives an equal paper -/
def spAlike (K : PySem.W.Frag) : Sp := fun vs H Q _ => ∃ (u q c : Addr) (W : Web) (k : Nat) (cs : List Nat) (Y r ct : Nat → Int), vs = [.ref u, .ref q, .int (k : Int), .ref c] ∧ W.Ok ∧ (∀ v, v < W.n → low40 (W.due v)) ∧ WebB K H q W ∧ PapAt K H u W.n q (k : Int) (fun v => decide (v ∈ cs)) Y r ct ∧ k ≤ 60 ∧ cs.length ≤ 50 ∧ cs.Nodup ∧ SqL K H c (lotV cs) ∧ (∀ v ∈ cs, v < W.n ∧ W.mv v = true) ∧
  (∀ v, v < W.n → 0 ≤ Y v ∧ Y v ≤ (k : Int) + 1) ∧ (∀ v, v < W.n → 0 ≤ r v) ∧ (∀ v, v < W.n → 0 ≤ ct v) ∧ RetV (.bl false) H Q
/-- a field of ours: a paper that is not equal to u's -/
def Other (K : PySem.W.Frag) (H : Hp) (W : Web) (q : Addr) (k : Int) (cs : List Nat) (x : Addr) : Prop := ∃ (q' : Addr) (k' : Int) (cl' : Nat → Bool) (Y r ct : Nat → Int), PapAt K H x W.n q' k' cl' Y r ct ∧ ((q' = q ∧ (k' ≠ k ∨ ∃ v, v < W.n ∧ cl' v ≠ decide (v ∈ cs))) ∨ ∃ W' : Web, WebAt K H q' W' ∧ W'.n = W.n ∧ ∃ v, v < W.n ∧ W'.mark v ≠ W.mark v)
theorem Other.ex {H H' : Hp} {W : Web} {q : Addr} {k : Int} {cs : List Nat} {x : Addr} (e : Ex H H') (h : Other K H W q k cs x) : Other K H' W q k cs x := by
  obtain ⟨q', k', cl', Y, r, ct, h1, h2⟩ := h
  refine ⟨q', k', cl', Y, r, ct, h1.ex e, h2.imp id fun ⟨W', g1, g2⟩ => ⟨W', g1.ex e, g2⟩⟩
theorem papB_false {n : Nat} {k k' : Int} {cl cl' : Nat → Bool} {X X' r r' ct ct' : Nat → Int} (h : k ≠ k' ∨ ∃ v, v < n ∧ cl v ≠ cl' v) : papB n k k' cl cl' X X' r r' ct ct' = false := by
  unfold papB
  rcases h with h | ⟨v, hv, h⟩
  · rw [decide_eq_false h, Bool.false_and]
  · have z : decide (filI n cl = filI n cl') = false := by
      cases e : decide (filI n cl = filI n cl') with
      | false => rfl
      | true => exact absurd (fil_dec.mp e v hv) h
    rw [z, Bool.false_and, Bool.and_false]
theorem Other.sp {H : Hp} {W : Web} {q u x : Addr} {k : Int} {cs : List Nat} {Y r ct : Nat → Int} (h : Other K H W q k cs x) (hW : WebAt K H q W) (hu : PapAt K H u W.n q k (fun v => decide (v ∈ cs)) Y r ct) : SpV (spPEq K) [.ref x, .ref u] H (.bl false) := fun H1 e1 Q g E => by
  obtain ⟨q', k', cl', Y', r', ct', h1, h2⟩ := h
  refine ⟨x, u, W.n, q', k', cl', Y', r', ct', rfl, h1.ex e1, .inr ⟨q, k, _, Y, r, ct, hu.ex e1, ?_⟩⟩
  rcases h2 with ⟨rfl, h⟩ | ⟨W', g1, g2, v, g3, g4⟩
  · refine .inl ⟨rfl, ⟨W, hW.ex e1⟩, ?_⟩
    rw [papB_false h]
    exact g
  · exact .inr ⟨W', W, g1.ex e1, hW.ex e1, g2, ⟨v, by rw [g2]; exact g3, g4⟩, g⟩
theorem d_lalike (T : Hd K mg) : Dn P w K mg base 9 "_law_alike" [] (spAlike K) := by
  refine fn_dn (F__law_alike T) sc__law_alike (fun vs H Q E h => ?_) B__law_alike fun f cdv A outer s H vs Q E hr h => ?_
  · obtain ⟨_, _, _, _, _, _, _, _, _, rfl, _⟩ := h
    rfl
  · obtain ⟨u, q, c, W, k, cs, Y, r, ct, rfl, ok, low, hWB, hP, hk, hcl, hnd, hc, hcm, hY, hR, hC, kq⟩ := h
    have hn1 := ok.n1
    have hn5 := ok.n5
    have hW := hWB.at
    have S := S_CallPaper T
    have hr2 := hr.mono (show 2 ≤ 8 by decide)
    have t40 : (60 : Int) + 1 ≤ 10 ^ 40 := by decide
    obtain ⟨dx, vs, pc, px, pr, pn, hs, g0, g1, g2, g3, g4, g5, t1, t2, t3, t4⟩ := id hP
    refine w_setW (lv sc__law_alike.nd 4) (ofE (pe_lst (pa_cons peW pa_nil)) ?_)
    refine e_pap T ⟨rfl, rfl⟩ hr (R := fun vs _ => vs = [.ref q, .int ((k : Int) + 1), .ref c, .ref px, .ref pr, .ref pn]) (ad_consE (vn 1) (ad_consE (v_add (vn 2) v_int) (ad_consE (vn 3) (ad_consE (v_prop S (P_CallPaper_row T) (G_CallPaper_row T) hr2 (vn 0) hs (spGet_v hs g4)) (ad_consE (v_prop S (P_CallPaper_ranks T) (G_CallPaper_ranks T) hr2 (vn 0) hs (spGet_v hs g3)) (ad_last (vd (v_prop S (P_CallPaper_counts T) (G_CallPaper_counts T) hr2 (vn 0) hs (spGet_v hs g2))) fun u H1 _ hu => by rw [hu])))))) fun vs H1 e1 hv => ⟨q, c, px, pr, pn, W, (k : Int) + 1, cs, Y, r, ct, hv, ok, hW.ex e1, by omega, by omega, hcl, .inl (ex_l e1 hc), hcm, .inr (ex_t e1 t2), fun v hv => by have := hY v hv; omega, .inr (ex_t e1 t3), hR, .inr (ex_t e1 t4), hC, fun x H2 hx x2 hp => ?_⟩
    refine ⟨sz_of (by simp), fun F hF => ?_⟩
    have x02 := e1.trans x2
    have hF0 : H F = none := fresh_back x02 hF
    have oth1 : Other K (noL (upd H2 F (.lst [.ref x]))) W q (k : Int) cs x := ⟨q, _, _, Y, r, ct, hp.noL.ex (noL_ex (Ex.new hF)), .inl ⟨rfl, .inl (by omega)⟩⟩
    have x03 : Ex H (upd H2 F (.lst [.ref x])) := x02.trans (Ex.new hF)
    obtain ⟨H3, eH3⟩ : ∃ H3, H3 = upd H2 F (.lst [.ref x]) := ⟨_, rfl⟩
    have f3 : H3 F = some (.lst [.ref x]) := by rw [eH3]; exact upd_same
    rw [← eH3] at oth1 x03 ⊢
    refine w_appW (q := F) f3 (vn 4) fun H4 x4 => e_pap T ⟨rfl, rfl⟩ hr (R := fun vs H5 => ∃ (qi : Addr) (W' : Web), vs = [.ref qi, .int (k : Int), .ref c, .ref px, .ref pr, .ref pn] ∧ WebAt K (noL H5) qi W' ∧ W'.Ok ∧ W'.n = W.n ∧ (∀ v, v < W.n → W'.mark v = 3 - W.mark v) ∧ ∀ v, v < W.n → W'.mv v = W.mv v)
      (ad_cons (P := fun u H5 => ∃ (qi : Addr) (W' : Web), u = .ref qi ∧ WebAt K (noL H5) qi W' ∧ W'.Ok ∧ W'.n = W.n ∧ (∀ v, v < W.n → W'.mark v = 3 - W.mark v) ∧ ∀ v, v < W.n → W'.mv v = W.mv v) (fun Ha xa Qa ga => by
        have hWa := hWB.ex (x03.trans (x4.trans xa))
        obtain ⟨vw, _, _, _, _, _, _, _, ow, _⟩ := id hWa
        obtain ⟨dw, sw⟩ := ow.sl
        exact e_inv (E := E0) (ME_Web_invert T) (G_Web_invert T) (hr.mono (by decide)) passL ((vn (v := .ref q) 1) Ha (Ex.refl Ha) _ fun Hb xb => ⟨q, dw, vw, rfl, slt_ex xb sw, q, W, rfl, ok, low, hWa.ex xb, fun p W' Hc xc hw' ok' n' m' mv' => ga (.ref p) Hc (xb.trans xc) ⟨p, W', rfl, hw', ok', n', m', mv'⟩⟩)) fun u1 H5 x5 h5 => ad_consE (vn 2) (ad_consE (vn 3) (ad_consE (v_prop S (P_CallPaper_row T) (G_CallPaper_row T) hr2 (vn 0) (slt_ex (x03.trans (x4.trans x5)) hs) (spGet_v (slt_ex (x03.trans (x4.trans x5)) hs) g4)) (ad_consE (v_prop S (P_CallPaper_ranks T) (G_CallPaper_ranks T) hr2 (vn 0) (slt_ex (x03.trans (x4.trans x5)) hs) (spGet_v (slt_ex (x03.trans (x4.trans x5)) hs) g3)) (ad_last (vd (v_prop S (P_CallPaper_counts T) (G_CallPaper_counts T) hr2 (vn 0) (slt_ex (x03.trans (x4.trans x5)) hs) (spGet_v (slt_ex (x03.trans (x4.trans x5)) hs) g2))) fun u H6 x6 hu => by
          obtain ⟨qi, W', rfl, hw, rest⟩ := h5
          exact ⟨qi, W', by rw [hu], hw.ex (noL_ex x6), rest⟩))))) fun vs H6 e6 hv => ?_
    obtain ⟨qi, W', rfl, hw', ok', n', m', mv'⟩ := hv
    have x06 := x03.trans (x4.trans e6)
    refine ⟨qi, c, px, pr, pn, W', (k : Int), cs, Y, r, ct, rfl, ok', hw'.ex noL_self, by omega, by omega, hcl, .inl (ex_l x06 hc), fun v hv => ⟨by rw [n']; exact (hcm v hv).1, by rw [mv' v (hcm v hv).1]; exact (hcm v hv).2⟩, by rw [n']; exact .inr (ex_t x06 t2), by rw [n']; exact fun v hv => hY v hv, by rw [n']; exact .inr (ex_t x06 t3), by rw [n']; exact hR, by rw [n']; exact .inr (ex_t x06 t4), by rw [n']; exact hC, fun x' H7 hx' x7 hp' => ?_⟩
    rw [n'] at hp'
    have x37 := (x4.trans e6).trans x7
    have f7 := x37 _ _ f3
    refine ⟨_, f7, by simp, ?_⟩
    have x08 : Ex H (upd H7 F (.lst ([.ref x] ++ [.ref x']))) := Ex.mut (x06.trans x7) hF0
    have nput : Ex (noL H7) (noL (upd H7 F (.lst ([.ref x] ++ [.ref x'])))) := noL_put f7
    have oth1' := oth1.ex ((noL_ex x37).trans nput)
    have oth2 : Other K (noL (upd H7 F (.lst ([.ref x] ++ [.ref x'])))) W q (k : Int) cs x' := ⟨qi, _, _, Y, r, ct, hp'.noL.ex nput, .inr ⟨W', (hw'.ex (noL_ex x7)).ex nput, n', 0, by omega, by rw [m' 0 (by omega)]; rcases ok.mks 0 (by omega) with e | e <;> rw [e] <;> decide⟩⟩
    obtain ⟨H8, eH8⟩ : ∃ H8, H8 = upd H7 F (.lst ([.ref x] ++ [.ref x'])) := ⟨_, rfl⟩
    have f8 : H8 F = some (.lst ([.ref x] ++ [.ref x'])) := by rw [eH8]; exact upd_same
    rw [← eH8] at oth1' oth2 x08 ⊢
    refine w_ifM (fun σ' H' => ∃ xs : List Addr, σ' = [some (.ref u), some (.ref q), some (.int (k : Int)), some (.ref c), some (.ref F), none] ∧ Ex H H' ∧ H' F = some (.lst (xs.map V.ref)) ∧ xs.length ≤ 3 ∧ ∀ x ∈ xs, Other K (noL H') W q (k : Int) cs x) (t_gt (v_lenN (m := cs.length) T.fre (vn 3) (.inl (ex_l x08 hc)) lotV_len) v_int) (fun hh H9 x9 => ?_) (fun hh H9 x9 => ?_) ?_
    · have hne : 1 ≤ cs.length := by
        have := of_decide_eq_true hh
        omega
      have x09 := x08.trans x9
      have f9 := x9 _ _ f8
      refine w_appW (q := F) f9 (vn 4) fun H10 x10 => e_pap T ⟨rfl, rfl⟩ hr (R := fun vs H5 => ∃ c2, vs = [.ref q, .int (k : Int), .ref c2, .ref px, .ref pr, .ref pn] ∧ H5 c2 = some (.lst (lotV (cs.drop 1)))) (ad_consE (vn 1) (ad_consE (vn 2) (ad_cons (ld (xs := lotV (cs.drop 1)) (by
        have e : lotV (cs.drop 1) = (lotV cs).drop 1 := by unfold lotV; rw [List.map_drop]
        rw [e]
        exact v_tail1 (vn 3) (ex_l (x09.trans x10) hc) (by rw [lotV_len]; exact hne))) fun u1 H11 x11 h11 => ad_consE (v_prop S (P_CallPaper_row T) (G_CallPaper_row T) hr2 (vn 0) (slt_ex (x09.trans (x10.trans x11)) hs) (spGet_v (slt_ex (x09.trans (x10.trans x11)) hs) g4)) (ad_consE (v_prop S (P_CallPaper_ranks T) (G_CallPaper_ranks T) hr2 (vn 0) (slt_ex (x09.trans (x10.trans x11)) hs) (spGet_v (slt_ex (x09.trans (x10.trans x11)) hs) g3)) (ad_last (vd (v_prop S (P_CallPaper_counts T) (G_CallPaper_counts T) hr2 (vn 0) (slt_ex (x09.trans (x10.trans x11)) hs) (spGet_v (slt_ex (x09.trans (x10.trans x11)) hs) g2))) fun u H12 x12 hu => by
          obtain ⟨c2, rfl, hc2⟩ := h11
          exact ⟨c2, by rw [hu], x12 _ _ hc2⟩))))) fun vs H11 e11 hv => ?_
      obtain ⟨c2, rfl, hc2⟩ := hv
      have x011 := x09.trans (x10.trans e11)
      have sub : ∀ v ∈ cs.drop 1, v ∈ cs := fun v hv => List.mem_of_mem_drop hv
      refine ⟨q, c2, px, pr, pn, W, (k : Int), cs.drop 1, Y, r, ct, rfl, ok, hW.ex x011, by omega, by omega, by rw [List.length_drop]; omega, .ls hc2, fun v hv => hcm v (sub v hv), .inr (ex_t x011 t2), hY, .inr (ex_t x011 t3), hR, .inr (ex_t x011 t4), hC, fun x'' H12 hx'' x12 hp'' => ?_⟩
      have x912 := (x10.trans e11).trans x12
      have f12 := x912 _ _ f9
      have nput2 : Ex (noL H12) (noL (upd H12 F (.lst (([.ref x] ++ [.ref x']) ++ [.ref x''])))) := noL_put f12
      have nn := ((noL_ex x9).trans (noL_ex x912)).trans nput2
      refine ⟨_, f12, by simp, w_nil ⟨[x, x', x''], rfl, Ex.mut (x011.trans x12) hF0, upd_same, by simp, fun z hz => ?_⟩⟩
      rcases List.mem_cons.mp hz with rfl | hz
      · exact oth1'.ex nn
      rcases List.mem_cons.mp hz with rfl | hz
      · exact oth2.ex nn
      · obtain rfl : z = x'' := by simpa using hz
        match cs, hne, hnd, hcm with
        | v0 :: cs', _, hnd, hcm => exact ⟨q, _, _, Y, r, ct, hp''.noL.ex nput2, .inl ⟨rfl, .inr ⟨v0, (hcm v0 (by simp)).1, by
            have h1 : ¬ v0 ∈ cs' := (List.nodup_cons.mp hnd).1
            show decide (v0 ∈ cs') ≠ decide (v0 ∈ v0 :: cs')
            rw [decide_eq_false h1, decide_eq_true (by simp)]
            decide⟩⟩⟩
    · exact w_nil ⟨[x, x'], rfl, x08.trans x9, x9 _ _ f8, by simp, fun z hz => by
        rcases List.mem_cons.mp hz with rfl | hz
        · exact oth1'.ex (noL_ex x9)
        · obtain rfl : z = x' := by simpa using hz
          exact oth2.ex (noL_ex x9)⟩
    · rintro σ' H9 ⟨xs, rfl, x9, f9, hl, ho⟩
      have em : ((xs.map V.ref).filter fun _ => false).map (fun x => x) = [] := by simp
      refine w_ret (v := .bl (decide (0 < ((((xs.map V.ref).filter fun _ => false).map fun x => x).length : Int)))) (v_gt (v_lenVL T.fre (ccv (c_fltS (n := 5) sc__law_alike.nd (bk sc__law_alike (by decide +kernel)) (vn 4) (.ls f9) (by rw [List.length_map]; omega) (fun _ => false) (fun x => x) (fun y hy s0 H0 C cl1 fp => by
        obtain ⟨x, hx, rfl⟩ := List.mem_map.mp hy
        have o := ho x hx
        obtain ⟨q', k', cl', Y', r', ct', ⟨dx', vs', _, _, _, _, hs', _⟩, _⟩ := id o
        exact t_eqP T ⟨rfl, rfl⟩ hr2 (vn 5) (vn 0) (slt_ex noL_self hs') (slt_ex x9 hs) ((o.ex noL_self).sp (hW.ex x9) (hP.ex x9))) (fun y hy z => by cases z)))) v_int) fun H10 x10 => ?_
      rw [em]
      exact kq H10 (x9.trans x10)
end
end PwD
end
/-! ### PwNq -/
section
set_option linter.all false
set_option maxRecDepth 100000
set_option maxHeartbeats 8000000
/-! _law_pot -/
namespace Wk
open PySem PySem.Spec PyProof.Rows L2 Evl Pw
section
variable {X : Cx} {a b o : Expr} {rest : List Stmt} {σ : L2.St} {H : Hp} {pos p p2 : Pos} {i j : Int} {q : Addr} {xs : List V} {D0 : Ends}
theorem v_pow (ha : VE X a σ H (.int i)) (hb : VE X b σ H (.int j)) (hc : 0 ≤ j ∧ j ≤ 1000000 ∧ i.natAbs < 2 ^ 64) : VE X (.BinOp a .Pow b pos) σ H (.int (i ^ j.toNat)) := lift (pe_op op_pow peW peW) (ev_op ha hb (rv_I hc))
theorem w_rev (hl : H q = some (.lst xs)) (ha : VE X o σ H (.ref q)) (k : ∀ H1, Ex H H1 → WS X rest D0 σ (upd H1 q (.lst xs.reverse)))
    (hbase : attributeBase o "reverse" X.env (eval o X.env) = eval o X.env := by rfl) (hline : (p.endLine == pos.line) = true := by rfl)
    (hsw : swapsWith (.Call (.Attribute o "reverse" p) [] [] pos) none p2.line X.env = pure false := by rfl) :
    WS X (.Expr (.Call (.Attribute o "reverse" p) [] [] pos) p2 :: rest) D0 σ H :=
  w_cons (ps_expr (pe_bm0 PySem.F.plainAttrs_list PySem.F.slot_list_reverse PySem.F.type_list_reverse mt_reverse peW hbase hline) hsw) (ha H (Ex.refl H) _ fun H1 e1 =>
    ⟨Or.inl ⟨rfl, xs, sq_of (e1 q _ hl)⟩, q, xs, rfl, rfl, e1 q _ hl, k H1 e1⟩)
end
end Wk
namespace PwD
open PySem PySem.Spec PyProof.Rows L2 Evl Pw Wk PwH
section
variable {P : Program} {w : World} {K : PySem.W.Frag} {mg : Str → Option Value} {base : Heap}
def spPot (K : PySem.W.Frag) : Sp := fun vs H Q _ => ∃ (a : Addr) (ns : List Int), vs = [.ref a] ∧ SqL K H a (ns.map V.int) ∧ ns.length ≤ 63 ∧ ∀ p H2, H p = none → Ex H H2 → Pot H2 p → Q (.ref p) H2
theorem d_lpot (T : Hd K mg) : Dn P w K mg base 1 "_law_pot" [] (spPot K) := by
  refine fn_dn (F__law_pot T) sc__law_pot (fun vs H Q E h => ?_) B__law_pot fun f cdv A outer s H vs Q E hr h => ?_
  · obtain ⟨_, _, rfl, _⟩ := h
    rfl
  · obtain ⟨a, ns, rfl, hS, hn, kq⟩ := h
    refine w_setL (xs := []) (lv sc__law_pot.nd 1) (v_lst a_nil (by simp)) fun p H1 hp x1 h1 => ?_
    have hS' : Sq K H a (ns.map V.int) := .inl hS
    refine w_forR T.fre (lv sc__law_pot.nd 2) (j := min (ns.length : Int) 63) (v_min2 T.fre (v_lenN (m := ns.length) T.fre (vn 0) (hS'.ex x1) (by rw [List.length_map])) v_int) (by omega) (fun i σ' H' => ∃ y2 y3 y4 y5 y6, σ' = [some (.ref a), some (.ref p), y2, y3, y4, y5, y6] ∧ Ex H H' ∧ ∃ ms : List Nat, H' p = some (.lst (lotV ms)) ∧ ms.length ≤ 48 * i) (fun H2 x2 => ⟨none, none, none, none, none, rfl, x1.trans x2, [], x2 _ _ h1, by simp⟩) ?_ ?_
    · rintro i σ' H2 hi ⟨y2, y3, y4, y5, y6, rfl, x2, ms, h2, hl⟩
      have hi2 : i < ns.length := by omega
      have ei : (ns.map V.int)[i]? = some (.int (ns[i]'hi2)) := by
        rw [List.getElem?_map, List.getElem?_eq_getElem hi2]
        rfl
      refine w_set (lv sc__law_pot.nd 3) (v_int1 T.fre (v_ix (n := i) (vn 0) (vn 2) (hS'.ex x2) ei)) fun H3 x3 => ?_
      refine w_set (lv sc__law_pot.nd 4) v_int fun H4 x4 => ?_
      have x24 := x3.trans x4
      refine w_ifM (fun σ' H' => ∃ u sh : Nat, σ' = [some (.ref a), some (.ref p), some (.int (i : Int)), some (.int (u : Int)), some (.int (sh : Int)), y5, y6] ∧ Ex H2 H') (t_lt (vn 3) v_int) (fun hc H5 x5 => ?_) (fun hc H5 x5 => ?_) ?_
      · have g : ns[i]'hi2 < 0 := of_decide_eq_true hc
        refine w_set (lv sc__law_pot.nd 3) (v_sub v_int (vn 3)) fun H6 x6 => ?_
        refine w_set (lv sc__law_pot.nd 4) v_int fun H7 x7 => w_nil ⟨(0 - ns[i]'hi2).toNat, 503, ?_, ((x24.trans x5).trans x6).trans x7⟩
        have e : (((0 - ns[i]'hi2).toNat : Nat) : Int) = 0 - ns[i]'hi2 := by omega
        rw [e]
        rfl
      · have g : ¬ ns[i]'hi2 < 0 := of_decide_eq_false hc
        refine w_nil ⟨(ns[i]'hi2).toNat, 11, ?_, x24.trans x5⟩
        have e : (((ns[i]'hi2).toNat : Nat) : Int) = ns[i]'hi2 := by omega
        rw [e]
        rfl
      · rintro σ' H5 ⟨u, sh, rfl, x5⟩
        have x05 := x2.trans x5
        have h5 := x5 _ _ h2
        refine w_if (t_ge (vn 3) (v_pow v_int v_int ⟨by decide, by decide, by decide⟩)) (fun hc H6 x6 => ?_) (fun hc H6 x6 => ?_)
        · refine w_forR T.fre (lv sc__law_pot.nd 5) (j := 48) v_int (by omega) (fun j σ' H' => ∃ (y5 : Option V) (u : Nat), σ' = [some (.ref a), some (.ref p), some (.int (i : Int)), some (.int (u : Int)), some (.int (sh : Int)), y5, y6] ∧ Ex H H' ∧ ∃ ms2 : List Nat, H' p = some (.lst (lotV ms2)) ∧ ms2.length ≤ ms.length + j) (fun H7 x7 => ⟨y5, u, rfl, x05.trans (x6.trans x7), ms, x7 _ _ (x6 _ _ h5), by omega⟩) ?_ ?_
          · rintro j σ' H7 hj ⟨z5, u2, rfl, x7, ms2, h7, l7⟩
            refine w_when (t_gt (vn 3) v_int) (fun hc2 H8 x8 => ?_) (fun hc2 H8 x8 => w_nil ⟨_, u2, rfl, x7.trans x8, ms2, x8 _ _ h7, by omega⟩)
            refine w_app (q := p) (x8 _ _ h7) (vn 1) (v_mod (v_int1 T.fre (vn 3)) v_int (by decide)) (by rw [lotV_len]; omega) fun H9 x9 => ?_
            have x79 : Ex H (upd H9 p (.lst (lotV ms2 ++ [.int ((u2 : Int) % 30)]))) := Ex.mut ((x7.trans x8).trans x9) hp
            refine w_set (lv sc__law_pot.nd 3) (v_fdiv (vn 3) v_int ⟨by decide, by decide⟩) fun H10 x10 => w_nil (w_nil ⟨some (.int (j : Int)), u2 / 30, ?_, x79.trans x10, ms2 ++ [u2 % 30], ?_, by rw [List.length_append, List.length_singleton]; omega⟩)
            · have e : (((u2 / 30 : Nat)) : Int) = (u2 : Int) / 30 := by omega
              rw [e]
              rfl
            · have e : (u2 : Int) % 30 = ((u2 % 30 : Nat) : Int) := by omega
              rw [x10 _ _ upd_same, lotV_app, e]
              rfl
          · rintro σ' H7 ⟨z5, u2, rfl, x7, ms2, h7, l7⟩
            have e48 : (48 : Int).toNat = 48 := rfl
            rw [e48] at l7
            exact w_nil (w_nil ⟨_, _, _, _, _, rfl, x7, ms2, h7, by omega⟩)
        · refine w_set (lv sc__law_pot.nd 6) (v_mod (v_int1 T.fre (v_add (v_add (v_mul (vn 3) v_int ⟨by decide, by decide⟩) (v_mul (vn 2) v_int ⟨by decide, by decide⟩)) (vn 4))) v_int (by decide)) fun H7 x7 => ?_
          refine w_forR T.fre (lv sc__law_pot.nd 5) (j := 5) v_int (by omega) (fun j σ' H' => ∃ (y5 : Option V) (m : Nat), σ' = [some (.ref a), some (.ref p), some (.int (i : Int)), some (.int (u : Int)), some (.int (sh : Int)), y5, some (.int (m : Int))] ∧ m < 998244353 ∧ Ex H H' ∧ ∃ ms2 : List Nat, H' p = some (.lst (lotV ms2)) ∧ ms2.length ≤ ms.length + j) (fun H8 x8 => ⟨y5, (u * 7919 + i * 104729 + sh) % 998244353, ?_, Nat.mod_lt _ (by decide), x05.trans ((x6.trans x7).trans x8), ms, x8 _ _ (x7 _ _ (x6 _ _ h5)), by omega⟩) ?_ ?_
          · have e : (((u * 7919 + i * 104729 + sh) % 998244353 : Nat) : Int) = ((u : Int) * 7919 + (i : Int) * 104729 + (sh : Int)) % 998244353 := by omega
            rw [e]
            rfl
          · rintro j σ' H8 hj ⟨z5, m, rfl, hm, x8, ms2, h8, l8⟩
            refine w_set (lv sc__law_pot.nd 6) (v_mod (v_int1 T.fre (v_add (v_add (v_add (v_mul (vn 6) (vn 6) ⟨by omega, by omega⟩) (v_mul (vn 5) v_int ⟨by decide, by decide⟩)) (v_mul (vn 2) v_int ⟨by decide, by decide⟩)) v_int)) v_int (by decide)) fun H9 x9 => ?_
            refine w_app (q := p) (x9 _ _ h8) (vn 1) (vn 6) (by rw [lotV_len]; omega) fun H10 x10 => ?_
            have e : ((m : Int) * (m : Int) + (j : Int) * 31337 + (i : Int) * 5 + 3) % 998244353 = (((m * m + j * 31337 + i * 5 + 3) % 998244353 : Nat) : Int) := by
              rw [Int.natCast_emod, Int.natCast_add, Int.natCast_add, Int.natCast_add, Int.natCast_mul, Int.natCast_mul, Int.natCast_mul]
              rfl
            refine w_nil ⟨some (.int (j : Int)), (m * m + j * 31337 + i * 5 + 3) % 998244353, ?_, Nat.mod_lt _ (by decide), Ex.mut ((x8.trans x9).trans x10) hp, ms2 ++ [(m * m + j * 31337 + i * 5 + 3) % 998244353], ?_, by rw [List.length_append, List.length_singleton]; omega⟩
            · rw [← e]
              rfl
            · rw [upd_same, lotV_app, e]
              rfl
          · rintro σ' H8 ⟨z5, m, rfl, hm, x8, ms2, h8, l8⟩
            have e5 : (5 : Int).toNat = 5 := rfl
            rw [e5] at l8
            exact w_nil (w_nil ⟨_, _, _, _, _, rfl, x8, ms2, h8, by omega⟩)
    · rintro σ' H2 ⟨y2, y3, y4, y5, y6, rfl, x2, ms, h2, hl⟩
      refine w_rev (q := p) h2 (vn 1) fun H3 x3 => ?_
      refine w_ret (vn 1) fun H4 x4 => kq p H4 hp ((Ex.mut (x2.trans x3) hp).trans x4) ⟨ms.reverse, by rw [List.length_reverse]; omega, ?_⟩
      rw [x4 _ _ upd_same]
      unfold lotV
      rw [List.map_reverse]
end
end PwD
end
/-! ### PwQb -/
section
set_option linter.all false
set_option maxRecDepth 100000
set_option maxHeartbeats 8000000
/-! _law_refusals -/
namespace PwD
open PySem PySem.Spec PyProof.Rows L2 Evl Pw Wk PwH
section
variable {P : Program} {w : World} {K : PySem.W.Frag} {mg : Str → Option Value} {base : Heap}
/-- _law_code(..) comes to z -/
theorem v_code (T : Hd K mg) {X : Cx} (hX : X.K = K ∧ X.mg = mg) {e : Expr} {es : List Expr} {σ : L2.St} {H : Hp} {R : List V → Hp → Prop} {z : Int} {p pos : Pos} (hr : Room 10 X.A) (ha : VAD X (e :: es) σ H R) (hR : ∀ vs H1, Ex H H1 → R vs H1 → SpV (spCode X.K) vs H1 (.int z))
    (hg : Gl X "_law_code" := by rfl) (he : starEach (e :: es) X.env = (false, eval e X.env) :: starEach es X.env := by rfl) (hpl : (backTo pos (starEach es X.env)).any (·.1) = false := by rfl) : VE X (.Call (.Name "_law_code" p) (e :: es) [] pos) σ H (.int z) := by
  obtain ⟨rfl, rfl⟩ := hX
  refine vdv (v_callDD (d_lcode T) hr ha (fun vs H1 e1 hv H2 e2 Q k E => ?_) hg (by decide) he hpl)
  rw [List.append_nil]
  exact hR vs H1 e1 hv H2 e2 Q (fun H3 e3 => k _ H3 e3 rfl) E
def spRef (K : PySem.W.Frag) : Sp := fun vs H Q _ => ∃ (lw q c a b : Addr) (W : Web) (k : Nat) (cs : List Nat) (Y r : Nat → Int), vs = [.ref lw, .ref q, .int (k : Int), .ref c, .ref a, .ref b] ∧ W.Ok ∧ LWeb K H lw W ∧ WebAt K H q W ∧ k ≤ 60 ∧ cs.length ≤ 50 ∧ Sq K H c (lotV cs) ∧ (∀ v ∈ cs, v < W.n ∧ W.mv v = true) ∧
  H a = some (.lst (rowV W.n Y)) ∧ (∀ v, v < W.n → 0 ≤ Y v ∧ Y v ≤ (k : Int) + 1) ∧ H b = some (.lst (rowV W.n r)) ∧ (∀ v, v < W.n → 0 ≤ r v) ∧ RetV (.bl true) H Q
theorem isI_row {n : Nat} {X : Nat → Int} : (rowV n X).all isI = true := List.all_eq_true.mpr fun v hv => by
  obtain ⟨w, _, rfl⟩ := List.mem_map.mp hv
  rfl
theorem sim_drop {n : Nat} {X : Nat → Int} : ∀ x ∈ (rowV n X).drop 1, Sim x := fun x hx => row_sim x (List.mem_of_mem_drop hx)
theorem isI_drop {n : Nat} {X : Nat → Int} : ((rowV n X).drop 1).all isI = true := List.all_eq_true.mpr fun v hv => List.all_eq_true.mp isI_row v (List.mem_of_mem_drop hv)
theorem d_lref (T : Hd K mg) : Dn P w K mg base 11 "_law_refusals" [] (spRef K) := by
  refine fn_dn (F__law_refusals T) sc__law_refusals (fun vs H Q E h => ?_) B__law_refusals fun f cdv A outer s H vs Q E hr h => ?_
  · obtain ⟨_, _, _, _, _, _, _, _, _, _, rfl, _⟩ := h
    rfl
  · obtain ⟨lw, q, c, a, b, W, k, cs, Y, r, rfl, ok, hL, hW, hk, hcl, hc, hcm, hA, hY, hB, hR, kq⟩ := h
    have hn1 := ok.n1
    have hn5 := ok.n5
    have rl : (rowV W.n r).length = W.n := rowV_len
    have okr : okN W.n (rowV W.n r) := row_okN hR
    have t60 : (60 : Int) ≤ 10 ^ 40 := by decide
    refine w_set (lv sc__law_refusals.nd 6) (v_lenN (m := W.n) T.fre (vn 4) (.ls hA) rowV_len) fun H1 x1 => ?_
    -- 61, calls; 61, [size]
    refine w_skip (k := !decide ((4 : Int) = 4) || !decide ((2 : Int) = 2)) (t_bool (p_or (t_neI (v_code T ⟨rfl, rfl⟩ hr (R := fun vs _ => vs = [.ref q, .int 61, .ref c, .non, .int 0, .int 0]) (ad_consE (vn 1) (ad_consE v_int (ad_consE (vn 3) (ad_consE v_non (ad_consE v_int (ad_last (vd v_int) fun u H2 _ hu => by rw [hu])))))) fun vs H2 e2 hv H3 e3 Q3 k3 E3 => ?_) v_int) fun _ => p_or1 (t_neI (v_code T ⟨rfl, rfl⟩ hr (R := fun vs H2 => ∃ p, vs = [.ref q, .int 61, .ref p, .non, .int 0, .int 0] ∧ H2 p = some (.lst [.int (W.n : Int)])) (ad_consE (vn 1) (ad_consE v_int (ad_cons (ld (v_lst (a_cons (vn 6) a_nil) (by simp))) fun u2 H2 x2 h2 => ad_consE v_non (ad_consE v_int (ad_last (vd v_int) fun u H3 x3 hu => by
        obtain ⟨p, rfl, hp⟩ := h2
        exact ⟨p, by rw [hu], x3 _ _ hp⟩))))) fun vs H2 e2 hv H3 e3 Q3 k3 E3 => ?_) v_int))) (by decide) fun H2 x2 => ?_
    · subst hv
      exact ⟨4, q, c, W, 61, .non, .int 0, .int 0, rfl, ok, hW.ex ((x1.trans e2).trans e3), k3, .inl ⟨lotV cs, rfl, hc.ex ((x1.trans e2).trans e3), lot_sim, .inr ⟨cs, 61, rfl, rfl, hcl, .inr (.inr ⟨hcm, by omega, rfl⟩)⟩⟩⟩
    · obtain ⟨p, rfl, hp⟩ := hv
      exact ⟨2, q, p, W, 61, .non, .int 0, .int 0, rfl, ok, hW.ex ((x1.trans e2).trans e3), k3, .inl ⟨lotV [W.n], rfl, .ls (e3 _ _ hp), lot_sim, .inr ⟨[W.n], 61, rfl, rfl, by simp, .inl ⟨⟨W.n, by simp, by omega⟩, rfl⟩⟩⟩⟩
    have x12 := x1.trans x2
    -- 0 - 1, [None]; ranks[1:]
    refine w_skip (k := !decide ((1 : Int) = 1) || !decide ((2 : Int) = 2)) (t_bool (p_or (t_neI (v_code T ⟨rfl, rfl⟩ hr (R := fun vs H2 => ∃ p, vs = [.ref q, .int (0 - 1), .ref p, .non, .int 0, .int 0] ∧ H2 p = some (.lst [.non])) (ad_consE (vn 1) (ad_consE (v_sub v_int v_int) (ad_cons (ld (v_lst (a_cons v_non a_nil) (by simp))) fun u2 H3 x3 h2 => ad_consE v_non (ad_consE v_int (ad_last (vd v_int) fun u H4 x4 hu => by
        obtain ⟨p, rfl, hp⟩ := h2
        exact ⟨p, by rw [hu], x4 _ _ hp⟩))))) fun vs H3 e3 hv H4 e4 Q4 k4 E4 => ?_) v_int) fun _ => p_or1 (t_neI (v_code T ⟨rfl, rfl⟩ hr (R := fun vs H3 => ∃ p, vs = [.ref q, .int (k : Int), .ref c, .ref a, .ref b, .ref p] ∧ H3 p = some (.lst ((rowV W.n r).drop 1))) (ad_consE (vn 1) (ad_consE (vn 2) (ad_consE (vn 3) (ad_consE (vn 4) (ad_consE (vn 5) (ad_last (ld (v_tail1 (vn 5) (sq_of (x12 _ _ hB)) (by rw [rl]; exact hn1))) fun u H3 x3 hu => by
        obtain ⟨p, rfl, hp⟩ := hu
        exact ⟨p, rfl, hp⟩)))))) fun vs H3 e3 hv H4 e4 Q4 k4 E4 => ?_) v_int))) (by decide) fun H3 x3 => ?_
    · obtain ⟨p, rfl, hp⟩ := hv
      exact ⟨1, q, p, W, 0 - 1, .non, .int 0, .int 0, rfl, ok, hW.ex ((x12.trans e3).trans e4), k4, .inl ⟨[.non], rfl, .ls (e4 _ _ hp), fun x hx => by
        have : x = .non := by simpa using hx
        rw [this]
        exact .inr (.inl rfl), .inl ⟨rfl, rfl⟩⟩⟩
    · obtain ⟨p, rfl, hp⟩ := hv
      have xx := (x12.trans e3).trans e4
      refine ⟨2, q, c, W, (k : Int), .ref a, .ref b, .ref p, rfl, ok, hW.ex xx, k4, .inr ⟨a, b, p, cs, rowI W.n Y, rowV W.n r, (rowV W.n r).drop 1, rfl, rfl, rfl, by omega, hcl, hc.ex xx, hcm, by rw [← rowI_eq]; exact .ls (xx _ _ hA), .ls (xx _ _ hB), .ls (e4 _ _ hp), row_sim, sim_drop, .inr (.inl ⟨fun p hp => ?_, ⟨(rowV W.n r).drop 1, by simp, fun ⟨ns, e1, e2, _⟩ => ?_⟩, ⟨Y, rowI_eq.symm, hY⟩, rfl⟩)⟩⟩
      · rcases List.mem_cons.mp hp with rfl | hp
        · exact isI_row
        · have : p = (rowV W.n r).drop 1 := by simpa using hp
          rw [this]
          exact isI_drop
      · have := congrArg List.length e1
        rw [List.length_drop, rl, List.length_map] at this
        omega
    have x13 := x12.trans x3
    -- ranks[1:] + [0 - 1]
    refine w_skip (k := !decide ((2 : Int) = 2)) (t_neI (v_code T ⟨rfl, rfl⟩ hr (R := fun vs H3 => ∃ p, vs = [.ref q, .int (k : Int), .ref c, .ref a, .ref p, .ref b] ∧ H3 p = some (.lst ((rowV W.n r).drop 1 ++ [.int (0 - 1)]))) (ad_consE (vn 1) (ad_consE (vn 2) (ad_consE (vn 3) (ad_consE (vn 4) (ad_cons (ld (v_catLL (v_tail1 (vn 5) (sq_of (x13 _ _ hB)) (by rw [rl]; exact hn1)) (v_lst (a_cons (v_sub v_int v_int) a_nil) (by simp)) (by rw [List.length_drop, rl]; simp; omega))) fun u2 H4 x4 h4 => ad_last (vd (vn 5)) fun u H5 x5 hu => by
        obtain ⟨p, rfl, hp⟩ := h4
        exact ⟨p, by rw [hu], x5 _ _ hp⟩))))) fun vs H4 e4 hv H5 e5 Q5 k5 E5 => ?_) v_int) (by decide) fun H4 x4 => ?_
    · obtain ⟨p, rfl, hp⟩ := hv
      have xx := (x13.trans e4).trans e5
      refine ⟨2, q, c, W, (k : Int), .ref a, .ref p, .ref b, rfl, ok, hW.ex xx, k5, .inr ⟨a, p, b, cs, rowI W.n Y, (rowV W.n r).drop 1 ++ [.int (0 - 1)], rowV W.n r, rfl, rfl, rfl, by omega, hcl, hc.ex xx, hcm, by rw [← rowI_eq]; exact .ls (xx _ _ hA), .ls (e5 _ _ hp), .ls (xx _ _ hB), fun x hx => ?_, row_sim, .inr (.inl ⟨fun p hp => ?_, ⟨(rowV W.n r).drop 1 ++ [.int (0 - 1)], by simp, fun ⟨ns, e1, _, e3⟩ => ?_⟩, ⟨Y, rowI_eq.symm, hY⟩, rfl⟩)⟩⟩
      · rcases List.mem_append.mp hx with h | h
        · exact sim_drop x h
        · have : x = .int (0 - 1) := by simpa using h
          rw [this]
          exact .inl ⟨_, rfl⟩
      · rcases List.mem_cons.mp hp with rfl | hp
        · rw [List.all_append, isI_drop]
          rfl
        · have : p = rowV W.n r := by simpa using hp
          rw [this]
          exact isI_row
      · have m : V.int (0 - 1) ∈ ns.map V.int := by rw [← e1]; simp
        obtain ⟨i, hi, ei⟩ := List.mem_map.mp m
        have := e3 i hi
        have z : i = 0 - 1 := V.int.inj ei
        omega
    have x14 := x13.trans x4
    -- row + [0], ranks + ['0']
    refine w_skip (k := !decide ((1 : Int) = 1)) (t_neI (v_code T ⟨rfl, rfl⟩ hr (R := fun vs H3 => ∃ p p2, vs = [.ref q, .int (k : Int), .ref c, .ref p, .ref b, .ref p2] ∧ H3 p = some (.lst (rowV W.n Y ++ [.int 0])) ∧ H3 p2 = some (.lst (rowV W.n r ++ [.str "0"]))) (ad_consE (vn 1) (ad_consE (vn 2) (ad_consE (vn 3) (ad_cons (ld (v_catL (vn 4) (x14 _ _ hA) (v_lst (a_cons v_int a_nil) (by simp)) (by rw [rowV_len]; simp; omega))) fun u1 H5 x5 h5 => ad_consE (vn 5) (ad_last (ld (v_catL (vn 5) (x5 _ _ (x14 _ _ hB)) (v_lst (a_cons v_str a_nil) (by simp)) (by rw [rowV_len]; simp; omega))) fun u2 H6 x6 h6 => by
        obtain ⟨p, rfl, hp⟩ := h5
        obtain ⟨p2, rfl, hp2⟩ := h6
        exact ⟨p, p2, rfl, x6 _ _ hp, hp2⟩))))) fun vs H5 e5 hv H6 e6 Q6 k6 E6 => ?_) v_int) (by decide) fun H5 x5 => ?_
    · obtain ⟨p, p2, rfl, hp, hp2⟩ := hv
      have xx := (x14.trans e5).trans e6
      refine ⟨1, q, c, W, (k : Int), .ref p, .ref b, .ref p2, rfl, ok, hW.ex xx, k6, .inr ⟨p, b, p2, cs, rowI W.n Y ++ [0], rowV W.n r, rowV W.n r ++ [.str "0"], rfl, rfl, rfl, by omega, hcl, hc.ex xx, hcm, by rw [List.map_append, ← rowI_eq]; exact .ls (e6 _ _ hp), .ls (xx _ _ hB), .ls (e6 _ _ hp2), row_sim, fun x hx => ?_, .inl ⟨⟨rowV W.n r ++ [.str "0"], by simp, ?_⟩, rfl⟩⟩⟩
      · rcases List.mem_append.mp hx with h | h
        · exact row_sim x h
        · have : x = .str "0" := by simpa using h
          rw [this]
          exact .inr (.inr ⟨_, rfl⟩)
      · rw [List.all_append]
        show (_ && false) = false
        exact Bool.and_false _
    have x15 := x14.trans x5
    -- 10 ** 40 + 1
    refine w_skip (k := !decide ((4 : Int) = 4)) (t_neI (v_code T ⟨rfl, rfl⟩ hr (R := fun vs _ => vs = [.ref q, .int (10 ^ 40 + 1), .ref c, .ref a, .ref b, .ref b]) (ad_consE (vn 1) (ad_consE (v_add (v_pow v_int v_int ⟨by decide, by decide, by decide⟩) v_int) (ad_consE (vn 3) (ad_consE (vn 4) (ad_consE (vn 5) (ad_last (vd (vn 5)) fun u H2 _ hu => by rw [hu]; rfl)))))) fun vs H6 e6 hv H7 e7 Q7 k7 E7 => ?_) v_int) (by decide) fun H6 x6 => ?_
    · subst hv
      have xx := (x15.trans e6).trans e7
      refine ⟨4, q, c, W, 10 ^ 40 + 1, .ref a, .ref b, .ref b, rfl, ok, hW.ex xx, k7, .inr ⟨a, b, b, cs, rowI W.n Y, rowV W.n r, rowV W.n r, rfl, rfl, rfl, by decide, hcl, hc.ex xx, hcm, by rw [← rowI_eq]; exact .ls (xx _ _ hA), .ls (xx _ _ hB), .ls (xx _ _ hB), row_sim, row_sim, .inr (.inr ⟨fun p hp => ?_, by decide, ⟨Y, rowI_eq.symm, fun v hv => ?_⟩, rfl⟩)⟩⟩
      · have : p = rowV W.n r := by simpa using hp
        rw [this]
        exact okr
      · have := hY v hv
        generalize (10 : Int) ^ 40 = t at t60 ⊢
        omega
    have x16 := x15.trans x6
    -- ends
    obtain ⟨qf, qs, qm, qd, hL0, ⟨as, has, hl⟩, _, _, _⟩ := hL.ex x16
    obtain ⟨en, hen⟩ : ∃ en, en = (List.range W.n).filter fun v => !W.mv v := ⟨_, rfl⟩
    refine w_setC (xs := filV W.n fun v => !W.mv v) (lv sc__law_refusals.nd 7) rfl (c_fltR (n := 8) T.fre sc__law_refusals.nd (bk sc__law_refusals (by decide +kernel)) (vn 6) (by omega) (fun v => !W.mv v) iv (fun v hv s0 H0 C cl1 fp => by
      rw [← len0_mv]
      exact t_eqI (v_lenN (m := (W.s1 v).length) T.fre (v_ix (n := v) (v_ix (n := 0) (vn 0) v_int (.inl hL0) rfl) (vn 8) has (refV_at hv)) (hl v hv) lotV_len) v_int) (fun v hv _ s0 H0 C cl1 fp => vn 8)) (sw_true rfl rfl rfl (by decide +kernel)) fun p7 H7 hp7 x7 h7 => ?_
    have x17 := x16.trans x7
    have h7' : H7 p7 = some (.lst (lotV en)) := by rw [hen]; exact h7
    refine w_ret (v := .bl (decide ((en.length : Int) = 0) || !decide ((en.length : Int) = 0))) (v_or (v_eqI (v_lenN (m := en.length) T.fre (vn 7) (.ls h7') lotV_len) v_int) fun hz => v_one ?_) fun H8 x8 => ?_
    · have hne : 0 < en.length := by
        have := of_decide_eq_false hz
        omega
      obtain ⟨v0, hv0⟩ : ∃ v0, en[0]? = some v0 := ⟨_, List.getElem?_eq_getElem hne⟩
      have m0 : v0 ∈ en := List.mem_of_getElem? hv0
      have e0 : (lotV en)[0]? = some (.int ((v0 : Nat) : Int)) := by
        unfold lotV
        rw [List.getElem?_map, hv0]
        rfl
      have mm : v0 < W.n ∧ W.mv (v0) = false := by
        have := m0
        rw [hen] at this
        have := List.mem_filter.mp this
        exact ⟨List.mem_range.mp this.1, by simpa using this.2⟩
      rw [hz]
      show VE _ _ _ _ (.bl (decide ((3 : Int) = 3)))
      refine v_eqI (v_code T ⟨rfl, rfl⟩ hr (R := fun vs H2 => ∃ p, vs = [.ref q, .int 61, .ref p, .non, .int 0, .int 0] ∧ H2 p = some (.lst [.int ((v0 : Nat) : Int)])) (ad_consE (vn 1) (ad_consE v_int (ad_cons (ld (v_lst (a_cons (v_ix (n := 0) (vn 7) v_int (.ls h7') e0) a_nil) (by simp))) fun u2 H8 x8 h8 => ad_consE v_non (ad_consE v_int (ad_last (vd v_int) fun u H9 x9 hu => by
        obtain ⟨p, rfl, hp⟩ := h8
        exact ⟨p, by rw [hu], x9 _ _ hp⟩))))) fun vs H8 e8 hv H9 e9 Q9 k9 E9 => ?_) v_int
      obtain ⟨p, rfl, hp⟩ := hv
      exact ⟨3, q, p, W, 61, .non, .int 0, .int 0, rfl, ok, hW.ex ((x17.trans e8).trans e9), k9, .inl ⟨lotV [v0], rfl, .ls (e9 _ _ hp), lot_sim, .inr ⟨[v0], 61, rfl, rfl, by simp, .inr (.inl ⟨fun v hv => by
        obtain rfl : v = v0 := by simpa using hv
        exact mm.1, ⟨v0, by simp, mm.2⟩, rfl⟩)⟩⟩⟩
    · cases decide ((en.length : Int) = 0) with
      | true => exact kq H8 (x17.trans x8)
      | false => exact kq H8 (x17.trans x8)
end
end PwD
end
/-! ### PwNt -/
section
set_option linter.all false
set_option maxRecDepth 100000
set_option maxHeartbeats 8000000
/-! _law_web, the walk -/
namespace Wk
open PySem PySem.Spec PyProof.Rows L2 Evl Pw
section
variable {X : Cx} {it elt : Expr} {σ : L2.St} {H : Hp} {pos pos2 p p2 : Pos} {n m : Nat} {s f0 : Str} {q : Addr} {xs : List V} {sc : Scope} {rest : List Stmt} {D0 : Ends}
theorem a_int {es : List Expr} {vs : List V} {i : Int} {m0 : Nat} (h : VA X es σ H vs) : VA X (.Constant (.int i) m0 p :: es) σ H (.int i :: vs) := a_cons v_int h rfl
theorem w_setCN (lw : LV X m f0) (hy : X.env.scope.names.lookup f0 = some .local) (nd : X.N.Nodup) (ok : BlkOk X.N X.env.scope sc [(s, n)]) (h : VE X it σ H (.ref q)) (hq : SqL X.K H q xs) (hz : xs.length ≤ 40000) (f : Nat → List V) (he : ∀ i y, xs[i]? = some y → ∀ (s0 : Shared) (H0 : Hp) (C : Addr) (cl : List (Str × Addr)) (fp : List Addr), VL (X.blk s0 H0 sc (compEnvC sc cl C X.env) fp) elt (σ.set n (some y)) H (f i))
    (hsw : swapsWith (.ListComp elt [⟨.Name s p, it, [], 0⟩] sc pos) (some (.Name f0 p2)) pos2.line X.env = pure true)
    (k : ∀ (D : Addr) (ps : List Addr) (H2 : Hp), H D = none → Ex H H2 → H2 D = some (.lst (ps.map V.ref)) → ps.length = xs.length → (∀ (j : Nat) (p : Addr), ps[j]? = some p → H p = none ∧ p ≠ D ∧ H2 p = some (.lst (f j))) → WS X rest D0 (σ.set m (some (.ref D))) H2)
    (hc : X.calm = true := by rfl) (hl : sc.names.lookup s = some .local := by rfl) (hs : ∀ x, foldedSetIterable it X.env x = pure x := by intro _; rfl) : WS X (.Assign [.Name f0 p2] (.ListComp elt [⟨.Name s p, it, [], 0⟩] sc pos) pos2 :: rest) D0 σ H := by
  refine w_cons (ps_setLc (own := [(s, n)]) hc nd lw.ix hy hsw (pi_list peW) ok (fun s0 H0 C cl fp => pgb nd ok hl s0 H0 C cl fp) (fun s0 H0 C cl fp => ptsW (ifs := []) (by simp) s0 H0 C cl fp) (fun s0 H0 C cl fp => peb s0 H0 C cl fp) hs) (h H (Ex.refl H) _ fun H1 e1 => ⟨q, rfl, ⟨xs, ex_l e1 hq⟩, fun D hD => lc_list (xs := xs) (CxN f H1 D) ⟨hD, Ex.new hD, [], upd_same, rfl, fun j a ha => by simp at ha⟩ (fun i H' _ C => ex_l (e1.trans C.2.1) hq) (fun i x H' hx C => ?_) (fun H' C => ?_)⟩)
  · refine ⟨wwipe x, ?_⟩
    show tYes (List.set (wipe σ [n]) n (some x)) H' fun b H3 => if b = true then WEb X sc elt (List.set (wipe σ [n]) n (some x)) H3 fun y H4 => ∃ acc, H4 D = some (.lst acc) ∧ acc.length < sizeLine ∧ CxN f H1 D (i + 1) (upd H4 D (.lst (acc ++ [y]))) else CxN f H1 D (i + 1) H3
    rw [wset]
    exact lc_turnN C hx hz fun H5 e5 Q g => fun s0 H0 C0 cl fp => he i x hx s0 H0 C0 cl fp H5 (e1.trans e5) Q g
  · obtain ⟨p1, p2, ps, p3, r1, r2⟩ := C
    exact k D ps H' (fresh_back e1 p1) (e1.trans p2) p3 r1 fun j p hp => ⟨fresh_back e1 (r2 j p hp).1, (r2 j p hp).2⟩
end
end Wk
namespace PwD
open PySem PySem.Spec PyProof.Rows L2 Evl Pw Wk PwH
theorem as_range {α : Type} {d : α} {ps : List α} {n : Nat} (hl : ps.length = n) : ps = (List.range n).map fun j => ps.getD j d := by
  apply List.ext_getElem?
  intro j
  by_cases hj : j < n
  · rw [map_at hj, List.getD_eq_getElem?_getD, List.getElem?_eq_getElem (by omega)]
    rfl
  · rw [List.getElem?_eq_none (by omega), List.getElem?_eq_none (by rw [List.length_map, List.length_range]; omega)]
theorem getD_at {α : Type} {d : α} {ps : List α} {n j : Nat} (hl : ps.length = n) (hj : j < n) : ps[j]? = some (ps.getD j d) := by
  rw [List.getD_eq_getElem?_getD, List.getElem?_eq_getElem (by omega)]
  rfl
theorem pathS_ok {n v : Nat} (h2 : 2 ≤ n) (hv : v < n) : (∀ w ∈ pathS n v, w < n) ∧ (pathS n v).length ≤ 3 := by
  unfold pathS
  split
  · simp
  · refine ⟨fun w hw => ?_, by simp⟩
    rcases List.mem_cons.mp hw with rfl | hw
    · split <;> omega
    · have : w = if v = n - 1 then 1 else v + 1 := by simpa using hw
      rw [this]
      split <;> omega
theorem some_ne {H : Hp} {a b : Addr} {o : HO} (h : H a = some o) (hb : H b = none) : a ≠ b := fun z => by
  rw [z, hb] at h
  cases h
section
variable {P : Program} {w : World} {K : PySem.W.Frag} {mg : Str → Option Value} {base : Heap}
def spLWeb (K : PySem.W.Frag) : Sp := fun vs H Q _ => ∃ p : Addr, vs = [.ref p, .int 5, .bl false] ∧ Pot H p ∧ ∀ (q : Addr) (W : Web) H2, H q = none → W.Ok → (∀ v, v < W.n → low40 (W.due v)) → (∀ v, v < W.n → (W.s1 v).length < 64 ∧ (W.s2 v).length < 64) → Exo p H H2 → Pot H2 p → LWeb K (rem H2 p) q W → Q (.ref q) H2
theorem d_lweb (T : Hd K mg) : Dn P w K mg base 3 "_law_web" [] (spLWeb K) := by
  refine fn_dn (F__law_web T) sc__law_web (fun vs H Q E h => ?_) B__law_web fun f cdv A outer s H vs Q E hr h => ?_
  · obtain ⟨_, rfl, _⟩ := h
    rfl
  · obtain ⟨p, rfl, hp, kq⟩ := h
    have hr1 := hr.mono (show 1 ≤ 2 by decide)
    obtain ⟨po, hpo⟩ := hp.at
    refine w_setW (lv sc__law_web.nd 3) (ofE (pe_callB (call_min2 rfl) rfl T.fre.min_ boot_min (pa_cons peW (pa_cons (pe_ix ix_seq peW peW (by intro _ _; rfl)) pa_nil)) (by decide) (by decide) rfl rfl) ?_)
    refine (vn (v := .int 5) 1) H (Ex.refl H) _ fun H1 x1 => ?_
    refine (v_lst (vs := [.int 4, .int 3, .int 5, .int 4, .int 6, .int 2, .int 5, .int 3, .int 7, .int 1]) (by
      repeat refine a_int ?_
      exact a_nil) (by simp)) H1 (Ex.refl H1) _ fun z H2 hz x2 h2 => ?_
    have p2 := (hp.ex x1).ex x2
    have nz : z ≠ p := (some_ne (x1 _ _ hpo) hz).symm
    refine e_draw (m := 10) T ⟨rfl, rfl⟩ hr1 (vn 0) v_int (by omega) p2 fun r H3 hr3 x3 p3 => ?_
    obtain ⟨y, ey, y1, y7⟩ : ∃ y : Int, ([.int 4, .int 3, .int 5, .int 4, .int 6, .int 2, .int 5, .int 3, .int 7, .int 1] : List V)[r]? = some (.int y) ∧ 1 ≤ y ∧ y ≤ 7 := by
      match r, hr3 with
      | 0, _ => exact ⟨4, rfl, by decide, by decide⟩
      | 1, _ => exact ⟨3, rfl, by decide, by decide⟩
      | 2, _ => exact ⟨5, rfl, by decide, by decide⟩
      | 3, _ => exact ⟨4, rfl, by decide, by decide⟩
      | 4, _ => exact ⟨6, rfl, by decide, by decide⟩
      | 5, _ => exact ⟨2, rfl, by decide, by decide⟩
      | 6, _ => exact ⟨5, rfl, by decide, by decide⟩
      | 7, _ => exact ⟨3, rfl, by decide, by decide⟩
      | 8, _ => exact ⟨7, rfl, by decide, by decide⟩
      | 9, _ => exact ⟨1, rfl, by decide, by decide⟩
    refine .inl ⟨z, _, (r : Int), .int y, rfl, rfl, sq_of (x3 z nz _ h2), atI_nat ey, ?_⟩
    refine ⟨5, y, rfl, ?_⟩
    obtain ⟨n, en, n1, n5⟩ : ∃ n : Nat, (if y < 5 then y else 5) = (n : Int) ∧ 1 ≤ n ∧ n ≤ 5 := ⟨(min y 5).toNat, by split <;> omega, by omega, by omega⟩
    show WS _ _ _ (List.set _ 3 (some (.int (if y < 5 then y else 5)))) H3
    rw [en]
    have E3 : Exo p H H3 := (Exo.of (x1.trans x2)).trans x3
    -- shape
    refine w_setW (lv sc__law_web.nd 4) (e_draw (m := 5) T ⟨rfl, rfl⟩ hr1 (vn 0) v_int (by omega) p3 fun sh H4 hsh x4 p4 => ?_)
    have E4 : Exo p H H4 := E3.trans x4
    refine w_setL (xs := []) (lv sc__law_web.nd 5) (v_lst a_nil (by simp)) fun F1 H5 hF1 x5 h5 => ?_
    refine w_setL (xs := []) (lv sc__law_web.nd 6) (v_lst a_nil (by simp)) fun D1 H6 hD1 x6 h6 => ?_
    have x46 := x5.trans x6
    have p6 := p4.ex x46
    have E6 : Exo p H H6 := E4.trans (.of x46)
    obtain ⟨o4, ho4⟩ := p4.at
    refine w_ifM (fun σ' H' => ∃ (F S D : Addr) (y7 y8 y10 y11 : Option V) (rs : List RwS), σ' = [some (.ref p), some (.int 5), some (.bl false), some (.int (n : Int)), some (.int (sh : Int)), some (.ref F), some (.ref D), y7, y8, some (.ref S), y10, y11] ∧ WEnd K H H' p n F S D rs) (t_bool (p_and (t_eqI (vn 4) v_int) fun _ => p_and1 (t_ge (vn 3) v_int))) (fun hc H7 x7 => ?_) (fun hc H7 x7 => ?_) ?_
    · have n2 : 2 ≤ n := by
        have := (Bool.and_eq_true_iff.mp hc).2
        have := of_decide_eq_true this
        omega
      have p7 := p6.ex x7
      have E7 : Exo p H H7 := E6.trans (.of x7)
      obtain ⟨o7, ho7⟩ := p7.at
      refine w_setW (lv sc__law_web.nd 5) (e_call (E := E0) (d_lpath T) hr1 passL (R := fun vs _ => vs = [.int (n : Int)]) (ad_last (vd (vn 3)) fun u H1 _ hu => by rw [hu]) fun vs H8 x8 hv => ?_)
      subst hv
      refine ⟨n, rfl, n2, by omega, fun F ps H9 hF x9 h9 hl hps => ?_⟩
      refine w_setW (lv sc__law_web.nd 6) (ofE (pe_op op_cat (pe_lst (pa_cons (pe_tup (pa_cons peW (pa_cons peW pa_nil))) pa_nil)) peW) ?_)
      refine v_str H9 (Ex.refl H9) _ fun H10 x10 => ?_
      refine v_int H10 (Ex.refl H10) _ fun H11 x11 => ?_
      refine ⟨sz_of (by simp), fun tq htq => ⟨sz_of (by simp), fun lq hlq => ?_⟩⟩
      refine (ccv (c_mapR (m := n - 1) (n := 7) T.fre sc__law_web.nd (bk sc__law_web (by decide +kernel)) (by
        rw [show (((n - 1 : Nat)) : Int) = (n : Int) - 1 from by omega]
        exact v_sub (vn 3) v_int) (by omega) (fun _ => .non) (fun i hi s0 H0 C cl1 fp => v_non))) _ (Ex.refl _) _ fun rq H13 hr13 x13 h13 => ?_
      have x12 : Ex H9 (upd (upd H11 tq (.tup [.str "chips", .int 0])) lq (.lst [.ref tq])) := (x10.trans x11).trans ((Ex.new htq).trans (Ex.new hlq))
      have tq12 : (upd (upd H11 tq (.tup [.str "chips", .int 0])) lq (.lst [.ref tq])) tq = some (.tup [.str "chips", .int 0]) := (Ex.new hlq) _ _ upd_same
      refine ⟨lq, rq, [.ref tq], _, rfl, rfl, x13 _ _ upd_same, h13, sz_of (by simp; omega), fun D hD => ?_⟩
      have x14 := (x9.trans x12).trans (x13.trans (Ex.new (o := .lst ([.ref tq] ++ (List.range (n - 1)).map fun _ => V.non)) hD))
      have x9e := x12.trans (x13.trans (Ex.new (o := .lst ([.ref tq] ++ (List.range (n - 1)).map fun _ => V.non)) hD))
      refine w_setCN (n := 8) (xs := ps.map V.ref) (lv sc__law_web.nd 9) rfl sc__law_web.nd (bk sc__law_web (by decide +kernel)) (vn 5) (sq_of (x9e _ _ h9)) (by rw [List.length_map]; omega) (fun i => lotV (pathS n i)) (fun i y hy s0 H0 C cl1 fp => ?_) (sw_true rfl rfl rfl (by decide +kernel)) fun S qs H15 hS x15 h15 hlq2 hqs => ?_
      · rw [List.getElem?_map] at hy
        cases e : ps[i]? with
        | none => rw [e] at hy; cases hy
        | some a =>
          rw [e] at hy
          obtain rfl : V.ref a = y := Option.some.inj hy
          exact v_list T.fre (vn 8) (.ls (x9e _ _ (hps i a e).2))
      · rw [List.length_map, hl] at hlq2
        have ho8 := x8 _ _ ho7
        have x8f := x14.trans x15
        have nF : F ≠ p := (some_ne ho8 hF).symm
        have nD : D ≠ p := (some_ne (x13 _ _ (x12 _ _ (x9 _ _ ho8))) hD).symm
        have nS : S ≠ p := (some_ne (x14 _ _ ho8) hS).symm
        refine w_nil ⟨F, S, D, _, _, _, _, (List.range n).map fun j => ⟨ps.getD j 0, pathS n j, qs.getD j 0, pathS n j, if j = 0 then .ref tq else .non, if j = 0 then .chips 0 else .none⟩, rfl, E7.trans (.of (x8.trans x8f)), (p7.ex x8).ex x8f, nF, nS, nD, ⟨?_, ?_, ?_⟩, by rw [List.length_map, List.length_range], fun r hr => ?_⟩
        · rw [x15 _ _ (x9e _ _ h9), List.map_map]
          congr 2
          conv => lhs; rw [as_range (d := 0) hl, List.map_map]
          rfl
        · rw [h15, List.map_map]
          congr 2
          conv => lhs; rw [as_range (d := 0) hlq2, List.map_map]
          rfl
        · rw [x15 _ _ upd_same, List.map_map]
          congr 2
          obtain ⟨m, rfl⟩ : ∃ m, n = m + 1 := ⟨n - 1, by omega⟩
          show V.ref tq :: (List.range m).map (fun _ => V.non) = _
          rw [List.range_succ_eq_map, List.map_cons, List.map_map]
          rfl
        · obtain ⟨j, hj, rfl⟩ := List.mem_map.mp hr
          have hj := List.mem_range.mp hj
          obtain ⟨a1, a2⟩ := hps j _ (getD_at (d := 0) hl hj)
          obtain ⟨b1, b2, b3⟩ := hqs j _ (getD_at (d := 0) hlq2 hj)
          have ok := pathS_ok n2 hj
          refine ⟨by simpa using (some_ne ho8 a1).symm, x15 _ _ (x9e _ _ a2), by simpa using (some_ne (x14 _ _ ho8) b1).symm, b3, ?_, ok.1, ok.1, Iff.rfl, ok.2, ok.2, ?_, ?_⟩
          · by_cases z : j = 0
            · show DueV K _ (if j = 0 then V.ref tq else V.non) (if j = 0 then Du.chips 0 else Du.none)
              rw [if_pos z, if_pos z]
              exact due_noL (d := .chips 0) ⟨tq, rfl, st_of (x15 _ _ ((Ex.new hD) _ _ (x13 _ _ tq12)))⟩
            · show DueV K _ (if j = 0 then V.ref tq else V.non) (if j = 0 then Du.chips 0 else Du.none)
              rw [if_neg z, if_neg z]
              rfl
          · show Du.nn (if j = 0 then Du.chips 0 else Du.none)
            split
            · show (0 : Int) ≤ 0; omega
            · trivial
          · show low40 (if j = 0 then Du.chips 0 else Du.none)
            split
            · show (0 : Int) ≤ 10 ^ 40; decide
            · trivial
    · have p7 := p6.ex x7
      refine w_setL (xs := []) (lv sc__law_web.nd 9) (v_lst a_nil (by simp)) fun S1 H8 hS1 x8 h8 => ?_
      obtain ⟨M, hM⟩ : ∃ M, M = [p, F1, S1, D1] := ⟨_, rfl⟩
      have F7 := x7 _ _ (x6 _ _ h5)
      have D7 := x7 _ _ h6
      obtain ⟨o7, ho7⟩ := p7.at
      have nFp : F1 ≠ p := (some_ne ho4 hF1).symm
      have nDp : D1 ≠ p := (some_ne (x5 _ _ ho4) hD1).symm
      have nDF : D1 ≠ F1 := (some_ne h5 hD1).symm
      have nSp : S1 ≠ p := (some_ne ho7 hS1).symm
      have nSF : S1 ≠ F1 := (some_ne F7 hS1).symm
      have nSD : S1 ≠ D1 := (some_ne D7 hS1).symm
      have mp : p ∈ M := by rw [hM]; simp
      have mF : F1 ∈ M := by rw [hM]; simp
      have mS : S1 ∈ M := by rw [hM]; simp
      have mD : D1 ∈ M := by rw [hM]; simp
      have inM : ∀ {H' : Hp}, Pot H' p → (∃ o, H' F1 = some o) → (∃ o, H' S1 = some o) → (∃ o, H' D1 = some o) → ∀ m ∈ M, ∃ o, H' m = some o := fun a b c d m hm => by
        rw [hM] at hm
        rcases List.mem_cons.mp hm with rfl | hm
        · exact a.at
        rcases List.mem_cons.mp hm with rfl | hm
        · exact b
        rcases List.mem_cons.mp hm with rfl | hm
        · exact c
        · obtain rfl : m = D1 := by simpa using hm
          exact d
      have E8 : Exo p H H8 := E6.trans (.of (x7.trans x8))
      refine w_forR T.fre (lv sc__law_web.nd 7) (j := (n : Int)) (vn 3) (by omega) (fun i σ' H' => ∃ (y7 y8 y10 y11 : Option V), σ' = [some (.ref p), some (.int 5), some (.bl false), some (.int (n : Int)), some (.int (sh : Int)), some (.ref F1), some (.ref D1), y7, y8, some (.ref S1), y10, y11] ∧ Mv M H8 H' ∧ Pot H' p ∧ ∃ rs : List RwS, Thr H' F1 S1 D1 rs ∧ rs.length = i ∧ ∀ r ∈ rs, RGood K M n H' r) (fun H9 x9 => ⟨none, none, none, none, rfl, .of x9, (p7.ex x8).ex x9, [], ⟨x9 _ _ (x8 _ _ F7), x9 _ _ h8, x9 _ _ (x8 _ _ D7)⟩, rfl, by simp⟩) ?_ ?_
      · rintro i σ' H9 hi ⟨y7, y8, y10, y11, rfl, mv, pp, rs, t, hl, hg⟩
        have hi' : i < n := by omega
        refine w_set (lv sc__law_web.nd 10) (v_and (v_eqI (vn 7) v_int) fun _ => v_one (v_neI (vn 4) v_int)) fun H10 x10 => ?_
        refine w_ifM (fun σ' H' => ∃ e : Bool, σ' = [some (.ref p), some (.int 5), some (.bl false), some (.int (n : Int)), some (.int (sh : Int)), some (.ref F1), some (.ref D1), some (.int (i : Int)), y8, some (.ref S1), some (.bl e), y11] ∧ Ex H9 H') (t_bool (p_and (t_eqI (vn 7) v_int) fun _ => p_and1 (t_neI (vn 4) v_int))) (fun hc H11 x11 => w_set (lv sc__law_web.nd 10) v_bl fun H12 x12 => w_nil ⟨true, rfl, (x10.trans x11).trans x12⟩) (fun hc H11 x11 => w_nil ⟨_, rfl, x10.trans x11⟩) ?_
        rintro σ' H11 ⟨e1, rfl, x11⟩
        refine w_ifWM (fun σ' H' => ∃ e : Bool, σ' = [some (.ref p), some (.int 5), some (.bl false), some (.int (n : Int)), some (.int (sh : Int)), some (.ref F1), some (.ref D1), some (.int (i : Int)), y8, some (.ref S1), some (.bl e), y11] ∧ Exo p H9 H' ∧ Pot H' p) (ofT (pw_and ptW (pw_and1 ptW)).pt ?_) ?_
        · refine (t_ge (vn 7) v_int) H11 (Ex.refl H11) _ fun H12 x12 => ?_
          by_cases c1 : (2 : Int) ≤ (i : Int)
          · rw [decide_eq_true c1]
            refine it_t ?_
            refine ofT (pt_cmpR op_eq peW peW (nomark _)) (e_draw (m := 8) T ⟨rfl, rfl⟩ hr1 (vn 0) v_int (by omega) ((pp.ex x11).ex x12) fun r H13 h13 x13 p13 => ?_)
            refine v_int H13 (Ex.refl H13) _ fun H14 x14 => ?_
            refine rv_eq (x := .int (r : Int)) (y := .int 7) rfl H14 (Ex.refl H14) _ fun H15 x15 => ⟨_, rfl, ?_⟩
            have e15 : Exo p H9 H15 := (Exo.of (x11.trans x12)).trans (x13.trans (.of (x14.trans x15)))
            have p15 := p13.ex (x14.trans x15)
            by_cases hz : V.int (r : Int) = V.int 7
            · rw [decide_eq_true hz]
              refine it_t ?_
              exact w_set (lv sc__law_web.nd 10) v_bl fun H16 x16 => w_nil ⟨true, rfl, e15.trans (.of x16), p15.ex x16⟩
            · rw [decide_eq_false hz]
              refine it_f ?_
              exact w_nil ⟨e1, rfl, e15, p15⟩
          · rw [decide_eq_false c1]
            refine it_f ?_
            refine it_f ?_
            exact w_nil ⟨e1, rfl, .of (x11.trans x12), (pp.ex x11).ex x12⟩
        rintro σ' H12 ⟨e, rfl, e12, p12⟩
        have t12 : Thr H12 F1 S1 D1 rs := t.mv fun z hz o ho => e12 z (by rcases hz with rfl | rfl | rfl <;> assumption) o ho
        have m12 : Mv M H9 H12 := .exo mp pp.lst e12
        have rsl : rs.length < 100000 := by omega
        refine w_ifM (fun σ' H' => ∃ (y8 : Option V) (a b : Addr) (l1 l2 : List Nat), σ' = [some (.ref p), some (.int 5), some (.bl false), some (.int (n : Int)), some (.int (sh : Int)), some (.ref F1), some (.ref D1), some (.int (i : Int)), y8, some (.ref S1), some (.bl e), y11] ∧ Mv M H9 H' ∧ Pot H' p ∧ H' F1 = some (.lst ((rs.map fun r => .ref r.a) ++ [.ref a])) ∧ H' S1 = some (.lst ((rs.map fun r => .ref r.b) ++ [.ref b])) ∧ H' D1 = some (.lst (rs.map fun r => r.u)) ∧ a ∉ M ∧ H' a = some (.lst (lotV l1)) ∧ b ∉ M ∧ H' b = some (.lst (lotV l2)) ∧ (∀ w ∈ l1, w < n) ∧ (∀ w ∈ l2, w < n) ∧ (l1 = [] ↔ l2 = []) ∧ l1.length ≤ 3 ∧ l2.length ≤ 3) (t_val (vn 10)) (fun hc H13 x13 => ?_) (fun hc H13 x13 => ?_) ?_
        · refine w_appD (q := F1) (x13 _ _ t12.1) (vn 5) (ldn (v_lst a_nil (by simp))) (by rw [List.length_map]; exact rsl) fun u H14 x14 hu => ?_
          obtain ⟨a, rfl, ha, ha2⟩ := hu
          have na : a ∉ M := notM ha (inM (p12.ex x13) ⟨_, x13 _ _ t12.1⟩ ⟨_, x13 _ _ t12.2.1⟩ ⟨_, x13 _ _ t12.2.2⟩)
          have aF : a ≠ F1 := fun z => na (by rw [z]; exact mF)
          have aS : a ≠ S1 := fun z => na (by rw [z]; exact mS)
          refine w_appD (q := S1) (by rw [upd_ne nSF]; exact x14 _ _ (x13 _ _ t12.2.1)) (vn 9) (ldn (v_lst a_nil (by simp))) (by rw [List.length_map]; exact rsl) fun u H16 x16 hu => ?_
          obtain ⟨b, rfl, hb, hb2⟩ := hu
          have nb : b ∉ M := notM hb (inM (((p12.ex x13).ex x14).put nFp.symm) ⟨_, upd_same⟩ ⟨_, by rw [upd_ne nSF]; exact x14 _ _ (x13 _ _ t12.2.1)⟩ ⟨_, by rw [upd_ne nDF]; exact x14 _ _ (x13 _ _ t12.2.2)⟩)
          have bS : b ≠ S1 := fun z => nb (by rw [z]; exact mS)
          have mv14 : Mv M H9 H14 := m12.trans (.of (x13.trans x14))
          have mv15 := mv14.trans (Mv.put mF (ys := (rs.map fun r => .ref r.a) ++ [V.ref a]) (x14 _ _ (x13 _ _ t12.1)))
          have s16 : H16 S1 = some (.lst (rs.map fun r => .ref r.b)) := x16 _ _ (by rw [upd_ne nSF]; exact x14 _ _ (x13 _ _ t12.2.1))
          refine w_nil ⟨_, a, b, [], [], rfl, (mv15.trans (.of x16)).trans (Mv.put mS s16), ((((p12.ex x13).ex x14).put nFp.symm).ex x16).put nSp.symm, by rw [upd_ne nSF.symm]; exact x16 _ _ upd_same, upd_same, by rw [upd_ne nSD.symm]; exact x16 _ _ (by rw [upd_ne nDF]; exact x14 _ _ (x13 _ _ t12.2.2)), na, by rw [upd_ne aS]; exact x16 _ _ (by rw [upd_ne aF]; exact ha2), nb, by rw [upd_ne bS]; exact hb2, by simp, by simp, Iff.rfl, by simp, by simp⟩
        · refine w_setW (lv sc__law_web.nd 8) (e_call (E := E0) (d_llot T) hr passL (R := fun vs _ => vs = [.ref p, .int (n : Int)]) (ad_consE (vn 0) (ad_last (vd (vn 3)) fun u H1 _ hu => by rw [hu])) fun vs H14 x14 hv => ?_)
          subst hv
          have x1314 := x13.trans x14
          refine ⟨p, n, rfl, n1, p12.ex x1314, fun l ls H15 hl0 x15 p15 h15 ne hin hlen => ?_⟩
          have nl : l ∉ M := notM hl0 (inM (p12.ex x1314) ⟨_, x1314 _ _ t12.1⟩ ⟨_, x1314 _ _ t12.2.1⟩ ⟨_, x1314 _ _ t12.2.2⟩)
          have lF : l ≠ F1 := fun z => nl (by rw [z]; exact mF)
          have lS : l ≠ S1 := fun z => nl (by rw [z]; exact mS)
          have lp : l ≠ p := fun z => nl (by rw [z]; exact mp)
          have F15 := x15 _ nFp _ (x1314 _ _ t12.1)
          have S15 := x15 _ nSp _ (x1314 _ _ t12.2.1)
          have D15 := x15 _ nDp _ (x1314 _ _ t12.2.2)
          have mv15 : Mv M H9 H15 := (m12.trans (.of x1314)).trans (.exo mp (p12.ex x1314).lst x15)
          refine w_app (q := F1) F15 (vn 5) (vn 8) (by rw [List.length_map]; exact rsl) fun H16 x16 => ?_
          have mv17 := (mv15.trans (.of x16)).trans (Mv.put mF (ys := (rs.map fun r => .ref r.a) ++ [V.ref l]) (x16 _ _ F15))
          have p17 : Pot (upd H16 F1 (.lst ((rs.map fun r => .ref r.a) ++ [V.ref l]))) p := (p15.ex x16).put nFp.symm
          have F17 : (upd H16 F1 (.lst ((rs.map fun r => .ref r.a) ++ [V.ref l]))) F1 = some (.lst ((rs.map fun r => .ref r.a) ++ [V.ref l])) := upd_same
          have S17 : (upd H16 F1 (.lst ((rs.map fun r => .ref r.a) ++ [V.ref l]))) S1 = some (.lst (rs.map fun r => .ref r.b)) := by rw [upd_ne nSF]; exact x16 _ _ S15
          have D17 : (upd H16 F1 (.lst ((rs.map fun r => .ref r.a) ++ [V.ref l]))) D1 = some (.lst (rs.map fun r => r.u)) := by rw [upd_ne nDF]; exact x16 _ _ D15
          have l17 : (upd H16 F1 (.lst ((rs.map fun r => .ref r.a) ++ [V.ref l]))) l = some (.lst (lotV ls)) := by rw [upd_ne lF]; exact x16 _ _ h15
          obtain ⟨H17, e17⟩ : ∃ H17, H17 = upd H16 F1 (.lst ((rs.map fun r => .ref r.a) ++ [V.ref l])) := ⟨_, rfl⟩
          rw [← e17] at mv17 p17 F17 S17 D17 l17 ⊢
          refine w_ifW (ofT (pw_or ptW (pw_or1 ptW)).pt ?_)
          refine (t_val (k := false) (vn 2)) H17 (Ex.refl H17) _ fun H18 x18 => ?_
          refine it_f ?_
          refine ofT (pt_cmpR op_eq peW peW (nomark _)) (e_draw (m := 2) T ⟨rfl, rfl⟩ hr1 (vn 0) v_int (by omega) (p17.ex x18) fun r H19 h19 x19 p19 => ?_)
          refine v_int H19 (Ex.refl H19) _ fun H20 x20 => ?_
          refine rv_eq (x := .int (r : Int)) (y := .int 0) rfl H20 (Ex.refl H20) _ fun H21 x21 => ⟨_, rfl, ?_⟩
          have x1921 := x20.trans x21
          have e21 : Exo p H17 H21 := (Exo.of x18).trans (x19.trans (.of x1921))
          have p21 := p19.ex x1921
          have F21 := e21 _ nFp _ F17
          have S21 := e21 _ nSp _ S17
          have D21 := e21 _ nDp _ D17
          have l21 := e21 _ lp _ l17
          have mv21 : Mv M H9 H21 := mv17.trans (.exo mp p17.lst e21)
          by_cases hz : V.int (r : Int) = V.int 0
          · rw [decide_eq_true hz]
            refine it_t ?_
            refine w_appD (q := S1) S21 (vn 9) (ldn (v_list T.fre (vn 8) (.ls l21))) (by rw [List.length_map]; exact rsl) fun u H22 x22 hu => ?_
            obtain ⟨b, rfl, hb, hb2⟩ := hu
            have nb : b ∉ M := notM hb (inM p21 ⟨_, F21⟩ ⟨_, S21⟩ ⟨_, D21⟩)
            have bS : b ≠ S1 := fun z => nb (by rw [z]; exact mS)
            refine w_nil (w_nil ⟨_, l, b, ls, ls, rfl, (mv21.trans (.of x22)).trans (Mv.put mS (x22 _ _ S21)), (p21.ex x22).put nSp.symm, by rw [upd_ne nSF.symm]; exact x22 _ _ F21, upd_same, by rw [upd_ne nSD.symm]; exact x22 _ _ D21, nl, by rw [upd_ne lS]; exact x22 _ _ l21, nb, by rw [upd_ne bS]; exact hb2, hin, hin, Iff.rfl, hlen, hlen⟩)
          · rw [decide_eq_false hz]
            refine it_f ?_
            refine w_appW (q := S1) S21 (vn 9) fun H22 x22 => e_call (E := E0) (d_llot T) hr passL (R := fun vs _ => vs = [.ref p, .int (n : Int)]) (ad_consE (vn 0) (ad_last (vd (vn 3)) fun u H1 _ hu => by rw [hu])) fun vs H23 x23 hv => ?_
            subst hv
            have x2223 := x22.trans x23
            refine ⟨p, n, rfl, n1, p21.ex x2223, fun l2 ls2 H24 hl2 x24 p24 h24 ne2 hin2 hlen2 => ?_⟩
            have nb : l2 ∉ M := notM hl2 (inM (p21.ex x2223) ⟨_, x2223 _ _ F21⟩ ⟨_, x2223 _ _ S21⟩ ⟨_, x2223 _ _ D21⟩)
            have bS : l2 ≠ S1 := fun z => nb (by rw [z]; exact mS)
            have S24 := x24 _ nSp _ (x2223 _ _ S21)
            have mv24 : Mv M H9 H24 := (mv21.trans (.of x2223)).trans (.exo mp (p21.ex x2223).lst x24)
            refine ⟨_, S24, by rw [List.length_map]; exact rsl, w_nil (w_nil ⟨_, l, l2, ls, ls2, rfl, mv24.trans (Mv.put mS S24), p24.put nSp.symm, by rw [upd_ne nSF.symm]; exact x24 _ nFp _ (x2223 _ _ F21), upd_same, by rw [upd_ne nSD.symm]; exact x24 _ nDp _ (x2223 _ _ D21), nl, by rw [upd_ne lS]; exact x24 _ lp _ (x2223 _ _ l21), nb, by rw [upd_ne bS]; exact h24, hin, hin2, ⟨fun z => absurd z ne, fun z => absurd z ne2⟩, hlen, hlen2⟩)⟩
        rintro σ' H13 ⟨z8, a, b, l1, l2, rfl, mv13, p13, f13, s13, d13, na, ha, nb, hb, w1, w2, w3, w4, w5⟩
        refine w_set (lv sc__law_web.nd 11) v_non fun H14 x14 => ?_
        refine w_ifM (fun σ' H' => ∃ (u : V) (d : Du), σ' = [some (.ref p), some (.int 5), some (.bl false), some (.int (n : Int)), some (.int (sh : Int)), some (.ref F1), some (.ref D1), some (.int (i : Int)), z8, some (.ref S1), some (.bl e), some u] ∧ Exo p H13 H' ∧ Pot H' p ∧ DueV K H' u d ∧ d.nn ∧ low40 d) (t_bool (p_or (t_eqI (vn 7) v_int) fun _ => p_or1 (t_bool (p_and (t_val (vn 10)) fun _ => p_and1 (t_ge (vn 7) v_int))))) (fun hc H15 x15 => ?_) (fun hc H15 x15 => ?_) ?_
        · refine w_setW (lv sc__law_web.nd 11) (e_call (E := E0) (d_ldueP T) hr passL (R := fun vs _ => vs = [.ref p]) (ad_last (vd (vn 0)) fun u H1 _ hu => by rw [hu]) fun vs H16 x16 hv => ?_)
          subst hv
          exact ⟨p, rfl, p13.ex ((x14.trans x15).trans x16), fun u d H17 x17 p17 hu dn lo => w_nil ⟨u, d, rfl, (Exo.of ((x14.trans x15).trans x16)).trans x17, p17, hu, dn, lo⟩⟩
        · refine w_ifW (ofT (pw_and ptW (pw_and1 ptW)).pt ?_)
          refine (t_not (t_val (vn 10))) H15 (Ex.refl H15) _ fun H16 x16 => ?_
          have x1316 := (x14.trans x15).trans x16
          cases e with
          | true =>
            refine it_f ?_
            refine it_f ?_
            exact w_nil (w_nil ⟨.non, .none, rfl, .of x1316, p13.ex x1316, rfl, trivial, trivial⟩)
          | false =>
            refine it_t ?_
            refine ofT (pt_cmpR op_eq peW peW (nomark _)) (e_draw (m := 8) T ⟨rfl, rfl⟩ hr1 (vn 0) v_int (by omega) (p13.ex x1316) fun r H17 h17 x17 p17 => ?_)
            refine v_int H17 (Ex.refl H17) _ fun H18 x18 => ?_
            refine rv_eq (x := .int (r : Int)) (y := .int 7) rfl H18 (Ex.refl H18) _ fun H19 x19 => ⟨_, rfl, ?_⟩
            have e19 : Exo p H13 H19 := (Exo.of x1316).trans (x17.trans (.of (x18.trans x19)))
            have p19 := p17.ex (x18.trans x19)
            by_cases hz : V.int (r : Int) = V.int 7
            · rw [decide_eq_true hz]
              refine it_t ?_
              refine w_setW (lv sc__law_web.nd 11) (e_call (E := E0) (d_ldueP T) hr passL (R := fun vs _ => vs = [.ref p]) (ad_last (vd (vn 0)) fun u H1 _ hu => by rw [hu]) fun vs H20 x20 hv => ?_)
              subst hv
              exact ⟨p, rfl, p19.ex x20, fun u d H21 x21 p21 hu dn lo => w_nil (w_nil ⟨u, d, rfl, e19.trans ((Exo.of x20).trans x21), p21, hu, dn, lo⟩)⟩
            · rw [decide_eq_false hz]
              refine it_f ?_
              exact w_nil (w_nil ⟨.non, .none, rfl, e19, p19, rfl, trivial, trivial⟩)
        rintro σ' H15 ⟨u, d, rfl, x15, p15, hu, dn, lo⟩
        have D15 := x15 _ nDp _ d13
        refine w_app (q := D1) D15 (vn 6) (vn 11) (by rw [List.length_map]; exact rsl) fun H16 x16 => ?_
        have mv16 : Mv M H13 H16 := (Mv.exo mp p13.lst x15).trans (.of x16)
        have mvp := Mv.put mD (ys := (rs.map fun r => r.u) ++ [u]) (x16 _ _ D15)
        have mvE := mv16.trans mvp
        refine w_nil ⟨_, _, _, _, rfl, (mv.trans mv13).trans mvE, (p15.ex x16).put nDp.symm, rs ++ [⟨a, l1, b, l2, u, d⟩], ⟨?_, ?_, ?_⟩, by rw [List.length_append, hl]; rfl, fun r hr => ?_⟩
        · rw [upd_ne nDF.symm, x16 _ _ (x15 _ nFp _ f13), List.map_append]
          rfl
        · rw [upd_ne nSD, x16 _ _ (x15 _ nSp _ s13), List.map_append]
          rfl
        · rw [upd_same, List.map_append]
          rfl
        · rcases List.mem_append.mp hr with h | h
          · exact (hg r h).mv (mv13.trans mvE)
          · obtain rfl : r = ⟨a, l1, b, l2, u, d⟩ := by simpa using h
            exact ⟨na, mvE.1 _ na _ ha, nb, mvE.1 _ nb _ hb, (due_noL (hu.ex x16)).ex mvp.2, w1, w2, w3, w4, w5, dn, lo⟩
      · rintro σ' H9 ⟨y7, y8, y10, y11, rfl, mv, pp, rs, t, hl, hg⟩
        have fr : ∀ {a : Addr} {Hx : Hp}, Exo p H Hx → (∃ o, Hx p = some o) → Hx a = none → H a = none := fun e z h => none_back e z h
        have zF := fr E4 p4.at hF1
        have zD : H D1 = none := fr (E4.trans (.of x5)) (p4.ex x5).at hD1
        have zS : H S1 = none := fr (E6.trans (.of x7)) p7.at hS1
        refine w_nil ⟨F1, S1, D1, _, _, _, _, rs, rfl, fun z hz o ho => mv.1 z (fun hm => ?_) o (E8 z hz o ho), pp, nFp, nSp, nDp, t, hl, fun r hr => ?_⟩
        · rw [hM] at hm
          rcases List.mem_cons.mp hm with rfl | hm
          · exact hz rfl
          rcases List.mem_cons.mp hm with rfl | hm
          · rw [zF] at ho; cases ho
          rcases List.mem_cons.mp hm with rfl | hm
          · rw [zS] at ho; cases ho
          · obtain rfl : z = D1 := by simpa using hm
            rw [zD] at ho; cases ho
        · have g := hg r hr
          exact ⟨fun z => g.1 (by rw [List.mem_singleton.mp z]; exact mp), g.2.1, fun z => g.2.2.1 (by rw [List.mem_singleton.mp z]; exact mp), g.2.2.2⟩
    · rintro σ' H7 ⟨F, S, D, y7, y8, y10, y11, rs, rfl, ex, pp, nF, nS, nD, t, hl, hg⟩
      refine w_retW (ofE (pe_lst (pa_cons peW (pa_cons peW (pa_cons peW (pa_cons peW pa_nil))))) ?_)
      refine (vn (v := .ref F) 5) H7 (Ex.refl H7) _ fun H8 x8 => ?_
      refine (vn (v := .ref S) 9) H8 (Ex.refl H8) _ fun H9 x9 => ?_
      refine e_call (E := E0) (d_lmarks T) hr passL (R := fun vs _ => vs = [.ref p, .int (n : Int)]) (ad_consE (vn 0) (ad_last (vd (vn 3)) fun u H1 _ hu => by rw [hu])) fun vs H10 x10 hv => ?_
      subst hv
      have x710 := (x8.trans x9).trans x10
      have p10 := pp.ex x710
      refine ⟨p, n, rfl, by omega, p10, fun m mk H11 hm x11 p11 h11 hmk => ?_⟩
      refine (vn (v := .ref D) 6) H11 (Ex.refl H11) _ fun H12 x12 => ?_
      refine ⟨sz_of (by simp), fun q hq => ?_⟩
      have p12 := p11.ex x12
      have e12 : Exo p H7 H12 := (Exo.of x710).trans (x11.trans (.of x12))
      obtain ⟨o10, ho10⟩ := p10.at
      obtain ⟨o12, ho12⟩ := p12.at
      have nmp : m ≠ p := (some_ne ho10 hm).symm
      have nqp : q ≠ p := (some_ne ho12 hq).symm
      have en : Ex H12 (upd H12 q (.lst [.ref F, .ref S, .ref m, .ref D])) := Ex.new hq
      have ef : Exo p H7 (upd H12 q (.lst [.ref F, .ref S, .ref m, .ref D])) := e12.trans (.of en)
      have mvf : Mv [p] H7 (upd H12 q (.lst [.ref F, .ref S, .ref m, .ref D])) := .exo (by simp) pp.lst ef
      have W := rowsW_ok (rs := rs) (mk := mk) hl n1 n5 (fun r hr => (hg r hr).2.2.2.2.2) hmk
      exact kq q (rowsW n rs mk) _ (none_back (ex.trans e12) p12.at hq) W.1 W.2.1 W.2.2 (ex.trans ef) (p12.ex en) (rowsW_l hl (p12.ex en) nF nS nD (t.mv fun z hz o ho => ef z (by rcases hz with rfl | rfl | rfl <;> assumption) o ho) (fun r hr => (hg r hr).mv mvf) nmp (en _ _ (x12 _ _ h11)) nqp upd_same)
end
end PwD
end
/-! ### PwU2 -/
section
set_option linter.all false
set_option maxRecDepth 100000
set_option maxHeartbeats 8000000
/-! words for law -/
namespace L2
open PySem PySem.Spec PyProof.Rows PwH
/-- x op y, x an instance with its own def for op, y a list -/
def rOwnL (K : PySem.W.Frag) (C : Addr) (sp : Sp) (E : XK) : R2 := fun x y H Q => ∃ a dx vs b xs, x = .ref a ∧ y = .ref b ∧ SlX.Slt H a C dx vs ∧ SqL K H b xs ∧ PySem.W.notFirst K C (.type "list") = true ∧ sp [x, y] H Q E
theorem op_ownL {X : Cx} {CX : CXT} {C g : Addr} {n : Nat} {sp : Sp} {E : XK} {op : CmpOp} (hop : ∀ a b, compareOp op a b = richCompare op a b) (hs : PySem.W.findIn X.K (.ref C) (cmpInfo op).2.1 = some (some (.ref g))) (hf : PySem.W.isFn X.K (.ref g) = true) (F : FnR X.prog X.w X.K X.mg X.base CX n g sp)
    (hr : Room n X.A) (hx : Passes CX X E) : OpR X (compareOp op) (rOwnL X.K C sp E) := by
  intro pins s σ H x y v u Q I rx ry h
  obtain ⟨a, dx, vs, b, xs, rfl, rfl, ha, hb, hn, q⟩ := h
  cases (show v = Value.ref a from rx)
  cases (show u = Value.ref b from ry)
  obtain ⟨sl, od, _, J, _⟩ := SlX.slt_inst I ha
  obtain ⟨its, rv, pl, hz⟩ := I.list hb
  obtain ⟨m, hF⟩ := I.fr
  rw [hop]
  obtain ⟨o, n0, ho, hc, _⟩ := pl
  have L : PySem.W.Looks (model X.prog X.w) s.heap (typeOf (.ref b)) (.type "list") := fun A Q E s k q => wpAny_typeOf_ref (k _ _ ho) (by rw [hc]; exact q)
  refine PySem.W.cmp_K (op := op) (tb := .type "list") hr.units0 hF I.ok.mod.kin J L hn hs hf ?_
  refine wpAny_mono (wpAny_call (run_fnR (us := [.ref a, .ref b]) (vs := [.ref a, .ref b]) F hr hx I (.cons rfl (.cons rfl .nil)) q)) (fun w s' z => ?_) fun _ _ x => x
  obtain ⟨z', H', I', rz, qz⟩ := z
  exact SlX.cmpback rz ⟨z', H', I', rz, qz⟩
end L2
namespace Wk
open PySem PySem.Spec PyProof.Rows L2 Evl Pw
section
variable {X : Cx} {e o a e1 e2 : Expr} {rest : List Stmt} {σ : L2.St} {H : Hp} {pos p p2 : Pos} {q : Addr} {xs : List V} {D0 : Ends} {d1 d2 : PyData}
/-- o[a] = e, e changes things -/
theorem w_setixW (h : WE X e σ H (fun v H1 => ∃ (q : Addr) (n : Nat) (xs : List V), H1 q = some (.lst xs) ∧ n < xs.length ∧ VE X o σ H1 (.ref q) ∧ VE X a σ H1 (.int (n : Int)) ∧ ∀ H2, Ex H1 H2 → WS X rest D0 σ (upd H2 q (.lst (xs.set n v)))))
    (ha : ∀ v, assign (.Subscript o a p) X.env v = (do
      let ov ← holding [v] (eval o X.env)
      let iv ← holding [v, ov] (eval a X.env)
      standAt p
      holding [v, ov, iv] (setItem ov iv v)
      release [v, ov, iv] []) := by intro _; rfl)
    (hs : swapsWithSole [.Subscript o a p] e pos.line X.env = pure false := by rfl) (hw : swappedStores [.Subscript o a p] e X.env = pure none := by rfl) (h1 : (assignEach [.Subscript o a p] X.env).map (·.2) = [assign (.Subscript o a p) X.env] := by rfl) :
    WS X (.Assign [.Subscript o a p] e pos :: rest) D0 σ H :=
  w_cons (ps_asg peW (pg_sub peW peW set_list ha) hs hw h1) (we_mono h fun v H1 ⟨q, n, xs, hq, hn, ho, hi, k⟩ => ho H1 (Ex.refl H1) _ fun H2 e2 => hi H2 e2 _ fun H3 e3 => ⟨q, xs, (n : Int), n, rfl, rfl, (e2.trans e3) _ _ hq, ixN_nat hn, k H3 (e2.trans e3)⟩)
/-- o.pop() -/
theorem w_pop {y : V} (hl : H q = some (.lst xs)) (hy : xs[xs.length - 1]? = some y) (ha : VE X o σ H (.ref q)) (k : ∀ H1, Ex H H1 → WS X rest D0 σ (upd H1 q (.lst xs.dropLast)))
    (hbase : attributeBase o "pop" X.env (eval o X.env) = eval o X.env := by rfl) (hline : (p.endLine == pos.line) = true := by rfl)
    (hsw : swapsWith (.Call (.Attribute o "pop" p) [] [] pos) none p2.line X.env = pure false := by rfl) :
    WS X (.Expr (.Call (.Attribute o "pop" p) [] [] pos) p2 :: rest) D0 σ H :=
  w_cons (ps_expr (pe_bm0 PySem.F.plainAttrs_list PySem.F.slot_list_pop PySem.F.type_list_pop mt_pop peW hbase hline) hsw) (ha H (Ex.refl H) _ fun H1 e1 =>
    ⟨Or.inl ⟨rfl, xs, sq_of (e1 q _ hl)⟩, q, xs, y, rfl, rfl, e1 q _ hl, hy, k H1 e1⟩)
/-- [e1, e2] as data -/
theorem vdi_l2 (h1 : VDI X e1 σ H d1) (h2 : VDI X e2 σ H d2) (g1 : PyData.depth d1 ≤ 6) (g2 : PyData.depth d2 ≤ 6) (hs1 : starEach [e1, e2] X.env = (false, eval e1 X.env) :: starEach [e2] X.env := by rfl) (hs2 : starEach [e2] X.env = (false, eval e2 X.env) :: starEach [] X.env := by rfl) : VDI X (.List [e1, e2] pos) σ H (.list [d1, d2]) := fun H1 x1 Q k =>
  ofE (pe_lst (pa_cons peW (pa_cons peW pa_nil hs2) hs1)) (h1 H1 x1 _ fun u H2 x2 hu => h2 H2 (x1.trans x2) _ fun v H3 x3 hv => ⟨sz_of (by simp), fun l hl => by
    have en : Ex H3 (upd H3 l (.lst [u, v])) := Ex.new hl
    have hu3 := (hu.ex x3).ex en
    have hv3 := hv.ex en
    refine k (.ref l) _ ((x2.trans x3).trans en) ⟨.lst (sq_of upd_same) (.cons hu3.1 (.cons hv3.1 .nil)), ?_, ?_⟩
    · show (PyData.canLay0 d1 && (PyData.canLay0 d2 && true)) = true
      rw [hu.2.1, hv.2.1]
      rfl
    · show max (PyData.depth d1) (max (PyData.depth d2) 0) + 1 ≤ 8
      omega⟩)
end
end Wk
namespace PwD
open PySem PySem.Spec PyProof.Rows L2 Evl Pw Wk PwH
section
variable {P : Program} {w : World} {K : PySem.W.Frag} {mg : Str → Option Value} {base : Heap}
theorem v_eqPL (T : Hd K mg) {X : Cx} (hX : X.K = K ∧ X.mg = mg) {a b : Expr} {σ : L2.St} {H : Hp} {u q b0 : Addr} {n : Nat} {k : Int} {cl : Nat → Bool} {Y r ct : Nat → Int} {xs : List V} {pos : Pos} (hr : Room 2 X.A) (ha : VE X a σ H (.ref u)) (hb : VE X b σ H (.ref b0)) (hp : PapAt X.K H u n q k cl Y r ct) (hq : SqL X.K H b0 xs) : VT X (.Compare a [.Eq] [b] pos) σ H false := by
  obtain ⟨rfl, rfl⟩ := hX
  obtain ⟨dx, vs, _, _, _, _, hs, _⟩ := id hp
  exact fun H1 e1 Q k => ofT (pt_cmpR (op_ownL (E := E0) (op := .Eq) (fun _ _ => rfl) (ME_CallPaper_eq T).at_ (ME_CallPaper_eq T).fn (G_CallPaper_eq T) hr passL) peW peW (nomark _)) (ha H1 e1 _ fun H2 e2 => hb H2 (e1.trans e2) _ fun H3 e3 => ⟨u, dx, vs, b0, xs, rfl, rfl, slt_ex (e1.trans (e2.trans e3)) hs, ex_l (e1.trans (e2.trans e3)) hq, (KL_CallPaper T).2, u, b0, n, q, _, cl, Y, r, ct, rfl, hp.ex (e1.trans (e2.trans e3)), .inl ⟨xs, ex_l (e1.trans (e2.trans e3)) hq, fun H4 e4 => ⟨false, rfl, k H4 ((e2.trans e3).trans e4)⟩⟩⟩)
/-- two papers of one web compared -/
theorem pp_sp {H : Hp} {x u q : Addr} {W : Web} {k k' : Int} {cl cl' : Nat → Bool} {Y r ct Y' r' ct' : Nat → Int} (hW : WebAt K H q W) (hx : PapAt K H x W.n q k cl Y r ct) (hu : PapAt K H u W.n q k' cl' Y' r' ct') : SpV (spPEq K) [.ref x, .ref u] H (.bl (papB W.n k k' cl cl' Y Y' r r' ct ct')) := fun H1 e1 Q g E =>
  ⟨x, u, W.n, q, k, cl, Y, r, ct, rfl, hx.ex e1, .inr ⟨q, k', cl', Y', r', ct', hu.ex e1, .inl ⟨rfl, ⟨W, hW.ex e1⟩, g⟩⟩⟩
theorem t_neP (T : Hd K mg) {X : Cx} (hX : X.K = K ∧ X.mg = mg) {a b : Expr} {σ : L2.St} {H : Hp} {x u q : Addr} {W : Web} {k k' : Int} {cl cl' : Nat → Bool} {Y r ct Y' r' ct' : Nat → Int} {pos : Pos} (hr : Room 3 X.A) (ha : VE X a σ H (.ref x)) (hb : VE X b σ H (.ref u)) (hW : WebAt X.K H q W) (hx : PapAt X.K H x W.n q k cl Y r ct) (hu : PapAt X.K H u W.n q k' cl' Y' r' ct') : VT X (.Compare a [.NotEq] [b] pos) σ H (!papB W.n k k' cl cl' Y Y' r r' ct ct') := by
  obtain ⟨rfl, rfl⟩ := hX
  obtain ⟨dx, vs, _, _, _, _, hs1, _⟩ := id hx
  obtain ⟨dx2, vs2, _, _, _, _, hs2, _⟩ := id hu
  have hs := pp_sp hW hx hu
  exact fun H1 e1 Q k => ofT (pt_cmpR (op_neI (E := E0) (NE_CallPaper T) (ME_CallPaper_eq T).fn (G_CallPaper_eq T) hr passL) peW peW (nomark _)) (ha H1 e1 _ fun H2 e2 => hb H2 (e1.trans e2) _ fun H3 e3 => ⟨x, dx, vs, u, dx2, vs2, rfl, rfl, slt_ex (e1.trans (e2.trans e3)) hs1, slt_ex (e1.trans (e2.trans e3)) hs2, hs H3 (e1.trans (e2.trans e3)) _ (fun H4 e4 => ⟨_, rfl, _, rfl, k H4 ((e2.trans e3).trans e4)⟩) E0⟩)
/-- the test of a verdict -/
theorem t_vd (T : Hd K mg) {X : Cx} (hX : X.K = K ∧ X.mg = mg) {e : Expr} {σ : L2.St} {H : Hp} {xs : List V} (hr : Room 1 X.A) (h : VD X e σ H (fun u H2 => ∃ p, u = .ref p ∧ VdAt X.K H2 p xs)) (he : ∀ whole, isTrue e X.env whole = (do let v ← whole; standAt e.pos; holding [v] (truthy v)) := by intro _; rfl) : VT X e σ H xs.isEmpty := by
  obtain ⟨rfl, rfl⟩ := hX
  exact fun H1 e1 Q k => wt_own (ME_Verdict_bool T) (G_Verdict_bool T) hr (h H1 e1 _ fun u H2 e2 ⟨p, hu, hv⟩ => by
    obtain ⟨dx, vs, pf, h1, h2, h3⟩ := id hv
    exact ⟨p, dx, vs, hu, h1, p, xs, rfl, hv, fun H3 e3 => ⟨_, rfl, k H3 (e2.trans e3)⟩⟩) he
/-- CallPaper.of(..) of good arguments -/
theorem v_of (T : Hd K mg) {X : Cx} (hX : X.K = K ∧ X.mg = mg) {a b c : Expr} {σ : L2.St} {H : Hp} {q l : Addr} {W : Web} {k : Nat} {cs : List Nat} {m p2 pos : Pos} {pl : Sem Bool} (hr : Room 9 X.A) (ha : VE X a σ H (.ref q)) (hb : VE X b σ H (.int (k : Int))) (hc : VE X c σ H (.ref l)) (ok : W.Ok) (hW : WebAt X.K H q W) (hk : k ≤ 60) (hcl : cs.length ≤ 50) (hl : Sq X.K H l (lotV cs)) (hm : ∀ v ∈ cs, v < W.n ∧ W.mv v = true)
    (hg : Gl X "CallPaper" := by rfl) (h1 : starEach [a, b, c] X.env = (false, eval a X.env) :: starEach [b, c] X.env := by rfl) (h2 : starEach [b, c] X.env = (false, eval b X.env) :: starEach [c] X.env := by rfl) (h3 : starEach [c] X.env = (false, eval c X.env) :: starEach [] X.env := by rfl) (hpl : (backTo pos (starEach [b, c] X.env)).any (·.1) = false := by rfl)
    (ht : eval (.Call (.Attribute (.Name "CallPaper" p2) "of" m) [a, b, c] [] pos) X.env = (do
      let ov ← eval (.Name "CallPaper" p2) X.env
      standAt m.atName
      let (f, first) ← holding [ov] (getMethod ov "of" pl)
      callWith pos f first (backTo pos (starEach [a, b, c] X.env)) (backToKw pos (keywordEach [] X.env))) := by rfl) :
    VD X (.Call (.Attribute (.Name "CallPaper" p2) "of" m) [a, b, c] [] pos) σ H (fun u H2 => ∃ (x : Addr) (Y : Nat → Int), u = .ref x ∧ IsFev W (fun v => decide (v ∈ cs)) ((k : Int) + 1) Y ∧ PapAt X.K H2 x W.n q (k : Int) (fun v => decide (v ∈ cs)) Y (rkR W (fun v => decide (v ∈ cs)) ((k : Int) + 1) Y W.n) (rkC W (fun v => decide (v ∈ cs)) ((k : Int) + 1) Y W.n)) := by
  obtain ⟨rfl, rfl⟩ := hX
  intro H1 e1 Q g
  refine ofE (ClX.pe_cmeth (E := E0) peW (CM_CallPaper_of T).1 (CM_CallPaper_of T).2 (G_of T) hr passL paW h1 hpl ht) ?_
  refine (v_gl (v := .ref (He.ga X.K "CallPaper")) (g_CallPaper T) rfl hg) H1 (Ex.refl H1) _ fun H2 e2 => ⟨rfl, ?_⟩
  refine (a_cons (ha.mono (e1.trans e2)) (a_cons (hb.mono (e1.trans e2)) (a_cons (hc.mono (e1.trans e2)) a_nil h3) h2) h1) H2 (Ex.refl H2) _ fun H3 e3 => ?_
  have e13 := (e1.trans e2).trans e3
  exact ⟨q, l, W, (k : Int), lotV cs, rfl, ok, hW.ex e13, hl.ex e13, lot_sim, .inr ⟨cs, k, rfl, rfl, hcl, .inr (.inr (.inr ⟨hm, hk, fun u H4 e4 ⟨x, Y, hu, _, F, hp⟩ => g u H4 ((e2.trans e3).trans e4) ⟨x, Y, hu, F, hp⟩⟩))⟩⟩
end
end PwD
end
/-! ### PwU3 -/
section
set_option linter.all false
set_option maxRecDepth 100000
set_option maxHeartbeats 16000000
/-! law, from the changed row on -/
namespace PwD
open PySem PySem.Spec PyProof.Rows L2 Evl Pw Wk PwH
section
variable {P : Program} {w : World} {K : PySem.W.Frag} {mg : Str → Option Value} {base : Heap}
/-- what stands, as the changes begin -/
structure Base (K : PySem.W.Frag) (F : Hp) (p lw c q d rp ra tp ta u : Addr) (W : Web) (k : Nat) (cs : List Nat) (X0 R0 C0 : Nat → Int) : Prop where
  ok : W.Ok
  low : ∀ v, v < W.n → low40 (W.due v)
  kk : k < 6
  lweb : LWeb K F lw W
  cl : F c = some (.lst (lotV cs))
  nd : cs.Nodup
  pw : cs.Pairwise (· < ·)
  cm : ∀ v ∈ cs, v < W.n ∧ W.mv v = true
  web : WebB K F q W
  due : F d = some (.lst (rowV W.n X0))
  fev : IsFev W (fun v => decide (v ∈ cs)) ((k : Int) + 1) X0
  rp_ : ∃ rb, F rp = some (.lst [.ref ra, .ref rb])
  ra_ : F ra = some (.lst (rowV W.n R0))
  tp_ : ∃ tb, F tp = some (.lst [.ref ta, .ref tb])
  ta_ : F ta = some (.lst (rowV W.n C0))
  pap : PapAt K F u W.n q (k : Int) (fun v => decide (v ∈ cs)) X0 R0 C0
  rr : R0 = rkR W (fun v => decide (v ∈ cs)) ((k : Int) + 1) X0 W.n
  cc : C0 = rkC W (fun v => decide (v ∈ cs)) ((k : Int) + 1) X0 W.n
theorem Base.r0 {F : Hp} {p lw c q d rp ra tp ta u : Addr} {W : Web} {k : Nat} {cs : List Nat} {X0 R0 C0 : Nat → Int} (b : Base K F p lw c q d rp ra tp ta u W k cs X0 R0 C0) : ∀ v, v < W.n → 0 ≤ R0 v := fun v _ => by rw [b.rr]; exact rkk_nn
theorem Base.c0 {F : Hp} {p lw c q d rp ra tp ta u : Addr} {W : Web} {k : Nat} {cs : List Nat} {X0 R0 C0 : Nat → Int} (b : Base K F p lw c q d rp ra tp ta u W k cs X0 R0 C0) : ∀ v, v < W.n → 0 ≤ C0 v := fun v _ => by rw [b.cc]; exact rkk_nn
theorem Base.ex {F F' : Hp} {p lw c q d rp ra tp ta u : Addr} {W : Web} {k : Nat} {cs : List Nat} {X0 R0 C0 : Nat → Int} (e : Ex F F') (b : Base K F p lw c q d rp ra tp ta u W k cs X0 R0 C0) : Base K F' p lw c q d rp ra tp ta u W k cs X0 R0 C0 :=
  ⟨b.ok, b.low, b.kk, b.lweb.ex e, e _ _ b.cl, b.nd, b.pw, b.cm, b.web.ex e, e _ _ b.due, b.fev, let ⟨x, h⟩ := b.rp_; ⟨x, e _ _ h⟩, e _ _ b.ra_, let ⟨x, h⟩ := b.tp_; ⟨x, e _ _ h⟩, e _ _ b.ta_, b.pap.ex e, b.rr, b.cc⟩
/-- calls in order are a set of stands -/
theorem lot_fil {n : Nat} {cs : List Nat} (hp : cs.Pairwise (· < ·)) (hb : ∀ v ∈ cs, v < n) : lotV cs = filV n (fun v => decide (v ∈ cs)) := by
  have key : ∀ (n : Nat) (cs : List Nat), cs.Pairwise (· < ·) → (∀ v ∈ cs, v < n) → cs = (List.range n).filter fun v => decide (v ∈ cs) := by
    intro n
    induction n with
    | zero =>
      intro cs _ hb
      cases cs with
      | nil => rfl
      | cons v vs => exact absurd (hb v (by simp)) (by omega)
    | succ n ih =>
      intro cs hp hb
      rw [List.range_succ, List.filter_append]
      by_cases hn : n ∈ cs
      · obtain ⟨as, bs, e⟩ := List.append_of_mem hn
        have hp' := hp
        rw [e] at hp'
        have h1 := List.pairwise_append.mp hp'
        have bn : bs = [] := by
          cases bs with
          | nil => rfl
          | cons b bs =>
            have h2 := (List.pairwise_cons.mp h1.2.1).1 b (by simp)
            have h3 := hb b (by rw [e]; simp)
            omega
        subst bn
        have ha : ∀ v ∈ as, v < n := fun v hv => h1.2.2 v hv n (by simp)
        have r := ih as h1.1 ha
        have e1 : [n].filter (fun v => decide (v ∈ cs)) = [n] := by simp [hn]
        rw [e1]
        conv => lhs; rw [e]
        congr 1
        conv => lhs; rw [r]
        refine List.filter_congr fun v hv => ?_
        have hv := List.mem_range.mp hv
        have : v ∈ as ↔ v ∈ cs := by
          rw [e]
          simp
          omega
        simp [this]
      · have e1 : [n].filter (fun v => decide (v ∈ cs)) = [] := by simp [hn]
        rw [e1, List.append_nil]
        exact ih cs hp fun v hv => by
          have := hb v hv
          have : v ≠ n := fun z => hn (by rw [← z]; exact hv)
          omega
  unfold filV lotV
  congr 1
  exact key n cs hp hb
theorem Base.len {F : Hp} {p lw c q d rp ra tp ta u : Addr} {W : Web} {k : Nat} {cs : List Nat} {X0 R0 C0 : Nat → Int} (b : Base K F p lw c q d rp ra tp ta u W k cs X0 R0 C0) : cs.length ≤ 5 := by
  have e := lot_fil b.pw fun v hv => (b.cm v hv).1
  have l1 := congrArg List.length e
  rw [lotV_len] at l1
  have := filV_len (n := W.n) (c := fun v => decide (v ∈ cs))
  have := b.ok.n5
  omega
theorem fil_app {n : Nat} {cs : List Nat} : filV n (fun v => decide (v ∈ cs ++ cs)) = filV n (fun v => decide (v ∈ cs)) := filV_congr fun v _ => by
  by_cases h : v ∈ cs
  · rw [decide_eq_true h]; exact decide_eq_true (List.mem_append_left _ h)
  · rw [decide_eq_false h]
    exact decide_eq_false fun z => (List.mem_append.mp z).elim h h
theorem PapAt.cl {H : Hp} {u : Addr} {n : Nat} {q : Addr} {k : Int} {cl cl' : Nat → Bool} {X r ct : Nat → Int} (h : PapAt K H u n q k cl X r ct) (e : filV n cl = filV n cl') : PapAt K H u n q k cl' X r ct := by
  obtain ⟨dx', vs', pc', px', pr', pn', q0, q1, q2, q3, q4, q5, q6, t1, t2, t3, t4⟩ := h
  rw [e] at t1
  exact ⟨dx', vs', pc', px', pr', pn', q0, q1, q2, q3, q4, q5, q6, t1, t2, t3, t4⟩
abbrev LawX (P : Program) (w : World) (K : PySem.W.Frag) (mg : Str → Option Value) (base : Heap) (f : Addr) (cdv : Value) (A : Around) (outer : List Env) (s : Shared) (H : Hp) (E : XK) : Cx := cxOf (L2.CX P w) P w K mg base ["_law_script", "_law_pot_here", "_law_web_here", "_law_size", "_law_k", "_law_calls_here", "_law_built_here", "_law_due_here", "_law_ranks", "_law_counts", "_law_moving", "_law_handed", "_law_paper", "_law_row", "_law_change", "_law_at", "_law_some", "_law_which", "_law_given", "_law_other", "_law_same", "_law_lot_here"] "law" (defScope s_law) f cdv A outer s H E
/-- the first slots, as the changes begin -/
def sl12 (a p lw : Addr) (n k : Int) (c q d rp tp : Addr) (m : V) (h u : Addr) : L2.St := [some (.ref a), some (.ref p), some (.ref lw), some (.int n), some (.int k), some (.ref c), some (.ref q), some (.ref d), some (.ref rp), some (.ref tp), some m, some (.ref h), some (.ref u)]
section
variable {f : Addr} {cdv : Value} {A : Around} {outer : List Env} {s : Shared} {H0 H F : Hp} {E : XK} {Q : VK} {a0 p lw c q d rp ra tp ta u hh : Addr} {W : Web} {k : Nat} {cs : List Nat} {X0 R0 C0 : Nat → Int} {mo : V}
/-- the last rows: equal papers, refusals, the paper of the row for ever -/
theorem law_end (T : Hd K mg) (hr : Room 11 (A.deeper (envOfC "law" (defScope s_law) s.heap.objs.size f cdv))) {y13 y14 y15 y16 y17 y18 y19 y20 y21 : Option V} (B : Base K F p lw c q d rp ra tp ta u W k cs X0 R0 C0) (eF : Ex F H) (hQ : ∀ H, Q (.bl true) H) :
    WS (LawX P w K mg base f cdv A outer s H0 E) ((defBody s_law).drop 29) { nx := fun _ H' => Q .non H', rt := Q } (sl12 a0 p lw (W.n : Int) (k : Int) c q d rp tp mo hh u ++ [y13, y14, y15, y16, y17, y18, y19, y20, y21]) H := by
  have b := B.ex eF
  have hn5 := b.ok.n5
  have hk := b.kk
  have t60 : (60 : Int) ≤ 10 ^ 40 := by decide
  obtain ⟨rb, hrp⟩ := b.rp_
  obtain ⟨tb, htp⟩ := b.tp_
  have hcl := b.len
  have hfl := lot_fil b.pw fun v hv => (b.cm v hv).1
  refine w_skip (k := false) (t_val (v_call (d_lalike T) (hr.mono (by decide)) (a_cons (vn 12) (a_cons (vn 6) (a_cons (vn 4) (a_cons (vn 5) a_nil)))) fun H1 x1 Q1 k1 E1 => ⟨u, q, c, W, k, cs, X0, R0, C0, rfl, b.ok, b.low, b.web.ex x1, b.pap.ex x1, by omega, by omega, b.nd, sq_of (x1 _ _ b.cl), b.cm, fun v hv => ⟨b.fev.nn v hv, b.fev.le v hv⟩, b.r0, b.c0, k1⟩)) rfl fun H1 x1 => ?_
  refine w_setW (lv sc_law.nd 20) (e_pap T ⟨rfl, rfl⟩ (hr.mono (by decide)) (R := fun vs _ => vs = [.ref q, .int (k : Int), .ref c, .ref d, .ref ra, .ref ta]) (ad_consE (vn 6) (ad_consE (vn 4) (ad_consE (vn 5) (ad_consE (vn 7) (ad_consE (v_ix (n := 0) (vn 8) v_int (.ls (x1 _ _ hrp)) rfl) (ad_last (vd (v_ix (n := 0) (vn 9) v_int (.ls (x1 _ _ htp)) rfl)) fun u H2 _ hu => by rw [hu])))))) fun vs H2 e2 hv => ⟨q, c, d, ra, ta, W, (k : Int), cs, X0, R0, C0, hv, b.ok, b.web.at.ex (x1.trans e2), by omega, by omega, by omega, .ls ((x1.trans e2) _ _ b.cl), b.cm, .ls ((x1.trans e2) _ _ b.due), fun v hv => ⟨b.fev.nn v hv, b.fev.le v hv⟩, .ls ((x1.trans e2) _ _ b.ra_), b.r0, .ls ((x1.trans e2) _ _ b.ta_), b.c0, fun x H3 hx x3 hp => ?_⟩)
  have x13 := (x1.trans e2).trans x3
  have b3 := b.ex x13
  have pt : papB W.n (k : Int) (k : Int) (fun v => decide (v ∈ cs)) (fun v => decide (v ∈ cs)) X0 X0 R0 R0 C0 C0 = true := by unfold papB; simp
  refine w_skip (k := !papB W.n (k : Int) (k : Int) (fun v => decide (v ∈ cs)) (fun v => decide (v ∈ cs)) X0 X0 R0 R0 C0 C0 || !true) (t_bool (p_or (t_neP T ⟨rfl, rfl⟩ (hr.mono (by decide)) (vn 20) (vn 12) b3.web.at hp b3.pap) fun _ => p_or1 (t_not (t_val (v_call (d_lref T) hr (a_cons (vn 2) (a_cons (vn 6) (a_cons (vn 4) (a_cons (vn 5) (a_cons (vn 7) (a_cons (v_ix (n := 0) (vn 8) v_int (.ls (x13 _ _ hrp)) rfl) a_nil)))))) fun H4 x4 Q4 k4 E4 => ⟨lw, q, c, d, ra, W, k, cs, X0, R0, rfl, b.ok, b3.lweb.ex x4, b3.web.at.ex x4, by omega, by omega, .ls (x4 _ _ b3.cl), b.cm, x4 _ _ b3.due, fun v hv => ⟨b.fev.nn v hv, b.fev.le v hv⟩, x4 _ _ b3.ra_, b.r0, k4⟩))))) (by rw [pt]; rfl) fun H4 x4 => ?_
  have b4 := b3.ex x4
  obtain ⟨rb4, hrp4⟩ := b4.rp_
  obtain ⟨tb4, htp4⟩ := b4.tp_
  refine w_retD (P := fun u _ => u = .bl true) (v_callDD (d_lparts T) (hr.mono (by decide)) (R := fun vs H6 => ∃ (x : Addr) (Y : Nat → Int), vs = [.ref x, .ref q, .int (k : Int), .ref c, .ref d, .ref ra, .ref ta] ∧ IsFev W (fun v => decide (v ∈ cs)) ((k : Int) + 1) Y ∧ PapAt K H6 x W.n q (k : Int) (fun v => decide (v ∈ cs)) Y (rkR W (fun v => decide (v ∈ cs)) ((k : Int) + 1) Y W.n) (rkC W (fun v => decide (v ∈ cs)) ((k : Int) + 1) Y W.n))
    (ad_cons (v_of T ⟨rfl, rfl⟩ (hr.mono (by decide)) (vn 6) (vn 4) (vn 5) b.ok b4.web.at (by omega) (by omega) (.ls b4.cl) b.cm) fun u1 H5 x5 h5 => ad_consE (vn 6) (ad_consE (vn 4) (ad_consE (vn 5) (ad_consE (vn 7) (ad_consE (v_ix (n := 0) (vn 8) v_int (.ls (x5 _ _ hrp4)) rfl) (ad_last (vd (v_ix (n := 0) (vn 9) v_int (.ls (x5 _ _ htp4)) rfl)) fun u H6 x6 hu => by
      obtain ⟨x, Y, rfl, hF, hp⟩ := h5
      exact ⟨x, Y, by rw [hu], hF, hp.ex x6⟩)))))) fun vs H6 e6 hv H7 e7 Q7 k7 E7 => ?_) fun u H5 x5 hu => by rw [hu]; exact hQ H5
  obtain ⟨x, Y, rfl, hF, hp⟩ := hv
  have e := hF.uniq b.fev
  have e1 : rkR W (fun v => decide (v ∈ cs)) ((k : Int) + 1) Y W.n = R0 := by rw [b.rr]; exact rkR_congr b.ok e _
  have e2 : rkC W (fun v => decide (v ∈ cs)) ((k : Int) + 1) Y W.n = C0 := by rw [b.cc]; exact rkC_congr b.ok (by omega) hF e _
  rw [e1, e2] at hp
  have b7 := b4.ex (e6.trans e7)
  exact ⟨x, q, c, d, ra, ta, W, (k : Int), _, X0, R0, C0, rfl, b7.web.at, (hp.row (rowV_congr e) rfl rfl).ex e7, by unfold Fil; rw [← hfl]; exact .ls b7.cl, .ls b7.due, .ls b7.ra_, .ls b7.ta_, fun H8 e8 => k7 _ H8 e8 rfl⟩
end
end
end PwD
end
/-! ### PwU4 -/
section
set_option linter.all false
set_option maxRecDepth 100000
set_option maxHeartbeats 16000000
/-! law: the other paper -/
namespace PwD
open PySem PySem.Spec PyProof.Rows L2 Evl Pw Wk PwH
theorem nest_eqv {a1 a2 a3 b1 b2 b3 : List Int} : PyData.eqv (.list [.list (a1.map PyData.int), .list [.list (a2.map PyData.int), .list (a3.map PyData.int)]]) (.list [.list (b1.map PyData.int), .list [.list (b2.map PyData.int), .list (b3.map PyData.int)]]) = (decide (a1 = b1) && (decide (a2 = b2) && decide (a3 = b3))) := by
  show (PyData.eqv (.list (a1.map PyData.int)) (.list (b1.map PyData.int)) && ((PyData.eqv (.list (a2.map PyData.int)) (.list (b2.map PyData.int)) && (PyData.eqv (.list (a3.map PyData.int)) (.list (b3.map PyData.int)) && true)) && true)) = _
  rw [eqv_lI, eqv_lI, eqv_lI, Bool.and_true, Bool.and_true]
theorem papB_same {n : Nat} {k : Int} {cl : Nat → Bool} {X X' r r' ct ct' : Nat → Int} : papB n k k cl cl X X' r r' ct ct' = (decide (rowI n X = rowI n X') && (decide (rowI n r = rowI n r') && decide (rowI n ct = rowI n ct'))) := by
  unfold papB
  rw [decide_eq_true rfl, decide_eq_true rfl, Bool.true_and, Bool.true_and]
section
variable {P : Program} {w : World} {K : PySem.W.Frag} {mg : Str → Option Value} {base : Heap}
variable {f : Addr} {cdv : Value} {A : Around} {outer : List Env} {s : Shared} {H0 H F : Hp} {E : XK} {Q : VK} {a0 p lw c q d rp ra tp ta u hh : Addr} {W : Web} {k : Nat} {cs : List Nat} {X0 R0 C0 : Nat → Int} {mo : V}
theorem dlI {H : Hp} {p : Addr} {n : Nat} {X : Nat → Int} (h : H p = some (.lst (rowV n X))) : DI K H (.ref p) (.list ((rowI n X).map PyData.int)) := by
  rw [rowI_eq] at h
  exact .lI (sq_of h)
theorem law_other (T : Hd K mg) (hr : Room 11 (A.deeper (envOfC "law" (defScope s_law) s.heap.objs.size f cdv))) {y14 y15 y17 y18 y19 y20 y21 : Option V} {a so s1 s2 : Addr} {Y R1 C1 : Nat → Int} (B : Base K F p lw c q d rp ra tp ta u W k cs X0 R0 C0) (eF : Ex F H) (hA : H a = some (.lst (rowV W.n Y))) (hS : H so = some (.lst [.ref s1, .ref s2])) (h1 : H s1 = some (.lst (rowV W.n R1))) (h2 : H s2 = some (.lst (rowV W.n C1)))
    (hY : ∀ v, v < W.n → 0 ≤ Y v ∧ Y v ≤ (k : Int) + 1) (hR1 : ∀ v, v < W.n → 0 ≤ R1 v) (hC1 : ∀ v, v < W.n → 0 ≤ C1 v) (hQ : ∀ H, Q (.bl true) H) :
    WS (LawX P w K mg base f cdv A outer s H0 E) ((defBody s_law).drop 19) { nx := fun _ H' => Q .non H', rt := Q } (sl12 a0 p lw (W.n : Int) (k : Int) c q d rp tp mo hh u ++ [some (.ref a), y14, y15, some (.ref so), y17, y18, y19, y20, y21]) H := by
  have b := B.ex eF
  have hn1 := b.ok.n1
  have hn5 := b.ok.n5
  have hk := b.kk
  have hu := hr.units
  have t60 : (60 : Int) ≤ 10 ^ 40 := by decide
  have hcl := b.len
  have hfl := lot_fil b.pw fun v hv => (b.cm v hv).1
  -- given
  refine w_setW (lv sc_law.nd 18) (ofE (pe_lst (pa_cons peW (pa_cons peW (pa_cons peW pa_nil)))) ?_)
  refine (v_list T.fre (vn 13) (.ls hA)) H (Ex.refl H) _ fun g1 H1 hg1 x1 e1 => ?_
  refine (v_list T.fre (v_ix (n := 0) (vn 16) v_int (.ls (x1 _ _ hS)) rfl) (.ls (x1 _ _ h1))) H1 (Ex.refl H1) _ fun g2 H2 hg2 x2 e2 => ?_
  have x12 := x1.trans x2
  refine (v_list T.fre (v_ix (n := 1) (vn 16) v_int (.ls (x12 _ _ hS)) rfl) (.ls (x12 _ _ h2))) H2 (Ex.refl H2) _ fun g3 H3 hg3 x3 e3 => ?_
  have x13 := x12.trans x3
  refine ⟨sz_of (by simp), fun gi hgi => ?_⟩
  have f1 := x3 _ _ (x2 _ _ e1)
  have f2 := x3 _ _ e2
  have n21 : g2 ≠ g1 := (some_ne e1 hg2).symm
  have n31 : g3 ≠ g1 := (some_ne (x2 _ _ e1) hg3).symm
  have n32 : g3 ≠ g2 := (some_ne e2 hg3).symm
  have ni1 : gi ≠ g1 := (some_ne f1 hgi).symm
  have ni2 : gi ≠ g2 := (some_ne f2 hgi).symm
  have ni3 : gi ≠ g3 := (some_ne e3 hgi).symm
  have z1 : H g1 = none := hg1
  have z2 : H g2 = none := fresh_back x1 hg2
  have z3 : H g3 = none := fresh_back x12 hg3
  have x34 : Ex H3 (upd H3 gi (.lst [.ref g1, .ref g2, .ref g3])) := Ex.new hgi
  obtain ⟨H4, eH4⟩ : ∃ H4, H4 = upd H3 gi (.lst [.ref g1, .ref g2, .ref g3]) := ⟨_, rfl⟩
  have hgi4 : H4 gi = some (.lst [.ref g1, .ref g2, .ref g3]) := by rw [eH4]; exact upd_same
  rw [← eH4] at x34 ⊢
  have x14 := x13.trans x34
  -- other
  refine w_setW (lv sc_law.nd 19) (e_pap T ⟨rfl, rfl⟩ (hr.mono (by decide)) (R := fun vs H5 => ∃ tc, vs = [.ref q, .int (k : Int), .ref tc, .ref g1, .ref g2, .ref g3] ∧ H5 tc = some (.tup (lotV (cs ++ cs)))) (ad_consE (vn 6) (ad_consE (vn 4) (ad_cons (ud (xs := lotV (cs ++ cs)) (v_tupL T.fre (by
    rw [lotV_app]
    exact v_cat (vn 5) (vn 5) (x14 _ _ b.cl) (x14 _ _ b.cl) (by rw [lotV_len]; omega)))) fun u1 H5 x5 h5 => ad_consE (v_ix (n := 0) (vn 18) v_int (.ls (x5 _ _ hgi4)) rfl) (ad_consE (v_ix (n := 1) (vn 18) v_int (.ls (x5 _ _ hgi4)) rfl) (ad_last (vd (v_ix (n := 2) (vn 18) v_int (.ls (x5 _ _ hgi4)) rfl)) fun u2 H6 x6 hu2 => by
      obtain ⟨tc, rfl, hp⟩ := h5
      exact ⟨tc, by rw [hu2], x6 _ _ hp⟩))))) fun vs H6 e6 hv => ?_)
  obtain ⟨tc, rfl, htc⟩ := hv
  have x16 := x14.trans e6
  have x46 := x34.trans e6
  refine ⟨q, tc, g1, g2, g3, W, (k : Int), cs ++ cs, Y, R1, C1, rfl, b.ok, b.web.at.ex x16, by omega, by omega, by rw [List.length_append]; omega, .tp htc, fun v hv => b.cm v (by simpa using hv), .ls (x46 _ _ f1), hY, .ls (x46 _ _ f2), hR1, .ls (x46 _ _ e3), hC1, fun o H7 ho x7 hp => ?_⟩
  have hp7 := hp.cl fil_app
  have x17 := x16.trans x7
  have x37 := x46.trans x7
  have gi7 := (e6.trans x7) _ _ hgi4
  -- parts
  have parts : ∀ {H8 : Hp}, Ex H H8 → PapAt K H8 o W.n q (k : Int) (fun v => decide (v ∈ cs)) Y R1 C1 → SpV (spParts K) [.ref o, .ref q, .int (k : Int), .ref c, .ref a, .ref s1, .ref s2] H8 (.bl true) := fun x8 hp8 H9 x9 Q9 k9 E9 =>
    ⟨o, q, c, a, s1, s2, W, (k : Int), _, Y, R1, C1, rfl, b.web.at.ex (x8.trans x9), hp8.ex x9, by unfold Fil; rw [← hfl]; exact .ls ((x8.trans x9) _ _ b.cl), .ls ((x8.trans x9) _ _ hA), .ls ((x8.trans x9) _ _ h1), .ls ((x8.trans x9) _ _ h2), k9⟩
  refine w_skip (k := !true) (t_not (t_val (v_call (d_lparts T) (hr.mono (by decide)) (a_cons (vn 19) (a_cons (vn 6) (a_cons (vn 4) (a_cons (vn 5) (a_cons (vn 13) (a_cons (v_ix (n := 0) (vn 16) v_int (.ls (x17 _ _ hS)) rfl) (a_cons (v_ix (n := 1) (vn 16) v_int (.ls (x17 _ _ hS)) rfl) a_nil))))))) (parts x17 hp7)))) rfl fun H8 x8 => ?_
  have x18 := x17.trans x8
  have x38 := x37.trans x8
  have gi8 := x8 _ _ gi7
  have pn8 := hp7.noL.ex (noL_ex x8)
  -- given[0].append(0)
  refine w_app (q := g1) (x38 _ _ f1) (v_ix (n := 0) (vn 18) v_int (.ls gi8) rfl) v_int (by rw [rowV_len]; omega) fun H9 x9 => ?_
  have g19 := x9 _ _ (x38 _ _ f1)
  have y1 : Ex H (upd H9 g1 (.lst (rowV W.n Y ++ [.int 0]))) := Ex.mut (x18.trans x9) z1
  have gi9 : (upd H9 g1 (.lst (rowV W.n Y ++ [.int 0]))) gi = some (.lst [.ref g1, .ref g2, .ref g3]) := by rw [upd_ne ni1]; exact x9 _ _ gi8
  have g29 : (upd H9 g1 (.lst (rowV W.n Y ++ [.int 0]))) g2 = some (.lst (rowV W.n R1)) := by rw [upd_ne n21]; exact x9 _ _ (x38 _ _ f2)
  have g39 : (upd H9 g1 (.lst (rowV W.n Y ++ [.int 0]))) g3 = some (.lst (rowV W.n C1)) := by rw [upd_ne n31]; exact x9 _ _ (x38 _ _ e3)
  have pn9 := (pn8.ex (noL_ex x9)).ex (noL_put (ys := rowV W.n Y ++ [.int 0]) g19)
  obtain ⟨Ha, eHa⟩ : ∃ Ha, Ha = upd H9 g1 (.lst (rowV W.n Y ++ [.int 0])) := ⟨_, rfl⟩
  rw [← eHa] at y1 gi9 g29 g39 pn9 ⊢
  -- given[1][0] = given[1][0] + 1
  refine w_setix (q := g2) (n := 0) g29 (v_add (v_ix (n := 0) (v_ix (n := 1) (vn 18) v_int (.ls gi9) rfl) v_int (.ls g29) (rowV_at (by omega))) v_int) (v_ix (n := 1) (vn 18) v_int (.ls gi9) rfl) v_int (by rw [rowV_len]; omega) fun Hb xb => ?_
  have y2 : Ex H (upd Hb g2 (.lst ((rowV W.n R1).set 0 (.int (R1 0 + 1))))) := Ex.mut (y1.trans xb) z2
  have gib : (upd Hb g2 (.lst ((rowV W.n R1).set 0 (.int (R1 0 + 1))))) gi = some (.lst [.ref g1, .ref g2, .ref g3]) := by rw [upd_ne ni2]; exact xb _ _ gi9
  have g3b : (upd Hb g2 (.lst ((rowV W.n R1).set 0 (.int (R1 0 + 1))))) g3 = some (.lst (rowV W.n C1)) := by rw [upd_ne n32]; exact xb _ _ g39
  have pnb := (pn9.ex (noL_ex xb)).ex (noL_put (ys := (rowV W.n R1).set 0 (.int (R1 0 + 1))) (xb _ _ g29))
  obtain ⟨Hc, eHc⟩ : ∃ Hc, Hc = upd Hb g2 (.lst ((rowV W.n R1).set 0 (.int (R1 0 + 1)))) := ⟨_, rfl⟩
  rw [← eHc] at y2 gib g3b pnb ⊢
  -- given[2].pop()
  refine w_pop (q := g3) g3b (y := .int (C1 (W.n - 1))) (by rw [rowV_len]; exact rowV_at (by omega)) (v_ix (n := 2) (vn 18) v_int (.ls gib) rfl) fun Hd' xd => ?_
  have y3 : Ex H (upd Hd' g3 (.lst (rowV W.n C1).dropLast)) := Ex.mut (y2.trans xd) z3
  have pnd := (pnb.ex (noL_ex xd)).ex (noL_put (ys := (rowV W.n C1).dropLast) (xd _ _ g3b))
  obtain ⟨He, eHe⟩ : ∃ He, He = upd Hd' g3 (.lst (rowV W.n C1).dropLast) := ⟨_, rfl⟩
  rw [← eHe] at y3 pnd ⊢
  have pe := pnd.ex noL_self
  -- parts again
  refine w_skip (k := !true) (t_not (t_val (v_call (d_lparts T) (hr.mono (by decide)) (a_cons (vn 19) (a_cons (vn 6) (a_cons (vn 4) (a_cons (vn 5) (a_cons (vn 13) (a_cons (v_ix (n := 0) (vn 16) v_int (.ls (y3 _ _ hS)) rfl) (a_cons (v_ix (n := 1) (vn 16) v_int (.ls (y3 _ _ hS)) rfl) a_nil))))))) (parts y3 pe)))) rfl fun H10 x10 => ?_
  have y10 := y3.trans x10
  have p10 := pe.ex x10
  -- judged
  refine w_skip (k := !true) (t_not (t_val (v_call (d_ljudged T) (hr.mono (by decide)) (a_cons (vn 19) (a_cons (vn 6) (a_cons (vn 2) (a_cons (vn 4) (a_cons (vn 5) (a_cons (vn 13) (a_cons (v_ix (n := 0) (vn 16) v_int (.ls (y10 _ _ hS)) rfl) (a_cons (v_ix (n := 1) (vn 16) v_int (.ls (y10 _ _ hS)) rfl) a_nil)))))))) fun H11 x11 Q11 k11 E11 => ⟨o, q, lw, c, a, s1, s2, W, k, cs, Y, R1, C1, rfl, b.ok, b.web.at.ex (y10.trans x11), b.lweb.ex (y10.trans x11), p10.ex x11, by omega, by omega, .ls ((y10.trans x11) _ _ b.cl), hfl, b.cm, .ls ((y10.trans x11) _ _ hA), hY, .ls ((y10.trans x11) _ _ h1), hR1, .ls ((y10.trans x11) _ _ h2), hC1, k11⟩))) rfl fun H11 x11 => ?_
  have y11 := y10.trans x11
  have p11 := p10.ex x11
  obtain ⟨dx, vs, _, _, _, _, hs11, _⟩ := id p11
  -- a row changed has faults
  refine w_skip (k := !PyData.eqv (.list ((rowI W.n Y).map PyData.int)) (.list ((rowI W.n X0).map PyData.int)) && (filV W.n fun v => !(abv W (fun v => decide (v ∈ cs)) ((k : Int) + 1) Y R1 v && blw W (fun v => decide (v ∈ cs)) ((k : Int) + 1) Y C1 v)).isEmpty) (t_bool (p_and (t_nePD hu (vdi (vn 13) (dlI (y11 _ _ hA))) (vdi (vn 7) (dlI (y11 _ _ b.due)))) fun _ => p_and1 (t_vd T ⟨rfl, rfl⟩ (hr.mono (by decide)) (v_meth0 (S_CallPaper T) (ME_CallPaper_judged T) (G_judged T) (hr.mono (by decide)) (vn 19) hs11 fun H12 x12' Q12 k12 E12 => ⟨o, q, W, k, _, Y, R1, C1, rfl, b.ok, b.web.at.ex (y11.trans x12'), fun v _ hv => (b.cm v (of_decide_eq_true hv)).2, p11.ex x12', k12⟩)))) (by
    rw [eqv_lI]
    by_cases e : rowI W.n Y = rowI W.n X0
    · rw [decide_eq_true e]
      rfl
    · rw [decide_eq_false e]
      cases z : (filV W.n fun v => !(abv W (fun v => decide (v ∈ cs)) ((k : Int) + 1) Y R1 v && blw W (fun v => decide (v ∈ cs)) ((k : Int) + 1) Y C1 v)).isEmpty with
      | false => rfl
      | true =>
        have all := fil_empty.mp z
        refine absurd (rowI_congr (meet b.ok (r1 := R1) (r2 := C1) b.fev (fun v hv => (hY v hv).1) (fun v hv => (hY v hv).2) (fun v hv => ?_) (fun v hv => ?_))) e
        · have := all v hv
          revert this
          cases abv W (fun v => decide (v ∈ cs)) ((k : Int) + 1) Y R1 v <;> simp
        · have := all v hv
          revert this
          cases blw W (fun v => decide (v ∈ cs)) ((k : Int) + 1) Y C1 v <;> simp) fun H12 x12' => ?_
  have y12 := y11.trans x12'
  have p12 := p11.ex x12'
  have b12 := b.ex y12
  obtain ⟨rb, hrp⟩ := b12.rp_
  obtain ⟨tb, htp⟩ := b12.tp_
  obtain ⟨dx2, vs2, _, _, _, _, hs12, _⟩ := id p12
  obtain ⟨dx3, vs3, _, _, _, _, hsu, _⟩ := id b12.pap
  have dso : DI K H12 (.ref so) (.list [.list ((rowI W.n R1).map PyData.int), .list ((rowI W.n C1).map PyData.int)]) := by
    have d1 := dlI (K := K) (y12 _ _ h1)
    have d2 := dlI (K := K) (y12 _ _ h2)
    refine ⟨.lst (sq_of (y12 _ _ hS)) (.cons d1.1 (.cons d2.1 .nil)), ?_, ?_⟩
    · show (PyData.canLay0 _ && (PyData.canLay0 _ && true)) = true
      rw [d1.2.1, d2.2.1]
      rfl
    · show max (PyData.depthAll _ + 1) (max (PyData.depthAll _ + 1) 0) + 1 ≤ 8
      rw [(lay_intsD _).2, (lay_intsD _).2]
      decide
  have dp1 : ∀ ns : List Int, PyData.depth (.list (ns.map PyData.int)) ≤ 1 := fun ns => by
    show PyData.depthAll _ + 1 ≤ 1
    rw [(lay_intsD _).2]
    decide
  have dp2 : ∀ ns ms : List Int, PyData.depth (.list [.list (ns.map PyData.int), .list (ms.map PyData.int)]) ≤ 2 := fun ns ms => by
    show max (PyData.depthAll _ + 1) (max (PyData.depthAll _ + 1) 0) + 1 ≤ 2
    rw [(lay_intsD _).2, (lay_intsD _).2]
    decide
  refine w_skip (k := !decide (V.bl (papB W.n (k : Int) (k : Int) (fun v => decide (v ∈ cs)) (fun v => decide (v ∈ cs)) Y X0 R1 R0 C1 C0) = V.bl (PyData.eqv (.list [.list ((rowI W.n Y).map PyData.int), .list [.list ((rowI W.n R1).map PyData.int), .list ((rowI W.n C1).map PyData.int)]]) (.list [.list ((rowI W.n X0).map PyData.int), .list [.list ((rowI W.n R0).map PyData.int), .list ((rowI W.n C0).map PyData.int)]]))) || false)
    (t_bool (p_or (t_ne (v_eqP T ⟨rfl, rfl⟩ (hr.mono (by decide)) (vn 19) (vn 12) hs12 hsu (pp_sp b12.web.at p12 b12.pap)) (v_eqPD hu (vdi_l2 (vdi (vn 13) (dlI (y12 _ _ hA))) (vdi (vn 16) dso) (Nat.le_trans (dp1 _) (by decide)) (Nat.le_trans (dp2 _ _) (by decide))) (vdi_l2 (vdi (vn 7) (dlI b12.due)) (vdi_l2 (vdi (v_ix (n := 0) (vn 8) v_int (.ls hrp) rfl) (dlI b12.ra_)) (vdi (v_ix (n := 0) (vn 9) v_int (.ls htp) rfl) (dlI b12.ta_)) (Nat.le_trans (dp1 _) (by decide)) (Nat.le_trans (dp1 _) (by decide))) (Nat.le_trans (dp1 _) (by decide)) (Nat.le_trans (dp2 _ _) (by decide)))) rfl) fun _ => p_or1 (v_eqPL T ⟨rfl, rfl⟩ (hr.mono (by decide)) (vn 19) (vn 7) p12 (sq_of b12.due)))) (by rw [nest_eqv, papB_same]; simp) fun H13 x13' => ?_
  exact law_end T hr B (eF.trans (y12.trans x13')) hQ
end
end PwD
end
/-! ### PwU5 -/
section
set_option linter.all false
set_option maxRecDepth 100000
set_option maxHeartbeats 16000000
/-! law: the changes -/
namespace PwD
open PySem PySem.Spec PyProof.Rows L2 Evl Pw Wk PwH
section
variable {P : Program} {w : World} {K : PySem.W.Frag} {mg : Str → Option Value} {base : Heap}
variable {f : Addr} {cdv : Value} {A : Around} {outer : List Env} {s : Shared} {H0 H F : Hp} {E : XK} {Q : VK} {a0 p lw c q d rp ra tp ta u hh : Addr} {W : Web} {k : Nat} {cs : List Nat} {X0 R0 C0 : Nat → Int} {mo : V}
theorem fr_exo {F H H' : Hp} {p : Addr} (e : Ex F H) (hp : F p = none) (x : Exo p H H') : Ex F H' := fun z o h => x z (fun ez => by rw [ez, hp] at h; cases h) o (e z o h)
theorem law_change (T : Hd K mg) (hr : Room 11 (A.deeper (envOfC "law" (defScope s_law) s.heap.objs.size f cdv))) {y13 y14 y15 y16 y17 y18 y19 y20 y21 : Option V} (B : Base K F p lw c q d rp ra tp ta u W k cs X0 R0 C0) (eF : Ex F H) (hpF : F p = none) (hp : Pot H p) (hQ : ∀ H, Q (.bl true) H) :
    WS (LawX P w K mg base f cdv A outer s H0 E) ((defBody s_law).drop 15) { nx := fun _ H' => Q .non H', rt := Q } (sl12 a0 p lw (W.n : Int) (k : Int) c q d rp tp mo hh u ++ [y13, y14, y15, y16, y17, y18, y19, y20, y21]) H := by
  have hn1 := B.ok.n1
  have hn5 := B.ok.n5
  have hk := B.kk
  have b := B.ex eF
  have hr1 := hr.mono (show 1 ≤ 11 by decide)
  obtain ⟨po, hpo⟩ := hp.at
  -- row
  refine w_setL (xs := rowV W.n X0) (lv sc_law.nd 13) (v_list T.fre (vn 7) (.ls b.due)) fun a H1 ha x1 h1 => ?_
  have hFa : F a = none := fresh_back eF ha
  have nap : a ≠ p := (some_ne hpo ha).symm
  have p1 := hp.ex x1
  -- for
  refine w_forRW T.fre (lv sc_law.nd 14) (fun m i σ' H' => m ≤ 3 ∧ ∃ (y14 y15 : Option V) (Y : Nat → Int), σ' = sl12 a0 p lw (W.n : Int) (k : Int) c q d rp tp mo hh u ++ [some (.ref a), y14, y15, y16, y17, y18, y19, y20, y21] ∧ Ex F H' ∧ Pot H' p ∧ H' a = some (.lst (rowV W.n Y)) ∧ ∀ v, v < W.n → 0 ≤ Y v ∧ Y v ≤ (k : Int) + 1)
    (ofE (pe_op op_add peW peW) ?_) ?_ ?_
  · refine v_int H1 (Ex.refl H1) _ fun H2 x2 => ?_
    refine e_draw (m := 3) T ⟨rfl, rfl⟩ hr1 (vn 1) v_int (by omega) (p1.ex x2) fun r H3 hr3 x3 p3 => ?_
    refine ⟨_, _, rfl, rfl, 1 + r, by rw [Int.natCast_add]; rfl, by omega, by omega, y14, y15, X0, rfl, fr_exo (eF.trans (x1.trans x2)) hpF x3, p3, x3 a nap _ (x2 _ _ h1), fun v hv => ⟨b.fev.nn v hv, b.fev.le v hv⟩⟩
  · rintro m i σ' H4 hi ⟨hm, z14, z15, Y, rfl, e4, p4, h4, hY⟩
    refine w_setW (lv sc_law.nd 15) (e_draw (m := W.n) T ⟨rfl, rfl⟩ hr1 (vn 1) (vn 3) hn1 p4 fun at_ H5 hat x5 p5 => ?_)
    have h5 := x5 a nap _ h4
    have e5 := fr_exo e4 hpF x5
    refine w_setixW (ofE (pe_op op_mod (pe_callTy call_int1 rfl T.fre.int_ PyProof.Rows.boot_int (pa_cons (pe_op op_add peW peW) pa_nil)) peW) ?_)
    refine (v_add (v_ix (n := at_) (vn 13) (vn 15) (.ls h5) (rowV_at hat)) v_int) H5 (Ex.refl H5) _ fun H6 x6 => ?_
    refine e_draw (m := k + 1) T ⟨rfl, rfl⟩ hr1 (vn 1) (by rw [Int.natCast_add]; exact v_add (vn 4) v_int) (by omega) (p5.ex x6) fun r H7 hr7 x7 p7 => ?_
    refine ⟨_, _, rfl, rfl, .inl ⟨_, rfl, ?_⟩⟩
    refine (v_add (vn 4) v_int) H7 (Ex.refl H7) _ fun H8 x8 => ?_
    refine ⟨_, _, rfl, rfl, by show (0 : Int) < (k : Int) + 2; omega, ?_⟩
    have h8 := x8 _ _ (x7 a nap _ (x6 _ _ h5))
    have e8 := (fr_exo (e5.trans x6) hpF x7).trans x8
    refine ⟨a, at_, rowV W.n Y, h8, by rw [rowV_len]; exact hat, vn 13, vn 15, fun H9 x9 => ?_⟩
    refine w_nil ⟨hm, _, _, fun w => if w = at_ then (Y at_ + 1 + (r : Int)) % ((k : Int) + 2) else Y w, rfl, Ex.mut (e8.trans x9) hFa, ((p7.ex x8).ex x9).put nap.symm, ?_, fun v hv => ?_⟩
    · rw [upd_same]
      congr 2
      exact rowV_set
    · show 0 ≤ (if v = at_ then (Y at_ + 1 + (r : Int)) % ((k : Int) + 2) else Y v) ∧ (if v = at_ then (Y at_ + 1 + (r : Int)) % ((k : Int) + 2) else Y v) ≤ (k : Int) + 1
      by_cases e : v = at_
      · rw [if_pos e]
        have h0 := Int.emod_nonneg (Y at_ + 1 + (r : Int)) (show (k : Int) + 2 ≠ 0 by omega)
        have h1 := Int.emod_lt_of_pos (Y at_ + 1 + (r : Int)) (show (0 : Int) < (k : Int) + 2 by omega)
        omega
      · rw [if_neg e]
        exact hY v hv
  · rintro m σ' H4 ⟨hm, z14, z15, Y, rfl, e4, p4, h4, hY⟩
    have b4 := B.ex e4
    obtain ⟨rb, hrp⟩ := b4.rp_
    obtain ⟨tb, htp⟩ := b4.tp_
    obtain ⟨po4, hpo4⟩ := p4.at
    -- some
    refine w_setW (lv sc_law.nd 16) (ofE (pe_lst (pa_cons peW (pa_cons peW pa_nil))) ?_)
    refine (v_list T.fre (v_ix (n := 0) (vn 8) v_int (.ls hrp) rfl) (.ls b4.ra_)) H4 (Ex.refl H4) _ fun s1 H5 hs1 x5 e5 => ?_
    refine (v_list T.fre (v_ix (n := 0) (vn 9) v_int (.ls (x5 _ _ htp)) rfl) (.ls (x5 _ _ b4.ta_))) H5 (Ex.refl H5) _ fun s2 H6 hs2 x6 e6 => ?_
    refine ⟨sz_of (by simp), fun so hso => ?_⟩
    have x46 := x5.trans x6
    have x67 : Ex H6 (upd H6 so (.lst [.ref s1, .ref s2])) := Ex.new hso
    have f1 := x6 _ _ e5
    have n1p : s1 ≠ p := (some_ne hpo4 hs1).symm
    have n2p : s2 ≠ p := (some_ne (x5 _ _ hpo4) hs2).symm
    have nop : so ≠ p := (some_ne (x46 _ _ hpo4) hso).symm
    have n1a : s1 ≠ a := (some_ne h4 hs1).symm
    have n2a : s2 ≠ a := (some_ne (x5 _ _ h4) hs2).symm
    have n21 : s2 ≠ s1 := (some_ne e5 hs2).symm
    have no1 : so ≠ s1 := (some_ne f1 hso).symm
    have no2 : so ≠ s2 := (some_ne e6 hso).symm
    have F1 : F s1 = none := fresh_back e4 hs1
    have F2 : F s2 = none := fresh_back (e4.trans x5) hs2
    obtain ⟨H7, eH7⟩ : ∃ H7, H7 = upd H6 so (.lst [.ref s1, .ref s2]) := ⟨_, rfl⟩
    have hso7 : H7 so = some (.lst [.ref s1, .ref s2]) := by rw [eH7]; exact upd_same
    rw [← eH7] at x67 ⊢
    have x47 := x46.trans x67
    have p7 := p4.ex x47
    have e7 := e4.trans x47
    have a7 := x47 _ _ h4
    have s17 := x67 _ _ f1
    have s27 := x67 _ _ e6
    -- if
    refine w_ifWM (fun σ' H' => ∃ (y15 y17 : Option V) (R1 C1 : Nat → Int), σ' = sl12 a0 p lw (W.n : Int) (k : Int) c q d rp tp mo hh u ++ [some (.ref a), z14, y15, some (.ref so), y17, y18, y19, y20, y21] ∧ Ex F H' ∧ H' a = some (.lst (rowV W.n Y)) ∧ H' so = some (.lst [.ref s1, .ref s2]) ∧ H' s1 = some (.lst (rowV W.n R1)) ∧ H' s2 = some (.lst (rowV W.n C1)) ∧ (∀ v, v < W.n → 0 ≤ R1 v) ∧ ∀ v, v < W.n → 0 ≤ C1 v)
      (ofT (pt_cmpR op_eq peW peW (nomark _)) (e_draw (m := 2) T ⟨rfl, rfl⟩ hr1 (vn 1) v_int (by omega) p7 fun r H8 hr8 x8 p8 => ?_)) ?_
    · refine v_int H8 (Ex.refl H8) _ fun H9 x9 => ?_
      refine rv_eq (x := .int (r : Int)) (y := .int 1) rfl H9 (Ex.refl H9) _ fun H10 x10 => ⟨_, rfl, ?_⟩
      have x810 := x9.trans x10
      have ex10 : Exo p H7 H10 := x8.trans (.of x810)
      have p10 := p8.ex x810
      have nn : ∀ (X' : Nat → Int) (i : Nat) (r : Nat), (∀ v, v < W.n → 0 ≤ X' v) → ∀ v, v < W.n → 0 ≤ (fun w => if w = i then (r : Int) else X' w) v := fun X' i r h v hv => by
        show 0 ≤ if v = i then (r : Int) else X' v
        split
        · omega
        · exact h v hv
      by_cases hz : V.int (r : Int) = V.int 1
      · rw [decide_eq_true hz]
        refine it_t ?_
        refine w_setW (lv sc_law.nd 17) (e_draw (m := 2) T ⟨rfl, rfl⟩ hr1 (vn 1) v_int (by omega) p10 fun wh H11 hwh x11 p11 => ?_)
        refine w_setW (lv sc_law.nd 15) (e_draw (m := W.n) T ⟨rfl, rfl⟩ hr1 (vn 1) (vn 3) hn1 p11 fun at_ H12 hat x12 p12 => ?_)
        refine w_setixW (e_draw (m := 4) T ⟨rfl, rfl⟩ hr1 (vn 1) v_int (by omega) p12 fun r4 H13 hr4 x13 p13 => ?_)
        have ex13 : Exo p H7 H13 := ex10.trans (x11.trans (x12.trans x13))
        have e13 := fr_exo e7 hpF ex13
        have so13 := ex13 so nop _ hso7
        have a13 := ex13 a nap _ a7
        have s113 := ex13 s1 n1p _ s17
        have s213 := ex13 s2 n2p _ s27
        match wh, hwh with
        | 0, _ =>
          refine ⟨s1, at_, rowV W.n R0, s113, by rw [rowV_len]; exact hat, v_ix (n := 0) (vn 16) (vn 17) (.ls so13) rfl, vn 15, fun H14 x14 => w_nil ⟨_, _, fun w => if w = at_ then (r4 : Int) else R0 w, C0, rfl, Ex.mut (e13.trans x14) F1, by rw [upd_ne n1a.symm]; exact x14 _ _ a13, by rw [upd_ne no1]; exact x14 _ _ so13, by rw [upd_same]; congr 2; exact rowV_set, by rw [upd_ne n21]; exact x14 _ _ s213, nn _ _ _ B.r0, B.c0⟩⟩
        | 1, _ =>
          refine ⟨s2, at_, rowV W.n C0, s213, by rw [rowV_len]; exact hat, v_ix (n := 1) (vn 16) (vn 17) (.ls so13) rfl, vn 15, fun H14 x14 => w_nil ⟨_, _, R0, fun w => if w = at_ then (r4 : Int) else C0 w, rfl, Ex.mut (e13.trans x14) F2, by rw [upd_ne n2a.symm]; exact x14 _ _ a13, by rw [upd_ne no2]; exact x14 _ _ so13, by rw [upd_ne n21.symm]; exact x14 _ _ s113, by rw [upd_same]; congr 2; exact rowV_set, B.r0, nn _ _ _ B.c0⟩⟩
      · rw [decide_eq_false hz]
        refine it_f ?_
        exact w_nil ⟨_, _, R0, C0, rfl, fr_exo e7 hpF ex10, ex10 a nap _ a7, ex10 so nop _ hso7, ex10 s1 n1p _ s17, ex10 s2 n2p _ s27, B.r0, B.c0⟩
    · rintro σ' H8 ⟨z15', z17', R1, C1, rfl, e8, a8, so8, s18, s28, hR1, hC1⟩
      exact law_other T hr B e8 a8 so8 s18 s28 hY hR1 hC1 hQ
end
end PwD
end
/-! ### PwU6 -/
section
set_option linter.all false
set_option maxRecDepth 100000
set_option maxHeartbeats 16000000
/-! law -/
namespace Wk
open PySem PySem.Spec PyProof.Rows L2 Evl Pw
section
variable {X : Cx} {it elt c : Expr} {σ : L2.St} {H H' : Hp} {x : V} {pos p : Pos} {n N : Nat} {s : Str} {q : Addr} {xs : List V} {sc : Scope} {t : Nat → Bool} {g : Nat → V}
def CxF (t : Nat → Bool) (g : Nat → V) (H : Hp) (D : Addr) (i : Nat) (H' : Hp) : Prop := H D = none ∧ Ex H H' ∧ H' D = some (.lst (((List.range i).filter t).map g))
theorem lc_turnF {tt : TT} {te : TE} {D : Addr} {i : Nat} {σ2 : L2.St} (C : CxF t g H D i H') (hi : i < N) (hz : N ≤ 40000) (ht : EvT tt σ2 H (t i)) (he : t i = true → Ev te σ2 H (g i)) :
    tt σ2 H' fun b H3 => if b = true then te σ2 H3 fun y H4 => ∃ acc, H4 D = some (.lst acc) ∧ acc.length < sizeLine ∧ CxF t g H D (i + 1) (upd H4 D (.lst (acc ++ [y]))) else CxF t g H D (i + 1) H3 := by
  obtain ⟨p1, p2, p3⟩ := C
  refine ht H' p2 _ fun H3 e3 => ?_
  cases hf : t i with
  | true =>
    show te σ2 H3 fun y H4 => ∃ acc, H4 D = some (.lst acc) ∧ acc.length < sizeLine ∧ CxF t g H D (i + 1) (upd H4 D (.lst (acc ++ [y])))
    refine he hf H3 (p2.trans e3) _ fun H4 e4 => ⟨_, e4 D _ (e3 D _ p3), sz_lt ?_, p1, Ex.mut ((p2.trans e3).trans e4) p1, ?_⟩
    · rw [List.length_map]
      have := List.length_filter_le t (List.range i)
      rw [List.length_range] at this
      omega
    · rw [upd_same, List.range_succ, List.filter_append, List.map_append, List.filter_cons, if_pos hf] <;> rfl
  | false =>
    show CxF t g H D (i + 1) H3
    refine ⟨p1, p2.trans e3, ?_⟩
    rw [List.range_succ, List.filter_append, List.map_append, List.filter_cons, if_neg (by rw [hf]; decide)]
    show H3 D = some (.lst (_ ++ []))
    rw [List.append_nil]
    exact e3 D _ p3
theorem wsc {X : Cx} {sts : List Stmt} {D : Ends} {σ σ' : L2.St} {H : Hp} (e : σ = σ') (h : WS X sts D σ' H) : WS X sts D σ H := by
  subst e
  exact h
/-- [elt for x in xs if c], by the places -/
theorem v_fltI (nd : X.N.Nodup) (ok : BlkOk X.N X.env.scope sc [(s, n)]) (h : VE X it σ H (.ref q)) (hq : Sq X.K H q xs) (hz : xs.length ≤ 40000) (t : Nat → Bool) (g : Nat → V) (ht : ∀ i y, xs[i]? = some y → BT X sc c (σ.set n (some y)) H (t i)) (he : ∀ i y, xs[i]? = some y → t i = true → BE X sc elt (σ.set n (some y)) H (g i)) (hc : X.calm = true := by rfl) (hl : sc.names.lookup s = some .local := by rfl) (hs : ∀ x, foldedSetIterable it X.env x = pure x := by intro _; rfl) :
    VL X (.ListComp elt [⟨.Name s p, it, [c], 0⟩] sc pos) σ H (((List.range xs.length).filter t).map g) := by
  have ts : ∀ (i : Nat) (x : V) H1 H2 D, Ex H H1 → xs[i]? = some x → CxF t g H1 D i H2 → wipe ((wipe σ [n]).set n (some x)) [n] = wipe σ [n] ∧ WTb X sc c ((wipe σ [n]).set n (some x)) H2 fun b H3 =>
      if b = true then WEb X sc elt ((wipe σ [n]).set n (some x)) H3 fun y H4 => ∃ acc, H4 D = some (.lst acc) ∧ acc.length < sizeLine ∧ CxF t g H1 D (i + 1) (upd H4 D (.lst (acc ++ [y]))) else CxF t g H1 D (i + 1) H3 := fun i x H1 H2 D e1 hx C => by
    refine ⟨wwipe x, ?_⟩
    rw [wset]
    exact lc_turnF C (List.getElem?_eq_some_iff.mp hx).1 hz ((bt (ht i x hx)).mono e1) fun z => (be (he i x hx z)).mono e1
  rcases hq with hq | hq
  · refine liftL (pe_lcW (ifs := [c]) nd hc ok hl (pi_list peW) (by simp) hs) fun H0 e0 Q g0 => h H0 e0 _ fun H1 e1 => ⟨q, rfl, ⟨xs, ex_l (e0.trans e1) hq⟩, fun D hD => ?_⟩
    refine lc_list (xs := xs) (CxF t g H1 D) ⟨hD, Ex.new hD, upd_same⟩ (fun i H' _ C => ex_l ((e0.trans e1).trans C.2.1) hq) (fun i x H' hx C => ts i x H1 H' D (e0.trans e1) hx C) (fun H' C => g0 D H' (fresh_back e1 C.1) (e1.trans C.2.1) C.2.2)
  · refine liftL (pe_lcW (ifs := [c]) nd hc ok hl (pi_tup peW) (by simp) hs) fun H0 e0 Q g0 => h H0 e0 _ fun H1 e1 => ⟨q, rfl, ⟨xs, ex_t (e0.trans e1) hq⟩, fun D hD => ?_⟩
    refine lc_tup (xs := xs) (CxF t g H1 D) ⟨hD, Ex.new hD, upd_same⟩ (fun i H' _ C => ex_t ((e0.trans e1).trans C.2.1) hq) (fun i x H' hx C => ts i x H1 H' D (e0.trans e1) hx C) (fun H' C => g0 D H' (fresh_back e1 C.1) (e1.trans C.2.1) C.2.2)
end
end Wk
namespace PwD
open PySem PySem.Spec PyProof.Rows L2 Evl Pw Wk PwH
section
variable {P : Program} {w : World} {K : PySem.W.Frag} {mg : Str → Option Value} {base : Heap}
theorem max_ex : ∀ {ns : List Int}, 0 < ns.length → ∃ i ∈ ns, ∀ y ∈ ns, y ≤ i
  | [n], _ => ⟨n, by simp, fun y hy => by
    have : y = n := by simpa using hy
    omega⟩
  | n :: m :: ns, _ => by
    obtain ⟨i, hi, h⟩ := max_ex (ns := m :: ns) (by simp)
    by_cases hn : i ≤ n
    · exact ⟨n, by simp, fun y hy => by
        rcases List.mem_cons.mp hy with rfl | hy
        · omega
        · have := h y hy; omega⟩
    · exact ⟨i, List.mem_cons_of_mem _ hi, fun y hy => by
        rcases List.mem_cons.mp hy with rfl | hy
        · omega
        · exact h y hy⟩
def spLaw (K : PySem.W.Frag) : Sp := fun vs H Q _ => ∃ (a : Addr) (ns : List Int), vs = [.ref a] ∧ SqL K H a (ns.map V.int) ∧ ns.length ≤ 63 ∧ ∀ H', Q (.bl true) H'
theorem law_body (T : Hd K mg) (f : Addr) (cdv : Value) (A : Around) (outer : List Env) (s : Shared) (H : Hp) (vs : List V) (Q : VK) (E : XK) (hr : Room 11 (A.deeper (envOfC "law" (defScope s_law) s.heap.objs.size f cdv))) (h : spLaw K vs H Q E) :
    WS (LawX P w K mg base f cdv A outer s H E) (defBody s_law) { nx := fun _ H' => Q .non H', rt := Q } (start ["_law_script", "_law_pot_here", "_law_web_here", "_law_size", "_law_k", "_law_calls_here", "_law_built_here", "_law_due_here", "_law_ranks", "_law_counts", "_law_moving", "_law_handed", "_law_paper", "_law_row", "_law_change", "_law_at", "_law_some", "_law_which", "_law_given", "_law_other", "_law_same", "_law_lot_here"] vs) H := by
  obtain ⟨a0, ns, rfl, hS, hns, hQ⟩ := h
  have hr1 := hr.mono (show 1 ≤ 11 by decide)
  -- pot
  refine w_setW (lv sc_law.nd 1) (e_call (E := E0) (d_lpot T) hr1 passL (R := fun vs _ => vs = [.ref a0]) (ad_last (vd (vn 0)) fun u H1 _ hu => by rw [hu]) fun vs H1 x1 hv => ?_)
  subst hv
  refine ⟨a0, ns, rfl, ex_l x1 hS, hns, fun p H2 hp0 x2 p2 => ?_⟩
  -- web
  refine w_setW (lv sc_law.nd 2) (e_call (E := E0) (d_lweb T) (hr.mono (by decide)) passL (R := fun vs _ => vs = [.ref p, .int 5, .bl false]) (ad_consE (vn 1) (ad_consE v_int (ad_last (vd v_bl) fun u H1 _ hu => by rw [hu]))) fun vs H3 x3 hv => ?_)
  subst hv
  refine ⟨p, rfl, p2.ex x3, fun lw W H4 hlw ok low l64 x4 p4 hL => ?_⟩
  have hn1 := ok.n1
  have hn5 := ok.n5
  obtain ⟨qf, qs, qm, qd, hq4, ⟨as, has, hl⟩, _, _, _⟩ := hL.ex rem_self
  -- size
  refine w_set (lv sc_law.nd 3) (v_lenN (m := W.n) T.fre (v_ix (n := 0) (vn 2) v_int (.inl hq4) rfl) has refV_len) fun H5 x5 => ?_
  -- k
  refine w_setW (lv sc_law.nd 4) (e_draw (m := 6) T ⟨rfl, rfl⟩ hr1 (vn 1) v_int (by omega) (p4.ex x5) fun k H6 hk x6 p6 => ?_)
  have r46 : Ex (rem H4 p) (rem H6 p) := rem_rem ((Exo.of x5).trans x6)
  have hL6 := hL.ex r46
  -- calls
  refine w_setW (lv sc_law.nd 5) (e_call (E := E0) (d_lcalls T) (hr.mono (by decide)) passL (R := fun vs _ => vs = [.ref p, .ref lw]) (ad_consE (vn 1) (ad_last (vd (vn 2)) fun u H1 _ hu => by rw [hu])) fun vs H7 x7 hv => ?_)
  subst hv
  refine ⟨p, lw, W, rfl, ok, p6.ex x7, hL6.ex (rem_rem (.of x7)), fun c cs H8 hc x8 p8 hc8 hnd hcm hpw => ?_⟩
  have hL8 : LWeb K (rem H8 p) lw W := hL6.ex ((rem_rem (.of x7)).trans (rem_rem x8))
  obtain ⟨po7, hpo7⟩ := (p6.ex x7).at
  have ncp : c ≠ p := (some_ne hpo7 hc).symm
  have hL8' := hL8.ex rem_self
  have hfl := lot_fil hpw fun v hv => (hcm v hv).1
  have hcl : cs.length ≤ 5 := by
    have l1 := congrArg List.length hfl
    rw [lotV_len] at l1
    have := filV_len (n := W.n) (c := fun v => decide (v ∈ cs))
    omega
  have hfc : Fil K H8 c W.n (fun v => decide (v ∈ cs)) := by unfold Fil; rw [← hfl]; exact .ls hc8
  -- built
  refine w_setD (lv sc_law.nd 6) (v_callD (d_lbuilt T) (hr.mono (by decide)) (a_cons (vn 2) a_nil) (P := fun u H2 => ∃ q, u = .ref q ∧ WebB K (noL H2) q W) fun H9 x9 Q9 k9 E9 => ⟨lw, W, rfl, ok, hL8'.ex x9, low, l64, k9⟩) fun u H9 x9 hu => ?_
  obtain ⟨q, rfl, hW9⟩ := hu
  have hW9' := hW9.ex noL_self
  -- due
  refine w_setW (lv sc_law.nd 7) (e_call (E := E0) (d_lforever T) (hr.mono (by decide)) passL (R := fun vs _ => vs = [.ref lw, .int (k : Int), .ref c]) (ad_consE (vn 2) (ad_consE (vn 4) (ad_last (vd (vn 5)) fun u H1 _ hu => by rw [hu]))) fun vs Ha xa hv => ?_)
  subst hv
  have x8a := x9.trans xa
  refine ⟨lw, c, W, _, k, rfl, ok, by omega, hL8'.ex x8a, hfc.ex x8a, fun X0 d Hb hfev hd xb hdb => ?_⟩
  have x8b := x8a.trans xb
  have hdr : Row K Hb d W.n X0 := .ls hdb
  -- ranks
  refine w_setD (lv sc_law.nd 8) (v_callD (d_lranks T) (hr.mono (by decide)) (a_cons (vn 2) (a_cons (vn 4) (a_cons (vn 5) (a_cons (vn 7) a_nil)))) (P := PairL (rowV W.n (rkR W (fun v => decide (v ∈ cs)) ((k : Int) + 1) X0 W.n)) Hb) fun Hc xc Qc kc Ec => ⟨lw, c, d, W, _, X0, k, rfl, ok, by omega, hL8'.ex (x8b.trans xc), hfc.ex (x8b.trans xc), hdr.ex xc, hfev, fun u Hd' xd ⟨p1, a1, b1, e, g1, g2, g3, g4, g5, g6⟩ => kc u Hd' xd ⟨p1, a1, b1, e, fresh_back xc g1, fresh_back xc g2, fresh_back xc g3, g4, g5, g6⟩⟩) fun u Hc xc hu => ?_
  obtain ⟨rp, ra, rb, rfl, zrp, zra, zrb, hrp, hra, hrb⟩ := hu
  have x8c := x8b.trans xc
  -- counts
  refine w_setD (lv sc_law.nd 9) (v_callD (d_lcounts T) (hr.mono (by decide)) (a_cons (vn 2) (a_cons (vn 4) (a_cons (vn 5) (a_cons (vn 7) a_nil)))) (P := PairL (rowV W.n (rkC W (fun v => decide (v ∈ cs)) ((k : Int) + 1) X0 W.n)) Hc) fun Hd' xd Qc kc Ec => ⟨lw, c, d, W, _, X0, k, rfl, ok, by omega, hL8'.ex (x8c.trans xd), hfc.ex (x8c.trans xd), (hdr.ex xc).ex xd, hfev, fun u He xe ⟨p1, a1, b1, e, g1, g2, g3, g4, g5, g6⟩ => kc u He xe ⟨p1, a1, b1, e, fresh_back xd g1, fresh_back xd g2, fresh_back xd g3, g4, g5, g6⟩⟩) fun u Hd' xd hu => ?_
  obtain ⟨tp, ta, tb, rfl, ztp, zta, ztb, htp, hta, htb⟩ := hu
  have x8d := x8c.trans xd
  have hrp' := xd _ _ hrp
  have hra' := xd _ _ hra
  have hrb' := xd _ _ hrb
  obtain ⟨qf2, qs2, qm2, qd2, hq2, ⟨as2, has2, hl2⟩, _, _, _⟩ := hL8'.ex x8d
  obtain ⟨R0, eR0⟩ : ∃ R0, R0 = rkR W (fun v => decide (v ∈ cs)) ((k : Int) + 1) X0 W.n := ⟨_, rfl⟩
  obtain ⟨C0, eC0⟩ : ∃ C0, C0 = rkC W (fun v => decide (v ∈ cs)) ((k : Int) + 1) X0 W.n := ⟨_, rfl⟩
  rw [← eR0] at hra'
  rw [← eC0] at hta
  -- moving
  refine wsc (σ' := [some (.ref a0), some (.ref p), some (.ref lw), some (.int (W.n : Int)), some (.int (k : Int)), some (.ref c), some (.ref q), some (.ref d), some (.ref rp), some (.ref tp), none, none, none, none, none, none, none, none, none, none, none, none]) rfl ?_
  refine w_set (v := .int ((cnt W.n W.mv : Nat) : Int)) (lv sc_law.nd 10) (by
    have z : ((((List.range (refV W.n as2).length).filter W.mv).map fun v => V.ref (as2 v)).length : Int) = ((cnt W.n W.mv : Nat) : Int) := by
      rw [List.length_map, refV_len]
      rfl
    rw [← z]
    exact v_lenVL T.fre (v_fltI (n := 21) sc_law.nd (bk sc_law (by decide +kernel)) (v_ix (n := 0) (vn 2) v_int (.inl hq2) rfl) has2 (by rw [refV_len]; omega) W.mv (fun v => V.ref (as2 v)) (fun v y hy s0 Hx C cl1 fp => by
      obtain ⟨hv, rfl⟩ := map_at_lt hy
      rw [← lenp_mv]
      exact t_gt (v_lenN (m := (W.s1 v).length) T.fre (vn 21) (hl2 v hv) lotV_len) v_int) (fun v y hy _ s0 Hx C cl1 fp => by
      obtain ⟨hv, rfl⟩ := map_at_lt hy
      exact vn 21))) fun He xe => ?_
  have x8e := x8d.trans xe
  -- none above
  obtain ⟨mx, hmx, hmle⟩ := max_ex (ns := rowI W.n R0 ++ rowI W.n C0) (by rw [List.length_append]; unfold rowI; rw [List.length_map, List.length_range]; omega)
  have hmc : mx ≤ ((cnt W.n W.mv : Nat) : Int) := by
    rcases List.mem_append.mp hmx with h | h
    · obtain ⟨v, _, rfl⟩ := List.mem_map.mp h
      rw [eR0]
      exact rkR_le ok hfev v
    · obtain ⟨v, _, rfl⟩ := List.mem_map.mp h
      rw [eC0]
      exact rkC_le ok (by omega) hfev v
  refine w_skip (k := decide ((0 : Int) < ((0 : Nat) : Int) + ((0 : Nat) : Int)) || decide (((cnt W.n W.mv : Nat) : Int) < mx)) (t_bool (p_or (t_gt (v_add (v_lenN (m := 0) T.fre (v_ix (n := 1) (vn 8) v_int (.ls (xe _ _ hrp')) rfl) (.ls (xe _ _ hrb')) rfl) (v_lenN (m := 0) T.fre (v_ix (n := 1) (vn 9) v_int (.ls (xe _ _ htp)) rfl) (.ls (xe _ _ htb)) rfl)) v_int) fun _ => p_or1 (t_gt (v_maxL (ns := rowI W.n R0 ++ rowI W.n C0) T.fre (by
    rw [List.map_append, ← rowI_eq, ← rowI_eq]
    exact v_cat (v_ix (n := 0) (vn 8) v_int (.ls (xe _ _ hrp')) rfl) (v_ix (n := 0) (vn 9) v_int (.ls (xe _ _ htp)) rfl) (xe _ _ hra') (xe _ _ hta) (by rw [rowV_len, rowV_len]; omega)) (List.length_pos_of_mem hmx) hmx hmle) (vn 10)))) (by
    rw [decide_eq_false (show ¬ ((0 : Int) < ((0 : Nat) : Int) + ((0 : Nat) : Int)) by decide), decide_eq_false (show ¬ (((cnt W.n W.mv : Nat) : Int) < mx) by omega)]
    rfl) fun Hf xf => ?_
  have xdf := xe.trans xf
  have x8f := x8d.trans xdf
  -- handed
  refine w_setL (xs := lotV cs) (lv sc_law.nd 11) (v_list T.fre (vn 5) (.ls (x8f _ _ hc8))) fun hh Hg hhg xg hhh => ?_
  have x8g := x8f.trans xg
  have xag := (xb.trans xc).trans (xd.trans (xdf.trans xg))
  have x9g := xa.trans xag
  have hWg := hW9'.ex x9g
  -- paper
  refine w_setD (lv sc_law.nd 12) (v_of T ⟨rfl, rfl⟩ (hr.mono (by decide)) (vn 6) (vn 4) (vn 11) ok hWg.at (by omega) (by omega) (.ls hhh) hcm) fun u Hh xh hu => ?_
  obtain ⟨pu, Y, rfl, hY, hp⟩ := hu
  have e := hY.uniq hfev
  have e1 : rkR W (fun v => decide (v ∈ cs)) ((k : Int) + 1) Y W.n = R0 := by rw [eR0]; exact rkR_congr ok e _
  have e2 : rkC W (fun v => decide (v ∈ cs)) ((k : Int) + 1) Y W.n = C0 := by rw [eC0]; exact rkC_congr ok (by omega) hY e _
  rw [e1, e2] at hp
  have hp0 := hp.row (rowV_congr e) rfl rfl
  have x8h := x8g.trans xh
  have xdh := (xdf.trans xg).trans xh
  have hb' : Hh d = some (.lst (rowV W.n X0)) := ((xc.trans xd).trans xdh) _ _ hdb
  have hrph := xdh _ _ hrp'
  have hrah := xdh _ _ hra'
  have htph := xdh _ _ htp
  have htah := xdh _ _ hta
  have hch := x8h _ _ hc8
  have hhh' := xh _ _ hhh
  have hWh := hWg.ex xh
  have hLh := hL8'.ex x8h
  have hu64 := hr.units
  have dcs : ∀ {q : Addr}, Hh q = some (.lst (lotV cs)) → DI K Hh (.ref q) (.list ((lotI cs).map PyData.int)) := fun h => by
    rw [lotI_eq] at h
    exact .lI (sq_of h)
  have nR0 : ∀ v, v < W.n → 0 ≤ R0 v := fun v _ => by rw [eR0]; exact rkk_nn
  have nC0 : ∀ v, v < W.n → 0 ≤ C0 v := fun v _ => by rw [eC0]; exact rkk_nn
  refine wsc (σ' := sl12 a0 p lw (W.n : Int) (k : Int) c q d rp tp (.int ((cnt W.n W.mv : Nat) : Int)) hh pu ++ [none, none, none, none, none, none, none, none, none]) rfl ?_
  refine w_skip (k := !PyData.eqv (.list ((lotI cs).map PyData.int)) (.list ((lotI cs).map PyData.int)) || !true) (t_bool (p_or (t_nePD hu64 (vdi (vn 11) (dcs hhh')) (vdi (vn 5) (dcs hch))) fun _ => p_or1 (t_not (t_val (v_call (d_lparts T) (hr.mono (by decide)) (a_cons (vn 12) (a_cons (vn 6) (a_cons (vn 4) (a_cons (vn 5) (a_cons (vn 7) (a_cons (v_ix (n := 0) (vn 8) v_int (.ls hrph) rfl) (a_cons (v_ix (n := 0) (vn 9) v_int (.ls htph) rfl) a_nil))))))) fun H1 x1 Q1 k1 E1 => ⟨pu, q, c, d, ra, ta, W, (k : Int), _, X0, R0, C0, rfl, hWh.at.ex x1, hp0.ex x1, by unfold Fil; rw [← hfl]; exact .ls (x1 _ _ hch), .ls (x1 _ _ hb'), .ls (x1 _ _ hrah), .ls (x1 _ _ htah), k1⟩))))) (by rw [eqv_lI]; simp) fun Hi xi => ?_
  have hpi := hp0.ex xi
  obtain ⟨dx, vs, _, _, _, _, hsi, _⟩ := id hpi
  have allF : filV W.n (fun v => !(abv W (fun v => decide (v ∈ cs)) ((k : Int) + 1) X0 R0 v && blw W (fun v => decide (v ∈ cs)) ((k : Int) + 1) X0 C0 v)) = filV W.n (fun _ => false) := filV_congr fun v hv => by
    rw [eR0, eC0, abv_fev ok hfev v hv, blw_fev ok (by omega) hfev v hv]
    rfl
  have emp : (filV W.n (fun _ => false)).isEmpty = true := fil_empty.mpr fun _ _ => rfl
  refine w_skip (k := !true || !(filV W.n (fun _ => false)).isEmpty) (t_bool (p_or (t_not (t_val (v_call (d_ljudged T) (hr.mono (by decide)) (a_cons (vn 12) (a_cons (vn 6) (a_cons (vn 2) (a_cons (vn 4) (a_cons (vn 5) (a_cons (vn 7) (a_cons (v_ix (n := 0) (vn 8) v_int (.ls (xi _ _ hrph)) rfl) (a_cons (v_ix (n := 0) (vn 9) v_int (.ls (xi _ _ htph)) rfl) a_nil)))))))) fun H1 x1 Q1 k1 E1 => ⟨pu, q, lw, c, d, ra, ta, W, k, cs, X0, R0, C0, rfl, ok, hWh.at.ex (xi.trans x1), hLh.ex (xi.trans x1), hpi.ex x1, by omega, by omega, .ls ((xi.trans x1) _ _ hch), hfl, hcm, .ls ((xi.trans x1) _ _ hb'), fun v hv => ⟨hfev.nn v hv, hfev.le v hv⟩, .ls ((xi.trans x1) _ _ hrah), nR0, .ls ((xi.trans x1) _ _ htah), nC0, k1⟩))) fun _ => p_or1 (t_not (t_vd T ⟨rfl, rfl⟩ (hr.mono (by decide)) (v_meth0 (S_CallPaper T) (ME_CallPaper_judged T) (G_judged T) (hr.mono (by decide)) (vn 12) hsi fun H1 x1 Q1 k1 E1 => ⟨pu, q, W, k, _, X0, R0, C0, rfl, ok, hWh.at.ex (xi.trans x1), fun v _ hv => (hcm v (of_decide_eq_true hv)).2, hpi.ex x1, fun u H2 x2 ⟨p, e, hv⟩ => k1 u H2 x2 ⟨p, e, by rw [allF] at hv; exact hv⟩⟩))))) (by rw [emp]; rfl) fun Hj xj => ?_
  -- the changes
  have xhj := xi.trans xj
  have x8j := x8h.trans xhj
  have pj := p8.ex x8j
  obtain ⟨xpj, epj⟩ := pj.lst
  obtain ⟨pa, hpa⟩ := (p8.ex x8a).at
  obtain ⟨pb, hpb⟩ := (p8.ex x8b).at
  obtain ⟨pc, hpc⟩ := (p8.ex x8c).at
  have nn : ∀ {Hx : Hp} {z : Addr} {o : HO}, Hx p = some o → Hx z = none → z ≠ p := fun h1 h2 => (some_ne h1 h2).symm
  refine law_change T hr (F := rem Hj p) ⟨ok, low, hk, hL8.ex (rem_rem (.of x8j)), rem_of (xhj _ _ hch) ncp, hnd, hpw, hcm, (hW9.ex (noL_ex ((x9g.trans xh).trans xhj))).ex (noL_rem epj), rem_of (xhj _ _ hb') (nn hpa hd), hfev, ⟨rb, rem_of (xhj _ _ hrph) (nn hpb zrp)⟩, rem_of (xhj _ _ hrah) (nn hpb zra), ⟨tb, rem_of (xhj _ _ htph) (nn hpc ztp)⟩, rem_of (xhj _ _ htah) (nn hpc zta), (hp0.ex xhj).noL.ex (noL_rem epj), eR0, eC0⟩ rem_self (by unfold rem; rw [if_pos rfl]) pj hQ
theorem ok_law (T : Hd K mg) {f : Addr} {fd : FuncData} (F : FunD K "law" "law" (defArgs s_law) (defBody s_law) (defScope s_law) [] [] f fd) : FnOk P w K mg base (L2.CX P w) 12 f fd ["_law_script"] (spLaw K) := by
  refine F.ok sc_law (fun vs H Q E h => ?_) fun cdv A outer s H vs Q E hr hs => ⟨_, pssW, law_body T f cdv A outer s H vs Q E hr hs⟩
  obtain ⟨_, _, rfl, _⟩ := h
  rfl
end
end PwD
end
/-! ### PwEnd -/
section
set_option Elab.async false
set_option linter.all false
set_option maxRecDepth 100000
set_option maxHeartbeats 0
/-! the law holds -/
namespace PwD
open PySem PySem.Spec PyProof.Rows L2 Evl Pw Wk PwH
/-- a law's end over a head by facts, exceptions passing below -/
theorem walk_end {l : PySem.W.OpenLaw} {n k : Nat} {q : Program} {loose : List Str} {XP : (Str → Option Value) → Heap → Prop} {YP : World → Heap → Prop} {d : DefRec} {x : Str}
    (hn : l.most = some n) (hn2 : n ≤ sizeLine) (hdf : d.params.defaults = []) (hr : Room k callerA)
    (F : ∀ (w : World) (mg : Str → Option Value) (fa : Addr) (h : Heap), YP w h → h.Ns mainGlobals mg → mg d.name = some (.ref fa) →
      ∃ (K : PySem.W.Frag) (fd : FuncData) (sp : Sp), K.In h ∧ (∀ (s : Shared) (u : Value), BindsTo s fd ⟨[u], []⟩ [(x, u)]) ∧
        (∀ (H : Hp) (a : Addr) (ns : List Int), ns.length ≤ n → Only H → SqL K H a (ns.map V.int) → sp [.ref a] H (fun v _ => v = .bl true) fun _ _ _ => False) ∧
        ∀ base : Heap, K.In base → base.Ns mainGlobals mg → FnOk l.prog w K mg base (L2.CX l.prog w) k fa fd [x] sp) :
    PySem.W.WalkO q loose XP YP l.row.toRowW d [] (fun f vs => PySem.call f vs) := by
  refine Att.attach_call hn hdf fun w s₀ s₁ mg mb fa o pm cd doc a vs ns G Y ho hd hcd hmg hobj hints hlen hg => ?_
  obtain ⟨K, fd, sp, KX, hb, hsp, hF⟩ := F w mg fa _ Y G.T.g hmg
  exact law_call KX G.T.g G.T.b G.T.builtins G.T.nolimit hg hobj hints (Nat.le_trans hlen hn2) hr hF hb (fun H hO hS => hsp H a ns hlen hO hS) fun H e s' h => by
    obtain ⟨_, _, _, _, _, _, _, _, _, _, _, _, z⟩ := h
    exact z
end PwD
open PySem PySem.W PySem.Calls PyProof.Rows
theorem PySem.Challenge.cw_pursewebs_k71_whole_both_halves_meet_holds : PySem.Challenge.rw_pursewebs_k71_whole_both_halves_meet.Holds := by
  w_on; o_law
  refine HandSHeadRun.head_any (r := OpenLaw.row PySem.Challenge.rw_pursewebs_k71_whole_both_halves_meet) (q := view (OpenLaw.row PySem.Challenge.rw_pursewebs_k71_whole_both_halves_meet).prog [96]) (H := PwH.hk) (ob := PwH.ob) (M := 8000) (loose := PwH.nms) (d := HandSHeadRun.topDef (OpenLaw.row PySem.Challenge.rw_pursewebs_k71_whole_both_halves_meet).prog 96) (kwd := []) PwH.ob_eq
    (by kernel_rfl) (fun s => by kernel_rfl) PwH.run (by kernel_rfl) (by kernel_rfl) (by kernel_rfl) (by rfl) (by first | assumption | decide +kernel) (by decide +kernel) ⟨rfl, rfl, rfl, rfl, rfl, by decide +kernel⟩ ?hw ?hc
  case hw => w_witness2
  case hc =>
    refine PwD.walk_end (l := PySem.Challenge.rw_pursewebs_k71_whole_both_halves_meet) (n := 63) (k := 12) (x := "_law_script") rfl (by decide) (by kernel_rfl) ⟨rfl, by decide, by decide⟩ ?F
    intro w mg fa h Y G hmg0
    obtain ⟨K, KX, c⟩ := Y
    have hmg : mg ("law" : PySem.Str) = some (.ref fa) := by
      have e : (HandSHeadRun.topDef (OpenLaw.row PySem.Challenge.rw_pursewebs_k71_whole_both_halves_meet).prog 96).name = ("law" : PySem.Str) := by kernel_rfl
      rw [← e]
      exact hmg0
    have T : PwH.Hd K mg := .of KX G c
    obtain ⟨f, fd, F, hf⟩ := PwH.F_law T
    have e := hmg.symm.trans hf
    cases e
    have b := L2.FunD.bindsA (ps := ["_law_script"]) F PwH.B_law
    exact ⟨K, fd, PwD.spLaw K, KX, fun s v => b s [v] rfl, fun H a ns hl _ hS => ⟨a, ns, rfl, hS, hl, fun _ => rfl⟩, fun base _ _ => PwD.ok_law T F⟩
end
