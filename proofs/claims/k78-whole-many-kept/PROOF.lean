import PyProof.Rows.All
import Wide.All
import OpenK.AllK
import Wide.FinOn
import KE.KSuper
import KE.KExcSuper
import KE.KStar
import HandS.ForMost
import HandS.Exc
import HandS.ExcInit
import HandS.Defaults
import HandS.ClsMeth
import HandS.Star
import HandS.MakeKwOnly
import HandS.WordsExc
import HandS.DictComp
import HandS.IsInst
import HandS.Style
import HandS.TryOnly
import HandS.Conv
import HandS.Walk
import HandS.Flow
import HandS.Codes
import HandS.Zip
import HandS.Small
import PySem.Challenge.RW_gaugemiss_k78_whole_many_kept
import HandS.HeadHook1
import HandS.ExcField
import HandS.Text
import HandS.SortKw
import KE.KRevSl
import PyProof.Rows.StrMeet
import HandS.WordsList
import HandS.Head0
import HandS.Head1
import HandS.Head2
import HandS.HeadEnd
import HandS.HeadHook2
import KE.KStateDown
import Lean
/-! The plain law: what honest_reach, drop_case and the law's own farthest compute. No program in sight. -/
set_option Elab.async false
namespace GM
abbrev Sp := Option (Int × Int)
/-- the model's abs -/
def iabs (i : Int) : Int := if i < 0 then -i else i
theorem iabs_le {i b : Int} : iabs i ≤ b ↔ -b ≤ i ∧ i ≤ b := by unfold iabs; split <;> omega
theorem iabs_lt {i b : Int} : iabs i < b ↔ -b < i ∧ i < b := by unfold iabs; split <;> omega
theorem iabs_nn (i : Int) : 0 ≤ iabs i := by unfold iabs; split <;> omega
theorem iabs_neg (i : Int) : iabs (-i) = iabs i := by unfold iabs; split <;> split <;> omega
theorem iabs_of_nn {i : Int} (h : 0 ≤ i) : iabs i = i := by unfold iabs; split <;> omega
theorem iabs_cases (i : Int) : (0 ≤ i ∧ iabs i = i) ∨ (i < 0 ∧ iabs i = -i) := by unfold iabs; split <;> omega

def offs : Sp → Int → Int
  | none, _ => 0
  | some (lo, hi), x => if lo ≤ -x ∧ -x ≤ hi then 0 else if 0 < x + lo then x + lo else x + hi
def hiOf : Sp → Int
  | some (_, h) => h
  | none => 0
def loOf : Sp → Int
  | some (l, _) => l
  | none => 0
/-- a good span: it holds 0 -/
def Good (s : Sp) : Prop := loOf s ≤ 0 ∧ 0 ≤ hiOf s
def atS (sps : List Sp) (j : Nat) : Sp := sps.getD j none
def rd (sps : List Sp) (x : Int) (j : Nat) : Int := offs (atS sps j) x
def rch (sps : List Sp) (at_ : Nat) (x : Int) : Int := x + hiOf (atS sps at_)
def cnt (p : Nat → Bool) (n : Nat) : Nat := (List.range n).countP p
theorem cnt_zero (p : Nat → Bool) : cnt p 0 = 0 := rfl
theorem cnt_succ (p : Nat → Bool) (n : Nat) : cnt p (n + 1) = cnt p n + if p n = true then 1 else 0 := by
  unfold cnt
  rw [List.range_succ, List.countP_append]
  simp [List.countP_cons]
theorem cnt_congr {p q : Nat → Bool} {n : Nat} (h : ∀ j, j < n → p j = q j) : cnt p n = cnt q n := by
  induction n with
  | zero => rfl
  | succ n ih => rw [cnt_succ, cnt_succ, ih (fun j hj => h j (by omega)), h n (by omega)]
theorem cnt_mono {p q : Nat → Bool} {n : Nat} (h : ∀ j, j < n → p j = true → q j = true) : cnt p n ≤ cnt q n := by
  induction n with
  | zero => exact Nat.le_refl _
  | succ n ih =>
    rw [cnt_succ, cnt_succ]
    have := ih (fun j hj => h j (by omega))
    by_cases hp : p n = true
    · rw [if_pos hp, if_pos (h n (by omega) hp)]; omega
    · rw [if_neg hp]; split <;> omega
theorem cnt_le (p : Nat → Bool) (n : Nat) : cnt p n ≤ n := by
  induction n with
  | zero => exact Nat.le_refl _
  | succ n ih => rw [cnt_succ]; split <;> omega
/-- three ways that do not meet, all of them met -/
theorem cnt_three {p q r : Nat → Bool} {n : Nat} (h : ∀ j, j < n → (if p j = true then 1 else 0) + (if q j = true then 1 else 0) + (if r j = true then 1 else 0) = 1) : cnt p n + cnt q n + cnt r n = n := by
  induction n with
  | zero => rfl
  | succ n ih =>
    have a := ih (fun j hj => h j (by omega))
    have b := h n (by omega)
    rw [cnt_succ, cnt_succ, cnt_succ]
    omega
def isL (f : Nat → Int) (at_ : Nat) (j : Nat) : Bool := decide (j ≠ at_) && decide (f j < 0)
def isZ (f : Nat → Int) (at_ : Nat) (j : Nat) : Bool := decide (j ≠ at_) && decide (f j = 0)
def cntL (f : Nat → Int) (at_ n : Nat) : Nat := cnt (isL f at_) n
def cntZ (f : Nat → Int) (at_ n : Nat) : Nat := cnt (isZ f at_) n
def early (j at_ : Nat) : Int := if j < at_ then 1 else 0
def okAt (sps : List Sp) (at_ : Nat) (x : Int) (j : Nat) : Bool := decide (j = at_) || decide (iabs (rd sps x j) ≤ rch sps at_ x - early j at_)
structure Feas (sps : List Sp) (place : Int) (at_ : Nat) (x : Int) : Prop where
  pos : 1 ≤ rch sps at_ x
  ok : ∀ j, j < sps.length → j ≠ at_ → iabs (rd sps x j) ≤ rch sps at_ x - early j at_
  lo : (cntL (rd sps x) at_ sps.length : Int) ≤ place
  hi : place < cntL (rd sps x) at_ sps.length + cntZ (rd sps x) at_ sps.length
open Classical in
noncomputable def feasB (sps : List Sp) (place : Int) (at_ : Nat) (x : Int) : Bool := decide (Feas sps place at_ x)
open Classical in
theorem feasB_iff {sps : List Sp} {place : Int} {at_ : Nat} {x : Int} : feasB sps place at_ x = true ↔ Feas sps place at_ x := by
  unfold feasB; exact decide_eq_true_iff
open Classical in
theorem feasB_not {sps : List Sp} {place : Int} {at_ : Nat} {x : Int} (h : ¬ Feas sps place at_ x) : feasB sps place at_ x = false := by
  unfold feasB; exact decide_eq_false h

def AllGood (sps : List Sp) : Prop := ∀ j, Good (atS sps j)
/-- x is one of the levels that are tried for j -/
def Cand (sps : List Sp) (at_ : Nat) (c : Int) : Prop := ∃ j l h, j < sps.length ∧ j ≠ at_ ∧ atS sps j = some (l, h) ∧ (c = -l ∨ c = -h - 1)
theorem offs_step {s : Sp} {x : Int} (g : Good s) (h : ∀ l u, s = some (l, u) → x ≠ -l ∧ x ≠ -u - 1) :
    (offs s (x + 1) < 0 ↔ offs s x < 0) ∧ (offs s (x + 1) = 0 ↔ offs s x = 0) ∧ iabs (offs s (x + 1)) ≤ iabs (offs s x) + 1 := by
  cases s with
  | none => simp [offs, iabs]
  | some p =>
    obtain ⟨l, u⟩ := p
    obtain ⟨h1, h2⟩ := h l u rfl
    obtain ⟨g1, g2⟩ := g
    simp only [loOf, hiOf] at g1 g2
    have e1 := iabs_cases (offs (some (l, u)) (x + 1))
    have e2 := iabs_cases (offs (some (l, u)) x)
    simp only [offs] at e1 e2 ⊢
    split <;> split <;> (try split) <;> (try split) <;> simp_all <;> omega
theorem feas_step {sps : List Sp} {place : Int} {at_ : Nat} {x : Int} (g : AllGood sps) (F : Feas sps place at_ x) (h : ¬ Cand sps at_ x) : Feas sps place at_ (x + 1) := by
  have st : ∀ j, j < sps.length → j ≠ at_ → _ := fun j hj hn => offs_step (x := x) (g j) fun l u e => ⟨fun q => h ⟨j, l, u, hj, hn, e, .inl q⟩, fun q => h ⟨j, l, u, hj, hn, e, .inr q⟩⟩
  have r1 : rch sps at_ (x + 1) = rch sps at_ x + 1 := by unfold rch; omega
  have eL : cntL (rd sps (x + 1)) at_ sps.length = cntL (rd sps x) at_ sps.length := cnt_congr fun j hj => by
    by_cases hn : j = at_
    · simp [isL, hn]
    · have := (st j hj hn).1
      unfold isL rd
      rw [decide_eq_decide.mpr this]
  have eZ : cntZ (rd sps (x + 1)) at_ sps.length = cntZ (rd sps x) at_ sps.length := cnt_congr fun j hj => by
    by_cases hn : j = at_
    · simp [isZ, hn]
    · have := (st j hj hn).2.1
      unfold isZ rd
      rw [decide_eq_decide.mpr this]
  refine ⟨by have := F.pos; omega, fun j hj hn => ?_, by rw [eL]; exact F.lo, by rw [eL, eZ]; exact F.hi⟩
  have a := F.ok j hj hn
  have b := (st j hj hn).2.2
  unfold rd at a ⊢
  omega

/-- one level beyond all -/
def sumW : List Sp → Int
  | [] => 0
  | none :: r => sumW r
  | some (l, h) :: r => iabs l + iabs h + sumW r
def beyond (sps : List Sp) : Int := 1 + sumW sps
theorem sumW_nn (sps : List Sp) : 0 ≤ sumW sps := by
  induction sps with
  | nil => exact Int.le_refl _
  | cons s r ih =>
    cases s with
    | none => exact ih
    | some p =>
      have a := iabs_nn p.1
      have b := iabs_nn p.2
      simp only [sumW]; omega
theorem sumW_ge {sps : List Sp} {j : Nat} {l h : Int} (e : atS sps j = some (l, h)) : iabs l + iabs h ≤ sumW sps := by
  induction sps generalizing j with
  | nil => simp [atS] at e
  | cons s r ih =>
    cases j with
    | zero =>
      simp [atS] at e
      subst e
      have := sumW_nn r
      simp only [sumW]; omega
    | succ j =>
      have := ih (j := j) (by simpa [atS] using e)
      cases s with
      | none => simpa [sumW] using this
      | some p =>
        have a := iabs_nn p.1
        have b := iabs_nn p.2
        simp only [sumW]; omega
def farO : Sp → Int → Int
  | none, _ => 0
  | some (l, _), x => x + l
theorem offs_far {s : Sp} {sps : List Sp} {j : Nat} {x : Int} (e : atS sps j = s) (hx : beyond sps ≤ x) : offs s x = farO s x := by
  cases s with
  | none => rfl
  | some p =>
    obtain ⟨l, h⟩ := p
    have a := sumW_ge e
    have b := iabs_cases l
    have c := iabs_cases h
    unfold beyond at hx
    simp only [offs, farO]
    split
    · omega
    · rw [if_pos (by omega)]
theorem far_pos {sps : List Sp} {j : Nat} {l h x : Int} (e : atS sps j = some (l, h)) (hx : beyond sps ≤ x) : 0 < x + l ∧ 0 < x + h := by
  have a := sumW_ge e
  have b := iabs_cases l
  have c := iabs_cases h
  unfold beyond at hx
  omega
theorem feas_far {sps : List Sp} {place : Int} {at_ : Nat} {x y : Int} (g : AllGood sps) (hx : beyond sps ≤ x) (hy : beyond sps ≤ y) (F : Feas sps place at_ x) : Feas sps place at_ y := by
  have b1 : 1 ≤ beyond sps := by have := sumW_nn sps; unfold beyond; omega
  have gat := (g at_).2
  have sg : ∀ j, (rd sps y j < 0 ↔ rd sps x j < 0) ∧ (rd sps y j = 0 ↔ rd sps x j = 0) := fun j => by
    unfold rd
    rw [offs_far rfl hx, offs_far rfl hy]
    cases e : atS sps j with
    | none => simp [farO]
    | some p =>
      have p1 := far_pos e hx
      have p2 := far_pos e hy
      simp only [farO]; omega
  have eL : cntL (rd sps y) at_ sps.length = cntL (rd sps x) at_ sps.length := cnt_congr fun j hj => by
    simp only [isL, decide_eq_decide.mpr (sg j).1]
  have eZ : cntZ (rd sps y) at_ sps.length = cntZ (rd sps x) at_ sps.length := cnt_congr fun j hj => by
    simp only [isZ, decide_eq_decide.mpr (sg j).2]
  refine ⟨by unfold rch; omega, fun j hj hn => ?_, by rw [eL]; exact F.lo, by rw [eL, eZ]; exact F.hi⟩
  have a := F.ok j hj hn
  unfold rd rch at a ⊢
  rw [offs_far rfl hx] at a
  rw [offs_far rfl hy]
  have he : early j at_ ≤ 1 := by unfold early; split <;> omega
  cases e : atS sps j with
  | none => simp only [farO, iabs]; simp; omega
  | some p =>
    have p1 := far_pos e hx
    have p2 := far_pos e hy
    rw [e] at a
    simp only [farO] at a ⊢
    rw [iabs_of_nn (by omega)] at a ⊢
    omega
/-- from a level that counts, one goes up to a level that is tried, or beyond all -/
theorem feas_up {sps : List Sp} {place : Int} {at_ : Nat} (g : AllGood sps) : ∀ (k : Nat) (x : Int), (beyond sps - x).toNat = k → Feas sps place at_ x → (∃ c, x ≤ c ∧ Cand sps at_ c ∧ Feas sps place at_ c) ∨ Feas sps place at_ (beyond sps)
  | 0, x, hk, F => .inr (feas_far g (by omega) (Int.le_refl _) F)
  | k + 1, x, hk, F => by
    by_cases hc : Cand sps at_ x
    · exact .inl ⟨x, Int.le_refl _, hc, F⟩
    · rcases feas_up g k (x + 1) (by omega) (feas_step g F hc) with ⟨c, h1, h2, h3⟩ | h
      · exact .inl ⟨c, by omega, h2, h3⟩
      · exact .inr h

/-- the levels that are tried, in order, from position k on -/
def candsFrom (at_ : Nat) : Nat → List Sp → List Int
  | _, [] => []
  | k, none :: r => candsFrom at_ (k + 1) r
  | k, some (l, h) :: r => (if k = at_ then [] else [-l, -h - 1]) ++ candsFrom at_ (k + 1) r
theorem mem_candsFrom {at_ : Nat} {c : Int} : ∀ {sps : List Sp} {k : Nat}, c ∈ candsFrom at_ k sps ↔ ∃ j l h, j < sps.length ∧ k + j ≠ at_ ∧ sps.getD j none = some (l, h) ∧ (c = -l ∨ c = -h - 1)
  | [], k => by simp [candsFrom]
  | s :: r, k => by
    have ih := mem_candsFrom (at_ := at_) (c := c) (sps := r) (k := k + 1)
    have shift : (∃ j l h, j < r.length ∧ k + 1 + j ≠ at_ ∧ r.getD j none = some (l, h) ∧ (c = -l ∨ c = -h - 1)) ↔ ∃ j l h, 0 < j ∧ j < (s :: r).length ∧ k + j ≠ at_ ∧ (s :: r).getD j none = some (l, h) ∧ (c = -l ∨ c = -h - 1) := by
      constructor
      · rintro ⟨j, l, h, h1, h2, h3, h4⟩
        exact ⟨j + 1, l, h, by omega, by simpa using h1, by omega, by simpa using h3, h4⟩
      · rintro ⟨j, l, h, h0, h1, h2, h3, h4⟩
        obtain ⟨i, rfl⟩ : ∃ i, j = i + 1 := ⟨j - 1, by omega⟩
        exact ⟨i, l, h, by simpa using h1, by omega, by simpa using h3, h4⟩
    rw [shift] at ih
    cases s with
    | none =>
      simp only [candsFrom]
      rw [ih]
      constructor
      · rintro ⟨j, l, h, _, r⟩; exact ⟨j, l, h, r⟩
      · rintro ⟨j, l, h, h1, h2, h3, h4⟩
        refine ⟨j, l, h, ?_, h1, h2, h3, h4⟩
        cases j with
        | zero => simp at h3
        | succ j => omega
    | some p =>
      obtain ⟨l, h⟩ := p
      simp only [candsFrom, List.mem_append]
      rw [ih]
      constructor
      · rintro (h1 | ⟨j, l, h, _, r⟩)
        · by_cases hk : k = at_
          · simp [hk] at h1
          · rw [if_neg hk] at h1
            exact ⟨0, l, h, by simp, by omega, by simp, by simpa using h1⟩
        · exact ⟨j, l, h, r⟩
      · rintro ⟨j, l', h', h1, h2, h3, h4⟩
        cases j with
        | zero =>
          left
          simp at h3
          obtain ⟨rfl, rfl⟩ := h3
          rw [if_neg (by omega)]
          simpa using h4
        | succ j => exact .inr ⟨j + 1, l', h', by omega, h1, h2, h3, h4⟩
def cands (sps : List Sp) (at_ : Nat) : List Int := candsFrom at_ 0 sps
theorem mem_cands {sps : List Sp} {at_ : Nat} {c : Int} : c ∈ cands sps at_ ↔ Cand sps at_ c := by
  unfold cands Cand atS
  rw [mem_candsFrom]
  constructor
  · rintro ⟨j, l, h, a, b, d, e⟩; exact ⟨j, l, h, a, by omega, d, e⟩
  · rintro ⟨j, l, h, a, b, d, e⟩; exact ⟨j, l, h, a, by omega, d, e⟩
noncomputable def levels (sps : List Sp) (place : Int) (at_ : Nat) : List Int := (cands sps at_).filter (feasB sps place at_)
theorem mem_levels {sps : List Sp} {place : Int} {at_ : Nat} {c : Int} : c ∈ levels sps place at_ ↔ Cand sps at_ c ∧ Feas sps place at_ c := by
  unfold levels
  rw [List.mem_filter, mem_cands, feasB_iff]
def lmax : List Int → Int
  | [] => 0
  | [a] => a
  | a :: b :: r => if a < lmax (b :: r) then lmax (b :: r) else a
theorem lmax_mem : ∀ {l : List Int}, l ≠ [] → lmax l ∈ l
  | [], h => (h rfl).elim
  | [a], _ => by simp [lmax]
  | a :: b :: r, _ => by
    have := lmax_mem (l := b :: r) (by simp)
    simp only [lmax]
    split
    · exact List.mem_cons_of_mem _ this
    · exact List.mem_cons_self ..
theorem lmax_ge : ∀ {l : List Int} {c : Int}, c ∈ l → c ≤ lmax l
  | [], _, h => by simp at h
  | [a], c, h => by simp [lmax] at h ⊢; omega
  | a :: b :: r, c, h => by
    simp only [lmax]
    rcases List.mem_cons.mp h with rfl | h
    · split <;> omega
    · have := lmax_ge (l := b :: r) h
      split <;> omega
theorem lmax_uniq {l : List Int} {m : Int} (h : m ∈ l) (u : ∀ y, y ∈ l → y ≤ m) : m = lmax l := by
  have a := lmax_ge h
  have b := u _ (lmax_mem (List.ne_nil_of_mem h))
  omega
noncomputable def topLevel (sps : List Sp) (place : Int) (at_ : Nat) : Option Int × Bool :=
  if feasB sps place at_ (beyond sps) = true then (some (beyond sps), false)
  else if (levels sps place at_).isEmpty = true then (none, true) else (some (lmax (levels sps place at_)), true)
theorem topLevel_feas {sps : List Sp} {place : Int} {at_ : Nat} {l : Int} {b : Bool} (e : topLevel sps place at_ = (some l, b)) : Feas sps place at_ l ∧ (b = false → l = beyond sps) := by
  unfold topLevel at e
  split at e
  · rename_i h
    simp at e
    obtain ⟨rfl, rfl⟩ := e
    exact ⟨feasB_iff.mp h, fun _ => rfl⟩
  · split at e
    · simp at e
    · rename_i h1 h2
      simp at e
      obtain ⟨rfl, rfl⟩ := e
      exact ⟨(mem_levels.mp (lmax_mem (by simpa using h2))).2, fun q => by simp at q⟩
theorem topLevel_up {sps : List Sp} {place : Int} {at_ : Nat} {x : Int} (g : AllGood sps) (F : Feas sps place at_ x) : (∃ l, topLevel sps place at_ = (some l, true) ∧ x ≤ l) ∨ topLevel sps place at_ = (some (beyond sps), false) := by
  unfold topLevel
  by_cases hb : feasB sps place at_ (beyond sps) = true
  · right; rw [if_pos hb]
  · left
    rw [if_neg hb]
    rcases feas_up g _ x rfl F with ⟨c, h1, h2, h3⟩ | h
    · have hm : c ∈ levels sps place at_ := mem_levels.mpr ⟨h2, h3⟩
      rw [if_neg (by simpa using List.ne_nil_of_mem hm)]
      exact ⟨_, rfl, by have := lmax_ge hm; omega⟩
    · exact absurd (feasB_iff.mpr h) hb
theorem topLevel_none {sps : List Sp} {place : Int} {at_ : Nat} {b : Bool} (e : topLevel sps place at_ = (none, b)) : b = true := by
  unfold topLevel at e
  split at e
  · simp at e
  · split at e <;> simp at e <;> simp [e]

/-! ### the two signs -/
/-- a kept gauge: none if it may lie, else (slack below, slack above) -/
abbrev Gd := Option (Int × Int)
def spanOf (sign : Int) : Gd → Sp
  | none => none
  | some (sb, sa) => if 0 < sign then some (-sa, sb) else some (-sb, sa)
def GoodG : Gd → Prop
  | none => True
  | some (sb, sa) => 0 ≤ sb ∧ 0 ≤ sa
abbrev Best := Int × Bool × Int × Option Int
noncomputable def bestStep (ds : List Gd) (at_ : Nat) (best : Best) (sign place : Int) : Best :=
  match topLevel (ds.map (spanOf sign)) place at_ with
  | (some l, b) => if best.2.1 = true then (if b = false ∨ best.1 < l + hiOf (atS (ds.map (spanOf sign)) at_) then (l + hiOf (atS (ds.map (spanOf sign)) at_), b, sign, some l) else best) else best
  | (none, _) => best
noncomputable def bestTop (ds : List Gd) (at_ : Nat) : Best :=
  bestStep ds at_ (bestStep ds at_ (0, true, 1, none) 1 (((ds.length : Int) - 1) / 2)) (-1) ((ds.length : Int) - 1 - ((ds.length : Int) - 1) / 2)
def placeOf (n : Nat) (sign : Int) : Int := if 0 < sign then ((n : Int) - 1) / 2 else (n : Int) - 1 - ((n : Int) - 1) / 2
theorem good_map {ds : List Gd} {sign : Int} (g : ∀ d, d ∈ ds → GoodG d) : AllGood (ds.map (spanOf sign)) := fun j => by
  unfold atS
  by_cases h : j < ds.length
  · have e : (ds.map (spanOf sign)).getD j none = spanOf sign ds[j] := by simp [List.getD, h]
    rw [e]
    have := g ds[j] (List.getElem_mem h)
    cases q : ds[j] with
    | none => simp [spanOf, Good, loOf, hiOf]
    | some p =>
      rw [q] at this
      obtain ⟨h1, h2⟩ := this
      simp only [spanOf]
      split <;> simp [Good, loOf, hiOf] <;> omega
  · have e : (ds.map (spanOf sign)).getD j none = none := by
      rw [List.getD, List.getElem?_eq_none_iff.mpr (by simp; omega)]; rfl
    rw [e]
    simp [Good, loOf, hiOf]
/-- what bestTop says: bounded: nothing that counts reaches higher; not bounded or positive: it is reached -/
theorem bestTop_up {ds : List Gd} {at_ : Nat} (g : ∀ d, d ∈ ds → GoodG d) {d : Int} {s : Int} {o : Option Int} (e : bestTop ds at_ = (d, true, s, o)) {sign x : Int} (hs : sign = 1 ∨ sign = -1)
    (F : Feas (ds.map (spanOf sign)) (placeOf ds.length sign) at_ x) : rch (ds.map (spanOf sign)) at_ x ≤ d := by
  have up := topLevel_up (good_map (sign := sign) g) F
  unfold rch
  unfold bestTop at e
  rcases hs with rfl | rfl
  · rw [show placeOf ds.length 1 = ((ds.length : Int) - 1) / 2 from if_pos (by decide)] at up
    generalize hb : bestStep ds at_ (0, true, 1, none) 1 (((ds.length : Int) - 1) / 2) = b1 at e
    unfold bestStep at hb
    rcases up with ⟨l, h1, h2⟩ | h
    · rw [h1] at hb
      simp only [if_true] at hb
      have hb1 : x + hiOf (atS (ds.map (spanOf 1)) at_) ≤ b1.1 := by
        split at hb
        · subst hb; simp only; omega
        · rename_i hn
          subst hb
          simp at hn
          simp only; omega
      unfold bestStep at e
      split at e
      · split at e
        · split at e
          · rename_i hor
            simp at e
            obtain ⟨rfl, rfl, _⟩ := e
            simp at hor
            omega
          · rw [← show b1.1 = d by rw [e]]; exact hb1
        · rw [← show b1.1 = d by rw [e]]; exact hb1
      · rw [← show b1.1 = d by rw [e]]; exact hb1
    · rw [h] at hb
      simp at hb
      subst hb
      unfold bestStep at e
      split at e <;> simp at e
  · rw [show placeOf ds.length (-1) = (ds.length : Int) - 1 - ((ds.length : Int) - 1) / 2 from if_neg (by decide)] at up
    generalize bestStep ds at_ (0, true, 1, none) 1 (((ds.length : Int) - 1) / 2) = b1 at e
    unfold bestStep at e
    rcases up with ⟨l, h1, h2⟩ | h
    · rw [h1] at e
      simp only at e
      split at e
      · split at e
        · simp at e
          omega
        · rename_i hn
          have : b1.1 = d := by rw [e]
          simp at hn
          omega
      · rename_i hn
        exact absurd (by rw [e]) hn
    · rw [h] at e
      simp only at e
      split at e
      · simp at e
      · rename_i hn
        exact absurd (by rw [e]) hn
theorem bestStep_from {ds : List Gd} {at_ : Nat} {best : Best} {sign place : Int} {d s : Int} {b : Bool} {o : Option Int} (e : bestStep ds at_ best sign place = (d, b, s, o)) :
    best = (d, b, s, o) ∨ ∃ l, o = some l ∧ s = sign ∧ d = rch (ds.map (spanOf sign)) at_ l ∧ Feas (ds.map (spanOf sign)) place at_ l ∧ (b = false → l = beyond (ds.map (spanOf sign))) := by
  unfold bestStep at e
  split at e
  · rename_i l b' ht
    split at e
    · split at e
      · simp at e
        obtain ⟨rfl, rfl, rfl, rfl⟩ := e
        have := topLevel_feas ht
        exact .inr ⟨l, rfl, rfl, rfl, this.1, this.2⟩
      · exact .inl e
    · exact .inl e
  · exact .inl e
theorem bestTop_down {ds : List Gd} {at_ : Nat} {d s : Int} {b : Bool} {o : Option Int} (e : bestTop ds at_ = (d, b, s, o)) (h : b = false ∨ d ≠ 0) :
    ∃ l, o = some l ∧ (s = 1 ∨ s = -1) ∧ d = rch (ds.map (spanOf s)) at_ l ∧ Feas (ds.map (spanOf s)) (placeOf ds.length s) at_ l ∧ (b = false → l = beyond (ds.map (spanOf s))) := by
  unfold bestTop at e
  rcases bestStep_from e with e1 | ⟨l, rfl, rfl, h1, h2, h3⟩
  · rcases bestStep_from e1 with e2 | ⟨l, rfl, rfl, h1, h2, h3⟩
    · simp at e2
      obtain ⟨rfl, rfl, _⟩ := e2
      simp at h
    · exact ⟨l, rfl, .inl rfl, h1, by rw [show placeOf ds.length 1 = ((ds.length : Int) - 1) / 2 from if_pos (by decide)]; exact h2, h3⟩
  · exact ⟨l, rfl, .inr rfl, h1, by rw [show placeOf ds.length (-1) = (ds.length : Int) - 1 - ((ds.length : Int) - 1) / 2 from if_neg (by decide)]; exact h2, h3⟩
theorem bestTop_nn {ds : List Gd} {at_ : Nat} : 0 ≤ (bestTop ds at_).1 := by
  generalize e : bestTop ds at_ = r
  obtain ⟨d, b, s, o⟩ := r
  unfold bestTop at e
  rcases bestStep_from e with e1 | ⟨l, _, _, h1, h2, _⟩
  · rcases bestStep_from e1 with e2 | ⟨l, _, _, h1, h2, _⟩
    · simp at e2; simp only; omega
    · have := h2.pos; simp only; omega
  · have := h2.pos; simp only; omega
end GM

/-! The plain law, second part: medians, the farthest, cases. -/
set_option Elab.async false
namespace GM
theorem cnt_two {p q s : Nat → Bool} {n : Nat} (h : ∀ j, j < n → p j = true → q j = true ∨ s j = true) : cnt p n ≤ cnt q n + cnt s n := by
  induction n with
  | zero => exact Nat.le_refl _
  | succ n ih =>
    have a := ih (fun j hj => h j (by omega))
    have b := h n (by omega)
    rw [cnt_succ, cnt_succ, cnt_succ]
    by_cases hp : p n = true
    · rw [if_pos hp]
      rcases b hp with hq | hs
      · rw [if_pos hq]; omega
      · rw [if_pos hs]; omega
    · rw [if_neg hp]; omega
theorem cnt_compl {p q : Nat → Bool} {n : Nat} (h : ∀ j, j < n → p j = !q j) : cnt p n + cnt q n = n := by
  induction n with
  | zero => rfl
  | succ n ih =>
    have a := ih (fun j hj => h j (by omega))
    have b := h n (by omega)
    rw [cnt_succ, cnt_succ, b]
    cases q n <;> simp <;> omega
theorem cnt_split {p q s : Nat → Bool} {n : Nat} (h : ∀ j, j < n → p j = (q j || s j)) (d : ∀ j, j < n → ¬ (q j = true ∧ s j = true)) : cnt p n = cnt q n + cnt s n := by
  induction n with
  | zero => rfl
  | succ n ih =>
    have a := ih (fun j hj => h j (by omega)) (fun j hj => d j (by omega))
    have b := h n (by omega)
    have c := d n (by omega)
    rw [cnt_succ, cnt_succ, cnt_succ, b]
    cases hq : q n <;> cases hs : s n <;> simp_all <;> omega
def below (r : Nat → Int) (v : Int) (j : Nat) : Bool := decide (r j < v)
def upto (r : Nat → Int) (v : Int) (j : Nat) : Bool := decide (r j ≤ v)
/-- v stands at position k of the readings in order -/
def IsMed (r : Nat → Int) (m : Nat) (k v : Int) : Prop := (cnt (below r v) m : Int) ≤ k ∧ k < cnt (upto r v) m
theorem IsMed.uniq {r : Nat → Int} {m : Nat} {k v w : Int} (a : IsMed r m k v) (b : IsMed r m k w) : v = w := by
  have key : ∀ {v w : Int}, v < w → IsMed r m k v → IsMed r m k w → False := fun {v w} h a b => by
    have : cnt (upto r v) m ≤ cnt (below r w) m := cnt_mono fun j _ hj => by
      simp only [upto, below, decide_eq_true_eq] at hj ⊢; omega
    have := a.2
    have := b.1
    omega
  rcases Int.lt_trichotomy v w with h | h | h
  · exact (key h a b).elim
  · exact h
  · exact (key h b a).elim
def FirstFar (r : Nat → Int) (m : Nat) (v : Int) (at_ : Nat) : Prop :=
  at_ < m ∧ (∀ j, j < m → iabs (r j - v) ≤ iabs (r at_ - v)) ∧ ∀ j, j < at_ → iabs (r j - v) < iabs (r at_ - v)
theorem FirstFar.uniq {r : Nat → Int} {m : Nat} {v : Int} {i j : Nat} (a : FirstFar r m v i) (b : FirstFar r m v j) : i = j := by
  rcases Nat.lt_trichotomy i j with h | h | h
  · have := b.2.2 i h
    have := a.2.1 j b.1
    omega
  · exact h
  · have := a.2.2 j h
    have := b.2.1 i a.1
    omega
def gd (ds : List Gd) (j : Nat) : Gd := ds.getD j none
def Fair (ds : List Gd) (r : Nat → Int) (x : Int) : Prop := ∀ j sb sa, j < ds.length → gd ds j = some (sb, sa) → r j - sb ≤ x ∧ x ≤ r j + sa
theorem atS_map {ds : List Gd} {sign : Int} {j : Nat} : atS (ds.map (spanOf sign)) j = spanOf sign (gd ds j) := by
  unfold atS gd
  by_cases h : j < ds.length
  · simp [List.getD, h]
  · have h' : ds.length ≤ j := by omega
    simp [List.getD, h', spanOf]
theorem offs_near {l h y t : Int} (h1 : y + l ≤ t) (h2 : t ≤ y + h) : (offs (some (l, h)) y < 0 → t < 0) ∧ (0 < offs (some (l, h)) y → 0 < t) ∧ iabs (offs (some (l, h)) y) ≤ iabs t := by
  have e1 := iabs_cases (offs (some (l, h)) y)
  have e2 := iabs_cases t
  simp only [offs] at e1 ⊢
  split <;> (try split) <;> simp_all <;> omega
theorem offs_in {l h y : Int} (g : l ≤ h) : y + l ≤ offs (some (l, h)) y ∧ offs (some (l, h)) y ≤ y + h := by
  simp only [offs]
  split <;> (try split) <;> omega

section
variable {ds : List Gd} {at_ : Nat} {r : Nat → Int} {x v : Int}
/-- a case in which the gauge is the farthest one counts at its level, moved so that the answer is 0 -/
theorem case_feas (hat : at_ < ds.length) {sb0 sa0 : Int} (h0 : gd ds at_ = some (sb0, sa0)) (hf : Fair ds r x) (hm : IsMed r ds.length (((ds.length : Int) - 1) / 2) v) (hff : FirstFar r ds.length v at_) {sign : Int} (hs : sign = 1 ∨ sign = -1)
    (hpos : 0 < sign * (r at_ - v)) : Feas (ds.map (spanOf sign)) (placeOf ds.length sign) at_ (sign * (x - v)) ∧ iabs (r at_ - v) ≤ rch (ds.map (spanOf sign)) at_ (sign * (x - v)) := by
  have hlen : (ds.map (spanOf sign)).length = ds.length := by simp
  have near : ∀ j, j < ds.length → (rd (ds.map (spanOf sign)) (sign * (x - v)) j < 0 → sign * (r j - v) < 0) ∧ (0 < rd (ds.map (spanOf sign)) (sign * (x - v)) j → 0 < sign * (r j - v)) ∧
      iabs (rd (ds.map (spanOf sign)) (sign * (x - v)) j) ≤ iabs (r j - v) := fun j hj => by
    unfold rd
    rw [atS_map]
    cases e : gd ds j with
    | none => simp [spanOf, offs, iabs_of_nn, iabs_nn]
    | some p =>
      obtain ⟨sb, sa⟩ := p
      have := hf j sb sa hj e
      rcases hs with rfl | rfl
      · simp only [spanOf]
        rw [if_pos (by decide)]
        have q := offs_near (l := -sa) (h := sb) (y := 1 * (x - v)) (t := 1 * (r j - v)) (by omega) (by omega)
        rw [show 1 * (r j - v) = r j - v by omega] at q ⊢
        exact q
      · simp only [spanOf]
        rw [if_neg (by decide)]
        have q := offs_near (l := -sb) (h := sa) (y := -1 * (x - v)) (t := -1 * (r j - v)) (by omega) (by omega)
        rw [show -1 * (r j - v) = -(r j - v) by omega] at q ⊢
        rw [iabs_neg] at q
        exact q
  have hr : iabs (r at_ - v) ≤ rch (ds.map (spanOf sign)) at_ (sign * (x - v)) := by
    unfold rch
    rw [atS_map, h0]
    have := hf at_ sb0 sa0 hat h0
    have c := iabs_cases (r at_ - v)
    rcases hs with rfl | rfl
    · simp only [spanOf]
      rw [if_pos (by decide)]
      simp only [hiOf]; omega
    · simp only [spanOf]
      rw [if_neg (by decide)]
      simp only [hiOf]; omega
  refine ⟨⟨?_, fun j hj hn => ?_, ?_, ?_⟩, hr⟩
  · have c := iabs_cases (r at_ - v)
    rcases hs with rfl | rfl <;> omega
  · rw [hlen] at hj
    have a := (near j hj).2.2
    have b := hff.2.1 j hj
    unfold early
    by_cases h : j < at_
    · have := hff.2.2 j h
      rw [if_pos h]; omega
    · rw [if_neg h]; omega
  · rw [hlen]
    have a : cntL (rd (ds.map (spanOf sign)) (sign * (x - v))) at_ ds.length ≤ cnt (fun j => decide (sign * (r j - v) < 0)) ds.length := cnt_mono fun j hj h => by
      simp only [isL, Bool.and_eq_true, decide_eq_true_eq] at h ⊢
      exact (near j hj).1 h.2
    rcases hs with rfl | rfl
    · have b : cnt (fun j => decide (1 * (r j - v) < 0)) ds.length = cnt (below r v) ds.length := cnt_congr fun j _ => by
        unfold below; exact decide_eq_decide.mpr (by omega)
      have c := hm.1
      rw [show placeOf ds.length 1 = ((ds.length : Int) - 1) / 2 from if_pos (by decide)]
      omega
    · have b : cnt (fun j => decide (-1 * (r j - v) < 0)) ds.length + cnt (upto r v) ds.length = ds.length := cnt_compl fun j _ => by
        unfold upto
        rw [← decide_not]
        exact decide_eq_decide.mpr (by omega)
      have c := hm.2
      rw [show placeOf ds.length (-1) = (ds.length : Int) - 1 - ((ds.length : Int) - 1) / 2 from if_neg (by decide)]
      omega
  · rw [hlen]
    have a : cnt (fun j => decide (sign * (r j - v) ≤ 0)) ds.length ≤ cntL (rd (ds.map (spanOf sign)) (sign * (x - v))) at_ ds.length + cntZ (rd (ds.map (spanOf sign)) (sign * (x - v))) at_ ds.length := cnt_two fun j hj h => by
      simp only [isL, isZ, Bool.and_eq_true, decide_eq_true_eq] at h ⊢
      have hn : j ≠ at_ := fun e => by subst e; omega
      have := (near j hj).2.1
      have : ¬ 0 < rd (ds.map (spanOf sign)) (sign * (x - v)) j := fun q => by have := this q; omega
      rcases Int.lt_or_le (rd (ds.map (spanOf sign)) (sign * (x - v)) j) 0 with q | q
      · exact .inl ⟨hn, q⟩
      · exact .inr ⟨hn, by omega⟩
    rcases hs with rfl | rfl
    · have b : cnt (fun j => decide (1 * (r j - v) ≤ 0)) ds.length = cnt (upto r v) ds.length := cnt_congr fun j _ => by
        unfold upto; exact decide_eq_decide.mpr (by omega)
      have c := hm.2
      rw [show placeOf ds.length 1 = ((ds.length : Int) - 1) / 2 from if_pos (by decide)]
      omega
    · have b : cnt (fun j => decide (-1 * (r j - v) ≤ 0)) ds.length + cnt (below r v) ds.length = ds.length := cnt_compl fun j _ => by
        unfold below
        rw [← decide_not]
        exact decide_eq_decide.mpr (by omega)
      have c := hm.1
      rw [show placeOf ds.length (-1) = (ds.length : Int) - 1 - ((ds.length : Int) - 1) / 2 from if_neg (by decide)]
      omega
/-- no case reaches higher than a bounded reach -/
theorem case_up (g : ∀ d, d ∈ ds → GoodG d) (hat : at_ < ds.length) {sb0 sa0 : Int} (h0 : gd ds at_ = some (sb0, sa0)) (hf : Fair ds r x) (hm : IsMed r ds.length (((ds.length : Int) - 1) / 2) v) (hff : FirstFar r ds.length v at_)
    {d s : Int} {o : Option Int} (e : bestTop ds at_ = (d, true, s, o)) : iabs (r at_ - v) ≤ d := by
  have hn : 0 ≤ d := by have := bestTop_nn (ds := ds) (at_ := at_); rw [e] at this; exact this
  have c := iabs_cases (r at_ - v)
  by_cases h1 : 0 < r at_ - v
  · have q := case_feas hat h0 hf hm hff (sign := 1) (.inl rfl) (by omega)
    have := bestTop_up g e (.inl rfl) q.1
    omega
  · by_cases h2 : r at_ - v < 0
    · have q := case_feas hat h0 hf hm hff (sign := -1) (.inr rfl) (by omega)
      have := bestTop_up g e (.inr rfl) q.1
      omega
    · omega
/-- the readings that drop_case gives -/
def caseR (ds : List Gd) (at_ : Nat) (sign l : Int) (j : Nat) : Int := if j = at_ then sign * rch (ds.map (spanOf sign)) at_ l else sign * rd (ds.map (spanOf sign)) l j
theorem case_down (g : ∀ d, d ∈ ds → GoodG d) (hat : at_ < ds.length) {sign l : Int} (hs : sign = 1 ∨ sign = -1) (F : Feas (ds.map (spanOf sign)) (placeOf ds.length sign) at_ l) :
    Fair ds (caseR ds at_ sign l) (sign * l) ∧ IsMed (caseR ds at_ sign l) ds.length (((ds.length : Int) - 1) / 2) 0 ∧ FirstFar (caseR ds at_ sign l) ds.length 0 at_ ∧ iabs (caseR ds at_ sign l at_ - 0) = rch (ds.map (spanOf sign)) at_ l := by
  have hlen : (ds.map (spanOf sign)).length = ds.length := by simp
  have Fp := F.pos
  have ssq : sign * sign = 1 := by rcases hs with rfl | rfl <;> rfl
  have eat : caseR ds at_ sign l at_ = sign * rch (ds.map (spanOf sign)) at_ l := if_pos rfl
  have ene : ∀ j, j ≠ at_ → caseR ds at_ sign l j = sign * rd (ds.map (spanOf sign)) l j := fun j h => if_neg h
  have habs : iabs (caseR ds at_ sign l at_ - 0) = rch (ds.map (spanOf sign)) at_ l := by
    rw [eat]
    rcases hs with rfl | rfl
    · rw [iabs_of_nn (by omega)]; omega
    · rw [show -1 * rch (ds.map (spanOf (-1))) at_ l - 0 = -(rch (ds.map (spanOf (-1))) at_ l) by omega, iabs_neg, iabs_of_nn (by omega)]
  have hL := F.lo
  have hH := F.hi
  rw [hlen] at hL hH
  have eL : cnt (fun j => decide (sign * caseR ds at_ sign l j < 0)) ds.length = cntL (rd (ds.map (spanOf sign)) l) at_ ds.length := cnt_congr fun j _ => by
    unfold isL
    by_cases h : j = at_
    · subst h
      rw [eat, ← Int.mul_assoc, ssq]
      simp; omega
    · rw [ene j h, ← Int.mul_assoc, ssq, Int.one_mul]
      simp [h]
  have eLZ : cnt (fun j => decide (sign * caseR ds at_ sign l j ≤ 0)) ds.length = cntL (rd (ds.map (spanOf sign)) l) at_ ds.length + cntZ (rd (ds.map (spanOf sign)) l) at_ ds.length := by
    unfold cntL cntZ
    refine cnt_split (fun j _ => ?_) fun j _ => ?_
    · unfold isL isZ
      by_cases h : j = at_
      · subst h
        rw [eat, ← Int.mul_assoc, ssq]
        simp; omega
      · rw [ene j h, ← Int.mul_assoc, ssq, Int.one_mul]
        rw [show decide (j ≠ at_) = true from decide_eq_true h, Bool.true_and, Bool.true_and, ← Bool.decide_or]
        exact decide_eq_decide.mpr (by omega)
    · unfold isL isZ
      simp only [Bool.and_eq_true, decide_eq_true_eq]
      omega
  refine ⟨fun j sb sa hj e => ?_, ?_, ⟨hat, fun j hj => ?_, fun j hj => ?_⟩, habs⟩
  · have gj : GoodG (some (sb, sa)) := by
      have : gd ds j ∈ ds := by
        unfold gd
        rw [List.getD, List.getElem?_eq_getElem hj]
        exact List.getElem_mem hj
      rw [e] at this
      exact g _ this
    obtain ⟨g1, g2⟩ := gj
    by_cases h : j = at_
    · subst h
      rw [eat]
      unfold rch
      rw [atS_map, e]
      rcases hs with rfl | rfl
      · simp only [spanOf]
        rw [if_pos (by decide)]
        simp only [hiOf]; omega
      · simp only [spanOf]
        rw [if_neg (by decide)]
        simp only [hiOf]; omega
    · rw [ene j h]
      unfold rd
      rw [atS_map, e]
      rcases hs with rfl | rfl
      · simp only [spanOf]
        rw [if_pos (by decide)]
        have := offs_in (l := -sa) (h := sb) (y := l) (by omega)
        omega
      · simp only [spanOf]
        rw [if_neg (by decide)]
        have := offs_in (l := -sb) (h := sa) (y := l) (by omega)
        omega
  · unfold IsMed
    rcases hs with rfl | rfl
    · rw [show placeOf ds.length 1 = ((ds.length : Int) - 1) / 2 from if_pos (by decide)] at hL hH
      have a : cnt (below (caseR ds at_ 1 l) 0) ds.length = cnt (fun j => decide (1 * caseR ds at_ 1 l j < 0)) ds.length := cnt_congr fun j _ => by
        unfold below; exact decide_eq_decide.mpr (by omega)
      have b : cnt (upto (caseR ds at_ 1 l) 0) ds.length = cnt (fun j => decide (1 * caseR ds at_ 1 l j ≤ 0)) ds.length := cnt_congr fun j _ => by
        unfold upto; exact decide_eq_decide.mpr (by omega)
      omega
    · rw [show placeOf ds.length (-1) = (ds.length : Int) - 1 - ((ds.length : Int) - 1) / 2 from if_neg (by decide)] at hL hH
      have a : cnt (below (caseR ds at_ (-1) l) 0) ds.length + cnt (fun j => decide (-1 * caseR ds at_ (-1) l j ≤ 0)) ds.length = ds.length := cnt_compl fun j _ => by
        unfold below
        rw [← decide_not]
        exact decide_eq_decide.mpr (by omega)
      have b : cnt (upto (caseR ds at_ (-1) l) 0) ds.length + cnt (fun j => decide (-1 * caseR ds at_ (-1) l j < 0)) ds.length = ds.length := cnt_compl fun j _ => by
        unfold upto
        rw [← decide_not]
        exact decide_eq_decide.mpr (by omega)
      omega
  · rw [habs]
    by_cases h : j = at_
    · subst h; rw [habs]; exact Int.le_refl _
    · have a := F.ok j (by rw [hlen]; exact hj) h
      have he : 0 ≤ early j at_ := by unfold early; split <;> omega
      rw [ene j h]
      rcases hs with rfl | rfl
      · rw [show 1 * rd (ds.map (spanOf 1)) l j - 0 = rd (ds.map (spanOf 1)) l j by omega]; omega
      · rw [show -1 * rd (ds.map (spanOf (-1))) l j - 0 = -(rd (ds.map (spanOf (-1))) l j) by omega, iabs_neg]; omega
  · rw [habs]
    have h : j ≠ at_ := by omega
    have a := F.ok j (by rw [hlen]; omega) h
    have he : early j at_ = 1 := if_pos hj
    rw [ene j h]
    rcases hs with rfl | rfl
    · rw [show 1 * rd (ds.map (spanOf 1)) l j - 0 = rd (ds.map (spanOf 1)) l j by omega]; omega
    · rw [show -1 * rd (ds.map (spanOf (-1))) l j - 0 = -(rd (ds.map (spanOf (-1))) l j) by omega, iabs_neg]; omega
end
/-! ### a sorted list's item is the median -/
theorem sorted_low {l : List Int} (hs : l.Pairwise (· ≤ ·)) {k : Nat} {v : Int} (h : l[k]? = some v) : l.countP (fun z => decide (z < v)) ≤ k ∧ k < l.countP (fun z => decide (z ≤ v)) := by
  induction l generalizing k with
  | nil => simp at h
  | cons a t ih =>
    obtain ⟨h1, h2⟩ := List.pairwise_cons.mp hs
    cases k with
    | zero =>
      simp at h
      subst h
      refine ⟨?_, ?_⟩
      · have : (a :: t).countP (fun z => decide (z < a)) = 0 := List.countP_eq_zero.mpr fun z hz => by
          rcases List.mem_cons.mp hz with rfl | hz
          · simp
          · have := h1 z hz; simp; omega
        omega
      · rw [List.countP_cons]; simp
    | succ k =>
      have e : t[k]? = some v := by simpa using h
      have hm := List.mem_of_getElem? e
      have hav := h1 v hm
      have := ih h2 e
      rw [List.countP_cons, List.countP_cons, if_pos (show decide (a ≤ v) = true by simpa using hav)]
      refine ⟨?_, by omega⟩
      split <;> omega
theorem cnt_map (r : Nat → Int) (p : Int → Bool) (m : Nat) : ((List.range m).map r).countP p = cnt (fun j => p (r j)) m := by
  unfold cnt
  rw [List.countP_map]
  rfl
theorem med_of_sorted {r : Nat → Int} {m k : Nat} {v : Int} {l ns : List Int} (hl : l = (List.range m).map r) (hp : ns.Perm l) (hs : ns.Pairwise (· ≤ ·)) (h : ns[k]? = some v) : IsMed r m (k : Int) v := by
  have a := sorted_low hs h
  rw [hp.countP_eq, hp.countP_eq, hl, cnt_map, cnt_map] at a
  unfold IsMed
  have e1 : cnt (below r v) m = cnt (fun j => decide (r j < v)) m := rfl
  have e2 : cnt (upto r v) m = cnt (fun j => decide (r j ≤ v)) m := rfl
  omega
end GM

set_option Elab.async false
set_option linter.all false
set_option maxRecDepth 100000
set_option maxHeartbeats 4000000
/-! Rules of my own beside the hand layer: methods that say super(), a property's setter, a def read off its class and called. -/
namespace GR
open PySem PySem.Spec PyProof.Rows L2

/-! ### a method that closes over its class -/
theorem rev_none {x : Str} : ∀ {ps : List Str} {us : List Value}, x ∉ ps → (ps.zip us).reverse.lookup x = none
  | [], _, _ => rfl
  | _ :: _, [], _ => rfl
  | p :: ps, w :: us, h => by
    rw [List.zip_cons_cons, List.reverse_cons, List.lookup_append, rev_none (fun q => h (List.mem_cons_of_mem _ q))]
    have e : (x == p) = false := by
      rw [beq_eq_false_iff_ne]
      rintro rfl
      exact h List.mem_cons_self
    simp [List.lookup, e]
theorem rev_get {x : Str} {u : Value} : ∀ {ps : List Str} {us : List Value} {i : Nat}, ps.Nodup → ps[i]? = some x → us[i]? = some u → (ps.zip us).reverse.lookup x = some u
  | [], _, _, _, h, _ => by simp at h
  | _ :: _, [], _, _, _, h => by simp at h
  | p :: ps, w :: us, 0, nd, h1, h2 => by
    simp at h1 h2
    subst h1
    subst h2
    rw [List.zip_cons_cons, List.reverse_cons, List.lookup_append, rev_none (List.nodup_cons.mp nd).1]
    simp [List.lookup]
  | p :: ps, w :: us, i + 1, nd, h1, h2 => by
    rw [List.zip_cons_cons, List.reverse_cons, List.lookup_append, rev_get (i := i) (List.nodup_cons.mp nd).2 (by simpa using h1) (by simpa using h2)]
    rfl

/-- names: the parameters first; no cell; the one free name is __class__ -/
structure FnScopeS (N P : List Str) (sc : Scope) : Prop where
  kind : sc.kind = .function
  co : sc.isCoroutine = false
  gen : sc.isGenerator = false
  nd : N.Nodup
  pre : N.take P.length = P
  par : ∀ x ∈ P, sc.names.lookup x = some .local
  nocell : ∀ y ∈ sc.names, y.2 ≠ .cell
  free : ∀ y ∈ sc.names, y.2 = .free → y.1 = ("__class__" : Str)

/-- a method as the top has made it: its cell cc holds its class D -/
structure FunS (P : Program) (K : PySem.W.Frag) (x qual : Str) (st : Stmt) (f cc D : Addr) (fd : FuncData) : Prop where
  ex : ∃ (oc : Value) (od : Option Addr) (kV doc pm : Value) (an : Option Addr) (cdv ct : Value) (osl : Array (Option Value)),
    fd = PySem.W.ksFn x qual (defArgs st) (defBody st) (defScope st) .none kV doc pm an cdv ct cc ∧ K.lookup f = some ⟨oc, od, .func fd, osl⟩ ∧ PySem.W.codeIn K cdv qual = true ∧
    ∃ (cda : Addr) (ccl : Value) (cdd : Option Addr) (vs : Array Value) (ccs : Array (Option Value)) (file : Str) (tf : Tok), cdv = .ref cda ∧ K.lookup cda = some ⟨ccl, cdd, .fields vs, ccs⟩ ∧ vs[2]? = some (.str file tf) ∧ ((P.main.file : Str) == file) = true
  cell : ∃ (cl : Value) (cld : Option Addr) (csl : Array (Option Value)), K.lookup cc = some ⟨cl, cld, .cell (some (.ref D)), csl⟩
  cls : ∃ cd, PySem.W.clsIn K D = some cd
  kp : PySem.W.keepIn K (.ref f) = true

abbrev envS (qual : Str) (scope : Scope) (L f : Addr) (cd : Value) (cc : Addr) : Env := PySem.W.ksEnv qual scope L f cd cc

/-- the context of such a method's body -/
def cxS (CX : CXT) (P : Program) (w : World) (K : PySem.W.Frag) (mg : Str → Option Value) (base : Heap) (N : List Str) (qual : Str) (scope : Scope) (f cc : Addr) (cd : Value) (A : Around) (outer : List Env) (s : Shared) (H : Hp) (E : XK) : Cx where
  prog := P
  w := w
  K := K
  mg := mg
  base := base
  A := A.deeper (envS qual scope s.heap.objs.size f cd cc)
  N := N
  s_0 := s
  H_0 := H
  env := envS qual scope s.heap.objs.size f cd cc
  outer := outer
  stack := envS qual scope s.heap.objs.size f cd cc :: outer
  ex := []
  calm := true
  fn := fun _ => false
  pn := []
  xe := fun e s' => wpAny (model P w) (A.deeper (envS qual scope s.heap.objs.size f cd cc)) (leaving (envS qual scope s.heap.objs.size f cd cc) e) (fun _ s'' => CX outer H s E e s'') (fun e' s'' => CX outer H s E e' s'') s'

section
variable {CX : CXT} {P : Program} {w : World} {K : PySem.W.Frag} {mg : Str → Option Value} {base : Heap} {N ps : List Str} {qual x : Str} {st : Stmt} {scope : Scope} {f cc D : Addr} {cd : Value} {A : Around} {outer : List Env} {s : Shared} {H : Hp} {E : XK} {us : List Value} {vs : List V} {fd : FuncData} {k : Nat} {sp : Sp}
theorem inv_startS (S : FnScopeS N ps scope) (hd : A.handled = none) (e0 : Env0 P w K mg base A outer s H) (hl : vs.length = ps.length) (r : Vals vs us)
    (hcc : ∃ o v, base.get? cc = some o ∧ o.data = .cell v) {h1 : Heap} {tk : Nat}
    (ns : h1.Ns s.heap.objs.size fun y => (ps.zip us).reverse.lookup y) (hk : ∀ b o, s.heap.get? b = some o → h1.get? b = some o) :
    Inv (cxS CX P w K mg base N qual scope f cc cd A outer s H E) [] (L2.start N vs) H { s with heap := h1, toks := tk } := by
  have hpl : ps.length ≤ N.length := by have := congrArg List.length S.pre; rw [List.length_take] at this; omega
  have ndP : ps.Nodup := by rw [← S.pre]; exact S.nd.sublist (List.take_sublist _ _)
  have noA : ∀ b : Addr, b ∉ (cxS CX P w K mg base N qual scope f cc cd A outer s H E).ex := fun b z => absurd (show b ∈ ([] : List Addr) from z) (by simp)
  have cl : ∀ {y : Str} {c : Addr}, ([(("__class__" : Str), cc)] : List (Str × Addr)).lookup y = some c → y = "__class__" ∧ c = cc := fun {y c} h => by
    by_cases e : y = ("__class__" : Str)
    · subst e
      simp [List.lookup] at h
      exact ⟨rfl, h.symm⟩
    · have e2 : (y == ("__class__" : Str)) = false := by rw [beq_eq_false_iff_ne]; exact e
      simp [List.lookup, e2] at h
  obtain ⟨oc, vc, hoc, hvc⟩ := hcc
  refine ⟨⟨e0.mod, S.kind, rfl, rfl, Nat.le_refl _, fun y z c h1 h2 => ?_, fun y hy => ?_, fun y c hf _ => ?_, fun _ => hd, Around.frames_deeper e0.frames, .inr ⟨rfl, rfl⟩, fun b z => absurd z (noA b), e0.bs, e0.bsz, fun b _ _ => noA b, fun b z => absurd z (noA b), e0.funs, e0.frf⟩,
    rfl, e0.bare, Un.kept hk, ⟨_, ns, fun i y v h1 h2 h3 => ?_⟩, fun y c h => ?_, e0.hok.fresh (Nat.le_refl _), fun y c h => ?_, fun p hp => absurd (show p ∈ ([] : List (Addr × Obj)) from hp) (by simp), e0.hok.kept hk, ?_⟩
  · exact (cl h1).1.trans (cl h2).1.symm
  · have hy : scope.names.lookup y = some .cell ∨ scope.names.lookup y = some .free := hy
    rcases hy with hy | hy
    · exact absurd rfl (S.nocell _ (PySem.mem_of_lookup hy))
    · have e : y = ("__class__" : Str) := S.free _ (PySem.mem_of_lookup hy) rfl
      subst e
      exact ⟨cc, by show ([(("__class__" : Str), cc)] : List (Str × Addr)).lookup ("__class__" : Str) = some cc; simp [List.lookup]⟩
  · exact absurd hf Bool.false_ne_true
  · have hi : i < vs.length := by
      unfold L2.start at h2
      by_cases hi : i < vs.length
      · exact hi
      · rw [List.getElem?_append_right (by simpa using hi)] at h2
        rw [List.getElem?_replicate] at h2
        split at h2 <;> cases h2
    have ha : vs[i]? = some v := by
      unfold L2.start at h2
      rw [List.getElem?_append_left (by simpa using hi), List.getElem?_map] at h2
      cases e : vs[i]? with
      | none => rw [e] at h2; cases h2
      | some a => rw [e] at h2; cases h2; rfl
    obtain ⟨u, hu, rv⟩ := r.get ha
    have hp : ps[i]? = some y := by
      rw [← S.pre, List.getElem?_take_of_lt (by omega)]; exact h1
    exact ⟨u, rv, .inl ⟨S.par y (List.mem_of_getElem? hp), rev_get ndP hp hu⟩⟩
  · obtain ⟨_, rfl⟩ := cl h
    exact ⟨_, oc, hk _ _ (e0.bs _ _ hoc).1, hvc⟩
  · obtain ⟨_, rfl⟩ := cl h
    exact (e0.bs _ _ hoc).2
  · unfold L2.start
    show _ = N.length
    rw [List.length_append, List.length_map, List.length_replicate]
    omega

/-- THE RULE for a method with __class__: its body is walked knowing whose activation runs -/
theorem fn_ofS (F : FunS P K x qual st f cc D fd) (S : FnScopeS N ps (defScope st)) (len : ∀ vs H Q E, sp vs H Q E → vs.length = ps.length)
    (hbody : ∀ (cdv : Value) (A : Around) (outer : List Env) (s : Shared) (H : Hp) (vs : List V) (Q : VK) (E : XK), fd.code = cdv → Room k (A.deeper (envS qual (defScope st) s.heap.objs.size f cdv cc)) → sp vs H Q E →
      ∀ s1, Inv (cxS CX P w K mg base N qual (defScope st) f cc cdv A outer s H E) [] (L2.start N vs) H s1 →
        PySem.wpAt (model P w) (A.deeper (envS qual (defScope st) s.heap.objs.size f cdv cc)) (.func (defBody st) (envS qual (defScope st) s.heap.objs.size f cdv cc)) (execs (defBody st) (envS qual (defScope st) s.heap.objs.size f cdv cc))
          (SP (cxS CX P w K mg base N qual (defScope st) f cc cdv A outer s H E) [] { nx := fun _ H' => Q .non H', rt := Q }) (cxS CX P w K mg base N qual (defScope st) f cc cdv A outer s H E).xe s1) :
    FnOk P w K mg base CX (k + 1) f fd ps sp := by
  obtain ⟨oc, od, kV, doc, pm, an, cdv, ct, osl, rfl, lk, hcd, _⟩ := F.ex
  obtain ⟨cl, cld, csl, lcc⟩ := F.cell
  refine ⟨len, fun A outer s H args us vs Q E hr e0 hb r hsp => ?_⟩
  have hl := len _ _ _ _ hsp
  have KX : K.In s.heap := e0.mod.kin.keeps fun b o e => (e0.bs b o e).1
  have lim : s.heap.NoLimit := e0.mod.nolimit.keeps fun b o e => (e0.bs b o e).1
  refine PySem.ks_codeAny_call_defAt (fd := PySem.W.ksFn x qual (defArgs st) (defBody st) (defScope st) .none kV doc pm an cdv ct cc) (body := defBody st) (binds := ps.zip us) hr.depth (KX _ _ lk) rfl lim (PySem.W.codeRec_of KX hcd) rfl hb S.nocell (fun y hy => S.par y.1 (List.of_mem_zip (show (y.1, y.2) ∈ ps.zip us from hy)).1) (fun h₁ hns hk₁ => ?_) S.co S.gen S.kind
  have I : Inv (cxS CX P w K mg base N qual (defScope st) f cc cdv A outer s H E) [] (L2.start N vs) H { s with heap := h₁, toks := s.toks + (ps.zip us).length } :=
    inv_startS S hr.hd e0 hl r ⟨_, _, e0.mod.kin _ _ lcc, rfl⟩ hns hk₁
  refine PySem.ks_wpAt_mono (hbody cdv A outer s H vs Q E rfl (hr.deeper _) hsp _ I) (fun fl s' hs => ?_) fun e s' hs => hs
  have fin : ∀ {σ' : L2.St} {H' : Hp} {v : V} {u : Value}, Inv (cxS CX P w K mg base N qual (defScope st) f cc cdv A outer s H E) [] σ' H' s' → RelV v u → Q v H' → CE outer P w H s Q u s' :=
    fun {σ' H' v u} J rv q => ⟨v, H', J.os, J.bare, J.base, J.hok, rv, q⟩
  cases fl with
  | ret u =>
    obtain ⟨v, σ', H', J, rv, q⟩ := hs
    exact fin J rv q
  | next =>
    obtain ⟨σ', H', J, q⟩ := hs
    exact fin (v := V.non) (u := Value.none) J rfl q
  | brk =>
    obtain ⟨_, _, _, q⟩ := hs
    exact False.elim q
  | cont =>
    obtain ⟨_, _, _, q⟩ := hs
    exact False.elim q
end

/-! ### an expression, a statement, knowing whose activation runs -/
structure PEA (X : Cx) (body : List Stmt) (e : Expr) (t : TE) : Prop where
  run : ∀ (pins : List (Addr × Obj)) (s : Shared) (σ : L2.St) (H : Hp) (Q : VK), Inv X pins σ H s → t σ H Q → PySem.wpAt (model X.prog X.w) X.A (.func body X.env) (eval e X.env) (EP X pins σ Q) X.xe s
structure PSsA (X : Cx) (body : List Stmt) (st : List Stmt) (t : TS) : Prop where
  run : ∀ (pins : List (Addr × Obj)) (s : Shared) (σ : L2.St) (H : Hp) (D : Ends), Inv X pins σ H s → t D σ H → PySem.wpAt (model X.prog X.w) X.A (.func body X.env) (execs st X.env) (SP X pins D) X.xe s
section
variable {X : Cx} {body : List Stmt} {e a b : Expr} {t ta tb : TE} {pos : Pos} {rest : List Stmt} {u : TS} {op : Operator} {r : R2}
theorem pea_op (ho : OpR X (binaryOp op) r) (ha : PEA X body a ta) (hb : PE X b tb) : PEA X body (.BinOp a op b pos) (tOp r ta tb) := by
  refine ⟨fun pins s σ H Q I h => ?_⟩
  refine PySem.ks_wpAt_BinOp (PySem.ks_wpAt_mono (ha.run pins s σ H _ I h) (fun v s1 ⟨x, H1, I1, r1, q1⟩ => ?_) fun _ _ z => z)
  exact thn (hb.run pins s1 σ H1 _ I1 q1) fun u s2 ⟨y, H2, I2, r2, q2⟩ => ho pins s2 σ H2 x y v u Q I2 r1 r2 q2
/-- return e -/
theorem pssa_ret (h : PEA X body e t) : PSsA X body [.Return (some e) pos] (tRet t) := by
  refine ⟨fun pins s σ H D I hw => ?_⟩
  refine PySem.ks_wpAt_execs_cons (PySem.ks_wpAt_Return_some (PySem.ks_wpAt_mono (h.run pins s σ H _ I hw) (fun v s1 ⟨x, H1, I1, r1, q1⟩ => ?_) fun _ _ z => z))
  exact ⟨x, σ, H1, I1, r1, q1⟩
/-- e; then what follows, by the layer's own rules -/
theorem pssa_expr (h : PEA X body e t) (hr : PSs X rest u) (hi : interactive X.env = false := by rfl) (hs : swapsWith e none pos.line X.env = pure false := by rfl) : PSsA X body (.Expr e pos :: rest) (tSeq (tDrop t) u) := by
  refine ⟨fun pins s σ H D I hw => ?_⟩
  refine PySem.ks_wpAt_execs_cons (PySem.ks_wpAt_Expr_any (PySem.ks_wpAt_mono (h.run pins s σ H _ I hw) (fun v s1 ⟨x, H1, I1, r1, q1⟩ => ?_) fun _ _ z => z) hi hs)
  exact PySem.wpAt_of_wpAny (hr.run pins s1 σ H1 D I1 q1)
end

/-! ### super() -/
/-- what the text tells of super() in the body at hand: slf stands in slot 0, the cell holds D -/
structure SupOk (X : Cx) (P : Program) (x qual : Str) (st : Stmt) (f cc D : Addr) (fd : FuncData) (slf : Str) : Prop where
  prog : X.prog = P
  fn : FunS P X.K x qual st f cc D fd
  scope : X.env.scope = defScope st
  func : X.env.func = some f
  cells : X.env.cells = [(("__class__" : Str), cc)]
  code : ∀ fd', fd = fd' → X.env.code = fd'.code
  ks : (defScope st).names.lookup ("super" : Str) = some .globalImplicit
  kc : (defScope st).names.lookup ("__class__" : Str) = some .free
  kself : (defScope st).names.lookup slf = some .local
  arg : ∃ ar : Arg, ((defArgs st).posonlyargs ++ (defArgs st).args).head? = some ar ∧ ar.arg = slf
  slot : X.N[0]? = some slf
  top : (P.main.scope.names.lookup ("super" : Str)).isSome = false
  mg : X.mg "super" = none

section
variable {X : Cx} {P : Program} {x qual slf m : Str} {st : Stmt} {f cc D : Addr} {fd : FuncData} {body : List Stmt} {p0 p1 apos pos : Pos} {pins : List (Addr × Obj)} {σ : L2.St} {H : Hp} {s : Shared}
theorem boot_super : bootBuiltins "super" = some (.type "super") := by first | rfl | kernel_rfl | decide +kernel
/-- the super object laid -/
theorem sup_base (O : SupOk X P x qual st f cc D fd slf) (I : Inv X pins σ H s) {a C : Addr} {oa : Obj} (hs : σ[0]? = some (some (.ref a))) (ha : s.heap.get? a = some oa) (hac : oa.cls = .ref C) (hna : ∀ c, oa.data ≠ .cls c) (hsub : PySem.W.mroIn X.K C (.ref D) = some true) {attr : Str} (hat : (attr == ("__class__" : Str)) = false) {whole : Sem Value} {Q : Value → Shared → Prop}
    (h : ∀ h', h'.get? s.heap.objs.size = some (PySem.W.ks_superObj D a C) → (∀ y o, s.heap.get? y = some o → h'.get? y = some o) → Inv X pins σ H { s with heap := h' } → Q (.ref s.heap.objs.size) { s with heap := h' }) :
    PySem.wpAt (model X.prog X.w) X.A (.func body X.env) (attributeBase (.Call (.Name "super" p0) [] [] p1) attr X.env whole) Q X.xe s := by
  obtain ⟨oc, od, kV, doc, pm, an, cdv, ct, osl, efd, lk, hcd, cda, ccl, cdd, vs, ccs, file, tf, ecd, lcd, hvs, hfile⟩ := O.fn.ex
  obtain ⟨cl, cld, csl, lcc⟩ := O.fn.cell
  obtain ⟨cdD, hcD⟩ := O.fn.cls
  obtain ⟨ar, har, ears⟩ := O.arg
  have KX := I.kIn
  have hcode : X.env.code = .ref cda := by rw [O.code fd rfl, efd]; exact ecd
  obtain ⟨mL, hn, hl⟩ := I.loc
  obtain ⟨u, ru, lu⟩ := hl 0 slf (.ref a) O.slot hs (by unfold Vis; rw [O.scope]; exact .inl O.kself)
  obtain rfl : u = Value.ref a := ru
  have hself : mL slf = some (.ref a) := by
    rcases lu with ⟨_, e⟩ | ⟨k, _⟩
    · exact e
    · have k' : (X.env.scope.names.lookup slf = some .cell) ∨ (X.env.scope.names.lookup slf = some .free) := k
      rw [O.scope, O.kself] at k'
      rcases k' with k' | k' <;> cases k'
  obtain ⟨oD, hD1, hD2⟩ : ∃ oD, s.heap.get? D = some oD ∧ oD.data = .cls cdD := by
    unfold PySem.W.clsIn at hcD
    split at hcD
    · rename_i c d cd' sl ho
      cases hcD
      exact ⟨_, KX _ _ ho, rfl⟩
    · cases hcD
  have I0 := I
  obtain ⟨hh, g, d, t, os⟩ := s
  have kks : X.env.kindOf "super" = some .globalImplicit := by show X.env.scope.names.lookup _ = _; rw [O.scope]; exact O.ks
  have kkc : X.env.kindOf "__class__" = some .free := by show X.env.scope.names.lookup _ = _; rw [O.scope]; exact O.kc
  have kself : X.env.kindOf slf = some .local := by show X.env.scope.names.lookup _ = _; rw [O.scope]; exact O.kself
  refine PySem.ks_wpAt_super_base (ar := ar) kks kkc hat O.func (KX _ _ lk) rfl (by rw [efd]; exact har) hcode (KX _ _ lcd) rfl hvs (by rw [O.prog]; exact hfile) (by rw [O.prog]; exact O.top) ?_
  obtain ⟨mb, b1, b2⟩ := I.mod.blt
  refine PySem.W.ks_loadName_global I.ok.kind kks (Calls.loadGlobal_builtin (by rw [I.ok.glob]; exact I.mod.glob.keeps I.bk) O.mg (by rw [I.ok.blt]; exact b1.keeps I.bk) ((b2 _ (by decide)).trans boot_super) ⟨rfl, ?_⟩)
  refine wpAny_loadName_free I.ok.kind kkc (c := cc) (v := .ref D) (by rw [O.cells]; simp [List.lookup]) ⟨_, KX _ _ lcc, rfl⟩ ?_
  rw [ears]
  refine wpAny_loadName_local I.ok.kind kself hn hself ?_
  refine PySem.ks_wpAny_isType_cls hD1 hD2 ⟨rfl, ?_⟩
  exact PySem.ks_wpAny_call_super hD1 hD2 ha hac hna (PySem.W.looks_mroIn KX hsub) fun h' e k => h h' e k (I0.kept (t' := t) k)

/-- super().m(..), m found as an own def: T tells, by slf's class, which def and its promise -/
def tSup (T : Addr → Addr → Sp → Prop) (E : XK) (t : TA) : TE := fun σ H Q => ∃ a dx fs C g sp, σ[0]? = some (some (.ref a)) ∧ H a = some (.ins C dx fs) ∧ T C g sp ∧ t σ H fun vs H1 => sp (.ref a :: vs) H1 Q E
structure SupT (X : Cx) (CX : CXT) (k : Nat) (D : Addr) (m : Str) (T : Addr → Addr → Sp → Prop) : Prop where
  at_ : ∀ C g sp, T C g sp → PySem.W.ks_superIn X.K C D m = some (some (.ref g)) ∧ PySem.W.mroIn X.K C (.ref D) = some true ∧ PySem.W.typeIn X.K (.ref g) = some (.type "function") ∧ PySem.W.fnIn X.K g = true
  ok : ∀ C g sp, T C g sp → FnR X.prog X.w X.K X.mg X.base CX k g sp
  ops : PySem.W.nsIn X.K PySem.cStatics "thirdparty.any" = some none
variable {CX : CXT} {k : Nat} {T : Addr → Addr → Sp → Prop} {E : XK} {e : Expr} {es : List Expr} {t : TA}
theorem sup_meth {a C dx g : Addr} {fs : List (Str × V)} {h' : Heap} {so : Addr} {tk : Nat} {pl : Sem Bool} {Q : Value × List Value → Shared → Prop} (I : Inv X pins σ H { s with heap := h', toks := tk }) (ea : H a = some (.ins C dx fs)) (hso : h'.get? so = some (PySem.W.ks_superObj D a C))
    (hm : PySem.W.ks_superIn X.K C D m = some (some (.ref g))) (ht : PySem.W.typeIn X.K (.ref g) = some (.type "function")) (ho : PySem.W.nsIn X.K PySem.cStatics "thirdparty.any" = some none) (hn : (m == ("__class__" : Str)) = false)
    (h : ∀ s', Inv X ((h'.objs.size, PySem.W.methodObj (.ref g) (.ref a)) :: pins) σ H s' → Q (.ref h'.objs.size, []) s') : wpAny (model X.prog X.w) X.A (getMethod (.ref so) m pl) Q X.xe { s with heap := h', toks := tk } := by
  have KX : X.K.In h' := I.kIn
  have hm0 := hm
  unfold PySem.W.ks_superIn at hm
  cases hc : PySem.W.clsIn X.K C with
  | none => rw [hc] at hm; cases hm
  | some cd =>
    rw [hc] at hm
    obtain ⟨of, hof, hofc⟩ : ∃ of, h'.get? g = some of ∧ of.cls = .type "function" := by
      have ht' : (X.K.lookup g).map (·.cls) = some (.type "function") := ht
      cases z : X.K.lookup g with
      | none => rw [z] at ht'; cases ht'
      | some of => rw [z] at ht'; exact ⟨of, KX _ _ z, Option.some.inj ht'⟩
    obtain ⟨mA, O, _⟩ := ins_get I.hok ea
    obtain ⟨oda, J, _⟩ := O.look
    refine PySem.ks_wpAny_getMethod_super hso (PySem.W.looks_opaque KX ho) (l₀ := cd.mro) ?_ rfl KX hm hof hofc (PySem.W.ks_ne KX J hc) hn ?_
    · exact fun A Q E s k q => wpAny_bind ((PySem.W.looks_clsIn KX hc) A _ E s k (wpAny_pure q))
    · exact h _ (ClX.pin_new (s := { s with heap := h', toks := tk }) I (fun _ _ z => Heap.get?_push_of_some _ z) (Nat.le_refl _) (Heap.get?_push_size h' rfl) fun v z => nomatch z)
theorem pea_sup (O : SupOk X P x qual st f cc D fd slf) (TT : SupT X CX k D m T) (hr : Room k X.A) (hx : Passes CX X E) (ha : PA X (e :: es) t) (hat : (m == ("__class__" : Str)) = false := by decide) {pl : Sem Bool}
    (he : eval (.Call (.Attribute (.Call (.Name "super" p0) [] [] p1) m apos) (e :: es) [] pos) X.env = (do
      let ov ← attributeBase (.Call (.Name "super" p0) [] [] p1) m X.env (eval (.Call (.Name "super" p0) [] [] p1) X.env)
      standAt apos.atName
      let (f, first) ← holding [ov] (getMethod ov m pl)
      callWith pos f first (backTo pos (starEach (e :: es) X.env)) []) := by rfl)
    (hst : starEach (e :: es) X.env = (false, eval e X.env) :: starEach es X.env := by rfl) (hpl : (backTo pos (starEach es X.env)).any (·.1) = false := by rfl) :
    PEA X body (.Call (.Attribute (.Call (.Name "super" p0) [] [] p1) m apos) (e :: es) [] pos) (tSup T E t) := by
  refine ⟨fun pins s σ H Q I h => ?_⟩
  obtain ⟨a, dx, fs, C, g, sp, hs, ea, hT, q⟩ := h
  obtain ⟨t1, t2, t3, t4⟩ := TT.at_ C g sp hT
  obtain ⟨mA, Ob, _⟩ := ins_get I.hok ea
  obtain ⟨oda, J, _⟩ := Ob.look
  refine PySem.ks_wpAt_MethodCall (pl := pl) (sup_base O I hs J.at_ J.cls (fun c e => by have := J.no; unfold PySem.W.notCls at this; rw [e] at this; exact Bool.noConfusion this) t2 hat fun h' hso k' I1 => ?_) he
  refine sup_meth I1 ea hso t1 t3 TT.ops hat fun s2 I2 => ?_
  refine ClX.callwith_cm I2 (ClX.base_none I1 (Nat.le_refl _)) t4 (thn (ha.run pos _ s2 σ H _ I2 q) fun us s3 ⟨vs, H2, I3, rv, q2⟩ => ⟨⟨ClX.pin_at I3, I3.kIn⟩, ?_⟩) hst hpl
  exact ClX.run_cm (TT.ok C g sp hT) hr hx I3 rv q2
theorem pea_sup0 (O : SupOk X P x qual st f cc D fd slf) (TT : SupT X CX k D m T) (hr : Room k X.A) (hx : Passes CX X E) (hat : (m == ("__class__" : Str)) = false := by decide) {pl : Sem Bool}
    (he : eval (.Call (.Attribute (.Call (.Name "super" p0) [] [] p1) m apos) [] [] pos) X.env = (do
      let ov ← attributeBase (.Call (.Name "super" p0) [] [] p1) m X.env (eval (.Call (.Name "super" p0) [] [] p1) X.env)
      standAt apos.atName
      let (f, first) ← holding [ov] (getMethod ov m pl)
      callWith pos f first (backTo pos (starEach [] X.env)) []) := by rfl) :
    PEA X body (.Call (.Attribute (.Call (.Name "super" p0) [] [] p1) m apos) [] [] pos) (tSup T E tNil) := by
  refine ⟨fun pins s σ H Q I h => ?_⟩
  obtain ⟨a, dx, fs, C, g, sp, hs, ea, hT, q⟩ := h
  obtain ⟨t1, t2, t3, t4⟩ := TT.at_ C g sp hT
  obtain ⟨mA, Ob, _⟩ := ins_get I.hok ea
  obtain ⟨oda, J, _⟩ := Ob.look
  refine PySem.ks_wpAt_MethodCall (pl := pl) (sup_base O I hs J.at_ J.cls (fun c e => by have := J.no; unfold PySem.W.notCls at this; rw [e] at this; exact Bool.noConfusion this) t2 hat fun h' hso k' I1 => ?_) he
  refine sup_meth I1 ea hso t1 t3 TT.ops hat fun s2 I2 => ?_
  refine PySem.W.callWith_M0 (K := X.K) (first := []) ⟨ClX.pin_at I2, I2.kIn⟩ t4 ?_
  exact ClX.run_cm (us := []) (vs := []) (TT.ok C g sp hT) hr hx I2 .nil q
end
end GR

set_option Elab.async false
set_option linter.all false
set_option maxRecDepth 100000
set_option maxHeartbeats 4000000
/-! More rules of my own: super().__init__ in an exception, a property stored, a class's def called, methods of a family of classes, cls(*xs, k=v). -/
namespace GR
open PySem PySem.Spec PyProof.Rows L2

/-! ### super().__init__(..) in an own exception over ValueError -/
def tSupE (K : PySem.W.Frag) (D : Addr) (t : TA) : TE := fun σ H Q => ∃ a C, σ[0]? = some (some (.ref a)) ∧ H a = some (exo a C none) ∧ OexC K C ∧ PySem.W.ks_superIn K C D "__init__" = some (some (.builtin "ValueError.__init__")) ∧
  PySem.W.mroIn K C (.ref D) = some true ∧ PySem.W.subIn K (.ref C) (.type "ValueError") = some true ∧ t σ H fun vs H1 => vs.length ≤ 1000 ∧ H1 a = some (exo a C none) ∧ Q .non H1
section
variable {X : Cx} {P : Program} {x qual slf m : Str} {st : Stmt} {f cc D : Addr} {fd : FuncData} {body : List Stmt} {p0 p1 apos pos : Pos} {e : Expr} {es : List Expr} {t : TA}
theorem mw_call {pins : List (Addr × Obj)} {σ : L2.St} {H : Hp} {s : Shared} {a C u : Addr} {us : List Value} {Q : Value → Shared → Prop} {E : Value → Shared → Prop} {A : Around} (T : OexC X.K C) (I : Inv X ((u, PySem.W.kxs_mw "ValueError.__init__" a) :: pins) σ H s) (ea : H a = some (exo a C none)) (hl : us.length ≤ sizeLine)
    (h : ∀ s', Inv X ((u, PySem.W.kxs_mw "ValueError.__init__" a) :: pins) σ H s' → Q .none s') : wpAny (model X.prog X.w) A (call (.ref u) us) Q E s := by
  obtain ⟨nm, q, N, bs, bm, sn, sub, ab, col, dd, k0, k1, k2, k3, k5, hC, hbm⟩ := T.cls
  have hu := ClX.pin_at I
  obtain ⟨t1, ho⟩ := exo_at I.hok ea
  have I0 := I
  obtain ⟨hp, g, d, tk, os⟩ := s
  refine wpAny_call (codeAny_of_tree ?_)
  show wpAny _ A.in1 (callAny (.ref u) ⟨us, []⟩) _ _ _
  simp only [callAny]
  refine wpAny_bind (wpAny_load hu ?_)
  simp only [PySem.W.kxs_mw, show (Value.type "method-wrapper" == Value.type "method" || Value.type "method-wrapper" == Value.type "builtin_function_or_method" || Value.type "method-wrapper" == Value.type "method-wrapper") = true by decide, if_true]
  refine PySem.W.KFB.if_so (by decide) ?_
  refine wpAny_bind (PySem.W.check_bound_init F.excBase_ValueError.toExcCallFacts (I.kIn _ _ hC) ho rfl ?_)
  refine wpAny_bind (wpAny_pure (wpAny_pure ?_))
  refine ⟨plainId_quiet F.excBase_ValueError.init.plain _, codeAny_builtin F.excBase_ValueError.initEntry ?_⟩
  refine PySem.W.exc_init_tree (cls := .ref C) (t0 := t1) (dv := none) (c2 := .none) (c3 := .none) (b4 := .bool false) ho hl fun h' k hx _ => ?_
  have J := I0.write (t' := tk) (x := a) (e := a) (o := exo a C none) (by rw [ea]; exact True.intro) (.inl rfl) k ⟨_, hx⟩ (exo_ok hx)
  have eu : upd H a (exo a C none) = H := by
    funext b
    by_cases hb : b = a
    · rw [hb, upd_same, ea]
    · rw [upd_ne hb]
  rw [eu] at J
  exact h _ J
theorem pea_supE (O : SupOk X P x qual st f cc D fd slf) (ops : PySem.W.nsIn X.K PySem.cStatics "thirdparty.any" = some none) (ha : PA X (e :: es) t) {pl : Sem Bool}
    (he : eval (.Call (.Attribute (.Call (.Name "super" p0) [] [] p1) "__init__" apos) (e :: es) [] pos) X.env = (do
      let ov ← attributeBase (.Call (.Name "super" p0) [] [] p1) "__init__" X.env (eval (.Call (.Name "super" p0) [] [] p1) X.env)
      standAt apos.atName
      let (f, first) ← holding [ov] (getMethod ov "__init__" pl)
      callWith pos f first (backTo pos (starEach (e :: es) X.env)) []) := by rfl)
    (hst : starEach (e :: es) X.env = (false, eval e X.env) :: starEach es X.env := by rfl) (hpl : (backTo pos (starEach es X.env)).any (·.1) = false := by rfl) :
    PEA X body (.Call (.Attribute (.Call (.Name "super" p0) [] [] p1) "__init__" apos) (e :: es) [] pos) (tSupE X.K D t) := by
  refine ⟨fun pins s σ H Q I h => ?_⟩
  obtain ⟨a, C, hs, ea, T, hm, hD, hV, q⟩ := h
  obtain ⟨t1, ho⟩ := exo_at I.hok ea
  refine PySem.ks_wpAt_MethodCall (pl := pl) (sup_base O I hs ho rfl (fun c e => nomatch e) hD (by decide) fun h' hso k' I1 => ?_) he
  have KX : X.K.In h' := I1.kIn
  have J : PySem.W.InstAt h' a { cls := .ref C, dict := none, data := .fields #[.ref t1, .none, .none, .none, .bool false, .none] } C none := ⟨k' _ _ ho, rfl, rfl, trivial⟩
  have hI : PySem.W.Looks (model X.prog X.w) h' (isInstance (.ref a) (.type "ValueError")) true := J.type.andThen (PySem.W.looks_subIn KX hV)
  have hm0 := hm
  unfold PySem.W.ks_superIn at hm
  cases hc : PySem.W.clsIn X.K C with
  | none => rw [hc] at hm; cases hm
  | some cd =>
    rw [hc] at hm
    refine PySem.W.kxs_getMethod PySem.W.kxs_ValueError hso (PySem.W.looks_opaque KX ops) (l₀ := cd.mro) ?_ rfl KX hm hI (PySem.W.ks_ne KX J hc) (by decide) ?_
    · exact fun A Q E s k q => wpAny_bind ((PySem.W.looks_clsIn KX hc) A _ E s k (wpAny_pure q))
    · have I2 : Inv X ((h'.objs.size, PySem.W.kxs_mw "ValueError.__init__" a) :: pins) σ H { s with heap := h'.push (PySem.W.kxs_mw "ValueError.__init__" a), toks := s.toks + 1 } :=
        ClX.pin_new (s := { s with heap := h' }) I1 (fun _ _ z => Heap.get?_push_of_some _ z) (Nat.le_refl _) (Heap.get?_push_size h' rfl) fun v z => nomatch z
      show wpAny _ _ (callWith pos (.ref h'.objs.size) [] (backTo pos (starEach (e :: es) X.env)) []) _ _ _
      have z := ha.run pos _ _ σ H _ I2 q
      rw [hst] at z ⊢
      refine PySem.W.kxs_callWith (i := "ValueError.__init__") (x := a) (by show (false || (backTo pos (starEach es X.env)).any (·.1)) = false; rw [hpl]; rfl) (PySem.Calls.evalArgs_plain ?_)
      refine thn z fun us s3 ⟨vs, H2, I3, rv, hz, ea2, q2⟩ => ⟨ClX.pin_at I3, ?_⟩
      refine mw_call T I3 ea2 (by show us.length ≤ sizeLine; rw [← rv.length, sizeLine_eq]; omega) fun s4 I4 => ClX.unpinE ⟨.non, H2, I4, rfl, q2⟩
end

/-! ### o.f = e, f a property with a setter -/
structure PSetOf (K : PySem.W.Frag) (C : Addr) (f : Str) (p g : Addr) : Prop where
  sa : PySem.W.findIn K (.ref C) "__setattr__" = some (some (.builtin "object.__setattr__"))
  po : PySem.W.plainOver K C = true
  tk : PySem.W.takerIn K C f = some (some (.ref p))
  ty : PySem.W.typeIn K (.ref p) = some (.type "property")
  rc : ∃ a rest, PySem.W.recIn K p "property" = some (a :: .ref g :: rest)
def sPropS (C : Addr) (sp : Sp) (E : XK) (to tv : TE) : TS := fun D σ H => tv σ H fun y H1 => to σ H1 fun x H2 => ∃ a dx fs, x = .ref a ∧ H2 a = some (.ins C dx fs) ∧ sp [.ref a, y] H2 (fun _ H3 => D.nx σ H3) E
section
variable {X : Cx} {CX : CXT} {k : Nat} {C p g : Addr} {f : Str} {sp : Sp} {E : XK} {o value : Expr} {pos pos' : Pos} {to tv : TE}
theorem ps_propset (S : PSetOf X.K C f p g) (F : FnR X.prog X.w X.K X.mg X.base CX k g sp) (hr : Room (k + 2) X.A) (hx : Passes CX X E) (ha : PE X o to) (hv : PE X value tv) (hs : swapsWith value (some (.Attribute o f pos')) pos.line X.env = pure false := by rfl) :
    PS X (.Assign [.Attribute o f pos'] value pos) (sPropS C sp E to tv) := by
  refine ⟨fun pins s σ H D I h => ?_⟩
  refine plainObj_wpAny_Assign_Attribute (thn (hv.run pins s σ H _ I h) fun u s1 ⟨y, H1, I1, ry, q⟩ => thn (ha.run pins s1 σ H1 _ I1 q) fun ov s2 ⟨x, H2, I2, rx, a, dx, fs, ex, ea, q2⟩ => ?_) hs
  subst ex
  obtain rfl : ov = Value.ref a := rx
  obtain ⟨mA, O, _⟩ := ins_get I2.hok ea
  obtain ⟨od, J, _⟩ := O.look
  obtain ⟨mL, fr⟩ := I2.fr
  obtain ⟨ga, rest, hrec⟩ := S.rc
  have I3 := I2.tok (s2.toks + 1)
  refine PySem.W.set_prop fr I2.ok.mod.kin J S.sa S.po S.tk S.ty hrec (codeAny_mono (F X.A.in1.in1 X.stack { s2 with toks := s2.toks + 1 } H2 [.ref a, u] [.ref a, y] _ E (hr.in1.in1) I3.env0.in1.in1 (.cons rfl (.cons ry .nil)) q2) fun r s' hq => ?_)
  cases r with
  | error er => exact hx pins σ H2 _ er s' I3 hq
  | ok fl =>
    cases fl with
    | ret u =>
      obtain ⟨v, H', I4, rv, q4⟩ := I3.after hq
      exact ⟨σ, H', I4, q4⟩
    | next => exact False.elim hq
    | brk => exact False.elim hq
    | cont => exact False.elim hq
end

/-! ### C.m(..), m a plain def read off the class -/
structure ClsFn (K : PySem.W.Frag) (C : Addr) (mc : Value) (m : Str) (g : Addr) : Prop where
  rd : ClX.CRead K C mc
  at_ : PySem.W.findCls K (.ref C) mc m = some (.val (.ref g))
  kp : PySem.W.keepIn K (.ref g) = true
def tClsF (C : Addr) (sp : Sp) (E : XK) (ta : TE) (t : TA) : TE := fun σ H Q => ta σ H fun x H1 => x = .ref C ∧ t σ H1 fun vs H2 => sp vs H2 Q E
def tClsFK (C : Addr) (n m : Nat) (sp : Sp) (gV : List V → List V → List V) (E : XK) (ta : TE) (t tk : TA) : TE := fun σ H Q => ta σ H fun x H1 => x = .ref C ∧ t σ H1 fun vs H2 => tk σ H2 fun zs H3 => vs.length = n ∧ zs.length = m ∧ sp (gV vs zs) H3 Q E
section
variable {X : Cx} {CX : CXT} {k n : Nat} {C g : Addr} {mc : Value} {m : Str} {sp : Sp} {E : XK} {o e : Expr} {es : List Expr} {kws : List Keyword} {apos pos : Pos} {ta : TE} {t tk : TA} {pl : Sem Bool} {fd : FuncData} {ps ks : List Str} {gg : List Value → List Value → List Value} {gV : List V → List V → List V}
theorem getclsfn_ok {pins : List (Addr × Obj)} {σ : L2.St} {H : Hp} {s : Shared} {Q : Value × List Value → Shared → Prop} {A : Around} {E : Value → Shared → Prop} (I : Inv X pins σ H s) (c : ClsFn X.K C mc m g) (h : ∀ s', Inv X pins σ H s' → Q (.ref g, []) s') : wpAny (model X.prog X.w) A (getMethod (.ref C) m pl) Q E s :=
  PySem.W.method_cls I.kIn c.rd.ga (PySem.W.cls_value I.kIn c.rd.rd c.at_ rfl (h _ (I.tok _)))
theorem pe_clsfn (he : PE X o ta) (c : ClsFn X.K C mc m g) (F : FnR X.prog X.w X.K X.mg X.base CX k g sp) (hr : Room k X.A) (hx : Passes CX X E) (ha : PA X (e :: es) t)
    (hst : starEach (e :: es) X.env = (false, eval e X.env) :: starEach es X.env := by rfl) (hpl : (backTo pos (starEach es X.env)).any (·.1) = false := by rfl)
    (ht : eval (.Call (.Attribute o m apos) (e :: es) [] pos) X.env = (do
      let ov ← eval o X.env
      standAt apos.atName
      let (f, first) ← holding [ov] (getMethod ov m pl)
      callWith pos f first (backTo pos (starEach (e :: es) X.env)) (backToKw pos (keywordEach [] X.env))) := by rfl) :
    PE X (.Call (.Attribute o m apos) (e :: es) [] pos) (tClsF C sp E ta t) := by
  refine ⟨fun pins s σ H Q I h => ?_⟩
  refine PySem.W.methodCall_KW (pl := pl) (thn (he.run pins s σ H _ I h) fun u s1 ⟨x, H1, I1, rx, ex, q⟩ => ?_) ht
  subst ex
  obtain rfl : u = Value.ref C := rx
  refine getclsfn_ok I1 c fun s2 I2 => ?_
  refine PySem.W.callWith_K (first := []) (h₀ := X.base) I.ok.mod.kin c.kp (thn (ha.run pos pins s2 σ H1 _ I2 q) fun us s3 ⟨vs, H2, I3, r, q2⟩ => ⟨I3.kIn, ?_⟩) hst hpl
  exact wpAny_call (run_fnR F hr hx I3 r q2)
theorem pe_clsfnK (he : PE X o ta) (c : ClsFn X.K C mc m g) (F : FnOk X.prog X.w X.K X.mg X.base CX k g fd ps sp) (hr : Room k X.A) (hb : KBn X.K fd ps n ks gg gV) (hx : Passes CX X E) (ha : PA X (e :: es) t) (hkw : PK X kws tk)
    (hall : (backToKw pos (keywordEach kws X.env)).all (·.1.isSome) = true := by rfl) (hks : (backToKw pos (keywordEach kws X.env)).filterMap (·.1) = ks := by rfl)
    (hst : starEach (e :: es) X.env = (false, eval e X.env) :: starEach es X.env := by rfl) (hpl : ((backTo pos (starEach (e :: es) X.env)).any (·.1) || (backToKw pos (keywordEach kws X.env)).any (·.1.isNone)) = false := by rfl)
    (ht : eval (.Call (.Attribute o m apos) (e :: es) kws pos) X.env = (do
      let ov ← eval o X.env
      standAt apos.atName
      let (f, first) ← holding [ov] (getMethod ov m pl)
      callWith pos f first (backTo pos (starEach (e :: es) X.env)) (backToKw pos (keywordEach kws X.env))) := by rfl) :
    PE X (.Call (.Attribute o m apos) (e :: es) kws pos) (tClsFK C n ks.length sp gV E ta t tk) := by
  refine ⟨fun pins s σ H Q I h => ?_⟩
  refine PySem.W.methodCall_KW (pl := pl) (thn (he.run pins s σ H _ I h) fun u s1 ⟨x, H1, I1, rx, ex, q⟩ => ?_) ht
  subst ex
  obtain rfl : u = Value.ref C := rx
  refine getclsfn_ok I1 c fun s2 I2 => ?_
  refine PySem.W.callWith_KW (first := []) (h₀ := X.base) I.ok.mod.kin c.kp hall (thn (ha.run pos pins s2 σ H1 _ I2 q) fun us s3 ⟨vs, H2, I3, r, q2⟩ => ?_) hpl hst
  refine thn (hkw.run pos pins s3 σ H2 _ I3 q2) fun ws s4 ⟨zs, H3, I4, rz, l1, l2, q3⟩ => ⟨I4.kIn, ?_⟩
  rw [hks]
  have e1 : us.length = n := r.length.symm.trans l1
  have e2 : ws.length = ks.length := rz.length.symm.trans l2
  refine wpAny_call (codeAny_mono (F.run X.A X.stack s4 H3 ⟨us, ks.zip ws⟩ (gg us ws) (gV vs zs) Q E hr I4.env0 (hb.to s4 us ws I4.kIn e1 e2) (hb.rel r rz) q3) fun r s' hq => ?_)
  cases r with
  | error e => exact hx pins σ H3 s4 e s' I4 hq
  | ok fl =>
    cases fl with
    | ret u => exact I4.after hq
    | next => exact False.elim hq
    | brk => exact False.elim hq
    | cont => exact False.elim hq
end

/-! ### o.m(), o an instance of one of several classes -/
def tMethF (T : Addr → Sp → Prop) (m : Str) (E : XK) (ta : TE) : TE := fun σ H Q => ta σ H fun x H1 => ∃ a C dx fs sp, x = .ref a ∧ H1 a = some (.ins C dx fs) ∧ fs.lookup m = none ∧ T C sp ∧ sp [x] H1 Q E
section
variable {X : Cx} {CX : CXT} {k : Nat} {m : Str} {E : XK} {o : Expr} {apos pos : Pos} {ta : TE} {pl : Sem Bool} {T : Addr → Sp → Prop}
theorem pe_methF (he : PE X o ta) (hT : ∀ C sp, T C sp → Cls X.K C ∧ ∃ g, Meth X.K C m g ∧ FnR X.prog X.w X.K X.mg X.base CX k g sp) (hr : Room k X.A) (hx : Passes CX X E)
    (ht : eval (.Call (.Attribute o m apos) [] [] pos) X.env = (do
      let ov ← eval o X.env
      standAt apos.atName
      let (f, first) ← holding [ov] (getMethod ov m pl)
      callWith pos f first (backTo pos (starEach [] X.env)) (backToKw pos (keywordEach [] X.env))) := by rfl) :
    PE X (.Call (.Attribute o m apos) [] [] pos) (tMethF T m E ta) := by
  refine ⟨fun pins s σ H Q I h => ?_⟩
  refine PySem.W.methodCall_KW (pl := pl) (thn (he.run pins s σ H _ I h) fun u s1 ⟨x, H1, I1, rx, a, C, dx, fs, sp, ex, ea, l, hC, q⟩ => ?_) ht
  subst ex
  obtain rfl : u = Value.ref a := rx
  obtain ⟨c, g, hm, F⟩ := hT C sp hC
  refine getmeth_ok I1 ea c hm l ?_
  exact PySem.W.callWith_K0 (first := [.ref a]) I1.kIn hm.kp (wpAny_call (run_fnR (us := [.ref a]) (vs := [.ref a]) F hr hx I1 (.cons rfl .nil) q))
end
end GR

set_option Elab.async false
set_option linter.all false
set_option maxRecDepth 100000
set_option maxHeartbeats 4000000
/-! The text by places; calls of the module's defs by their promises. -/
namespace GR
open PySem PySem.Spec PyProof.Rows L2

def top (i : Nat) : Stmt := PySem.Challenge.pw_gaugemiss_k78_whole_many_kept.main.body.getD i (.Pass ⟨0, 0, 0, 0⟩)
abbrev sNoCaseI : Stmt := inClass (top 11) 0
abbrev sKeepI : Stmt := inClass (top 13) 0
abbrev sKeepSet : Stmt := inClass (top 13) 2
abbrev sKept : Stmt := inClass (top 13) 4
abbrev sDropped : Stmt := inClass (top 13) 5
abbrev sTakeK : Stmt := inClass (top 13) 6
abbrev sInOrder : Stmt := top 14
abbrev sSpanList : Stmt := top 15
abbrev sOffset : Stmt := top 16
abbrev sFeasible : Stmt := top 17
abbrev sTopLevel : Stmt := top 18
abbrev sBestTop : Stmt := top 19
abbrev sHonest : Stmt := top 20
abbrev sDropCase : Stmt := top 21
abbrev sGaugeI : Stmt := inClass (top 29) 1
abbrev sGaugeB : Stmt := inClass (top 29) 2
abbrev sGaugeA : Stmt := inClass (top 29) 3
abbrev sCoarseI : Stmt := inClass (top 30) 0
abbrev sCoarseA : Stmt := inClass (top 30) 1
abbrev sLateI : Stmt := inClass (top 31) 0
abbrev sLateB : Stmt := inClass (top 31) 1
abbrev sLateA : Stmt := inClass (top 31) 2
abbrev sLaCoI : Stmt := inClass (top 32) 0
abbrev sValid : Stmt := top 33
abbrev sRackI : Stmt := inClass (top 34) 0
abbrev sRackOf : Stmt := inClass (top 34) 1
abbrev sNames : Stmt := inClass (top 34) 4
abbrev sRackG : Stmt := inClass (top 34) 5
abbrev sBox : Stmt := top 36
abbrev sTake : Stmt := top 37
abbrev sWhole : Stmt := top 38
abbrev sWord : Stmt := top 39
abbrev sWords : Stmt := top 40
abbrev sSpecs : Stmt := top 41
abbrev sSlacks : Stmt := top 42
abbrev sGauge : Stmt := top 43
abbrev sGauges : Stmt := top 44
abbrev sFarthest : Stmt := top 45
abbrev sFair : Stmt := top 46
abbrev sSpot : Stmt := top 47
abbrev sCase : Stmt := top 48
abbrev sDrops : Stmt := top 49
abbrev sSteep : Stmt := top 50
abbrev sLaw : Stmt := top 51

/-- the built-in names that the text uses are the built-ins -/
structure Bl (mg : Str → Option Value) : Prop where
  len : mg "len" = none
  int : mg "int" = none
  bool : mg "bool" = none
  str : mg "str" = none
  isinstance : mg "isinstance" = none
  sorted : mg "sorted" = none
  abs : mg "abs" = none
  max : mg "max" = none
  sum : mg "sum" = none
  all : mg "all" = none
  enumerate : mg "enumerate" = none
  range : mg "range" = none
  tuple : mg "tuple" = none
  list : mg "list" = none
  sup : mg "super" = none

/-- a def of the module, called by its name: its promise -/
def GDef (P : Program) (w : World) (K : PySem.W.Frag) (mg : Str → Option Value) (base : Heap) (CX : CXT) (k : Nat) (x : Str) (sp : Sp) : Prop :=
  ∃ f, mg x = some (.ref f) ∧ PySem.W.keepIn K (.ref f) = true ∧ FnR P w K mg base CX k f sp
/-- a def of the module, as the top has made it -/
def GF (K : PySem.W.Frag) (mg : Str → Option Value) (x : Str) (st : Stmt) : Prop := ∃ f fd, Fun K x x st f fd ∧ mg x = some (.ref f)
section
variable {P : Program} {w : World} {K : PySem.W.Frag} {mg : Str → Option Value} {base : Heap} {CX : CXT} {k : Nat} {x : Str} {sp : Sp} {st : Stmt} {N ps : List Str}
theorem fnr_of {f : Addr} {fd : FuncData} (F : FnOk P w K mg base CX k f fd ps sp) (b : Binds K fd ps []) : FnR P w K mg base CX k f sp :=
  (F.raw b .nil).imp fun vs H Q E h => by rw [List.append_nil]; exact h
theorem GF.ok (G : GF K mg x st) (S : FnScope N ps (defScope st)) (len : ∀ vs H Q E, sp vs H Q E → vs.length = ps.length)
    (hb : ∀ (kV doc pm : Value) (an : Option Addr) (cdv ct : Value) (us : List Value), us.length = ps.length → bindArgs (PySem.W.fnOf x x (defArgs st) (defBody st) (defScope st) .none kV doc pm an cdv ct) ⟨us, []⟩ = pure (ps.zip us))
    (hbody : ∀ (f : Addr) (cdv : Value) (A : Around) (outer : List Env) (s : Shared) (H : Hp) (vs : List V) (Q : VK) (E : XK), Room k (A.deeper (envOfC x (defScope st) s.heap.objs.size f cdv)) → sp vs H Q E →
      ∃ t, PSs (cxOf CX0 P w K mg base N x (defScope st) f cdv A outer s H E).nox (defBody st) t ∧ t { nx := fun _ H' => Q .non H', rt := Q } (L2.start N vs) H) : GDef P w K mg base CX0 (k + 1) x sp := by
  obtain ⟨f, fd, F, m⟩ := G
  exact ⟨f, m, F.kp, fnr_of (F.ok S len (hbody f)) (F.binds hb)⟩
theorem GF.okX (G : GF K mg x st) (S : FnScope N ps (defScope st)) (len : ∀ vs H Q E, sp vs H Q E → vs.length = ps.length)
    (hb : ∀ (kV doc pm : Value) (an : Option Addr) (cdv ct : Value) (us : List Value), us.length = ps.length → bindArgs (PySem.W.fnOf x x (defArgs st) (defBody st) (defScope st) .none kV doc pm an cdv ct) ⟨us, []⟩ = pure (ps.zip us))
    (hbody : ∀ (f : Addr) (cdv : Value) (A : Around) (outer : List Env) (s : Shared) (H : Hp) (vs : List V) (Q : VK) (E : XK), Room k (A.deeper (envOfC x (defScope st) s.heap.objs.size f cdv)) → sp vs H Q E →
      ∃ t, PSs (cxOf (L2.CX P w) P w K mg base N x (defScope st) f cdv A outer s H E) (defBody st) t ∧ t { nx := fun _ H' => Q .non H', rt := Q } (L2.start N vs) H) : GDef P w K mg base (L2.CX P w) (k + 1) x sp := by
  obtain ⟨f, fd, F, m⟩ := G
  exact ⟨f, m, F.kp, fnr_of (F.okX S len (hbody f)) (F.binds hb)⟩
end
section
variable {X : Cx} {CX : CXT} {k : Nat} {x : Str} {sp : Sp} {E : XK} {p pos : Pos} {e : Expr} {es : List Expr} {t : TA}
def tCallG (sp : Sp) (E : XK) (t : TA) : TE := fun σ H Q => t σ H fun vs H1 => sp vs H1 Q E
theorem pe_callG (G : GDef X.prog X.w X.K X.mg X.base CX k x sp) (hr : Room k X.A) (hg : Gl X x) (hx : Passes CX X E) (ha : PA X (e :: es) t) (hdb : (x == ("__debug__" : Str)) = false := by decide)
    (he : starEach (e :: es) X.env = (false, eval e X.env) :: starEach es X.env := by rfl) (hpl : (backTo pos (starEach es X.env)).any (·.1) = false := by rfl) : PE X (.Call (.Name x p) (e :: es) [] pos) (tCallG sp E t) := by
  obtain ⟨f, hm, hk, F⟩ := G
  refine ⟨fun pins s σ H Q I h => ?_⟩
  refine wpAny_Call_Name_kw (ld_glob I hg hm ?_ hdb)
  refine PySem.W.callWith_K (h₀ := X.base) I.ok.mod.kin hk (thn (ha.run pos pins s σ H _ I h) fun us s1 ⟨vs, H1, I1, r, q⟩ => ⟨I1.kIn, ?_⟩) he hpl
  exact wpAny_call (run_fnR F hr hx I1 r q)
/-- the same where what is raised is wished for at the caller's slots -/
def tCallGS (sp : Sp) (E : L2.St → XK) (t : TA) : TE := fun σ H Q => t σ H fun vs H1 => sp vs H1 Q (E σ)
end
section
variable {P : Program} {w : World} {K : PySem.W.Frag} {mg : Str → Option Value} {base : Heap} {CX : CXT} {k : Nat} {x qual : Str} {sp : Sp} {st : Stmt} {N ps : List Str} {f : Addr} {fd : FuncData}
/-- a method (no class cell): its promise -/
theorem mf_ok (F : Fun K x qual st f fd) (S : FnScope N ps (defScope st)) (len : ∀ vs H Q E, sp vs H Q E → vs.length = ps.length)
    (hb : ∀ (kV doc pm : Value) (an : Option Addr) (cdv ct : Value) (us : List Value), us.length = ps.length → bindArgs (PySem.W.fnOf x qual (defArgs st) (defBody st) (defScope st) .none kV doc pm an cdv ct) ⟨us, []⟩ = pure (ps.zip us))
    (hbody : ∀ (cdv : Value) (A : Around) (outer : List Env) (s : Shared) (H : Hp) (vs : List V) (Q : VK) (E : XK), Room k (A.deeper (envOfC qual (defScope st) s.heap.objs.size f cdv)) → sp vs H Q E →
      ∃ t, PSs (cxOf CX0 P w K mg base N qual (defScope st) f cdv A outer s H E).nox (defBody st) t ∧ t { nx := fun _ H' => Q .non H', rt := Q } (L2.start N vs) H) : FnR P w K mg base CX0 (k + 1) f sp :=
  fnr_of (F.ok S len hbody) (F.binds hb)
theorem bindsS {cc D : Addr} (F : FunS P K x qual st f cc D fd)
    (hb : ∀ (kV doc pm : Value) (an : Option Addr) (cdv ct : Value) (us : List Value), us.length = ps.length → bindArgs (PySem.W.ksFn x qual (defArgs st) (defBody st) (defScope st) .none kV doc pm an cdv ct cc) ⟨us, []⟩ = pure (ps.zip us)) : Binds K fd ps [] := by
  obtain ⟨oc, od, kV, doc, pm, an, cdv, ct, osl, rfl, _⟩ := F.ex
  exact .all fun us hl => hb kV doc pm an cdv ct us hl
/-- positional values and keywords, no defaults, no class cell -/
theorem kbn_of (F : Fun K x qual st f fd) (n : Nat) (ks : List Str) (g : {α : Type} → List α → List α → List α) (hg : ∀ {vs zs : List V} {us ws : List Value}, Vals vs us → Vals zs ws → Vals (g vs zs) (g us ws))
    (hb : ∀ (kV doc pm : Value) (an : Option Addr) (cdv ct : Value) (us ws : List Value), us.length = n → ws.length = ks.length → bindArgs (PySem.W.fnOf x qual (defArgs st) (defBody st) (defScope st) .none kV doc pm an cdv ct) ⟨us, ks.zip ws⟩ = pure (ps.zip (g us ws))) :
    KBn K fd ps n ks (fun us ws => g us ws) (fun vs zs => g vs zs) := by
  obtain ⟨oc, od, kV, doc, pm, an, cdv, ct, osl, rfl, _⟩ := F.ex
  exact ⟨fun s us ws _ h1 h2 => .of_eq (hb kV doc pm an cdv ct us ws h1 h2), fun a b => hg a b⟩
theorem kbn_ofS {cc D : Addr} (F : FunS P K x qual st f cc D fd) (n : Nat) (ks : List Str) (g : {α : Type} → List α → List α → List α) (hg : ∀ {vs zs : List V} {us ws : List Value}, Vals vs us → Vals zs ws → Vals (g vs zs) (g us ws))
    (hb : ∀ (kV doc pm : Value) (an : Option Addr) (cdv ct : Value) (us ws : List Value), us.length = n → ws.length = ks.length → bindArgs (PySem.W.ksFn x qual (defArgs st) (defBody st) (defScope st) .none kV doc pm an cdv ct cc) ⟨us, ks.zip ws⟩ = pure (ps.zip (g us ws))) :
    KBn K fd ps n ks (fun us ws => g us ws) (fun vs zs => g vs zs) := by
  obtain ⟨oc, od, kV, doc, pm, an, cdv, ct, osl, rfl, _⟩ := F.ex
  exact ⟨fun s us ws _ h1 h2 => .of_eq (hb kV doc pm an cdv ct us ws h1 h2), fun a b => hg a b⟩
end
/-! ### rules whose reading names the written part (within a comprehension's block) -/
theorem ix_tupK (K : PySem.W.Frag) {X : Cx} (e : X.K = K := by rfl) : IxR X (rIxT K) := e ▸ ix_tup
theorem ix_listK (K : PySem.W.Frag) {X : Cx} (e : X.K = K := by rfl) : IxR X (rIxL K) := e ▸ ix_list
theorem op_inK (K : PySem.W.Frag) {X : Cx} (e : X.K = K := by rfl) : OpR X (compareOp .In) (rIn K false) := e ▸ op_in_seq
theorem op_notInK (K : PySem.W.Frag) {X : Cx} (e : X.K = K := by rfl) : OpR X (compareOp .NotIn) (rIn K true) := e ▸ op_notIn_seq
theorem pe_fldK (K : PySem.W.Frag) {X : Cx} {e : Expr} {f : Str} {pos : Pos} {ta : TE} (he : PE X e ta) (hb : attributeBase e f X.env (eval e X.env) = eval e X.env) (ek : X.K = K := by rfl) : PE X (.Attribute e f pos) (tFld K ta f) := ek ▸ pe_fld he hb
theorem inV_str (x : Str) (ks : List Str) : inV (.str x) (ks.map V.str) = decide (x ∈ ks) := by
  unfold inV
  rw [List.any_map]
  rw [Bool.eq_iff_iff]
  simp only [List.any_eq_true, Function.comp, decide_eq_true_eq]
  constructor
  · rintro ⟨y, hy, e⟩
    have e : (y == x) = true := e
    rw [← beq_iff_eq.mp e]
    exact hy
  · intro h
    exact ⟨x, h, (beq_self_eq_true x : (x == x) = true)⟩
theorem flat_strs (ks : List Str) : (ks.map V.str).all flatV = true := by
  rw [List.all_map, List.all_eq_true]
  intro x _
  rfl
/-- objects but those at as stand as they stood -/
def SameBut (as : List Addr) (H H' : Hp) : Prop := ∀ a o, H a = some o → a ∉ as → H' a = some o
theorem SameBut.same {H H' : Hp} (h : SameBut [] H H') : Same H H' := fun a o e => h a o e (by simp)
theorem Same.but {H H' : Hp} {as : List Addr} (h : Same H H') : SameBut as H H' := fun a o e _ => h a o e
theorem SameBut.trans {as : List Addr} {H H1 H2 : Hp} (a : SameBut as H H1) (b : SameBut as H1 H2) : SameBut as H H2 := fun c o e n => b c o (a c o e n) n
theorem same_upd {H : Hp} {p : Addr} {o : HO} (n : H p = none) : Same H (upd H p o) := fun b u e => by rw [upd_ne (ne_of_none e n)]; exact e
theorem but_upd {H : Hp} {p : Addr} {o : HO} {as : List Addr} (n : p ∈ as) : SameBut as H (upd H p o) := fun b u e h => by rw [upd_ne (fun z => h (by rw [z]; exact n))]; exact e
theorem Same.get {H H' : Hp} (h : Same H H') {a : Addr} {o : HO} (e : H a = some o) : H' a = some o := h a o e
end GR

set_option Elab.async false
set_option linter.all false
set_option maxRecDepth 100000
set_option maxHeartbeats 4000000
namespace GR
open PySem PySem.Spec PyProof.Rows L2
/-- a span as it lies in the heap -/
def SpV (K : PySem.W.Frag) (H : Hp) (v : V) : GM.Sp → Prop
  | none => v = .non
  | some (l, h) => ∃ t, v = .ref t ∧ SqT K H t [.int l, .int h]
theorem SpV.same {K : PySem.W.Frag} {H H' : Hp} {v : V} {s : GM.Sp} (h : SpV K H v s) (e : Same H H') : SpV K H' v s := by
  cases s with
  | none => exact h
  | some p =>
    obtain ⟨t, ev, ht⟩ := h
    refine ⟨t, ev, ?_⟩
    rcases ht with (ht | ⟨o, ht⟩) | ht
    · exact .inl (.inl (e _ _ ht))
    · exact .inl (.inr ⟨o, e _ _ ht⟩)
    · exact .inr ht
def spOffset (K : PySem.W.Frag) : Sp := fun vs H Q _ => ∃ v s x, vs = [v, .int x] ∧ SpV K H v s ∧ Q (.int (GM.offs s x)) H
theorem at0 {a b : V} : atI [a, b] 0 = some a := rfl
theorem at1 {a b : V} : atI [a, b] 1 = some b := rfl
section
variable {P : Program} {w : World} {K : PySem.W.Frag} {mg : Str → Option Value} {base : Heap}
theorem scOffset : FnScope ["span", "level"] ["span", "level"] (defScope sOffset) := ⟨rfl, rfl, rfl, by decide +kernel, rfl, by decide +kernel, by decide +kernel⟩
theorem d_offset (G : GF K mg "offset" sOffset) : GDef P w K mg base CX0 1 "offset" (spOffset K) := by
  refine G.ok scOffset (fun vs H Q E h => ?_) (fun _ _ _ _ _ _ us hl => match us, hl with | [_, _], _ => rfl) (fun f cdv A outer s H vs Q E hr h => ?_)
  · obtain ⟨v, s, x, rfl, _⟩ := h
    rfl
  · obtain ⟨v, s, x, rfl, hv, q⟩ := h
    refine ⟨_,
      (pss_cons (ps_if (PW.pt (pw_or (pt_cmpR op_isN (pv 0) pe_non (nomark _)) (pw_or1 (pt_chain op_le op_le (pe_ix ix_tup (pv 0) pe_int (fun _ _ => rfl)) (pe_un un_neg (pv 1)) (pe_ix ix_tup (pv 0) pe_int (fun _ _ => rfl))))))
        (pss_one (ps_ret pe_int))
        pss_nil)
      (pss_cons (ps_if (pt_cmpR op_gt (pe_op op_add (pv 1) (pe_ix ix_tup (pv 0) pe_int (fun _ _ => rfl))) pe_int (nomark _))
        (pss_one (ps_ret (pe_op op_add (pv 1) (pe_ix ix_tup (pv 0) pe_int (fun _ _ => rfl)))))
        pss_nil)
      (pss_one (ps_ret (pe_op op_add (pv 1) (pe_ix ix_tup (pv 0) pe_int (fun _ _ => rfl)))))))
      , ?_⟩
    cases s with
    | none =>
      obtain rfl : v = V.non := hv
      refine ⟨_, rfl, rfl, _, rfl, ?_⟩
      exact q
    | some p =>
      obtain ⟨l, h⟩ := p
      obtain ⟨t, rfl, ht⟩ := hv
      refine ⟨_, rfl, rfl, _, rfl, _, rfl, t, _, _, _, rfl, rfl, ht, at0, _, rfl, _, rfl, _, _, rfl, rfl, _, rfl, ?_⟩
      have e1 : GM.offs (some (l, h)) x = if l ≤ -x ∧ -x ≤ h then 0 else if 0 < x + l then x + l else x + h := rfl
      rw [e1] at q
      refine ite2 (fun c1 => ?_) fun c1 => ?_
      · have c1 : l ≤ -x := of_decide_eq_true c1
        refine ⟨_, rfl, t, _, _, _, rfl, rfl, ht, at1, _, _, rfl, rfl, _, rfl, ?_⟩
        refine ite2 (fun c2 => ?_) fun c2 => ?_
        · have c2 : -x ≤ h := of_decide_eq_true c2
          rw [if_pos ⟨c1, c2⟩] at q
          exact q
        · have c2 : ¬ -x ≤ h := fun z => c2 (decide_eq_true z)
          rw [if_neg (fun z => c2 z.2)] at q
          refine ⟨_, rfl, _, rfl, t, _, _, _, rfl, rfl, ht, at0, _, _, rfl, rfl, _, _, rfl, rfl, _, rfl, ?_⟩
          refine ite2 (fun c3 => ?_) fun c3 => ?_
          · rw [if_pos (of_decide_eq_true c3)] at q
            exact ⟨_, rfl, _, rfl, t, _, _, _, rfl, rfl, ht, at0, _, _, rfl, rfl, q⟩
          · rw [if_neg (fun z => c3 (decide_eq_true z))] at q
            exact ⟨_, rfl, _, rfl, t, _, _, _, rfl, rfl, ht, at1, _, _, rfl, rfl, q⟩
      · have c1 : ¬ l ≤ -x := fun z => c1 (decide_eq_true z)
        rw [if_neg (fun z => c1 z.1)] at q
        refine ⟨_, rfl, _, rfl, _, rfl, t, _, _, _, rfl, rfl, ht, at0, _, _, rfl, rfl, _, _, rfl, rfl, _, rfl, ?_⟩
        refine ite2 (fun c3 => ?_) fun c3 => ?_
        · rw [if_pos (of_decide_eq_true c3)] at q
          exact ⟨_, rfl, _, rfl, t, _, _, _, rfl, rfl, ht, at0, _, _, rfl, rfl, q⟩
        · rw [if_neg (fun z => c3 (decide_eq_true z))] at q
          exact ⟨_, rfl, _, rfl, t, _, _, _, rfl, rfl, ht, at1, _, _, rfl, rfl, q⟩
end
end GR

set_option Elab.async false
set_option linter.all false
set_option maxRecDepth 100000
set_option maxHeartbeats 4000000
namespace GR
open PySem PySem.Spec PyProof.Rows L2
/-- a list's spans -/
structure Sps (K : PySem.W.Frag) (H : Hp) (xs : List V) (sps : List GM.Sp) : Prop where
  len : xs.length = sps.length
  at_ : ∀ (j : Nat) v, xs[j]? = some v → SpV K H v (GM.atS sps j)
theorem Sps.same {K : PySem.W.Frag} {H H' : Hp} {xs : List V} {sps : List GM.Sp} (h : Sps K H xs sps) (e : Same H H') : Sps K H' xs sps := ⟨h.len, fun j v q => (h.at_ j v q).same e⟩
theorem early_eq (j n : Nat) : (if decide ((j : Int) < (n : Int)) = true then (1 : Int) else 0) = GM.early j n := by
  unfold GM.early
  by_cases h : j < n
  · rw [if_pos h, if_pos (decide_eq_true (by omega))]
  · rw [if_neg h, if_neg (fun z => h (by have := of_decide_eq_true z; omega))]
theorem abs_eq (i : Int) : (if i < 0 then -i else i) = GM.iabs i := rfl
def spFeasible (K : PySem.W.Frag) : Sp := fun vs H Q _ => ∃ (a : Addr) (xs : List V) (sps : List GM.Sp) (place x : Int) (n : Nat), vs = [.ref a, .int place, .int (n : Int), .int x] ∧ SqL K H a xs ∧ Sps K H xs sps ∧ n < sps.length ∧ (∃ l h, GM.atS sps n = some (l, h)) ∧
  ∀ H', Same H H' → Q (.bl (GM.feasB sps place n x)) H'
theorem int_lt0 (i : Int) : (if decide (i < 0) = true then (1 : Int) else 0) = if i < 0 then 1 else 0 := by
  by_cases h : i < 0
  · rw [if_pos h, if_pos (decide_eq_true h)]
  · rw [if_neg h, if_neg (fun z => h (of_decide_eq_true z))]
theorem int_eq0 (i : Int) : (if decide (V.int i = V.int 0) = true then (1 : Int) else 0) = if i = 0 then 1 else 0 := by
  by_cases h : i = 0
  · rw [if_pos h, if_pos (decide_eq_true (by rw [h]))]
  · rw [if_neg h, if_neg (fun z => h (V.int.inj (of_decide_eq_true z)))]
section
variable {P : Program} {w : World} {K : PySem.W.Frag} {mg : Str → Option Value} {base : Heap}
theorem scFeasible : FnScope ["spans", "place", "at", "level", "reach", "less", "equal", "other", "span", "reading"] ["spans", "place", "at", "level"] (defScope sFeasible) := ⟨rfl, rfl, rfl, by decide +kernel, rfl, by decide +kernel, by decide +kernel⟩
theorem d_feasible (G : GF K mg "feasible" sFeasible) (B : Bl mg) (Doffset : GDef P w K mg base CX0 1 "offset" (spOffset K)) : GDef P w K mg base CX0 2 "feasible" (spFeasible K) := by
  refine G.ok scFeasible (fun vs H Q E h => ?_) (fun _ _ _ _ _ _ us hl => match us, hl with | [_, _, _, _], _ => rfl) (fun f cdv A outer s H vs Q E hr h => ?_)
  · obtain ⟨a, xs, sps, place, x, n, rfl, _⟩ := h
    rfl
  · obtain ⟨a, xs, sps, place, x, n, rfl, hS, hx, hn, ⟨l, h, hat⟩, q⟩ := h
    refine ⟨_,
      (pss_cons (ps_set (i := 4) scFeasible.nd rfl (Or.inl rfl) (pe_op op_add (pv 3) (pe_ix ix_tup (pe_ix ix_list (pv 0) (pv 2) (fun _ _ => rfl)) pe_int (fun _ _ => rfl))))
      (pss_cons (ps_if (pt_cmpR op_lt (pv 4) pe_int (nomark _))
        (pss_one (ps_ret pe_bl))
        pss_nil)
      (pss_cons (ps_set (i := 5) scFeasible.nd rfl (Or.inl rfl) pe_int)
      (pss_cons (ps_set (i := 6) scFeasible.nd rfl (Or.inl rfl) pe_int)
      (pss_cons (ps_for PassesOwn.never rfl (pi_enum (by rfl) B.enumerate (pa_cons (pv 0) pa_nil)) (pg_tup rfl (pgs_cons (pg_name (i := 7) scFeasible.nd rfl (Or.inl rfl)) (pgs_cons (pg_name (i := 8) scFeasible.nd rfl (Or.inl rfl)) pgs_nil)))
        (pss_one (ps_if (pt_cmpR op_ne (pv 7) (pv 2) (nomark _))
          (pss_cons (ps_set (i := 9) scFeasible.nd rfl (Or.inl rfl) (pe_callG Doffset hr rfl pass0 (pa_cons (pv 8) (pa_cons (pv 3) pa_nil))))
          (pss_cons (ps_if (pt_cmpR op_gt (pe_callB call_abs (by rfl) B.abs (by decide +kernel) (pa_cons (pv 9) pa_nil)) (pe_op op_sub (pv 4) (pe_callTy call_int1 (by rfl) B.int (by decide +kernel) (pa_cons (pe_cmpR op_lt (pv 7) (pv 2) (nomark _)) pa_nil))) (nomark _))
            (pss_one (ps_ret pe_bl))
            pss_nil)
          (pss_cons (ps_aug (i := 5) scFeasible.nd rfl (.inl rfl) (pe_callTy call_int1 (by rfl) B.int (by decide +kernel) (pa_cons (pe_cmpR op_lt (pv 9) pe_int (nomark _)) pa_nil)) ip_add)
          (pss_one (ps_aug (i := 6) scFeasible.nd rfl (.inl rfl) (pe_callTy call_int1 (by rfl) B.int (by decide +kernel) (pa_cons (pe_cmpR op_eq (pv 9) pe_int (nomark _)) pa_nil)) ip_add)))))
          pss_nil)))
      (pss_one (ps_ret (pe_chain op_le op_lt (pv 5) (pv 1) (pe_op op_add (pv 5) (pv 6))))))))))
      , ?_⟩
    obtain ⟨v, hv⟩ : ∃ v, xs[n]? = some v := ⟨xs[n]'(by rw [hx.len]; exact hn), List.getElem?_eq_getElem _⟩
    have hsv := hx.at_ n v hv
    rw [hat] at hsv
    obtain ⟨t, rfl, ht⟩ := hsv
    have er : GM.rch sps n x = x + h := by unfold GM.rch; rw [hat]; rfl
    refine ⟨_, rfl, _, rfl, _, rfl, a, _, _, _, rfl, rfl, hS, atI_nat hv, t, _, _, _, rfl, rfl, ht, at1, _, _, rfl, rfl, ?_⟩
    refine ⟨_, rfl, _, _, rfl, rfl, _, rfl, ?_⟩
    refine ite2 (fun c1 => ?_) fun c1 => ?_
    · have c1 : (x + h) < 1 := of_decide_eq_true c1
      have e := q H (Same.refl H)
      rw [GM.feasB_not (fun F => by have := F.pos; rw [er] at this; omega)] at e
      exact e
    · have c1 : ¬ (x + h) < 1 := fun z => c1 (decide_eq_true z)
      refine ⟨_, rfl, a, _, rfl, hS, ?_⟩
      refine for_it (n := xs.length) (walk_enum (xs := xs)) (fun i σ H2 => ∃ o7 o8 o9, σ = [some (.ref a), some (.int place), some (.int (n : Int)), some (.int x), some (.int ((x + h))), some (.int (GM.cntL (GM.rd sps x) n i : Nat)), some (.int (GM.cntZ (GM.rd sps x) n i : Nat)), o7, o8, o9] ∧
        Same H H2 ∧ ∀ j, j < i → j ≠ n → GM.iabs (GM.rd sps x j) ≤ (x + h) - GM.early j n) ⟨none, none, none, rfl, Same.refl H, fun j hj => absurd hj (by omega)⟩ (fun i σ H2 _ ⟨_, _, _, _, s2, _⟩ => s2.seq hS) ?_ ?_
      · rintro i y σ H2 H3 hi ⟨o7, o8, o9, rfl, s2, ok⟩ ⟨T, y1, y2, rfl, hT, rfl, e1, e2⟩
        obtain rfl := Option.some.inj e1
        have s3 : Same H (upd H2 T (.tup [.int (i : Nat), y2])) := s2.trans (same_upd hT)
        refine ⟨T, _, rfl, SqT.of upd_same, rfl, _, _, rfl, _, _, rfl, rfl, ?_⟩
        refine ⟨_, rfl, _, rfl, rfl, _, rfl, ?_⟩
        refine ite2 (fun c2 => ?_) fun c2 => ?_
        · have c2 : i ≠ n := fun z => by rw [z] at c2; simp at c2
          refine ⟨_, rfl, _, rfl, y2, _, x, rfl, (hx.at_ i y2 e2).same s3, ?_⟩
          refine ⟨_, rfl, _, rfl, _, rfl, _, rfl, _, rfl, _, _, rfl, rfl, .inr ⟨_, rfl, _, _, rfl, rfl, _, _, rfl, rfl, _, rfl, ?_⟩⟩
          refine ite2 (fun c3 => ?_) fun c3 => ?_
          · have c3 := of_decide_eq_true c3
            rw [early_eq] at c3
            have e := q _ s3
            rw [GM.feasB_not (fun F => by
              have := F.ok i (by rw [← hx.len]; exact hi) c2
              rw [er] at this
              have c4 : (x + h) - GM.early i n < GM.iabs (GM.rd sps x i) := c3
              omega)] at e
            exact e
          · have c3 : ¬ _ := fun z => c3 (decide_eq_true z)
            rw [early_eq] at c3
            have c4 : ¬ (x + h) - GM.early i n < GM.iabs (GM.rd sps x i) := c3
            refine ⟨_, rfl, _, rfl, _, _, rfl, rfl, .inr ⟨_, rfl, _, _, rfl, rfl, ?_⟩⟩
            refine ⟨_, rfl, _, rfl, rfl, .inr ⟨_, rfl, _, _, rfl, rfl, ?_⟩⟩
            refine ⟨some (.int (i : Nat)), some y2, some (.int (GM.offs (GM.atS sps i) x)), ?_, s3, fun j hj hne => ?_⟩
            · have a1 : ((GM.cntL (GM.rd sps x) n (i + 1) : Nat) : Int) = (GM.cntL (GM.rd sps x) n i : Nat) + (if decide (GM.offs (GM.atS sps i) x < 0) = true then (1 : Int) else 0) := by
                rw [int_lt0]
                unfold GM.cntL
                rw [GM.cnt_succ]
                unfold GM.isL GM.rd
                simp only [c2, ne_eq, not_false_eq_true, decide_true, Bool.true_and, decide_eq_true_eq]
                split <;> simp
              have a2 : ((GM.cntZ (GM.rd sps x) n (i + 1) : Nat) : Int) = (GM.cntZ (GM.rd sps x) n i : Nat) + (if decide (V.int (GM.offs (GM.atS sps i) x) = V.int 0) = true then (1 : Int) else 0) := by
                rw [int_eq0]
                unfold GM.cntZ
                rw [GM.cnt_succ]
                unfold GM.isZ GM.rd
                simp only [c2, ne_eq, not_false_eq_true, decide_true, Bool.true_and, decide_eq_true_eq]
                split <;> simp
              rw [a1, a2]
              rfl
            · by_cases hji : j = i
              · rw [hji]; omega
              · exact ok j (by omega) hne
        · have c2 : i = n := by
            by_cases z : i = n
            · exact z
            · exact absurd (by simp; omega) c2
          refine ⟨some (.int (i : Nat)), some y2, o9, ?_, s3, fun j hj hne => ok j (by omega) hne⟩
          have a1 : GM.cntL (GM.rd sps x) n (i + 1) = GM.cntL (GM.rd sps x) n i := by
            unfold GM.cntL
            rw [GM.cnt_succ]
            unfold GM.isL
            simp [c2]
          have a2 : GM.cntZ (GM.rd sps x) n (i + 1) = GM.cntZ (GM.rd sps x) n i := by
            unfold GM.cntZ
            rw [GM.cnt_succ]
            unfold GM.isZ
            simp [c2]
          rw [a1, a2]
          rfl
      · rintro σ H2 ⟨o7, o8, o9, rfl, s2, ok⟩
        rw [hx.len] at ok ⊢
        refine ⟨_, rfl, _, rfl, _, _, rfl, rfl, _, rfl, ?_⟩
        refine ite2 (fun c5 => ?_) fun c5 => ?_
        · refine ⟨_, rfl, _, rfl, _, _, rfl, rfl, _, _, rfl, rfl, ?_⟩
          have e := q _ s2
          have c5 := of_decide_eq_true c5
          by_cases c6 : place < (GM.cntL (GM.rd sps x) n sps.length : Nat) + (GM.cntZ (GM.rd sps x) n sps.length : Nat)
          · rw [GM.feasB_iff.mpr ⟨by rw [er]; omega, by rw [er]; exact ok, c5, c6⟩] at e
            show Q (V.bl (decide (place < _))) _
            rw [decide_eq_true c6]
            exact e
          · rw [GM.feasB_not (fun F => c6 F.hi)] at e
            show Q (V.bl (decide (place < _))) _
            rw [decide_eq_false c6]
            exact e
        · have e := q _ s2
          rw [GM.feasB_not (fun F => c5 (decide_eq_true F.lo))] at e
          exact e
end
end GR

set_option Elab.async false
set_option linter.all false
set_option maxRecDepth 100000
set_option maxHeartbeats 4000000
namespace GM
def wl (sps : List Sp) : List Int := sps.flatMap fun s => match s with | none => [] | some (l, h) => [iabs l + iabs h]
theorem wl_sum (sps : List Sp) : (wl sps).sum = sumW sps := by
  induction sps with
  | nil => rfl
  | cons s r ih =>
    unfold wl at ih ⊢
    rw [List.flatMap_cons, List.sum_append, ih]
    cases s with
    | none => simp [sumW]
    | some p => simp [sumW]
theorem wl_none {sps : List Sp} {i : Nat} (h : sps[i]? = some none) : wl (sps.take (i + 1)) = wl (sps.take i) := by
  unfold wl
  rw [List.take_succ, h, List.flatMap_append]
  simp
theorem wl_some {sps : List Sp} {i : Nat} {l u : Int} (h : sps[i]? = some (some (l, u))) : wl (sps.take (i + 1)) = wl (sps.take i) ++ [iabs l + iabs u] := by
  unfold wl
  rw [List.take_succ, h, List.flatMap_append]
  simp
theorem candsFrom_app {n : Nat} : ∀ {a b : List Sp} {k : Nat}, candsFrom n k (a ++ b) = candsFrom n k a ++ candsFrom n (k + a.length) b
  | [], b, k => by simp [candsFrom]
  | none :: a, b, k => by
    rw [List.cons_append]
    simp only [candsFrom]
    rw [candsFrom_app, List.length_cons]
    rw [show k + 1 + a.length = k + (a.length + 1) by omega]
  | some (l, h) :: a, b, k => by
    rw [List.cons_append]
    simp only [candsFrom]
    rw [candsFrom_app, List.length_cons, List.append_assoc]
    rw [show k + 1 + a.length = k + (a.length + 1) by omega]
noncomputable def levUp (sps : List Sp) (place : Int) (n i : Nat) : List Int := (candsFrom n 0 (sps.take i)).filter (feasB sps place n)
theorem levUp_all (sps : List Sp) (place : Int) (n : Nat) : levUp sps place n sps.length = levels sps place n := by
  unfold levUp levels cands
  rw [List.take_length]
theorem levUp_step {sps : List Sp} {place : Int} {n i : Nat} {s : Sp} (h : sps[i]? = some s) : levUp sps place n (i + 1) = levUp sps place n i ++ (candsFrom n i [s]).filter (feasB sps place n) := by
  unfold levUp
  have hi : i < sps.length := (List.getElem?_eq_some_iff.mp h).1
  rw [List.take_succ, h, Option.toList_some, candsFrom_app, List.filter_append, List.length_take, show 0 + min i sps.length = i by omega]
theorem levUp_at {sps : List Sp} {place : Int} {i : Nat} {s : Sp} (h : sps[i]? = some s) : levUp sps place i (i + 1) = levUp sps place i i := by
  rw [levUp_step h]
  cases s with
  | none => simp [candsFrom]
  | some p => simp [candsFrom]
theorem levUp_none {sps : List Sp} {place : Int} {n i : Nat} (h : sps[i]? = some none) : levUp sps place n (i + 1) = levUp sps place n i := by
  rw [levUp_step h]
  simp [candsFrom]
theorem levUp_some {sps : List Sp} {place : Int} {n i : Nat} {l u : Int} (h : sps[i]? = some (some (l, u))) (hn : i ≠ n) : levUp sps place n (i + 1) = levUp sps place n i ++ [-l, -u - 1].filter (feasB sps place n) := by
  rw [levUp_step h]
  simp only [candsFrom]
  rw [if_neg hn, List.append_nil]
theorem levUp_len (sps : List Sp) (place : Int) (n i : Nat) : (levUp sps place n i).length ≤ 2 * i := by
  have h : ∀ (l : List Sp) (k : Nat), (candsFrom n k l).length ≤ 2 * l.length := by
    intro l
    induction l with
    | nil => intro k; simp [candsFrom]
    | cons s r ih =>
      intro k
      have := ih (k + 1)
      cases s with
      | none => simp only [candsFrom, List.length_cons]; omega
      | some p =>
        simp only [candsFrom, List.length_cons, List.length_append]
        split <;> simp <;> omega
  unfold levUp
  have a := List.length_filter_le (feasB sps place n) (candsFrom n 0 (sps.take i))
  have b := h (sps.take i) 0
  rw [List.length_take] at b
  omega
end GM
namespace GR
open PySem PySem.Spec PyProof.Rows L2
theorem same_mut {H H2 : Hp} {L : Addr} {o : HO} (s : Same H H2) (n : H L = none) : Same H (upd H2 L o) := fun b u e => by rw [upd_ne (ne_of_none e n)]; exact s b u e
def optV : Option Int → V
  | none => .non
  | some i => .int i
def spTop (K : PySem.W.Frag) : Sp := fun vs H Q _ => ∃ (a : Addr) (xs : List V) (sps : List GM.Sp) (place : Int) (n : Nat), vs = [.ref a, .int place, .int (n : Int)] ∧ SqL K H a xs ∧ Sps K H xs sps ∧ sps.length ≤ 1000 ∧ n < sps.length ∧ (∃ l h, GM.atS sps n = some (l, h)) ∧
  ∀ H' t, Same H H' → H t = none → H' t = some (.tup [optV (GM.topLevel sps place n).1, .bl (GM.topLevel sps place n).2]) → Q (.ref t) H'
theorem atS_get {sps : List GM.Sp} {i : Nat} {s : GM.Sp} (h : i < sps.length) (e : GM.atS sps i = s) : sps[i]? = some s := by
  unfold GM.atS at e
  rw [List.getD, List.getElem?_eq_getElem h] at e
  rw [List.getElem?_eq_getElem h]
  exact congrArg some e
section
variable {P : Program} {w : World} {K : PySem.W.Frag} {mg : Str → Option Value} {base : Heap}
theorem scTop : FnScope ["spans", "place", "at", "beyond", "span", "levels", "other", "level"] ["spans", "place", "at"] (defScope sTopLevel) := ⟨rfl, rfl, rfl, by decide +kernel, rfl, by decide +kernel, by decide +kernel⟩
theorem d_top (G : GF K mg "top_level" sTopLevel) (B : Bl mg) (Dfeasible : GDef P w K mg base CX0 2 "feasible" (spFeasible K)) : GDef P w K mg base CX0 3 "top_level" (spTop K) := by
  refine G.ok scTop (fun vs H Q E h => ?_) (fun _ _ _ _ _ _ us hl => match us, hl with | [_, _, _], _ => rfl) (fun f cdv A outer s H vs Q E hr h => ?_)
  · obtain ⟨a, xs, sps, place, n, rfl, _⟩ := h
    rfl
  · obtain ⟨a, xs, sps, place, n, rfl, hS, hx, hlen, hn, hat, q⟩ := h
    refine ⟨_,
      (pss_cons (ps_set (i := 3) scTop.nd rfl (Or.inl rfl) (pe_op op_add pe_int (pe_callB (cr_sum rfl) (by rfl) B.sum (by decide +kernel) (pa_cons (pe_lc (own := [(("span" : Str), 4)]) (g := gName 4) rfl scTop.nd (pi_list (pv 0)) (blkOk_by (own := [(("span" : Str), 4)]) (N := ["spans", "place", "at", "beyond", "span", "levels", "other", "level"]) (sc := defScope sTopLevel) (by decide +kernel)) (fun _ _ _ _ _ => pg_name (i := 4) scTop.nd rfl (Or.inl rfl)) (fun _ _ _ _ _ => pts_one (pt_cmpR op_notN (pv 4) pe_non (nomark _))) (fun _ _ _ _ _ => (pe_op op_add (pe_callB call_abs (by rfl) B.abs (by decide +kernel) (pa_cons (pe_ix (ix_tupK K) (pv 4) pe_int (fun _ _ => rfl)) pa_nil)) (pe_callB call_abs (by rfl) B.abs (by decide +kernel) (pa_cons (pe_ix (ix_tupK K) (pv 4) pe_int (fun _ _ => rfl)) pa_nil))))) pa_nil))))
      (pss_cons (ps_if (pt_val (pe_callG Dfeasible hr rfl pass0 (pa_cons (pv 0) (pa_cons (pv 1) (pa_cons (pv 2) (pa_cons (pv 3) pa_nil))))))
        (pss_one (ps_ret (pe_tup (pa_cons (pv 3) (pa_cons pe_bl pa_nil)))))
        pss_nil)
      (pss_cons (ps_set (i := 5) scTop.nd rfl (Or.inl rfl) (pe_lst pa_nil))
      (pss_cons (ps_for PassesOwn.never rfl (pi_enum (by rfl) B.enumerate (pa_cons (pv 0) pa_nil)) (pg_tup rfl (pgs_cons (pg_name (i := 6) scTop.nd rfl (Or.inl rfl)) (pgs_cons (pg_name (i := 4) scTop.nd rfl (Or.inl rfl)) pgs_nil)))
        (pss_one (ps_if (PW.pt (pw_and (pt_cmpR op_ne (pv 6) (pv 2) (nomark _)) (pw_and1 (pt_cmpR op_notN (pv 4) pe_non (nomark _)))))
          (pss_one (ps_for PassesOwn.never rfl (pi_tup (pe_tup (pa_cons (pe_un un_neg (pe_ix ix_tup (pv 4) pe_int (fun _ _ => rfl))) (pa_cons (pe_op op_sub (pe_un un_neg (pe_ix ix_tup (pv 4) pe_int (fun _ _ => rfl))) pe_int) pa_nil)))) (pg_name (i := 7) scTop.nd rfl (Or.inl rfl))
            (pss_one (ps_if (pt_val (pe_callG Dfeasible hr rfl pass0 (pa_cons (pv 0) (pa_cons (pv 1) (pa_cons (pv 2) (pa_cons (pv 7) pa_nil))))))
              (pss_one (ps_expr (pe_bm PySem.F.plainAttrs_list PySem.F.slot_list_append PySem.F.type_list_append mt_append (pv 5) (pa_cons (pv 7) pa_nil))))
              pss_nil))))
          pss_nil)))
      (pss_cons (ps_if (pt_not (pt_truth (pv 5) (by intro _; rfl)))
        (pss_one (ps_ret (pe_tup (pa_cons pe_non (pa_cons pe_bl pa_nil)))))
        pss_nil)
      (pss_one (ps_ret (pe_tup (pa_cons (pe_callB (cr_max rfl) (by rfl) B.max (by decide +kernel) (pa_cons (pv 5) pa_nil)) (pa_cons pe_bl pa_nil))))))))))
      , ?_⟩
    have hz : xs.length ≤ 1000 := by rw [hx.len]; exact hlen
    -- beyond = 1 + sum([..])
    refine ⟨_, rfl, a, rfl, ⟨_, hS⟩, fun D hD => ?_⟩
    refine lc_list (K := K) (a := a) (xs := xs) (fun i H2 => Same H H2 ∧ H2 D = some (.lst ((GM.wl (sps.take i)).map V.int)) ∧ (GM.wl (sps.take i)).length ≤ i) ⟨same_upd hD, upd_same, by simp [GM.wl]⟩ (fun i H2 _ ⟨s2, _⟩ => s2.seq hS) ?_ ?_
    · rintro i y H2 hy ⟨s2, hd, hl⟩
      have hi : i < sps.length := by rw [← hx.len]; exact (List.getElem?_eq_some_iff.mp hy).1
      have hv := (hx.at_ i y hy).same s2
      refine ⟨rfl, ?_⟩
      refine ⟨_, rfl, rfl, _, rfl, ?_⟩
      cases hsp : GM.atS sps i with
      | none =>
        rw [hsp] at hv
        obtain rfl : y = V.non := hv
        have e := GM.wl_none (atS_get hi hsp)
        exact ⟨s2, by rw [e]; exact hd, by rw [e]; omega⟩
      | some p =>
        obtain ⟨l, u⟩ := p
        rw [hsp] at hv
        obtain ⟨t, rfl, ht⟩ := hv
        have e := GM.wl_some (atS_get hi hsp)
        refine ⟨_, rfl, t, _, _, _, rfl, rfl, ht, at0, _, rfl, _, rfl, t, _, _, _, rfl, rfl, ht, at1, _, rfl, _, _, rfl, rfl, ?_⟩
        refine ⟨_, hd, by rw [List.length_map, sizeLine_eq]; omega, same_mut s2 hD, ?_, ?_⟩
        · rw [upd_same, e, List.map_append]
          rfl
        · rw [e, List.length_append]
          simp
          omega
    · rintro H2 ⟨s2, hd, hl⟩
      rw [hx.len, List.take_length] at hd
      refine ⟨D, _, rfl, SqL.of hd, _, _, rfl, rfl, ?_⟩
      have eb : (1 : Int) + (GM.wl sps).sum = GM.beyond sps := by unfold GM.beyond; rw [GM.wl_sum]
      refine ⟨_, rfl, _, rfl, _, rfl, _, rfl, a, xs, sps, place, _, n, rfl, s2.seq hS, hx.same s2, hn, hat, fun H3 s3 => ⟨_, rfl, ?_⟩⟩
      rw [eb]
      have s03 := s2.trans s3
      refine ite2 (fun c1 => ?_) fun c1 => ?_
      · -- feasible beyond all
        refine ⟨_, rfl, by show 2 ≤ sizeLine; decide, fun p hp => ?_⟩
        have e : GM.topLevel sps place n = (some (GM.beyond sps), false) := by unfold GM.topLevel; rw [if_pos c1]
        refine q _ p (s03.trans (same_upd hp)) (s03.free hp) ?_
        rw [upd_same, e, ← eb]
        rfl
      · refine ⟨by show 0 ≤ sizeLine; decide, fun L hL => ?_⟩
        have nL := s03.free hL
        have s4 : Same H (upd H3 L (.lst [])) := s03.trans (same_upd hL)
        refine ⟨_, rfl, a, _, rfl, s4.seq hS, ?_⟩
        refine for_it (n := xs.length) (walk_enum (xs := xs)) (fun i σ H2 => ∃ o4 o6 o7, σ = [some (.ref a), some (.int place), some (.int (n : Int)), some (.int (1 + (GM.wl sps).sum)), o4, some (.ref L), o6, o7] ∧
          Same H H2 ∧ H2 L = some (.lst ((GM.levUp sps place n i).map V.int))) ⟨_, _, _, rfl, s4, by rw [upd_same]; rfl⟩ (fun i σ H2 _ ⟨_, _, _, _, s2, _⟩ => s2.seq hS) ?_ ?_
        · rintro i y σ H4 H5 hi ⟨o4, o6, o7, rfl, s5, hl⟩ ⟨T, y1, y2, rfl, hT, rfl, e1, e2⟩
          obtain rfl := Option.some.inj e1
          have his : i < sps.length := by rw [← hx.len]; exact hi
          have s6 : Same H (upd H4 T (.tup [.int (i : Nat), y2])) := s5.trans (same_upd hT)
          have nTL : L ≠ T := ne_of_none hl hT
          have hl6 : (upd H4 T (.tup [.int (i : Nat), y2])) L = some (.lst ((GM.levUp sps place n i).map V.int)) := by rw [upd_ne nTL]; exact hl
          have hv := (hx.at_ i y2 e2).same s6
          refine ⟨T, _, rfl, SqT.of upd_same, rfl, _, _, rfl, _, _, rfl, rfl, ?_⟩
          refine ⟨_, rfl, _, rfl, rfl, _, rfl, ?_⟩
          refine ite2 (fun c2 => ?_) fun c2 => ?_
          · have c2 : i ≠ n := fun z => by rw [z] at c2; simp at c2
            refine ⟨_, rfl, rfl, _, rfl, ?_⟩
            cases hsp : GM.atS sps i with
            | none =>
              rw [hsp] at hv
              obtain rfl : y2 = V.non := hv
              exact ⟨_, _, _, rfl, s6, by rw [GM.levUp_none (atS_get his hsp)]; exact hl6⟩
            | some p =>
              obtain ⟨l, u⟩ := p
              rw [hsp] at hv
              obtain ⟨t, rfl, ht⟩ := hv
              refine ⟨_, rfl, t, _, _, _, rfl, rfl, ht, at0, _, rfl, _, rfl, t, _, _, _, rfl, rfl, ht, at1, _, rfl, _, _, rfl, rfl, by show 2 ≤ sizeLine; decide, fun U hU => ?_⟩
              have s7 := s6.trans (same_upd (o := .tup [.int (-l), .int (-u - 1)]) hU)
              have nLU : L ≠ U := ne_of_none hl6 hU
              refine ⟨U, rfl, ⟨_, SqT.of upd_same⟩, ?_⟩
              refine for_tup (K := K) (a := U) (xs := [V.int (-l), V.int (-u - 1)]) (fun j σ H8 => ∃ o7, σ = [some (.ref a), some (.int place), some (.int (n : Int)), some (.int (1 + (GM.wl sps).sum)), some (.ref t), some (.ref L), some (.int (i : Nat)), o7] ∧
                Same H H8 ∧ H8 U = some (.tup [V.int (-l), V.int (-u - 1)]) ∧ U ≠ L ∧ H8 L = some (.lst ((GM.levUp sps place n i ++ (([-l, -u - 1] : List Int).take j).filter (GM.feasB sps place n)).map V.int)))
                ⟨_, rfl, s7, upd_same, nLU.symm, by rw [upd_ne nLU, hl6]; simp⟩ (fun j σ H8 _ ⟨_, _, _, h, _⟩ => SqT.of h) ?_ ?_
              · rintro j z σ H8 hz2 ⟨o7, rfl, s8, hU8, nUL, hL8⟩
                obtain ⟨c, hc, hcz⟩ : ∃ c : Int, z = .int c ∧ ([-l, -u - 1] : List Int)[j]? = some c := by
                  match j, hz2 with
                  | 0, h => exact ⟨-l, (Option.some.inj h).symm, rfl⟩
                  | 1, h => exact ⟨-u - 1, (Option.some.inj h).symm, rfl⟩
                  | j + 2, h => simp at h
                subst hc
                refine ⟨_, rfl, _, rfl, _, rfl, _, rfl, a, xs, sps, place, _, n, rfl, s8.seq hS, hx.same s8, hn, hat, fun H9 s9 => ⟨_, rfl, ?_⟩⟩
                have ht1 : ([-l, -u - 1] : List Int).take (j + 1) = ([-l, -u - 1] : List Int).take j ++ [c] := by rw [List.take_succ, hcz]; rfl
                refine ite2 (fun c4 => ?_) fun c4 => ?_
                · refine ⟨_, rfl, .inl ⟨rfl, _, SqL.of (s9 _ _ hL8)⟩, _, rfl, L, _, _, rfl, rfl, s9 _ _ hL8, ?_, ?_⟩
                  · have z1 := GM.levUp_len sps place n i
                    have z2 := List.length_filter_le (GM.feasB sps place n) (([-l, -u - 1] : List Int).take j)
                    rw [List.length_take] at z2
                    rw [List.length_map, List.length_append, sizeLine_eq]
                    simp only [List.length_cons, List.length_nil] at z2
                    omega
                  · refine ⟨_, rfl, same_mut (s8.trans s9) nL, by rw [upd_ne nUL]; exact s9 _ _ hU8, nUL, ?_⟩
                    rw [upd_same, ht1, List.filter_append, List.filter_cons, if_pos c4]
                    simp
                · refine ⟨_, rfl, s8.trans s9, s9 _ _ hU8, nUL, ?_⟩
                  rw [s9 _ _ hL8, ht1, List.filter_append, List.filter_cons, if_neg c4]
                  simp
              · rintro σ H8 ⟨o7, rfl, s8, hU8, nUL, hL8⟩
                refine ⟨_, _, _, rfl, s8, ?_⟩
                rw [hL8, GM.levUp_some (atS_get his hsp) c2]
                rfl
          · have c2 : i = n := by
              by_cases z : i = n
              · exact z
              · exact absurd (by simp; omega) c2
            subst c2
            exact ⟨_, _, _, rfl, s6, by rw [GM.levUp_at (List.getElem?_eq_getElem his)]; exact hl6⟩
        · rintro σ H4 ⟨o4, o6, o7, rfl, s5, hl⟩
          rw [hx.len, GM.levUp_all] at hl
          refine ⟨_, rfl, _, .inl ⟨_, SqL.of hl, rfl⟩, ?_⟩
          refine ite2 (fun c5 => ?_) fun c5 => ?_
          · have c6 : (GM.levels sps place n).isEmpty = true := by
              simp at c5
              simp [c5]
            have e : GM.topLevel sps place n = (none, true) := by unfold GM.topLevel; rw [if_neg c1, if_pos c6]
            refine ⟨by show 2 ≤ sizeLine; decide, fun p hp => q _ p (s5.trans (same_upd hp)) (s5.free hp) ?_⟩
            rw [upd_same, e]
            rfl
          · have c6 : ¬ (GM.levels sps place n).isEmpty = true := fun z => c5 (by simp at z; simp [z])
            have c7 : 0 < (GM.levels sps place n).length := by
              cases hh : GM.levels sps place n with
              | nil => rw [hh] at c6; simp at c6
              | cons _ _ => simp
            refine ⟨_, rfl, L, _, rfl, SqL.of hl, c7, fun m hm hu => ?_⟩
            have e : GM.topLevel sps place n = (some m, true) := by unfold GM.topLevel; rw [if_neg c1, if_neg c6, ← GM.lmax_uniq hm hu]
            refine ⟨by show 2 ≤ sizeLine; decide, fun p hp => q _ p (s5.trans (same_upd hp)) (s5.free hp) ?_⟩
            rw [upd_same, e]
            rfl
end
end GR

set_option Elab.async false
set_option linter.all false
set_option maxRecDepth 100000
set_option maxHeartbeats 4000000
namespace GR
open PySem PySem.Spec PyProof.Rows L2
open He (ga ma)
/-- what a gauge is made of -/
structure GSpec where
  name : Str
  sort : Nat
  rad : Int
  grain : Int
  late : Int
  drift : Int
def cn : Nat → Str
  | 1 => "CoarseGauge"
  | 2 => "LateGauge"
  | 3 => "LateCoarseGauge"
  | _ => "Gauge"
def oldOf (s : GSpec) : Int := if 2 ≤ s.sort then s.late * s.drift else 0
def sbOf (s : GSpec) : Int := s.rad + oldOf s
def saOf (s : GSpec) : Int := s.rad + oldOf s + (if s.sort = 1 ∨ s.sort = 3 then s.grain - 1 else 0)
def fG (s : GSpec) : List (Str × V) := [("name", .str s.name), ("radius", .int s.rad)]
def fC (s : GSpec) : List (Str × V) := [("name", .str s.name), ("radius", .int s.rad), ("step", .int s.grain)]
def fL (s : GSpec) : List (Str × V) := [("name", .str s.name), ("radius", .int s.rad), ("late", .int s.late), ("pace", .int s.drift)]
def fLC (s : GSpec) : List (Str × V) := [("name", .str s.name), ("radius", .int s.rad), ("late", .int s.late), ("pace", .int s.drift), ("step", .int s.grain)]
def fOf (s : GSpec) : List (Str × V) := match s.sort with
  | 1 => fC s
  | 2 => fL s
  | 3 => fLC s
  | _ => fG s
/-- a gauge in the heap -/
def GaugeAt (K : PySem.W.Frag) (H : Hp) (a : Addr) (s : GSpec) : Prop := ∃ dx, H a = some (.ins (ga K (cn s.sort)) dx (fOf s))
theorem GaugeAt.same {K : PySem.W.Frag} {H H' : Hp} {a : Addr} {s : GSpec} (h : GaugeAt K H a s) (e : Same H H') : GaugeAt K H' a s := let ⟨dx, h⟩ := h; ⟨dx, e _ _ h⟩
theorem look_cons (f g : Str) (v : V) (fs : List (Str × V)) : ((g, v) :: fs).lookup f = if f = g then some v else fs.lookup f := by
  by_cases h : f = g
  · subst h
    simp [List.lookup]
  · have e : (f == g) = false := by simpa using h
    rw [if_neg h]
    simp [List.lookup, e]
theorem ne_st (a b : Str) (h : decide (a = b) = false) : ¬ a = b := of_decide_eq_false h
theorem name_of (s : GSpec) : (fOf s).lookup ("name" : Str) = some (.str s.name) := by
  unfold fOf
  split <;> rfl
theorem rad_of (s : GSpec) : (fOf s).lookup ("radius" : Str) = some (.int s.rad) := by
  unfold fOf
  split
  all_goals
    first | unfold fC | unfold fL | unfold fLC | unfold fG
    rw [look_cons, if_neg (ne_st _ _ (by decide +kernel)), look_cons, if_pos rfl]
theorem no_of (s : GSpec) {m : Str} (h : ([("name" : Str), "radius", "step", "late", "pace"] : List Str).contains m = false) : (fOf s).lookup m = none := by
  simp only [List.contains_cons, Bool.or_eq_false_iff, beq_eq_false_iff_ne] at h
  obtain ⟨h1, h2, h3, h4, h5, _⟩ := h
  unfold fOf
  split
  all_goals
    first | unfold fC | unfold fL | unfold fLC | unfold fG
    simp only [look_cons, h1, h2, h3, h4, h5, if_false]
    all_goals rfl
/-- the gauges' classes as the top has made them -/
structure GTx (K : PySem.W.Frag) (mg : Str → Option Value) : Prop where
  cls : ∀ i, Cls K (ga K (cn i))
  no : ∀ i f, f ∈ (["name", "radius", "step", "late", "pace"] : List Str) → NoAttr K (ga K (cn i)) f
  glo : ∀ i, mg (cn i) = some (.ref (ga K (cn i)))
  ops : PySem.W.nsIn K PySem.cStatics "thirdparty.any" = some none
/-- which signs a name has, how long it is -/
def letters : Str := "abcdefghijklmnopqrstuvwxyz"
def words4 : List Str := ["rank", "trim", "weigh", "together"]
structure Valid (x : Str) : Prop where
  pos : 1 ≤ x.length
  most : x.length ≤ 12
  no : x ∉ words4
  abc : ∀ c ∈ x.cps.toList, c ∈ letters.cps.toList
/-- numbers as the law draws them -/
structure Wf (s : GSpec) : Prop where
  sort : s.sort < 4
  valid : Valid s.name
  rad : 0 ≤ s.rad
  grain : 1 ≤ s.grain
  late : 0 ≤ s.late
  late2 : s.late ≤ 2
  drift : 0 ≤ s.drift
structure VTx (K : PySem.W.Frag) (mg : Str → Option Value) : Prop where
  rd : ∃ mc, ClX.CRead K (ga K "Gauge") mc ∧ ∃ u, ClX.CVal K (ga K "Gauge") mc "LONGEST" (.int 12) u
  glo : mg "Gauge" = some (.ref (ga K "Gauge"))
  letters : ∃ u, mg "LETTERS" = some u ∧ RelV (.str letters) u
  words : mg "WORDS" = some (.ref (ga K "WORDS"))
  wat : ∀ H, SqT K H (ga K "WORDS") (words4.map V.str)
def spValid : Sp := fun vs H Q _ => ∃ x, vs = [.str x] ∧ Valid x ∧ ∀ H', Same H H' → Q (.bl true) H'
section
variable {P : Program} {w : World} {K : PySem.W.Frag} {mg : Str → Option Value} {base : Heap}
theorem eqV_str (a b : Str) : eqV (V.str a) (V.str b) = decide (a = b) := by
  first | rfl | (unfold eqV; simp)
theorem scValid : FnScope ["name", "sign"] ["name"] (defScope sValid) := ⟨rfl, rfl, rfl, by decide +kernel, rfl, by decide +kernel, by decide +kernel⟩
theorem d_valid (G : GF K mg "valid_name" sValid) (B : Bl mg) (T : VTx K mg) : GDef P w K mg base CX0 1 "valid_name" spValid := by
  refine G.ok scValid (fun vs H Q E h => ?_) (fun _ _ _ _ _ _ us hl => match us, hl with | [_], _ => rfl) (fun f cdv A outer s H vs Q E hr h => ?_)
  · obtain ⟨x, rfl, _⟩ := h
    rfl
  · obtain ⟨x, rfl, hv, q⟩ := h
    obtain ⟨lu, hlu, rlu⟩ := T.letters
    obtain ⟨mc, hrd, cu, hcv⟩ := T.rd
    refine ⟨_,
      (pss_cons (ps_if (PW.pt (pw_or (pt_not (pt_val (pe_callB call_isi (by rfl) B.isinstance (by decide +kernel) (pa_cons (pv 0) (pa_cons (pe_bltn (v := .ty "str") (by rfl) B.str (by decide +kernel) rfl) pa_nil))))) (pw_or (pt_not (pt_chain op_le op_le pe_int (pe_callB call_len_str (by rfl) B.len (by decide +kernel) (pa_cons (pv 0) pa_nil)) (ClX.pe_cval (pe_glob (v := .ref (ga K "Gauge")) rfl T.glo rfl)))) (pw_or1 (pt_cmpR op_in_seq (pv 0) (pe_glob (v := .ref (ga K "WORDS")) rfl T.words rfl) (by rfl))))))
        (pss_one (ps_ret pe_bl))
        pss_nil)
      (pss_one (ps_ret (pe_callB (cr_all rfl) (by rfl) B.all (by decide +kernel) (pa_cons (pe_lc (own := [(("sign" : Str), 1)]) (g := gName 1) (tt := tYes) rfl scValid.nd (pi_str (pv 0)) (blkOk_by (own := [(("sign" : Str), 1)]) (N := ["name", "sign"]) (sc := defScope sValid) (by decide +kernel)) (fun _ _ _ _ _ => pg_name (i := 1) scValid.nd rfl (Or.inl rfl)) (fun _ _ _ _ _ => pts_nil) (fun _ _ _ _ _ => (pe_cmpR op_in_sign (pv 1) (pe_glob rfl hlu rlu) (by rfl)))) pa_nil)))))
      , ?_⟩
    have hb1 : decide ((1 : Int) ≤ (x.length : Int)) = true := decide_eq_true (by have := hv.pos; omega)
    have hb2 : decide ((x.length : Int) ≤ (12 : Int)) = true := decide_eq_true (by have := hv.most; omega)
    have hb3 : inV (.str x) (words4.map V.str) = false := by rw [inV_str]; exact decide_eq_false hv.no
    have hsz : x.length ≤ sizeLine := by have := hv.most; rw [sizeLine_eq]; omega
    refine ⟨_, rfl, _, _, .type "str", .type "str", true, rfl, .ty _, .base (.str x), kit_ty (by decide +kernel), _, rfl, ?_⟩
    refine ⟨_, rfl, x, rfl, hsz, _, _, rfl, rfl, true, congrArg V.bl hb1, ?_⟩
    refine ⟨_, mc, _, cu, rfl, hrd, hcv, _, _, rfl, rfl, true, congrArg V.bl hb2, ?_⟩
    refine ⟨_, rfl, _, _, rfl, .inr (T.wat _), rfl, flat_strs _, false, congrArg V.bl hb3, ?_⟩
    refine ⟨_, rfl, x, rfl, fun D hD => ?_⟩
    refine lc_it (n := x.cps.size) (walk_str (z := x)) (fun i H2 => Same H H2 ∧ H2 D = some (.lst ((List.replicate i true).map V.bl))) ⟨same_upd hD, upd_same⟩ (fun _ _ _ _ => trivial) ?_ ?_
    · rintro i y H2 H3 hi ⟨s2, hd⟩ ⟨rfl, c, hc, rfl⟩
      refine ⟨rfl, ?_⟩
      have hm : c ∈ letters.cps.toList := hv.abc c (by simpa using Array.mem_of_getElem? hc)
      refine ⟨_, rfl, c, letters, rfl, rfl, _, hd, ?_, same_mut s2 hD, ?_⟩
      · rw [List.length_map, List.length_replicate]
        have := hv.most
        have e : x.length = x.cps.size := rfl
        rw [sizeLine_eq]
        omega
      · rw [upd_same, decide_eq_true hm, List.replicate_succ', List.map_append]
        rfl
    · rintro H2 ⟨s2, hd⟩
      refine ⟨D, _, rfl, SqL.of hd, ?_⟩
      have e := q H2 s2
      have e2 : (List.replicate x.cps.size true).all id = true := by
        rw [List.all_eq_true]
        intro b hb
        exact (List.mem_replicate.mp hb).2
      show Q (.bl ((List.replicate x.cps.size true).all id)) H2
      rw [e2]
      exact e
end
end GR
set_option Elab.async false
set_option linter.all false
set_option maxRecDepth 100000
set_option maxHeartbeats 4000000
namespace GR
open PySem PySem.Spec PyProof.Rows L2
open He (ga ma)
theorem supOk_of {CX : CXT} {P : Program} {w : World} {K : PySem.W.Frag} {mg : Str → Option Value} {base : Heap} {N : List Str} {x qual slf : Str} {st : Stmt} {f cc D : Addr} {fd : FuncData} {cdv : Value} {A : Around} {outer : List Env} {s : Shared} {H : Hp} {E : XK}
    (F : FunS P K x qual st f cc D fd) (hcode : fd.code = cdv) (ks : (defScope st).names.lookup ("super" : Str) = some .globalImplicit) (kc : (defScope st).names.lookup ("__class__" : Str) = some .free) (kself : (defScope st).names.lookup slf = some .local)
    (arg : ∃ ar : Arg, ((defArgs st).posonlyargs ++ (defArgs st).args).head? = some ar ∧ ar.arg = slf) (slot : N[0]? = some slf) (htop : (P.main.scope.names.lookup ("super" : Str)).isSome = false) (hm : mg "super" = none) :
    SupOk (cxS CX P w K mg base N qual (defScope st) f cc cdv A outer s H E) P x qual st f cc D fd slf :=
  ⟨rfl, F, rfl, rfl, rfl, fun fd' e => by rw [← e]; exact hcode.symm, ks, kc, kself, arg, slot, htop, hm⟩
/-- super() in a method of D, self of C: m is the def at g -/
def SupAt (K : PySem.W.Frag) (C D m : Str) (g : Addr) : Prop := PySem.W.ks_superIn K (ga K C) (ga K D) m = some (some (.ref g)) ∧ PySem.W.mroIn K (ga K C) (.ref (ga K D)) = some true ∧ PySem.W.typeIn K (.ref g) = some (.type "function") ∧ PySem.W.fnIn K g = true
abbrev fGI (K : PySem.W.Frag) : Addr := ma K (ga K "Gauge") "__init__"
abbrev fGB (K : PySem.W.Frag) : Addr := ma K (ga K "Gauge") "slack_below"
abbrev fGA (K : PySem.W.Frag) : Addr := ma K (ga K "Gauge") "slack_above"
abbrev fCI (K : PySem.W.Frag) : Addr := ma K (ga K "CoarseGauge") "__init__"
abbrev fCA (K : PySem.W.Frag) : Addr := ma K (ga K "CoarseGauge") "slack_above"
abbrev fLI (K : PySem.W.Frag) : Addr := ma K (ga K "LateGauge") "__init__"
abbrev fLB (K : PySem.W.Frag) : Addr := ma K (ga K "LateGauge") "slack_below"
abbrev fLA (K : PySem.W.Frag) : Addr := ma K (ga K "LateGauge") "slack_above"
abbrev fLCI (K : PySem.W.Frag) : Addr := ma K (ga K "LateCoarseGauge") "__init__"
structure STx (K : PySem.W.Frag) : Prop where
  ci : SupAt K "CoarseGauge" "CoarseGauge" "__init__" (fGI K)
  ca1 : SupAt K "CoarseGauge" "CoarseGauge" "slack_above" (fGA K)
  ca3 : SupAt K "LateCoarseGauge" "CoarseGauge" "slack_above" (fGA K)
  lb2 : SupAt K "LateGauge" "LateGauge" "slack_below" (fGB K)
  lb3 : SupAt K "LateCoarseGauge" "LateGauge" "slack_below" (fGB K)
  la2 : SupAt K "LateGauge" "LateGauge" "slack_above" (fGA K)
  la3 : SupAt K "LateCoarseGauge" "LateGauge" "slack_above" (fCA K)

/-- Gauge.__init__(self, name, radius), self of the i-th class -/
def spGI (K : PySem.W.Frag) (i : Nat) : Sp := fun vs H Q _ => ∃ (a dx : Addr) (x : Str) (r : Int), vs = [.ref a, .str x, .int r] ∧ H a = some (.ins (ga K (cn i)) dx []) ∧ Valid x ∧ 0 ≤ r ∧
  ∀ H', SameBut [a] H H' → H' a = some (.ins (ga K (cn i)) dx [("name", .str x), ("radius", .int r)]) → Q .non H'
/-- Gauge.slack_..(self), self of the i-th class -/
def spRad (K : PySem.W.Frag) (i : Nat) : Sp := fun vs H Q _ => ∃ (a dx : Addr) (s : GSpec), vs = [.ref a] ∧ s.sort = i ∧ H a = some (.ins (ga K (cn i)) dx (fOf s)) ∧ Q (.int s.rad) H
def spCA (K : PySem.W.Frag) (i : Nat) : Sp := fun vs H Q _ => ∃ (a dx : Addr) (s : GSpec), vs = [.ref a] ∧ s.sort = i ∧ Wf s ∧ H a = some (.ins (ga K (cn i)) dx (fOf s)) ∧ Q (.int (s.rad + s.grain - 1)) H
/-- o.slack_below(), o.slack_above(), o of the i-th class: what it is -/
def spSB (K : PySem.W.Frag) (i : Nat) : Sp := fun vs H Q _ => ∃ (a dx : Addr) (s : GSpec), vs = [.ref a] ∧ s.sort = i ∧ Wf s ∧ H a = some (.ins (ga K (cn i)) dx (fOf s)) ∧ Q (.int (sbOf s)) H
def spSA (K : PySem.W.Frag) (i : Nat) : Sp := fun vs H Q _ => ∃ (a dx : Addr) (s : GSpec), vs = [.ref a] ∧ s.sort = i ∧ Wf s ∧ H a = some (.ins (ga K (cn i)) dx (fOf s)) ∧ Q (.int (saOf s)) H
theorem put2 (x : Str) (r : Int) : putF "radius" (.int r) (putF "name" (.str x) []) = ([("name", V.str x), ("radius", V.int r)] : List (Str × V)) := by
  show (if ("name" : Str) = "radius" then [(("name" : Str), V.int r)] else (("name" : Str), V.str x) :: putF "radius" (V.int r) []) = ([("name", V.str x), ("radius", V.int r)] : List (Str × V))
  rw [if_neg (ne_st _ _ (by decide +kernel))]
  all_goals rfl
theorem put_end {f : Str} {v : V} : ∀ {fs : List (Str × V)}, fs.lookup f = none → putF f v fs = fs ++ [(f, v)]
  | [], _ => rfl
  | (g, u) :: r, h => by
    rw [look_cons] at h
    by_cases e : f = g
    · rw [if_pos e] at h
      cases h
    · rw [if_neg e] at h
      show (if g = f then (g, v) :: r else (g, u) :: putF f v r) = _
      rw [if_neg (fun z => e z.symm), put_end h]
      rfl
section
variable {P : Program} {w : World} {K : PySem.W.Frag} {mg : Str → Option Value} {base : Heap}
theorem scGI : FnScope ["self", "name", "radius"] ["self", "name", "radius"] (defScope sGaugeI) := ⟨rfl, rfl, rfl, by decide +kernel, rfl, by decide +kernel, by decide +kernel⟩
theorem f_gi {f : Addr} {fd : FuncData} (F : Fun K "__init__" "Gauge.__init__" sGaugeI f fd) (T : GTx K mg) (Dvalid_name : GDef P w K mg base CX0 1 "valid_name" spValid) (i : Nat) : FnR P w K mg base CX0 2 f (spGI K i) := by
  refine mf_ok F scGI (fun vs H Q E h => ?_) (fun _ _ _ _ _ _ us hl => match us, hl with | [_, _, _], _ => rfl) (fun cdv A outer s H vs Q E hr h => ?_)
  · obtain ⟨a, dx, x, r, rfl, _⟩ := h
    rfl
  · obtain ⟨a, dx, x, r, rfl, ha, hx, hr0, q⟩ := h
    refine ⟨_,
      (pss_cons (ps_if (PW.pt (pw_or (pt_not (pt_val (pe_callG Dvalid_name hr rfl pass0 (pa_cons (pv 1) pa_nil)))) (pw_or1 (pt_cmpR op_lt (pv 2) pe_int (nomark _)))))
        (pss_one ps_never)
        pss_nil)
      (pss_cons (ps_fld (pv 0) (pv 1) rfl)
      (pss_one (ps_fld (pv 0) (pv 2) rfl))))
      , ?_⟩
    refine ⟨_, rfl, x, rfl, hx, fun H1 s1 => ⟨_, rfl, ?_⟩⟩
    have hf : decide (r < 0) = false := decide_eq_false (by omega)
    refine ⟨_, rfl, _, _, rfl, rfl, false, congrArg V.bl hf, ?_⟩
    refine ⟨_, rfl, _, rfl, a, _, dx, _, rfl, s1 _ _ ha, T.cls i, T.no i _ (by decide +kernel), by decide, ?_⟩
    refine ⟨_, rfl, _, rfl, a, _, dx, _, rfl, upd_same, T.cls i, T.no i _ (by decide +kernel), by show 1 < 1000; decide, ?_⟩
    refine q _ (fun b o e hn => ?_) ?_
    · have hba : b ≠ a := fun z => hn (by rw [z]; simp)
      rw [upd_ne hba, upd_ne hba]
      exact s1 _ _ e
    · rw [upd_same, put2]
theorem scGB : FnScope ["self"] ["self"] (defScope sGaugeB) := ⟨rfl, rfl, rfl, by decide +kernel, rfl, by decide +kernel, by decide +kernel⟩
theorem f_gb {f : Addr} {fd : FuncData} (F : Fun K "slack_below" "Gauge.slack_below" sGaugeB f fd) (T : GTx K mg) (i : Nat) : FnR P w K mg base CX0 1 f (spRad K i) := by
  refine mf_ok F scGB (fun vs H Q E h => ?_) (fun _ _ _ _ _ _ us hl => match us, hl with | [_], _ => rfl) (fun cdv A outer s H vs Q E hr h => ?_)
  · obtain ⟨a, dx, g, rfl, _⟩ := h
    rfl
  · obtain ⟨a, dx, g, rfl, hi, ha, q⟩ := h
    refine ⟨_, pss_one (ps_ret (pe_fld (pv 0) rfl)), ?_⟩
    exact ⟨_, rfl, a, _, dx, _, _, rfl, ha, T.cls i, T.no i _ (by decide +kernel), rad_of g, q⟩
theorem scGA : FnScope ["self"] ["self"] (defScope sGaugeA) := ⟨rfl, rfl, rfl, by decide +kernel, rfl, by decide +kernel, by decide +kernel⟩
theorem f_ga {f : Addr} {fd : FuncData} (F : Fun K "slack_above" "Gauge.slack_above" sGaugeA f fd) (T : GTx K mg) (i : Nat) : FnR P w K mg base CX0 1 f (spRad K i) := by
  refine mf_ok F scGA (fun vs H Q E h => ?_) (fun _ _ _ _ _ _ us hl => match us, hl with | [_], _ => rfl) (fun cdv A outer s H vs Q E hr h => ?_)
  · obtain ⟨a, dx, g, rfl, _⟩ := h
    rfl
  · obtain ⟨a, dx, g, rfl, hi, ha, q⟩ := h
    refine ⟨_, pss_one (ps_ret (pe_fld (pv 0) rfl)), ?_⟩
    exact ⟨_, rfl, a, _, dx, _, _, rfl, ha, T.cls i, T.no i _ (by decide +kernel), rad_of g, q⟩
end
/-! ### CoarseGauge -/
theorem step_of (s : GSpec) (h : s.sort = 1 ∨ s.sort = 3) : (fOf s).lookup ("step" : Str) = some (.int s.grain) := by
  unfold fOf
  rcases h with h | h <;> rw [h]
  · show (fC s).lookup _ = _
    unfold fC
    rw [look_cons, if_neg (ne_st _ _ (by decide +kernel)), look_cons, if_neg (ne_st _ _ (by decide +kernel)), look_cons, if_pos rfl]
  · show (fLC s).lookup _ = _
    unfold fLC
    rw [look_cons, if_neg (ne_st _ _ (by decide +kernel)), look_cons, if_neg (ne_st _ _ (by decide +kernel)), look_cons, if_neg (ne_st _ _ (by decide +kernel)), look_cons, if_neg (ne_st _ _ (by decide +kernel)), look_cons, if_pos rfl]
theorem late_of (s : GSpec) (h : s.sort = 2 ∨ s.sort = 3) : (fOf s).lookup ("late" : Str) = some (.int s.late) ∧ (fOf s).lookup ("pace" : Str) = some (.int s.drift) := by
  unfold fOf
  rcases h with h | h <;> rw [h]
  · show (fL s).lookup _ = _ ∧ (fL s).lookup _ = _
    unfold fL
    constructor
    · rw [look_cons, if_neg (ne_st _ _ (by decide +kernel)), look_cons, if_neg (ne_st _ _ (by decide +kernel)), look_cons, if_pos rfl]
    · rw [look_cons, if_neg (ne_st _ _ (by decide +kernel)), look_cons, if_neg (ne_st _ _ (by decide +kernel)), look_cons, if_neg (ne_st _ _ (by decide +kernel)), look_cons, if_pos rfl]
  · show (fLC s).lookup _ = _ ∧ (fLC s).lookup _ = _
    unfold fLC
    constructor
    · rw [look_cons, if_neg (ne_st _ _ (by decide +kernel)), look_cons, if_neg (ne_st _ _ (by decide +kernel)), look_cons, if_pos rfl]
    · rw [look_cons, if_neg (ne_st _ _ (by decide +kernel)), look_cons, if_neg (ne_st _ _ (by decide +kernel)), look_cons, if_neg (ne_st _ _ (by decide +kernel)), look_cons, if_pos rfl]
section
variable {P : Program} {w : World} {K : PySem.W.Frag} {mg : Str → Option Value} {base : Heap} {f cc : Addr} {fd : FuncData}
theorem scCI : FnScopeS ["self", "name", "radius", "step"] ["self", "name", "radius", "step"] (defScope sCoarseI) := ⟨rfl, rfl, rfl, by decide +kernel, rfl, by decide +kernel, by decide +kernel, by decide +kernel⟩
def spCI (K : PySem.W.Frag) : Sp := fun vs H Q _ => ∃ (a dx : Addr) (x : Str) (r p : Int), vs = [.ref a, .str x, .int r, .int p] ∧ H a = some (.ins (ga K "CoarseGauge") dx []) ∧ Valid x ∧ 0 ≤ r ∧ 1 ≤ p ∧
  ∀ H', SameBut [a] H H' → H' a = some (.ins (ga K "CoarseGauge") dx [("name", .str x), ("radius", .int r), ("step", .int p)]) → Q .non H'
theorem f_ci (F : FunS P K "__init__" "CoarseGauge.__init__" sCoarseI f cc (ga K "CoarseGauge") fd) (T : GTx K mg) (S : STx K) (B : Bl mg) (htop : (P.main.scope.names.lookup ("super" : Str)).isSome = false)
    (GI : FnR P w K mg base CX0 2 (fGI K) (spGI K 1)) : FnOk P w K mg base CX0 3 f fd ["self", "name", "radius", "step"] (spCI K) := by
  refine fn_ofS F scCI (fun vs H Q E h => ?_) fun cdv A outer s H vs Q E hcode hr h s1 I => ?_
  · obtain ⟨a, dx, x, r, p, rfl, _⟩ := h
    rfl
  · obtain ⟨a, dx, x, r, p, rfl, ha, hx, hr0, hp, q⟩ := h
    have O := supOk_of (CX := CX0) (w := w) (mg := mg) (base := base) (N := ["self", "name", "radius", "step"]) (slf := "self") (A := A) (outer := outer) (s := s) (H := H) (E := E) F hcode rfl rfl rfl ⟨_, rfl, rfl⟩ rfl htop B.sup
    have TT : SupT (cxS CX0 P w K mg base ["self", "name", "radius", "step"] "CoarseGauge.__init__" (defScope sCoarseI) f cc cdv A outer s H E) CX0 2 (ga K "CoarseGauge") "__init__" (fun C g sp => C = ga K "CoarseGauge" ∧ g = fGI K ∧ sp = spGI K 1) :=
      ⟨fun C g sp ⟨h1, h2, _⟩ => by rw [h1, h2]; exact S.ci, fun C g sp ⟨_, h2, h3⟩ => by rw [h2, h3]; exact GI, T.ops⟩
    refine (pssa_expr (pea_sup O TT hr pass0 (pa_cons (pv 1) (pa_cons (pv 2) pa_nil))) (pss_cons (ps_if (pt_cmpR op_lt (pv 3) pe_int (nomark _)) (pss_one ps_never) pss_nil) (pss_one (ps_fld (pv 0) (pv 3) rfl)))).run [] s1 _ H _ I ?_
    refine ⟨a, dx, [], _, _, _, rfl, ha, ⟨rfl, rfl, rfl⟩, _, rfl, _, rfl, a, dx, x, r, rfl, ha, hx, hr0, fun H1 s1 e1 => ?_⟩
    have hf : decide (p < 1) = false := decide_eq_false (by omega)
    refine ⟨_, rfl, _, _, rfl, rfl, false, congrArg V.bl hf, ?_⟩
    refine ⟨_, rfl, _, rfl, a, _, dx, _, rfl, e1, T.cls 1, T.no 1 _ (by decide +kernel), by show 2 < 1000; decide, ?_⟩
    refine q _ (s1.trans (but_upd (by simp))) ?_
    rw [upd_same, put_end (by rw [look_cons, if_neg (ne_st _ _ (by decide +kernel)), look_cons, if_neg (ne_st _ _ (by decide +kernel))]; rfl)]
    rfl
theorem scCA : FnScopeS ["self"] ["self"] (defScope sCoarseA) := ⟨rfl, rfl, rfl, by decide +kernel, rfl, by decide +kernel, by decide +kernel, by decide +kernel⟩
theorem f_ca (F : FunS P K "slack_above" "CoarseGauge.slack_above" sCoarseA f cc (ga K "CoarseGauge") fd) (T : GTx K mg) (S : STx K) (B : Bl mg) (htop : (P.main.scope.names.lookup ("super" : Str)).isSome = false)
    (G1 : ∀ i, FnR P w K mg base CX0 1 (fGA K) (spRad K i)) (i : Nat) (hi : i = 1 ∨ i = 3) : FnR P w K mg base CX0 2 f (spCA K i) := by
  refine fnr_of (fn_ofS F scCA (fun vs H Q E h => ?_) fun cdv A outer s H vs Q E hcode hr h s1 I => ?_) (bindsS F fun _ _ _ _ _ _ us hl => match us, hl with | [_], _ => rfl)
  · obtain ⟨a, dx, g, rfl, _⟩ := h
    rfl
  · obtain ⟨a, dx, g, rfl, hs, W, ha, q⟩ := h
    have O := supOk_of (CX := CX0) (w := w) (mg := mg) (base := base) (N := ["self"]) (slf := "self") (A := A) (outer := outer) (s := s) (H := H) (E := E) F hcode rfl rfl rfl ⟨_, rfl, rfl⟩ rfl htop B.sup
    have TT : SupT (cxS CX0 P w K mg base ["self"] "CoarseGauge.slack_above" (defScope sCoarseA) f cc cdv A outer s H E) CX0 1 (ga K "CoarseGauge") "slack_above" (fun C g sp => C = ga K (cn i) ∧ g = fGA K ∧ sp = spRad K i) :=
      ⟨fun C g sp ⟨h1, h2, _⟩ => by
        rw [h1, h2]
        rcases hi with hi | hi
        · rw [hi]; exact S.ca1
        · rw [hi]; exact S.ca3, fun C g sp ⟨_, h2, h3⟩ => by rw [h2, h3]; exact G1 i, T.ops⟩
    refine (pssa_ret (pea_op op_sub (pea_op op_add (pea_sup0 O TT hr pass0) (pe_fld (pv 0) rfl)) pe_int)).run [] s1 _ H _ I ?_
    refine ⟨a, dx, _, _, _, _, rfl, ha, ⟨rfl, rfl, rfl⟩, a, dx, g, rfl, hs, ha, ?_⟩
    exact ⟨_, rfl, a, _, dx, _, _, rfl, ha, T.cls i, T.no i _ (by decide +kernel), step_of g (by rw [hs]; exact hi), _, _, rfl, rfl, _, _, rfl, rfl, q⟩
end
end GR

set_option Elab.async false
set_option linter.all false
set_option maxRecDepth 100000
set_option maxHeartbeats 4000000
namespace GR
open PySem PySem.Spec PyProof.Rows L2
open He (ga ma)
structure LTx (K : PySem.W.Frag) : Prop where
  cg : ∃ mc, ClsFn K (ga K "Gauge") mc "__init__" (fGI K)
  cl : ∃ mc, ClsFn K (ga K "LateGauge") mc "__init__" (fLI K)
def spLI (K : PySem.W.Frag) (i : Nat) : Sp := fun vs H Q _ => ∃ (a dx : Addr) (x : Str) (r l p : Int), vs = [.ref a, .str x, .int r, .int l, .int p] ∧ H a = some (.ins (ga K (cn i)) dx []) ∧ Valid x ∧ 0 ≤ r ∧ 0 ≤ l ∧ 0 ≤ p ∧
  ∀ H', SameBut [a] H H' → H' a = some (.ins (ga K (cn i)) dx [("name", .str x), ("radius", .int r), ("late", .int l), ("pace", .int p)]) → Q .non H'
def spLCI (K : PySem.W.Frag) : Sp := fun vs H Q _ => ∃ (a dx : Addr) (x : Str) (r g l p : Int), vs = [.ref a, .str x, .int r, .int g, .int l, .int p] ∧ H a = some (.ins (ga K "LateCoarseGauge") dx []) ∧ Valid x ∧ 0 ≤ r ∧ 1 ≤ g ∧ 0 ≤ l ∧ 0 ≤ p ∧
  ∀ H', SameBut [a] H H' → H' a = some (.ins (ga K "LateCoarseGauge") dx [("name", .str x), ("radius", .int r), ("late", .int l), ("pace", .int p), ("step", .int g)]) → Q .non H'
section
variable {P : Program} {w : World} {K : PySem.W.Frag} {mg : Str → Option Value} {base : Heap} {f cc : Addr} {fd : FuncData}
theorem scLI : FnScope ["self", "name", "radius", "late", "pace"] ["self", "name", "radius", "late", "pace"] (defScope sLateI) := ⟨rfl, rfl, rfl, by decide +kernel, rfl, by decide +kernel, by decide +kernel⟩
theorem f_li (F : Fun K "__init__" "LateGauge.__init__" sLateI f fd) (T : GTx K mg) (L : LTx K) (i : Nat) (GI : FnR P w K mg base CX0 2 (fGI K) (spGI K i)) : FnOk P w K mg base CX0 3 f fd ["self", "name", "radius", "late", "pace"] (spLI K i) := by
  obtain ⟨mc, cg⟩ := L.cg
  refine F.ok scLI (fun vs H Q E h => ?_) (fun cdv A outer s H vs Q E hr h => ?_)
  · obtain ⟨a, dx, x, r, l, p, rfl, _⟩ := h
    rfl
  · obtain ⟨a, dx, x, r, l, p, rfl, ha, hx, hr0, hl0, hp0, q⟩ := h
    refine ⟨_,
      (pss_cons (ps_expr (pe_clsfn (pe_glob (v := .ref (ga K "Gauge")) rfl (T.glo 0) rfl) cg GI hr pass0 (pa_cons (pv 0) (pa_cons (pv 1) (pa_cons (pv 2) pa_nil)))))
      (pss_cons (ps_if (PW.pt (pw_or (pt_cmpR op_lt (pv 3) pe_int (nomark _)) (pw_or1 (pt_cmpR op_lt (pv 4) pe_int (nomark _)))))
        (pss_one ps_never)
        pss_nil)
      (pss_cons (ps_fld (pv 0) (pv 3) rfl)
      (pss_one (ps_fld (pv 0) (pv 4) rfl)))))
      , ?_⟩
    refine ⟨rfl, _, rfl, _, rfl, _, rfl, a, dx, x, r, rfl, ha, hx, hr0, fun H1 s1 e1 => ?_⟩
    have hf : decide (l < 0) = false := decide_eq_false (by omega)
    have hf2 : decide (p < 0) = false := decide_eq_false (by omega)
    refine ⟨_, rfl, _, _, rfl, rfl, false, congrArg V.bl hf, ?_⟩
    refine ⟨_, rfl, _, _, rfl, rfl, false, congrArg V.bl hf2, ?_⟩
    refine ⟨_, rfl, _, rfl, a, _, dx, _, rfl, e1, T.cls i, T.no i _ (by decide +kernel), by show 2 < 1000; decide, ?_⟩
    refine ⟨_, rfl, _, rfl, a, _, dx, _, rfl, upd_same, T.cls i, T.no i _ (by decide +kernel), by rw [put_end (by rw [look_cons, if_neg (ne_st _ _ (by decide +kernel)), look_cons, if_neg (ne_st _ _ (by decide +kernel))]; rfl)]; show 3 < 1000; decide, ?_⟩
    refine q _ ((s1.trans (but_upd (by simp))).trans (but_upd (by simp))) ?_
    rw [upd_same, put_end (fs := [("name", .str x), ("radius", .int r)]) (by rw [look_cons, if_neg (ne_st _ _ (by decide +kernel)), look_cons, if_neg (ne_st _ _ (by decide +kernel))]; rfl)]
    rw [put_end (by
      show ([("name", V.str x), ("radius", .int r), ("late", .int l)] : List (Str × V)).lookup _ = _
      rw [look_cons, if_neg (ne_st _ _ (by decide +kernel)), look_cons, if_neg (ne_st _ _ (by decide +kernel)), look_cons, if_neg (ne_st _ _ (by decide +kernel))]; rfl)]
    rfl
theorem scLCI : FnScope ["self", "name", "radius", "step", "late", "pace"] ["self", "name", "radius", "step", "late", "pace"] (defScope sLaCoI) := ⟨rfl, rfl, rfl, by decide +kernel, rfl, by decide +kernel, by decide +kernel⟩
theorem f_lci (F : Fun K "__init__" "LateCoarseGauge.__init__" sLaCoI f fd) (T : GTx K mg) (L : LTx K) {fd2 : FuncData} (F2 : Fun K "__init__" "LateGauge.__init__" sLateI (fLI K) fd2) (LI : FnOk P w K mg base CX0 3 (fLI K) fd2 ["self", "name", "radius", "late", "pace"] (spLI K 3)) :
    FnOk P w K mg base CX0 4 f fd ["self", "name", "radius", "step", "late", "pace"] (spLCI K) := by
  obtain ⟨mc, cl⟩ := L.cl
  have kb : KBn K fd2 ["self", "name", "radius", "late", "pace"] 3 ["late", "pace"] (fun us ws => us ++ ws) (fun vs zs => vs ++ zs) := kbn_of F2 3 ["late", "pace"] (fun us ws => us ++ ws) (fun a b => a.append b)
    (fun _ _ _ _ _ _ us ws h1 h2 => match us, h1, ws, h2 with | [_, _, _], _, [_, _], _ => rfl)
  refine F.ok scLCI (fun vs H Q E h => ?_) (fun cdv A outer s H vs Q E hr h => ?_)
  · obtain ⟨a, dx, x, r, g, l, p, rfl, _⟩ := h
    rfl
  · obtain ⟨a, dx, x, r, g, l, p, rfl, ha, hx, hr0, hg0, hl0, hp0, q⟩ := h
    refine ⟨_,
      (pss_cons (ps_expr (pe_clsfnK (pe_glob (v := .ref (ga K "LateGauge")) rfl (T.glo 2) rfl) cl LI hr kb pass0 (pa_cons (pv 0) (pa_cons (pv 1) (pa_cons (pv 2) pa_nil))) (pk_cons (pv 4) (pk_cons (pv 5) pk_nil))))
      (pss_cons (ps_if (pt_cmpR op_lt (pv 3) pe_int (nomark _))
        (pss_one ps_never)
        pss_nil)
      (pss_one (ps_fld (pv 0) (pv 3) rfl))))
      , ?_⟩
    refine ⟨rfl, _, rfl, _, rfl, _, rfl, _, rfl, _, rfl, rfl, rfl, a, dx, x, r, l, p, rfl, ha, hx, hr0, hl0, hp0, fun H1 s1 e1 => ?_⟩
    have hf : decide (g < 1) = false := decide_eq_false (by omega)
    refine ⟨_, rfl, _, _, rfl, rfl, false, congrArg V.bl hf, ?_⟩
    refine ⟨_, rfl, _, rfl, a, _, dx, _, rfl, e1, T.cls 3, T.no 3 _ (by decide +kernel), by show 4 < 1000; decide, ?_⟩
    refine q _ (s1.trans (but_upd (by simp))) ?_
    rw [upd_same, put_end (by rw [look_cons, if_neg (ne_st _ _ (by decide +kernel)), look_cons, if_neg (ne_st _ _ (by decide +kernel)), look_cons, if_neg (ne_st _ _ (by decide +kernel)), look_cons, if_neg (ne_st _ _ (by decide +kernel))]; rfl)]
    rfl
theorem scLB : FnScopeS ["self"] ["self"] (defScope sLateB) := ⟨rfl, rfl, rfl, by decide +kernel, rfl, by decide +kernel, by decide +kernel, by decide +kernel⟩
theorem scLA : FnScopeS ["self"] ["self"] (defScope sLateA) := ⟨rfl, rfl, rfl, by decide +kernel, rfl, by decide +kernel, by decide +kernel, by decide +kernel⟩
theorem f_lb (F : FunS P K "slack_below" "LateGauge.slack_below" sLateB f cc (ga K "LateGauge") fd) (T : GTx K mg) (S : STx K) (B : Bl mg) (htop : (P.main.scope.names.lookup ("super" : Str)).isSome = false)
    (G1 : ∀ i, FnR P w K mg base CX0 1 (fGB K) (spRad K i)) (i : Nat) (hi : i = 2 ∨ i = 3) : FnR P w K mg base CX0 2 f (spSB K i) := by
  refine fnr_of (fn_ofS F scLB (fun vs H Q E h => ?_) fun cdv A outer s H vs Q E hcode hr h s1 I => ?_) (bindsS F fun _ _ _ _ _ _ us hl => match us, hl with | [_], _ => rfl)
  · obtain ⟨a, dx, g, rfl, _⟩ := h
    rfl
  · obtain ⟨a, dx, g, rfl, hs, W, ha, q⟩ := h
    have O := supOk_of (CX := CX0) (w := w) (mg := mg) (base := base) (N := ["self"]) (slf := "self") (A := A) (outer := outer) (s := s) (H := H) (E := E) F hcode rfl rfl rfl ⟨_, rfl, rfl⟩ rfl htop B.sup
    have TT : SupT (cxS CX0 P w K mg base ["self"] "LateGauge.slack_below" (defScope sLateB) f cc cdv A outer s H E) CX0 1 (ga K "LateGauge") "slack_below" (fun C g sp => C = ga K (cn i) ∧ g = fGB K ∧ sp = spRad K i) :=
      ⟨fun C g sp ⟨h1, h2, _⟩ => by
        rw [h1, h2]
        rcases hi with hi | hi
        · rw [hi]; exact S.lb2
        · rw [hi]; exact S.lb3, fun C g sp ⟨_, h2, h3⟩ => by rw [h2, h3]; exact G1 i, T.ops⟩
    have e : sbOf g = g.rad + g.late * g.drift := by
      show g.rad + oldOf g = _
      unfold oldOf
      rw [if_pos (by omega)]
    rw [e] at q
    refine (pssa_ret (pea_op op_add (pea_sup0 O TT hr pass0) (pe_op op_mul (pe_fld (pv 0) rfl) (pe_fld (pv 0) rfl)))).run [] s1 _ H _ I ?_
    refine ⟨a, dx, _, _, _, _, rfl, ha, ⟨rfl, rfl, rfl⟩, a, dx, g, rfl, hs, ha, ?_⟩
    have hl := late_of g (by rw [hs]; exact hi)
    exact ⟨_, rfl, a, _, dx, _, _, rfl, ha, T.cls i, T.no i _ (by decide +kernel), hl.1, _, rfl, a, _, dx, _, _, rfl, ha, T.cls i, T.no i _ (by decide +kernel), hl.2, _, _, rfl, rfl, .inl ⟨by have := W.late; omega, by have := W.late2; omega⟩, _, _, rfl, rfl, q⟩
theorem f_la2 (F : FunS P K "slack_above" "LateGauge.slack_above" sLateA f cc (ga K "LateGauge") fd) (T : GTx K mg) (S : STx K) (B : Bl mg) (htop : (P.main.scope.names.lookup ("super" : Str)).isSome = false)
    (G1 : ∀ i, FnR P w K mg base CX0 1 (fGA K) (spRad K i)) : FnR P w K mg base CX0 2 f (spSA K 2) := by
  refine fnr_of (fn_ofS F scLA (fun vs H Q E h => ?_) fun cdv A outer s H vs Q E hcode hr h s1 I => ?_) (bindsS F fun _ _ _ _ _ _ us hl => match us, hl with | [_], _ => rfl)
  · obtain ⟨a, dx, g, rfl, _⟩ := h
    rfl
  · obtain ⟨a, dx, g, rfl, hs, W, ha, q⟩ := h
    have O := supOk_of (CX := CX0) (w := w) (mg := mg) (base := base) (N := ["self"]) (slf := "self") (A := A) (outer := outer) (s := s) (H := H) (E := E) F hcode rfl rfl rfl ⟨_, rfl, rfl⟩ rfl htop B.sup
    have TT : SupT (cxS CX0 P w K mg base ["self"] "LateGauge.slack_above" (defScope sLateA) f cc cdv A outer s H E) CX0 1 (ga K "LateGauge") "slack_above" (fun C g sp => C = ga K (cn 2) ∧ g = fGA K ∧ sp = spRad K 2) :=
      ⟨fun C g sp ⟨h1, h2, _⟩ => by rw [h1, h2]; exact S.la2, fun C g sp ⟨_, h2, h3⟩ => by rw [h2, h3]; exact G1 2, T.ops⟩
    have e : saOf g = g.rad + g.late * g.drift := by
      show g.rad + oldOf g + _ = _
      unfold oldOf
      rw [if_pos (by omega), if_neg (by omega), Int.add_zero]
    rw [e] at q
    refine (pssa_ret (pea_op op_add (pea_sup0 O TT hr pass0) (pe_op op_mul (pe_fld (pv 0) rfl) (pe_fld (pv 0) rfl)))).run [] s1 _ H _ I ?_
    refine ⟨a, dx, _, _, _, _, rfl, ha, ⟨rfl, rfl, rfl⟩, a, dx, g, rfl, hs, ha, ?_⟩
    have hl := late_of g (.inl hs)
    exact ⟨_, rfl, a, _, dx, _, _, rfl, ha, T.cls 2, T.no 2 _ (by decide +kernel), hl.1, _, rfl, a, _, dx, _, _, rfl, ha, T.cls 2, T.no 2 _ (by decide +kernel), hl.2, _, _, rfl, rfl, .inl ⟨by have := W.late; omega, by have := W.late2; omega⟩, _, _, rfl, rfl, q⟩
theorem f_la3 (F : FunS P K "slack_above" "LateGauge.slack_above" sLateA f cc (ga K "LateGauge") fd) (T : GTx K mg) (S : STx K) (B : Bl mg) (htop : (P.main.scope.names.lookup ("super" : Str)).isSome = false)
    (G2 : FnR P w K mg base CX0 2 (fCA K) (spCA K 3)) : FnR P w K mg base CX0 3 f (spSA K 3) := by
  refine fnr_of (fn_ofS F scLA (fun vs H Q E h => ?_) fun cdv A outer s H vs Q E hcode hr h s1 I => ?_) (bindsS F fun _ _ _ _ _ _ us hl => match us, hl with | [_], _ => rfl)
  · obtain ⟨a, dx, g, rfl, _⟩ := h
    rfl
  · obtain ⟨a, dx, g, rfl, hs, W, ha, q⟩ := h
    have O := supOk_of (CX := CX0) (w := w) (mg := mg) (base := base) (N := ["self"]) (slf := "self") (A := A) (outer := outer) (s := s) (H := H) (E := E) F hcode rfl rfl rfl ⟨_, rfl, rfl⟩ rfl htop B.sup
    have TT : SupT (cxS CX0 P w K mg base ["self"] "LateGauge.slack_above" (defScope sLateA) f cc cdv A outer s H E) CX0 2 (ga K "LateGauge") "slack_above" (fun C g sp => C = ga K (cn 3) ∧ g = fCA K ∧ sp = spCA K 3) :=
      ⟨fun C g sp ⟨h1, h2, _⟩ => by rw [h1, h2]; exact S.la3, fun C g sp ⟨_, h2, h3⟩ => by rw [h2, h3]; exact G2, T.ops⟩
    have e : saOf g = g.rad + g.grain - 1 + g.late * g.drift := by
      show g.rad + oldOf g + _ = _
      unfold oldOf
      rw [if_pos (by omega), if_pos (by omega)]
      omega
    rw [e] at q
    refine (pssa_ret (pea_op op_add (pea_sup0 O TT hr pass0) (pe_op op_mul (pe_fld (pv 0) rfl) (pe_fld (pv 0) rfl)))).run [] s1 _ H _ I ?_
    refine ⟨a, dx, _, _, _, _, rfl, ha, ⟨rfl, rfl, rfl⟩, a, dx, g, rfl, hs, W, ha, ?_⟩
    have hl := late_of g (.inr hs)
    exact ⟨_, rfl, a, _, dx, _, _, rfl, ha, T.cls 3, T.no 3 _ (by decide +kernel), hl.1, _, rfl, a, _, dx, _, _, rfl, ha, T.cls 3, T.no 3 _ (by decide +kernel), hl.2, _, _, rfl, rfl, .inl ⟨by have := W.late; omega, by have := W.late2; omega⟩, _, _, rfl, rfl, q⟩
/-- a radius is all of it -/
theorem sb_rad (i : Nat) (h : i = 0 ∨ i = 1) {f : Addr} {k : Nat} (G1 : FnR P w K mg base CX0 k f (spRad K i)) : FnR P w K mg base CX0 k f (spSB K i) :=
  G1.imp fun vs H Q E ⟨a, dx, g, e, hs, W, ha, q⟩ => ⟨a, dx, g, e, hs, ha, by
    have e : sbOf g = g.rad := by
      show g.rad + oldOf g = _
      unfold oldOf
      rw [if_neg (by omega), Int.add_zero]
    rw [e] at q
    exact q⟩
theorem sa_rad {f : Addr} {k : Nat} (G1 : FnR P w K mg base CX0 k f (spRad K 0)) : FnR P w K mg base CX0 k f (spSA K 0) :=
  G1.imp fun vs H Q E ⟨a, dx, g, e, hs, W, ha, q⟩ => ⟨a, dx, g, e, hs, ha, by
    have e : saOf g = g.rad := by
      show g.rad + oldOf g + _ = _
      unfold oldOf
      rw [if_neg (by omega), if_neg (by omega), Int.add_zero, Int.add_zero]
    rw [e] at q
    exact q⟩
theorem sa_ca {f : Addr} {k : Nat} (G1 : FnR P w K mg base CX0 k f (spCA K 1)) : FnR P w K mg base CX0 k f (spSA K 1) :=
  G1.imp fun vs H Q E ⟨a, dx, g, e, hs, W, ha, q⟩ => ⟨a, dx, g, e, hs, W, ha, by
    have e : saOf g = g.rad + g.grain - 1 := by
      show g.rad + oldOf g + _ = _
      unfold oldOf
      rw [if_neg (by omega), if_pos (by omega)]
      omega
    rw [e] at q
    exact q⟩
end
end GR

set_option Elab.async false
set_option linter.all false
set_option maxRecDepth 100000
set_option maxHeartbeats 4000000
/-! C(*xs, k = v), C a local name; a def f(a, *v, k) called with values and keywords. -/
namespace PySem.W
open PySem PySem.Calls PyProof.Rows
section
variable {M : Model} {A : Around} {E : Value → Shared → Prop} {s : Shared}
theorem gr_lone {f : Value} {x : Sem Value} {pos : Pos} {kws : List (Option Str × Sem Value)} {Q : Args → Shared → Prop} (hall : kws.all (·.1.isSome) = true)
    (h : wpAny M A x (fun v s₁ => wpAny M A (evalAll (kws.map (·.2))) (fun ws s₂ => StarOf M A E v (fun vs s₃ => Q ⟨vs, (kws.filterMap (·.1)).zip ws⟩ s₃) s₂) E s₁) E s) :
    wpAny M A (evalArgs f true [(true, (do let v ← x; standAt pos; pure v))] kws) Q E s := by
  unfold evalArgs
  first
    | refine wpAny_bind (wpAny_bind (wpAny_mono h (fun v s₁ h₁ => wpAny_bind (wpAny_standAt (wpAny_pure ?_))) fun _ _ x => x))
    | refine wpAny_bind (wpAny_bind (wpAny_bind (wpAny_mono h (fun v s₁ h₁ => wpAny_bind (wpAny_standAt (wpAny_pure (wpAny_pure ?_)))) fun _ _ x => x)))
  refine wpAny_holding ?_
  simp only [hall, if_true]
  refine wpAny_bind (wpAny_mono h₁ (fun ws s₂ h₂ => ?_) fun _ _ x => x)
  unfold StarOf at h₂
  refine wpAny_bind (wpAny_bind (wpAny_mono h₂ (fun b s₃ h₃ => ?_) fun _ _ x => x))
  obtain ⟨rfl, h₃⟩ := h₃
  have z := wpAny_holding (vs := List.map (fun x => x.2) ((List.filterMap (fun x => x.1) kws).zip ws)) (wpAny_mono h₃ (fun vs s₄ h₄ => h₄) fun _ _ x => x)
  try simp only [Bool.false_eq_true, if_false]
  exact wpAny_mono z (fun vs s₄ h₄ => wpAny_pure h₄) fun _ _ x => x
theorem gr_call {f : Value} {first : List Value} {pos : Pos} {Q : Value → Shared → Prop} {P : Heap → Prop} {args : List (Bool × Sem Value)} {kws : List (Option Str × Sem Value)} (hst : args.any (·.1) = true)
    (hk : ∀ h, P h → ∃ k, (k = Keeper.frame ∨ k = Keeper.machine ∨ k = Keeper.boundFrame) ∧ Looks M h (keeperOf f) k)
    (h : wpAny M A (evalArgs f true args kws) (fun a s₁ => P s₁.heap ∧ wpAny M A (call f (first ++ a.pos) a.kw) Q E s₁) E s) : wpAny M A (callWith pos f first args kws) Q E s := by
  unfold callWith
  refine wpAny_bind (wpAny_holding (wpAny_mono h (fun a s₁ h₁ => wpAny_bind (wpAny_standAt ?_)) fun _ _ x => x))
  obtain ⟨k, hk', L⟩ := hk _ h₁.1
  simp only [hst, Bool.true_or]
  refine wpAny_bind (L.here ?_)
  have tail : ∀ {t : Sem Value}, wpAny M A t Q E s₁ → wpAny M A (t >>= fun r => holding [r] point >>= fun _ => pure r) Q E s₁ :=
    fun ht => wpAny_bind (wpAny_mono ht (fun r s₂ hr => wpAny_bind (wpAny_holding (wpAny_point (wpAny_pure hr)))) fun _ _ x => x)
  have marked (mk : Value) : wpAny M A (callMarked mk f (first ++ a.pos) a.kw) Q E s₁ := by unfold callMarked; exact Calls.wpAny_keep h₁.2
  rcases hk' with rfl | rfl | rfl <;> dsimp only <;> first | exact tail (marked _) | exact tail (wpAny_operating h₁.2)
end
end PySem.W
namespace GR
open PySem PySem.Spec PyProof.Rows L2 StX
/-- a def called with values and keywords -/
def FnSK (P : Program) (w : World) (K : PySem.W.Frag) (mg : Str → Option Value) (base : Heap) (CX : CXT) (k : Nat) (f : Addr) (ks : List Str) (sp : List V → List V → Hp → VK → XK → Prop) : Prop :=
  ∀ (A : Around) (outer : List Env) (s : Shared) (H : Hp) (us ws : List Value) (vs zs : List V) (Q : VK) (E : XK), Room k A → Env0 P w K mg base A outer s H → Vals vs us → Vals zs ws → zs.length = ks.length → sp vs zs H Q E →
    codeAny (model P w) A (.call (.ref f) ⟨us, ks.zip ws⟩) (CR CX outer P w H s Q E) s
section
variable {CX : CXT} {P : Program} {w : World} {K : PySem.W.Frag} {mg : Str → Option Value} {base : Heap} {k : Nat} {f : Addr} {name qual : Str} {params : Arguments} {body : List Stmt} {scope : Scope} {dV kV doc pm cdv ct oc : Value} {an od : Option Addr}
  {osl : Array (Option Value)} {N ps ks : List Str} {sp : Sp}
/-- def f(a, .., *v, k): positional values, what is left over, keywords -/
theorem fn_starK {pv : Str} (n : Nat) (lk : K.lookup f = some ⟨oc, od, .func (PySem.W.fnOf name qual params body scope dV kV doc pm an cdv ct), osl⟩) (hcd : PySem.W.codeIn K cdv qual = true) (S : FnScope N (ps ++ [pv]) scope) (hCX : CXUp CX) (hps : n + ks.length = ps.length)
    (hb : ∀ us rest ws : List Value, us.length = n → ws.length = ks.length → bindArgs (PySem.W.fnOf name qual params body scope dV kV doc pm an cdv ct) ⟨us ++ rest, ks.zip ws⟩ = (newTuple rest >>= fun t => pure (ps.zip (us ++ ws) ++ [(pv, t)])))
    (hbody : ∀ (A : Around) (outer : List Env) (s : Shared) (H : Hp) (vs : List V) (Q : VK) (E : XK), Room k (A.deeper (envOfC qual scope s.heap.objs.size f cdv)) → sp vs H Q E →
      ∃ t, PSs (cxOf CX P w K mg base N qual scope f cdv A outer s H E) body t ∧ t { nx := fun _ H' => Q .non H', rt := Q } (start N vs) H) :
    FnSK P w K mg base CX (k + 1) f ks (fun vs zs H Q E => ∃ ws rest, vs = ws ++ rest ∧ ws.length = n ∧ rest.length ≤ sizeLine ∧ ∀ p, H p = Option.none → sp (ws ++ zs ++ [V.ref p]) (upd H p (.tup rest)) Q E) := by
  intro A outer s H us wz vs zs Q E hr e0 r rz hlz hsp
  obtain ⟨ws, rest, ev, hl, hz, hq⟩ := hsp
  subst ev
  obtain ⟨u1, u2, eu, r1, r2⟩ := vals_split r
  subst eu
  have hn : H s.heap.objs.size = Option.none := e0.hok.fresh (Nat.le_refl _)
  have hl1 : u1.length = n := by rw [← r1.length]; exact hl
  have hlw : wz.length = ks.length := by rw [← rz.length]; exact hlz
  have hl2 : u2.length ≤ sizeLine := by rw [← r2.length]; exact hz
  have hl3 : (u1 ++ wz).length = ps.length := by rw [List.length_append, hl1, hlw]; exact hps
  refine run_bnd lk hcd S hr e0 (G := fun xs H2 => ∃ p, H p = Option.none ∧ xs = ws ++ zs ++ [V.ref p] ∧ H2 = upd H p (.tup rest)) (fun A' Ex Q' h => ?_) fun s2 H2 xs ⟨p, hp, ex, eH⟩ hr' => ?_
  · rw [hb u1 u2 wz hl1 hlw]
    refine wpAny_bind (wpAny_newTuple (wpAny_pure ?_) hl2)
    have new : ObjOk P w (upd H s.heap.objs.size (.tup rest)) (s.heap.push ({ cls := .type "tuple", data := .seq u2.toArray } : Obj)) s.heap.objs.size (.tup rest) := ⟨hz, u2, r2, ⟨_, Heap.get?_push_size _ rfl, rfl, _, rfl⟩⟩
    have un := un_laid (fs := frs outer) (s := s) (o := ({ cls := .type "tuple", data := .seq u2.toArray } : Obj)) (u := .tup rest) hn
    have z := h _ _ (ws ++ zs ++ [V.ref s.heap.objs.size]) (u1 ++ wz ++ [Value.ref s.heap.objs.size]) (env0_laid e0 new) un rfl (fun e s' => hCX outer s H _ _ E e s' un (fun b o q => Heap.get?_push_of_some _ q) rfl) ((r1.append rz).append (.cons rfl .nil))
      (by rw [List.length_append, List.length_append, List.length_append, hl, hlz, hps] <;> rfl) ⟨_, hn, rfl, rfl⟩
    rw [List.zip_append hl3.symm] at z
    exact z
  · subst ex eH
    exact hbody A outer s2 _ _ Q E hr' (hq p hp)
end
/-- C(*e, k = v, ..), C in slot i -/
def tMakeSK (K : PySem.W.Frag) (i : Nat) (C : Addr) (m : Nat) (sp : List V → List V → Hp → VK → XK → Prop) (E : XK) (te : TE) (tk : TA) : TE := fun σ H Q => σ[i]? = some (some (.ref C)) ∧ te σ H fun y H1 => ∃ a xs, y = .ref a ∧ tk σ H1 fun zs H2 => zs.length = m ∧ (SqT K H2 a xs ∨ SqL K H2 a xs) ∧
  ∀ x dx, H2 x = Option.none → H2 dx = Option.none → dx ≠ x → sp (V.ref x :: xs) zs (upd (upd H2 dx (.own x)) x (.ins C dx [])) (fun v H3 => v = .non ∧ Q (.ref x) H3) E
section
variable {X : Cx} {CX : CXT} {k i : Nat} {f C : Addr} {ks : List Str} {sp : List V → List V → Hp → VK → XK → Prop} {E : XK} {x : Str} {e : Expr} {kws : List Keyword} {te : TE} {tk : TA} {p sp_ pos : Pos}
theorem run_makeSK {pins : List (Addr × Obj)} {σ : L2.St} {H : Hp} {s : Shared} {Q : VK} {us ws : List Value} {vs zs : List V} (M : Mk X.K C f) (F : FnSK X.prog X.w X.K X.mg X.base CX k f ks sp) (hr : Room (k + 1) X.A) (hx : Passes CX X E) (I : Inv X pins σ H s) (r : Vals vs us) (rz : Vals zs ws) (hl : zs.length = ks.length)
    (h : ∀ x dx, H x = Option.none → H dx = Option.none → dx ≠ x → sp (V.ref x :: vs) zs (upd (upd H dx (.own x)) x (.ins C dx [])) (fun v H2 => v = .non ∧ Q (.ref x) H2) E) :
    wpAny (model X.prog X.w) X.A (call (.ref C) us (ks.zip ws)) (EP X pins σ Q) X.xe s := by
  have hq := h (s.heap.objs.size + 1) s.heap.objs.size (I.hok.fresh (Nat.le_succ _)) (I.hok.fresh (Nat.le_refl _)) (Nat.ne_of_lt (Nat.lt_succ_self _))
  have I2 := Inv.made (C := C) I
  have r2 : Vals (V.ref (s.heap.objs.size + 1) :: vs) (Value.ref (s.heap.objs.size + 1) :: us) := .cons rfl r
  refine wpAny_call (make_map (f := f) I.kIn M.makes M.init (beq_iff_eq.mp M.fn) (codeAny_mono (F _ X.stack _ _ (Value.ref (s.heap.objs.size + 1) :: us) ws _ zs _ E (hr.make C us (ks.zip ws)) (I2.env0.make C us (ks.zip ws)) r2 rz hl hq) fun r s' hq' => ?_))
  cases r with
  | error e => exact hx pins σ _ _ e s' I2 hq'
  | ok fl =>
    cases fl with
    | ret u =>
      obtain ⟨v, H', I3, rv, ev, q3⟩ := I2.after hq'
      subst ev
      exact ⟨rv, ⟨V.ref (s.heap.objs.size + 1), H', I3, rfl, q3⟩⟩
    | next => exact False.elim hq'
    | brk => exact False.elim hq'
    | cont => exact False.elim hq'
theorem pe_makeSK (M : Mk X.K C f) (F : FnSK X.prog X.w X.K X.mg X.base CX k f ks sp) (hr : Room (k + 1) X.A) (hx : Passes CX X E) (hN : X.N[i]? = some x) (hv : Vis X.env.scope x) (he : PE X e te) (hkw : PK X kws tk)
    (hall : (backToKw pos (keywordEach kws X.env)).all (·.1.isSome) = true := by rfl) (hks : (backToKw pos (keywordEach kws X.env)).filterMap (·.1) = ks := by rfl)
    (hd : (x == ("__debug__" : Str)) = false := by decide) (hcd : (x == ("__classdict__" : Str)) = false := by decide) (hst : starEach [.Starred e sp_] X.env = [(true, eval e X.env)] := by rfl) :
    PE X (.Call (.Name x p) [.Starred e sp_] kws pos) (tMakeSK X.K i C ks.length sp E te tk) := by
  refine ⟨fun pins s σ H Q I h => ?_⟩
  obtain ⟨hs, h⟩ := h
  refine wpAny_Call_Name_kw (thn ((pe_var (pos := p) (i := i) hN hv hd hcd).run pins s σ H (fun v H1 => v = .ref C ∧ H1 = H) I ⟨.ref C, hs, rfl, rfl⟩) fun u s1 ⟨v, H1, I1, r1, ev, eH⟩ => ?_)
  subst ev
  rw [eH] at I1
  cases r1
  rw [hst]
  refine PySem.W.gr_call (P := fun h => X.K.In h) rfl (PySem.W.keeps_K M.kp) (PySem.W.gr_lone hall ?_)
  refine thn (he.run pins s1 σ H _ I1 h) fun v s2 ⟨y, H2, I2, ry, a, xs, ey, q⟩ => ?_
  subst ey
  obtain rfl : v = Value.ref a := ry
  refine thn (hkw.run pos pins s2 σ H2 _ I2 q) fun ws s3 ⟨zs, H3, I3, rz, hl, hxs, q3⟩ => ?_
  rw [hks]
  exact star_any I3 hxs fun us s4 I4 rv => ⟨I4.kIn, run_makeSK M F hr hx I4 rv rz hl q3⟩
end
end GR

set_option Elab.async false
set_option linter.all false
set_option maxRecDepth 100000
set_option maxHeartbeats 4000000
namespace GR
open PySem PySem.Spec PyProof.Rows L2
open He (ga ma)
abbrev GA := GSpec × Addr
def kvOf (gs : List GA) : List (Key × V) := gs.map fun p => (Sum.inr p.1.name, V.ref p.2)
def gnames (gs : List GA) : List Str := gs.map fun p => p.1.name
theorem valV_kv_none {gs : List GA} {x : Str} (h : x ∉ gnames gs) : valV (kvOf gs) (Sum.inr x) = none := by
  unfold valV
  rw [Option.map_eq_none_iff, List.find?_eq_none]
  intro kv hk
  obtain ⟨p, hp, rfl⟩ := List.mem_map.mp hk
  simp only [decide_eq_true_eq]
  intro e
  exact h (List.mem_map.mpr ⟨p, hp, Sum.inr.inj e⟩)
theorem valV_kv_some {gs : List GA} (nd : (gnames gs).Nodup) {p : GA} (h : p ∈ gs) : valV (kvOf gs) (Sum.inr p.1.name) = some (.ref p.2) := by
  induction gs with
  | nil => cases h
  | cons q r ih =>
    have nd : (q.1.name :: gnames r).Nodup := nd
    rcases List.mem_cons.mp h with h | h
    · subst h
      exact valV_pos rfl
    · have ne : ¬ (Sum.inr q.1.name : Key) = Sum.inr p.1.name := fun e => (List.nodup_cons.mp nd).1 (by rw [Sum.inr.inj e]; exact List.mem_map.mpr ⟨p, h, rfl⟩)
      show valV ((Sum.inr q.1.name, V.ref q.2) :: kvOf r) _ = _
      rw [valV_neg ne]
      exact ih (List.nodup_cons.mp nd).2 h
theorem kvOf_take {gs : List GA} {i : Nat} {p : GA} (nd : (gnames gs).Nodup) (h : gs[i]? = some p) : p.1.name ∉ gnames (gs.take i) ∧ kvOf (gs.take (i + 1)) = kvOf (gs.take i) ++ [(Sum.inr p.1.name, V.ref p.2)] := by
  have e : gs.take (i + 1) = gs.take i ++ [p] := by rw [List.take_succ, h]; rfl
  constructor
  · intro hm
    have nd2 : (gnames (gs.take (i + 1))).Nodup := by
      have : gnames (gs.take (i + 1)) = (gnames gs).take (i + 1) := by unfold gnames; rw [List.map_take]
      rw [this]
      exact nd.sublist (List.take_sublist _ _)
    rw [e] at nd2
    have nd3 : (gnames (gs.take i) ++ [p.1.name]).Nodup := by
      unfold gnames at nd2 ⊢
      rw [List.map_append] at nd2
      exact nd2
    rw [List.nodup_append] at nd3
    exact nd3.2.2 _ hm _ (by simp) rfl
  · rw [e]
    unfold kvOf
    rw [List.map_append]
    rfl
/-- a rack in the heap -/
structure RackAt (K : PySem.W.Frag) (H : Hp) (r : Addr) (gs : List GA) : Prop where
  at_ : ∃ dx D G, H r = some (.ins (ga K "Rack") dx [("gauges", .ref D), ("groups", .ref G)]) ∧ H D = some (.dK (kvOf gs))
  nd : (gnames gs).Nodup
  len : gs.length ≤ 9
  gat : ∀ p ∈ gs, GaugeAt K H p.2 p.1
  wf : ∀ p ∈ gs, Wf p.1
theorem RackAt.same {K : PySem.W.Frag} {H H' : Hp} {r : Addr} {gs : List GA} (h : RackAt K H r gs) (e : Same H H') : RackAt K H' r gs := by
  obtain ⟨dx, D, G, h1, h2⟩ := h.at_
  exact ⟨⟨dx, D, G, e _ _ h1, e _ _ h2⟩, h.nd, h.len, fun p hp => (h.gat p hp).same e, h.wf⟩
structure KTx (K : PySem.W.Frag) : Prop where
  cls : Cls K (ga K "Rack")
  no : ∀ f, f ∈ (["gauges", "groups"] : List Str) → NoAttr K (ga K "Rack") f
theorem fOf_ne (s : GSpec) : fOf s ≠ [] := by
  unfold fOf
  split <;> (intro h; cases h)
theorem sqT_but {K : PySem.W.Frag} {H H2 : Hp} {a b C dx : Addr} {fs : List (Str × V)} {xs : List V} (h : SqT K H b xs) (s : SameBut [a] H H2) (ha : H a = some (.ins C dx fs)) : SqT K H2 b xs := by
  rcases h with (h | ⟨o, h⟩) | h
  · exact .inl (.inl (s b _ h (by simpa using ne_of h ha (fun z => nomatch z))))
  · exact .inl (.inr ⟨o, s b _ h (by simpa using ne_of h ha (fun z => nomatch z))⟩)
  · exact .inr h
theorem but_new {H H2 : Hp} {p : Addr} {o : HO} {as : List Addr} (s : SameBut as H H2) (n : H p = none) : SameBut as H (upd H2 p o) := fun b u e h => by rw [upd_ne (ne_of_none e n)]; exact s b u e h
theorem but_in {H H2 : Hp} {p : Addr} {o : HO} {as : List Addr} (s : SameBut as H H2) (n : p ∈ as) : SameBut as H (upd H2 p o) := fun b u e h => by rw [upd_ne (fun z => h (by rw [z]; exact n))]; exact s b u e h
theorem but_free {H H2 : Hp} {a b C dx : Addr} {fs : List (Str × V)} (s : SameBut [a] H H2) (ha : H a = some (.ins C dx fs)) (ha2 : ∃ o, H2 a = some o) (n : H2 b = none) : H b = none := by
  cases e : H b with
  | none => rfl
  | some o =>
    by_cases z : b = a
    · obtain ⟨o2, h2⟩ := ha2
      rw [z, h2] at n
      cases n
    · have := s b o e (by simpa using z)
      rw [n] at this
      cases this
def spRackI (K : PySem.W.Frag) : Sp := fun vs H Q _ => ∃ (a dx tog tup grp : Addr) (gs : List GA) (ws : List Str), vs = [.ref a, .ref tog, .ref tup] ∧ H a = some (.ins (ga K "Rack") dx []) ∧ H tup = some (.tup (gs.map fun p => V.ref p.2)) ∧ SqT K H tog [.ref grp] ∧ SqT K H grp (ws.map V.str) ∧
  ws.Nodup ∧ (∀ x ∈ ws, x ∈ gnames gs) ∧ (gnames gs).Nodup ∧ gs.length ≤ 9 ∧ (∀ p ∈ gs, GaugeAt K H p.2 p.1) ∧ (∀ p ∈ gs, Wf p.1) ∧ ∀ H', SameBut [a] H H' → RackAt K H' a gs → Q .non H'
section
variable {P : Program} {w : World} {K : PySem.W.Frag} {mg : Str → Option Value} {base : Heap}
theorem scRI : FnScope ["self", "together", "gauges", "gauge", "used", "group", "name", "placed", "found", "other"] ["self", "together", "gauges"] (defScope sRackI) := ⟨rfl, rfl, rfl, by decide +kernel, rfl, by decide +kernel, by decide +kernel⟩
theorem b_rackI {k : Nat} {f : Addr} {cdv : Value} {A : Around} {outer : List Env} {s : Shared} {H : Hp} {vs : List V} {Q : VK} {E : XK} (T : GTx K mg) (R : KTx K) (hr : Room k (A.deeper (envOfC "Rack.__init__" (defScope sRackI) s.heap.objs.size f cdv))) (h : spRackI K vs H Q E) :
    ∃ t, PSs (cxOf CX0 P w K mg base ["self", "together", "gauges", "gauge", "used", "group", "name", "placed", "found", "other"] "Rack.__init__" (defScope sRackI) f cdv A outer s H E).nox (defBody sRackI) t ∧ t { nx := fun _ H' => Q .non H', rt := Q } (L2.start ["self", "together", "gauges", "gauge", "used", "group", "name", "placed", "found", "other"] vs) H := by
  obtain ⟨a, dx, tog, tup, grp, gs, ws, rfl, ha, htup, htog, hgrp, wnd, wsub, nd, hlen, hgat, hwf, q⟩ := h
  refine ⟨_,
    (pss_cons (ps_fld (pv 0) pe_dnewK rfl)
      (pss_cons (ps_for PassesOwn.never rfl (pi_tup (pv 2)) (pg_name (i := 3) scRI.nd rfl (Or.inl rfl))
        (pss_cons (ps_if (pt_cmp (pc_din (hu_of hr) (pe_fld (pv 3) rfl) (pe_fld (pv 0) rfl)))
          (pss_one ps_never)
          pss_nil)
        (pss_one (ps_dput (hu_of hr) (pe_fld (pv 0) rfl) (pe_fld (pv 3) rfl) (pv 3) rfl))))
      (pss_cons (ps_set (i := 4) scRI.nd rfl (Or.inl rfl) (pe_lst pa_nil))
      (pss_cons (ps_for PassesOwn.never rfl (pi_tup (pv 1)) (pg_name (i := 5) scRI.nd rfl (Or.inl rfl))
        (pss_one (ps_for PassesOwn.never rfl (pi_tup (pv 5)) (pg_name (i := 6) scRI.nd rfl (Or.inl rfl))
          (pss_cons (ps_if (pt_cmp (pc_dnotin (hu_of hr) (pv 6) (pe_fld (pv 0) rfl)))
            (pss_one ps_never)
            pss_nil)
          (pss_cons (ps_if (pt_cmpR op_in_seq (pv 6) (pv 4) (by rfl))
            (pss_one ps_never)
            pss_nil)
          (pss_one (ps_expr (pe_bm PySem.F.plainAttrs_list PySem.F.slot_list_append PySem.F.type_list_append mt_append (pv 4) (pa_cons (pv 6) pa_nil)))))))))
      (pss_cons (ps_fld (pv 0) (pe_lst pa_nil) rfl)
      (pss_cons (ps_set (i := 7) scRI.nd rfl (Or.inl rfl) (pe_lst pa_nil))
      (pss_one (ps_lock (ps_for PassesOwn.never rfl (pi_keys (pe_fld (pv 0) rfl)) (pg_name (i := 6) scRI.nd rfl (Or.inl rfl))
        (pss_one (ps_if (pt_cmpR op_notIn_seq (pv 6) (pv 7) (by rfl))
          (pss_cons (ps_set (i := 5) scRI.nd rfl (Or.inl rfl) (pe_lst (pa_cons (pv 6) pa_nil)))
          (pss_cons (ps_for PassesOwn.never rfl (pi_tup (pv 1)) (pg_name (i := 8) scRI.nd rfl (Or.inr rfl))
            (pss_one (ps_if (pt_cmpR op_in_seq (pv 6) (pv 8) (by rfl))
              (pss_one (ps_setLc (i := 5) (own := [(("other" : Str), 9)]) (g := gName 9) rfl scRI.nd rfl rfl (sw_true rfl rfl rfl (by decide +kernel)) (pi_keys (pe_fld (pv 0) rfl)) (blkOk_by (own := [(("other" : Str), 9)]) (N := ["self", "together", "gauges", "gauge", "used", "group", "name", "placed", "found", "other"]) (sc := defScope sRackI) (by decide +kernel)) (fun _ _ _ _ _ => pg_name (i := 9) scRI.nd rfl (Or.inl rfl)) (fun _ _ _ _ _ => pts_one (pt_cmpR (op_inK K) (pv 9) (pv 8) (by rfl))) (fun _ _ _ _ _ => (pv 9))))
              pss_nil)))
          (pss_cons (ps_expr (pe_bm PySem.F.plainAttrs_list PySem.F.slot_list_append PySem.F.type_list_append mt_append (pe_fld (pv 0) rfl) (pa_cons (pv 5) pa_nil)))
          (pss_one (ps_expr (pe_bm PySem.F.plainAttrs_list PySem.F.slot_list_extend PySem.F.type_list_extend mt_extend (pv 7) (pa_cons (pv 5) pa_nil)))))))
          pss_nil)))))))))))
    , ?_⟩
  have nog : NoAttr K (ga K "Rack") "gauges" := R.no _ (by decide +kernel)
  have nogr : NoAttr K (ga K "Rack") "groups" := R.no _ (by decide +kernel)
  have lk0 : ∀ D : Addr, ([("gauges", V.ref D)] : List (Str × V)).lookup ("gauges" : Str) = some (V.ref D) := fun D => by rw [look_cons, if_pos rfl]
  have lk1 : ∀ D G : Addr, ([("gauges", V.ref D), ("groups", V.ref G)] : List (Str × V)).lookup ("gauges" : Str) = some (V.ref D) := fun D G => by rw [look_cons, if_pos rfl]
  have lk2 : ∀ D G : Addr, ([("gauges", V.ref D), ("groups", V.ref G)] : List (Str × V)).lookup ("groups" : Str) = some (V.ref G) := fun D G => by rw [look_cons, if_neg (ne_st _ _ (by decide +kernel)), look_cons, if_pos rfl]
  have gats : ∀ {H2 : Hp}, SameBut [a] H H2 → ∀ p ∈ gs, GaugeAt K H2 p.2 p.1 := fun {H2} s2 p hp => by
    obtain ⟨dx2, hh⟩ := hgat p hp
    refine ⟨dx2, s2 _ _ hh ?_⟩
    have : p.2 ≠ a := ne_of hh ha fun z => by
      have e := HO.ins.inj z
      exact fOf_ne _ e.2.2
    simpa using this
  intro D hD
  have nDa : D ≠ a := fun z => by rw [z, ha] at hD; cases hD
  refine ⟨_, rfl, a, _, dx, _, rfl, by rw [upd_ne nDa.symm]; exact ha, R.cls, nog, by show 0 < 1000; decide, ?_⟩
  have s1 : SameBut [a] H (upd (upd H D (.dK [])) a (.ins (ga K "Rack") dx [("gauges", .ref D)])) := but_in (but_new (fun _ _ e _ => e) hD) (by simp)
  refine ⟨_, rfl, tup, rfl, ⟨_, sqT_but (SqT.of htup) s1 ha⟩, ?_⟩
  refine for_tup (K := K) (a := tup) (xs := gs.map fun p => V.ref p.2) (fun i σ H2 => ∃ o3, σ = [some (.ref a), some (.ref tog), some (.ref tup), o3, none, none, none, none, none, none] ∧ SameBut [a] H H2 ∧
    H2 a = some (.ins (ga K "Rack") dx [("gauges", .ref D)]) ∧ H2 D = some (.dK (kvOf (gs.take i)))) ⟨_, rfl, s1, upd_same, by rw [upd_ne nDa, upd_same]; rfl⟩ (fun i σ H2 _ ⟨_, _, s2, _⟩ => sqT_but (SqT.of htup) s2 ha) ?_ ?_
  · rintro i y σ H2 hy ⟨o3, rfl, s2, ha2, hD2⟩
    obtain ⟨p, hp, rfl⟩ : ∃ p, gs[i]? = some p ∧ y = .ref p.2 := by
      rw [List.getElem?_map] at hy
      cases e : gs[i]? with
      | none => rw [e] at hy; cases hy
      | some p => rw [e] at hy; exact ⟨p, rfl, (Option.some.inj hy).symm⟩
    have hpm : p ∈ gs := List.mem_of_getElem? hp
    obtain ⟨dg, hg⟩ := gats s2 p hpm
    obtain ⟨hnew, htk⟩ := kvOf_take nd hp
    refine ⟨_, rfl, p.2, _, dg, _, _, rfl, hg, T.cls _, T.no _ _ (by decide +kernel), name_of _, ?_⟩
    refine ⟨_, rfl, a, _, dx, _, _, rfl, ha2, R.cls, nog, lk0 D, D, none, rfl, .inl ⟨_, Sum.inr p.1.name, .inl hD2, rfl, (valV_kv_none hnew).symm⟩, false, rfl, ?_⟩
    refine ⟨_, rfl, _, rfl, a, _, dx, _, _, rfl, ha2, R.cls, nog, lk0 D, _, rfl, p.2, _, dg, _, _, rfl, hg, T.cls _, T.no _ _ (by decide +kernel), name_of _, ?_⟩
    refine ⟨D, _, rfl, .inl ⟨_, Sum.inr p.1.name, hD2, rfl, ?_, rfl⟩, ?_⟩
    · have e1 := List.length_take_le i gs
      unfold kvOf
      rw [List.length_map, sizeLine_eq]
      have : (gs.take i).length ≤ gs.length := by rw [List.length_take]; omega
      omega
    · refine ⟨_, rfl, but_new s2 hD, by rw [upd_ne nDa.symm]; exact ha2, ?_⟩
      rw [upd_same, htk, putK_new _ (valV_kv_none hnew)]
  · rintro σ H2 ⟨o3, rfl, s2, ha2, hD2⟩
    rw [List.length_map, List.take_length] at hD2
    refine ⟨by show 0 ≤ sizeLine; decide, fun U hU => ?_⟩
    have hU0 := but_free s2 ha ⟨_, ha2⟩ hU
    have nUa : a ≠ U := ne_of_none ha2 hU
    have nUD : D ≠ U := ne_of_none hD2 hU
    have s3 := but_new (o := .lst []) s2 hU0
    refine ⟨_, rfl, tog, rfl, ⟨_, sqT_but htog s3 ha⟩, ?_⟩
    refine for_tup (K := K) (a := tog) (xs := [V.ref grp]) (fun i σ H2 => ∃ o5 o6 l, σ = [some (.ref a), some (.ref tog), some (.ref tup), o3, some (.ref U), o5, o6, none, none, none] ∧ SameBut [a] H H2 ∧
      H2 a = some (.ins (ga K "Rack") dx [("gauges", .ref D)]) ∧ H2 D = some (.dK (kvOf gs)) ∧ H2 U = some (.lst l) ∧ (i = 0 → l = [])) ⟨_, _, _, rfl, s3, by rw [upd_ne nUa]; exact ha2, by rw [upd_ne nUD]; exact hD2, upd_same, fun _ => rfl⟩
      (fun i σ H2 _ ⟨_, _, _, _, s2, _⟩ => sqT_but htog s2 ha) ?_ ?_
    · rintro i y σ H4 hy ⟨o5, o6, l, rfl, s4, ha4, hD4, hU4, hl⟩
      obtain ⟨rfl, rfl⟩ : i = 0 ∧ y = .ref grp := by
        match i, hy with
        | 0, h => exact ⟨rfl, (Option.some.inj h).symm⟩
        | i + 1, h => simp at h
      obtain rfl := hl rfl
      refine ⟨_, rfl, grp, rfl, ⟨_, sqT_but hgrp s4 ha⟩, ?_⟩
      refine for_tup (K := K) (a := grp) (xs := ws.map V.str) (fun j σ H2 => ∃ o6, σ = [some (.ref a), some (.ref tog), some (.ref tup), o3, some (.ref U), some (.ref grp), o6, none, none, none] ∧ SameBut [a] H H2 ∧
        H2 a = some (.ins (ga K "Rack") dx [("gauges", .ref D)]) ∧ H2 D = some (.dK (kvOf gs)) ∧ H2 U = some (.lst ((ws.take j).map V.str))) ⟨_, rfl, s4, ha4, hD4, hU4⟩ (fun i σ H2 _ ⟨_, _, s2, _⟩ => sqT_but hgrp s2 ha) ?_ ?_
      · rintro j y σ H5 hy ⟨o6, rfl, s5, ha5, hD5, hU5⟩
        obtain ⟨x, hx, rfl⟩ : ∃ x, ws[j]? = some x ∧ y = .str x := by
          rw [List.getElem?_map] at hy
          cases e : ws[j]? with
          | none => rw [e] at hy; cases hy
          | some p => rw [e] at hy; exact ⟨p, rfl, (Option.some.inj hy).symm⟩
        obtain ⟨p, hp, hpx⟩ := List.mem_map.mp (wsub x (List.mem_of_getElem? hx))
        have hv : valV (kvOf gs) (Sum.inr x) = some (.ref p.2) := by rw [← hpx]; exact valV_kv_some nd hp
        have etk : ws.take (j + 1) = ws.take j ++ [x] := by rw [List.take_succ, hx]; rfl
        have hnx : x ∉ ws.take j := fun hm => by
          have nd2 := wnd.sublist (List.take_sublist (j + 1) ws)
          rw [etk, List.nodup_append] at nd2
          exact nd2.2.2 _ hm _ (by simp) rfl
        have wl : ws.length ≤ gs.length := by
          have := wnd.length_le_of_subset (l₂ := gnames gs) wsub
          unfold gnames at this
          rw [List.length_map] at this
          exact this
        refine ⟨_, rfl, _, rfl, a, _, dx, _, _, rfl, ha5, R.cls, nog, lk0 D, D, _, rfl, .inl ⟨_, Sum.inr x, .inl hD5, rfl, hv.symm⟩, false, rfl, ?_⟩
        have hin : inV (.str x) ((ws.take j).map V.str) = false := by rw [inV_str]; exact decide_eq_false hnx
        refine ⟨_, rfl, _, rfl, _, _, rfl, .inl (SqL.of hU5), rfl, flat_strs _, false, congrArg V.bl hin, ?_⟩
        refine ⟨_, rfl, .inl ⟨rfl, _, SqL.of hU5⟩, _, rfl, U, _, _, rfl, rfl, hU5, ?_, ?_⟩
        · rw [List.length_map, List.length_take, sizeLine_eq]
          omega
        · have hU5' : U ≠ D := nUD.symm
          refine ⟨_, rfl, but_new s5 hU0, by rw [upd_ne nUa]; exact ha5, by rw [upd_ne nUD]; exact hD5, ?_⟩
          rw [upd_same, etk, List.map_append]
          rfl
      · rintro σ H5 ⟨o6, rfl, s5, ha5, hD5, hU5⟩
        exact ⟨_, _, _, rfl, s5, ha5, hD5, hU5, fun z => by cases z⟩
    · rintro σ H4 ⟨o5, o6, l, rfl, s4, ha4, hD4, hU4, _⟩
      refine ⟨by show 0 ≤ sizeLine; decide, fun G hG => ?_⟩
      have hG0 := but_free s4 ha ⟨_, ha4⟩ hG
      have nGa : a ≠ G := ne_of_none ha4 hG
      have nGD : D ≠ G := ne_of_none hD4 hG
      refine ⟨_, rfl, a, _, dx, _, rfl, by rw [upd_ne nGa]; exact ha4, R.cls, nogr, by show 1 < 1000; decide, ?_⟩
      have epf : putF "groups" (V.ref G) [("gauges", V.ref D)] = ([("gauges", V.ref D), ("groups", V.ref G)] : List (Str × V)) := by
        rw [put_end (by rw [look_cons, if_neg (ne_st _ _ (by decide +kernel))]; rfl)]
        rfl
      rw [epf]
      have s5 : SameBut [a] H (upd (upd H4 G (.lst [])) a (.ins (ga K "Rack") dx [("gauges", .ref D), ("groups", .ref G)])) := but_in (but_new s4 hG0) (by simp)
      refine ⟨by show 0 ≤ sizeLine; decide, fun L hL => ?_⟩
      have nLa : a ≠ L := fun z => by rw [← z, upd_same] at hL; cases hL
      have hL1 : (upd H4 G (.lst [])) L = none := by rw [upd_ne nLa.symm] at hL; exact hL
      have nLG : G ≠ L := fun z => by rw [← z, upd_same] at hL1; cases hL1
      have hL2 : H4 L = none := by rw [upd_ne nLG.symm] at hL1; exact hL1
      have hL0 := but_free s4 ha ⟨_, ha4⟩ hL2
      have nLD : D ≠ L := ne_of_none hD4 hL2
      have s6 := but_new (o := .lst []) s5 hL0
      refine ⟨D, .dK (kvOf gs), by rw [upd_ne nLD, upd_ne nDa, upd_ne nGD]; exact hD4, trivial, fun od => ?_⟩
      have s7 := but_new (o := .frz od (.dK (kvOf gs))) s6 hD
      refine ⟨_, rfl, a, _, dx, _, _, rfl, by rw [upd_ne nDa.symm, upd_ne nLa, upd_same], R.cls, nog, lk1 D G, D, od, rfl, .inl ⟨_, upd_same, ?_⟩⟩
      have rest : RackAt K (upd H D (.dK (kvOf gs))) a gs → True := fun _ => trivial
      refine for_it (n := (kvOf gs).length) (walk_keys (o := od) (d := D) (kvs := kvOf gs)) (fun i σ H2 => ∃ o5 o6 o8 gl pl, σ = [some (.ref a), some (.ref tog), some (.ref tup), o3, some (.ref U), o5, o6, some (.ref L), o8, none] ∧ SameBut [a] H H2 ∧
        H2 a = some (.ins (ga K "Rack") dx [("gauges", .ref D), ("groups", .ref G)]) ∧ H2 D = some (.frz od (.dK (kvOf gs))) ∧ H2 G = some (.lst gl) ∧ gl.length ≤ i ∧ H2 L = some (.lst (pl.map V.str)) ∧ pl.length ≤ 10 * i)
        ⟨_, _, _, [], [], rfl, s7, by rw [upd_ne nDa.symm, upd_ne nLa, upd_same], upd_same, by rw [upd_ne nGD.symm, upd_ne nLG, upd_ne nGa.symm, upd_same], by simp, by rw [upd_ne nLD.symm, upd_same]; rfl, by simp⟩
        (fun i σ H2 _ ⟨_, _, _, _, _, _, _, _, h, _⟩ => h) ?_ ?_
      · rintro i y σ H8 H9 hi ⟨o5, o6, o8, gl, pl, rfl, s8, ha8, hD8, hG8, hgl, hL8, hpl⟩ ⟨rfl, k, v, hkv, rfl⟩
        obtain ⟨x, rfl⟩ : ∃ x, k = Sum.inr x := by
          unfold kvOf at hkv
          rw [List.getElem?_map] at hkv
          cases e : gs[i]? with
          | none => rw [e] at hkv; cases hkv
          | some p => rw [e] at hkv; exact ⟨p.1.name, (Prod.mk.inj (Option.some.inj hkv)).1.symm⟩
        have hi9 : i < 9 := by
          unfold kvOf at hi
          rw [List.length_map] at hi
          omega
        refine ⟨_, rfl, _, rfl, _, _, rfl, .inl (SqL.of hL8), rfl, flat_strs _, _, rfl, ?_⟩
        refine ite2 (fun c1 => ?_) fun c1 => ?_
        · refine ⟨_, rfl, by show 1 ≤ sizeLine; decide, fun p hp => ?_⟩
          have hp0 := but_free s8 ha ⟨_, ha8⟩ hp
          have npa : a ≠ p := ne_of_none ha8 hp
          have npD : D ≠ p := ne_of_none hD8 hp
          have npG : G ≠ p := ne_of_none hG8 hp
          have npL : L ≠ p := ne_of_none hL8 hp
          have s9 := but_new (o := .lst [V.str x]) s8 hp0
          refine ⟨_, rfl, tog, rfl, ⟨_, sqT_but htog s9 ha⟩, ?_⟩
          refine for_tup (K := K) (a := tog) (xs := [V.ref grp]) (fun j σ H2 => ∃ p gx o8, σ = [some (.ref a), some (.ref tog), some (.ref tup), o3, some (.ref U), some (.ref p), some (.str x), some (.ref L), o8, none] ∧ SameBut [a] H H2 ∧
            H2 a = some (.ins (ga K "Rack") dx [("gauges", .ref D), ("groups", .ref G)]) ∧ H2 D = some (.frz od (.dK (kvOf gs))) ∧ H2 G = some (.lst gl) ∧ H2 L = some (.lst (pl.map V.str)) ∧ p ≠ G ∧ H2 p = some (.lst (gx.map V.str)) ∧ gx.length ≤ 9)
            ⟨p, [x], _, rfl, s9, by rw [upd_ne npa]; exact ha8, by rw [upd_ne npD]; exact hD8, by rw [upd_ne npG]; exact hG8, by rw [upd_ne npL]; exact hL8, npG.symm, upd_same, by simp⟩
            (fun i σ H2 _ ⟨_, _, _, _, s2, _⟩ => sqT_but htog s2 ha) ?_ ?_
          · rintro j y σ H10 hy ⟨p1, gx, o8, rfl, s10, ha10, hD10, hG10, hL10, np1, hp1, hgx⟩
            obtain rfl : y = .ref grp := by
              match j, hy with
              | 0, h => exact (Option.some.inj h).symm
              | j + 1, h => simp at h
            refine ⟨_, rfl, _, rfl, _, _, rfl, .inr (sqT_but hgrp s10 ha), rfl, flat_strs _, _, rfl, ?_⟩
            refine ite2 (fun c2 => ?_) fun c2 => ?_
            · refine ⟨_, rfl, a, _, dx, _, _, rfl, ha10, R.cls, nog, lk1 D G, D, od, rfl, .inl ⟨_, hD10, fun M hM => ?_⟩⟩
              have hM0 := but_free s10 ha ⟨_, ha10⟩ hM
              have nMa : a ≠ M := ne_of_none ha10 hM
              have nMD : D ≠ M := ne_of_none hD10 hM
              have nMG : G ≠ M := ne_of_none hG10 hM
              have nML : L ≠ M := ne_of_none hL10 hM
              refine lc_it (n := (kvOf gs).length) (walk_keys (o := od) (d := D) (kvs := kvOf gs)) (fun i H2 => ∃ gx, SameBut [a] H H2 ∧
                H2 a = some (.ins (ga K "Rack") dx [("gauges", .ref D), ("groups", .ref G)]) ∧ H2 D = some (.frz od (.dK (kvOf gs))) ∧ H2 G = some (.lst gl) ∧ H2 L = some (.lst (pl.map V.str)) ∧ H2 M = some (.lst (gx.map V.str)) ∧ gx.length ≤ i)
                ⟨[], but_new s10 hM0, by rw [upd_ne nMa]; exact ha10, by rw [upd_ne nMD]; exact hD10, by rw [upd_ne nMG]; exact hG10, by rw [upd_ne nML]; exact hL10, upd_same, by simp⟩
                (fun i H2 _ ⟨_, _, _, h, _⟩ => h) ?_ ?_
              · rintro i2 y H11 H12 hi2 ⟨gx, s11, ha11, hD11, hG11, hL11, hM11, hgx⟩ ⟨rfl, k, v, hkv, rfl⟩
                obtain ⟨z, rfl⟩ : ∃ x, k = Sum.inr x := by
                  unfold kvOf at hkv
                  rw [List.getElem?_map] at hkv
                  cases e : gs[i2]? with
                  | none => rw [e] at hkv; cases hkv
                  | some p => rw [e] at hkv; exact ⟨p.1.name, (Prod.mk.inj (Option.some.inj hkv)).1.symm⟩
                have hi9 : i2 < 9 := by
                  unfold kvOf at hi2
                  rw [List.length_map] at hi2
                  omega
                refine ⟨rfl, _, rfl, _, rfl, _, _, rfl, .inr (sqT_but hgrp s11 ha), rfl, flat_strs _, _, rfl, ?_⟩
                refine ite2 (fun c3 => ?_) fun c3 => ?_
                · refine ⟨_, rfl, _, hM11, by rw [List.length_map, sizeLine_eq]; omega, gx ++ [z], but_new s11 hM0, by rw [upd_ne nMa]; exact ha11, by rw [upd_ne nMD]; exact hD11, by rw [upd_ne nMG]; exact hG11, by rw [upd_ne nML]; exact hL11, ?_, by simp; omega⟩
                  rw [upd_same, List.map_append]
                  rfl
                · exact ⟨gx, s11, ha11, hD11, hG11, hL11, hM11, by omega⟩
              · rintro H11 ⟨gx, s11, ha11, hD11, hG11, hL11, hM11, hgx⟩
                refine ⟨M, gx, _, rfl, s11, ha11, hD11, hG11, hL11, nMG.symm, hM11, ?_⟩
                unfold kvOf at hgx
                rw [List.length_map] at hgx
                omega
            · exact ⟨p1, gx, _, rfl, s10, ha10, hD10, hG10, hL10, np1, hp1, hgx⟩
          · rintro σ H10 ⟨p1, gx, o8, rfl, s10, ha10, hD10, hG10, hL10, np1, hp1, hgx⟩
            have npa1 : p1 ≠ a := ne_of hp1 ha10 (fun z => nomatch z)
            have nGa1 : G ≠ a := nGa.symm
            refine ⟨_, rfl, a, _, dx, _, _, rfl, ha10, R.cls, nogr, lk2 D G, .inl ⟨rfl, _, SqL.of hG10⟩, _, rfl, G, _, _, rfl, rfl, hG10, by rw [sizeLine_eq]; omega, ?_⟩
            have hG0' : H G = none := hG0
            have nGL : L ≠ G := nLG.symm
            have nG1 : p1 ≠ G := np1
            have hL11 : (upd H10 G (.lst (gl ++ [V.ref p1]))) L = some (.lst (pl.map V.str)) := by rw [upd_ne nGL]; exact hL10
            have hp11 : (upd H10 G (.lst (gl ++ [V.ref p1]))) p1 = some (.lst (gx.map V.str)) := by rw [upd_ne nG1]; exact hp1
            refine ⟨_, rfl, .inl ⟨rfl, _, SqL.of hL11⟩, _, rfl, L, p1, _, _, rfl, rfl, hL11, hp11, by rw [List.length_map, List.length_map, sizeLine_eq]; omega, ?_⟩
            refine ⟨_, _, _, gl ++ [V.ref p1], pl ++ gx, rfl, but_new (but_new s10 hG0) hL0, by rw [upd_ne nLa, upd_ne nGa]; exact ha10, by rw [upd_ne nLD, upd_ne nGD]; exact hD10, by rw [upd_ne nLG, upd_same], by simp; omega, ?_, by simp; omega⟩
            rw [upd_same, List.map_append]
        · exact ⟨_, _, _, gl, pl, rfl, s8, ha8, hD8, hG8, by omega, hL8, by omega⟩
      · rintro σ H8 ⟨o5, o6, o8, gl, pl, rfl, s8, ha8, hD8, hG8, hgl, hL8, hpl⟩
        refine ⟨hD8, ?_⟩
        refine q _ (but_new s8 hD) ⟨⟨dx, D, G, by rw [upd_ne nDa.symm]; exact ha8, upd_same⟩, nd, hlen, gats (but_new s8 hD), hwf⟩
end
end GR

set_option Elab.async false
set_option linter.all false
set_option maxRecDepth 100000
set_option maxHeartbeats 4000000
namespace GR
open PySem PySem.Spec PyProof.Rows L2
open He (ga ma)
/-! ### o.m(e, ..), o an instance of C, by a positional promise -/
def tMethR (C : Addr) (m : Str) (sp : Sp) (E : XK) (ta : TE) (t : TA) : TE := fun σ H Q => ta σ H fun x H1 => ∃ a dx fs, x = .ref a ∧ H1 a = some (.ins C dx fs) ∧ fs.lookup m = none ∧ t σ H1 fun vs H2 => sp (.ref a :: vs) H2 Q E
def tMethR0 (C : Addr) (m : Str) (sp : Sp) (E : XK) (ta : TE) : TE := fun σ H Q => ta σ H fun x H1 => ∃ a dx fs, x = .ref a ∧ H1 a = some (.ins C dx fs) ∧ fs.lookup m = none ∧ sp [.ref a] H1 Q E
/-- a method of a class: its promise -/
def MDef (P : Program) (w : World) (K : PySem.W.Frag) (mg : Str → Option Value) (base : Heap) (CX : CXT) (k : Nat) (C : Addr) (m : Str) (sp : Sp) : Prop := Cls K C ∧ ∃ g, Meth K C m g ∧ FnR P w K mg base CX k g sp
theorem MDef.mono {P : Program} {w : World} {K : PySem.W.Frag} {mg : Str → Option Value} {base : Heap} {CX : CXT} {j k : Nat} {C : Addr} {m : Str} {sp : Sp} (h : MDef P w K mg base CX j C m sp) (l : j ≤ k) : MDef P w K mg base CX k C m sp := ⟨h.1, h.2.imp fun g q => ⟨q.1, q.2.mono l⟩⟩
theorem GDef.mono {P : Program} {w : World} {K : PySem.W.Frag} {mg : Str → Option Value} {base : Heap} {CX : CXT} {j k : Nat} {x : Str} {sp : Sp} (h : GDef P w K mg base CX j x sp) (l : j ≤ k) : GDef P w K mg base CX k x sp := h.imp fun f q => ⟨q.1, q.2.1, q.2.2.mono l⟩
section
variable {X : Cx} {CX : CXT} {k : Nat} {C : Addr} {m : Str} {sp : Sp} {E : XK} {o e : Expr} {es : List Expr} {apos pos : Pos} {ta : TE} {t : TA} {pl : Sem Bool}
theorem pe_methR (he : PE X o ta) (D : MDef X.prog X.w X.K X.mg X.base CX k C m sp) (hr : Room k X.A) (hx : Passes CX X E) (ha : PA X (e :: es) t)
    (hst : starEach (e :: es) X.env = (false, eval e X.env) :: starEach es X.env := by rfl) (hpl : (backTo pos (starEach es X.env)).any (·.1) = false := by rfl)
    (ht : eval (.Call (.Attribute o m apos) (e :: es) [] pos) X.env = (do
      let ov ← eval o X.env
      standAt apos.atName
      let (f, first) ← holding [ov] (getMethod ov m pl)
      callWith pos f first (backTo pos (starEach (e :: es) X.env)) (backToKw pos (keywordEach [] X.env))) := by rfl) :
    PE X (.Call (.Attribute o m apos) (e :: es) [] pos) (tMethR C m sp E ta t) := by
  obtain ⟨c, g, hm, F⟩ := D
  refine ⟨fun pins s σ H Q I h => ?_⟩
  refine PySem.W.methodCall_KW (pl := pl) (thn (he.run pins s σ H _ I h) fun u s1 ⟨x, H1, I1, rx, a, dx, fs, ex, ea, l, q⟩ => ?_) ht
  subst ex
  obtain rfl : u = Value.ref a := rx
  refine getmeth_ok I1 ea c hm l ?_
  refine PySem.W.callWith_K (first := [.ref a]) (h₀ := X.base) I.ok.mod.kin hm.kp (thn (ha.run pos pins s1 σ H1 _ I1 q) fun us s2 ⟨vs, H2, I2, r, q2⟩ => ⟨I2.kIn, ?_⟩) hst hpl
  exact wpAny_call (run_fnR (us := .ref a :: us) (vs := .ref a :: vs) F hr hx I2 (.cons rfl r) q2)
theorem pe_methR0 (he : PE X o ta) (D : MDef X.prog X.w X.K X.mg X.base CX k C m sp) (hr : Room k X.A) (hx : Passes CX X E)
    (ht : eval (.Call (.Attribute o m apos) [] [] pos) X.env = (do
      let ov ← eval o X.env
      standAt apos.atName
      let (f, first) ← holding [ov] (getMethod ov m pl)
      callWith pos f first (backTo pos (starEach [] X.env)) (backToKw pos (keywordEach [] X.env))) := by rfl) :
    PE X (.Call (.Attribute o m apos) [] [] pos) (tMethR0 C m sp E ta) := by
  obtain ⟨c, g, hm, F⟩ := D
  refine ⟨fun pins s σ H Q I h => ?_⟩
  refine PySem.W.methodCall_KW (pl := pl) (thn (he.run pins s σ H _ I h) fun u s1 ⟨x, H1, I1, rx, a, dx, fs, ex, ea, l, q⟩ => ?_) ht
  subst ex
  obtain rfl : u = Value.ref a := rx
  refine getmeth_ok I1 ea c hm l ?_
  exact PySem.W.callWith_K0 (first := [.ref a]) I1.kIn hm.kp (wpAny_call (run_fnR (us := [.ref a]) (vs := [.ref a]) F hr hx I1 (.cons rfl .nil) q))
end
/-! ### Rack.of, names, gauge -/
def spRackOf (K : PySem.W.Frag) : Sp := fun vs H Q _ => ∃ (L tog grp : Addr) (gs : List GA) (ws : List Str), vs = [.ref (ga K "Rack"), .ref L, .ref tog] ∧ SqL K H L (gs.map fun p => V.ref p.2) ∧ SqT K H tog [.ref grp] ∧ SqT K H grp (ws.map V.str) ∧
  ws.Nodup ∧ (∀ x ∈ ws, x ∈ gnames gs) ∧ (gnames gs).Nodup ∧ gs.length ≤ 9 ∧ (∀ p ∈ gs, GaugeAt K H p.2 p.1) ∧ (∀ p ∈ gs, Wf p.1) ∧ ∀ H' r, Same H H' → RackAt K H' r gs → Q (.ref r) H'
def spNames (K : PySem.W.Frag) : Sp := fun vs H Q _ => ∃ (r : Addr) (gs : List GA), vs = [.ref r] ∧ RackAt K H r gs ∧ ∀ p, H p = none → Q (.ref p) (upd H p (.lst ((gnames gs).map V.str)))
def spRackG (K : PySem.W.Frag) : Sp := fun vs H Q _ => ∃ (r : Addr) (gs : List GA) (p : GA), vs = [.ref r, .str p.1.name] ∧ RackAt K H r gs ∧ p ∈ gs ∧ Q (.ref p.2) H
theorem sqT_same {K : PySem.W.Frag} {H H2 : Hp} {b : Addr} {xs : List V} (h : SqT K H b xs) (s : Same H H2) : SqT K H2 b xs := by
  rcases h with (h | ⟨o, h⟩) | h
  · exact .inl (.inl (s b _ h))
  · exact .inl (.inr ⟨o, s b _ h⟩)
  · exact .inr h
theorem sqL_same {K : PySem.W.Frag} {H H2 : Hp} {b : Addr} {xs : List V} (h : SqL K H b xs) (s : Same H H2) : SqL K H2 b xs := by
  rcases h with (h | ⟨o, h⟩) | h
  · exact .inl (.inl (s b _ h))
  · exact .inl (.inr ⟨o, s b _ h⟩)
  · exact .inr h
section
variable {P : Program} {w : World} {K : PySem.W.Frag} {mg : Str → Option Value} {base : Heap} {f : Addr} {fd : FuncData}
theorem f_rackI {v : V} (F : FunD K "__init__" "Rack.__init__" (defArgs sRackI) (defBody sRackI) (defScope sRackI) [] [("together", v)] f fd) (T : GTx K mg) (R : KTx K) :
    FnSK P w K mg base CX0 2 f ["together"] (fun vs zs H Q E => ∃ ws rest, vs = ws ++ rest ∧ ws.length = 1 ∧ rest.length ≤ sizeLine ∧ ∀ p, H p = Option.none → spRackI K (ws ++ zs ++ [V.ref p]) (upd H p (.tup rest)) Q E) := by
  obtain ⟨oc, od, dV, kV, doc, pm, an, cdv, ct, osl, rfl, lk, hcd, hD, hK⟩ := F.ex
  rcases hD with ⟨_, rfl⟩ | ⟨e, _⟩
  · refine fn_starK (CX := CX0) (ps := ["self", "together"]) (pv := "gauges") (ks := ["together"]) (N := ["self", "together", "gauges", "gauge", "used", "group", "name", "placed", "found", "other"]) (k := 1) 1 lk hcd scRI StX.cxUp_none rfl
      (fun us rest ws h1 h2 => ?_) (fun A outer s H vs Q E hr h => let ⟨t, h1, h2⟩ := b_rackI T R hr h; ⟨t, h1.nox, h2⟩)
    match us, h1, ws, h2 with
    | [_], _, [_], _ =>
      cases rest with
      | nil => rfl
      | cons a r => rfl
  · exact absurd rfl e
theorem scOf : FnScope ["cls", "gauges", "together"] ["cls", "gauges", "together"] (defScope sRackOf) := ⟨rfl, rfl, rfl, by decide +kernel, rfl, by decide +kernel, by decide +kernel⟩
theorem f_of {v : V} (F : FunD K "of" "Rack.of" (defArgs sRackOf) (defBody sRackOf) (defScope sRackOf) [v] [] f fd) {g : Addr} (M : Mk K (ga K "Rack") g)
    (I : FnSK P w K mg base CX0 2 g ["together"] (fun vs zs H Q E => ∃ ws rest, vs = ws ++ rest ∧ ws.length = 1 ∧ rest.length ≤ sizeLine ∧ ∀ p, H p = Option.none → spRackI K (ws ++ zs ++ [V.ref p]) (upd H p (.tup rest)) Q E)) :
    FnR P w K mg base CX0 4 f (spRackOf K) := by
  obtain ⟨ds, rds, hb⟩ := F.binds1 (ps := ["cls", "gauges", "together"]) 3 1 (by simp) rfl (fun T kV doc pm an cdv ct us its h1 h2 => match us, h1, its, h2 with | [_, _, _], _, [_], _ => ⟨_, rfl, rfl⟩)
  cases rds
  refine fnr_of (F.ok scOf (fun vs H Q E h => ?_) (fun cdv A outer s H vs Q E hr h => ?_)) hb
  · obtain ⟨L, tog, grp, gs, ws, rfl, _⟩ := h
    rfl
  · obtain ⟨L, tog, grp, gs, ws, rfl, hL, htog, hgrp, wnd, wsub, nd, hlen, hgat, hwf, q⟩ := h
    refine ⟨_, pss_one (ps_ret (pe_makeSK (i := 0) M I hr pass0 rfl (.inl rfl) (pv 1) (pk_cons (pv 2) pk_nil))), ?_⟩
    refine ⟨rfl, _, rfl, L, _, rfl, _, rfl, rfl, .inr hL, fun x dx hx hdx hne => ?_⟩
    refine ⟨[V.ref x], _, rfl, rfl, by rw [List.length_map, sizeLine_eq]; omega, fun p hp => ?_⟩
    have hpx : p ≠ x := fun z => by rw [z, upd_same] at hp; cases hp
    have hp1 : (upd H dx (.own x)) p = none := by rw [upd_ne hpx] at hp; exact hp
    have hpd : p ≠ dx := fun z => by rw [z, upd_same] at hp1; cases hp1
    have hp2 : H p = none := by rw [upd_ne hpd] at hp1; exact hp1
    have s1 : Same H (upd (upd (upd H dx (.own x)) x (.ins (ga K "Rack") dx [])) p (.tup (gs.map fun p => V.ref p.2))) := same_mut (same_mut (same_upd hdx) hx) hp2
    refine ⟨x, dx, tog, p, grp, gs, ws, rfl, by rw [upd_ne hpx.symm, upd_same], upd_same, sqT_same htog s1, sqT_same hgrp s1, wnd, wsub, nd, hlen, fun p hp => (hgat p hp).same s1, hwf, fun H' s2 hR => ?_⟩
    refine ⟨rfl, q H' x (fun b o e => s2 b o (s1 b o e) ?_) hR⟩
    simpa using ne_of_none e hx
theorem scNm : FnScope ["self"] ["self"] (defScope sNames) := ⟨rfl, rfl, rfl, by decide +kernel, rfl, by decide +kernel, by decide +kernel⟩
theorem f_names (F : Fun K "names" "Rack.names" sNames f fd) (B : Bl mg) (R : KTx K) : FnR P w K mg base CX0 1 f (spNames K) := by
  refine mf_ok F scNm (fun vs H Q E h => ?_) (fun _ _ _ _ _ _ us hl => match us, hl with | [_], _ => rfl) (fun cdv A outer s H vs Q E hr h => ?_)
  · obtain ⟨r, gs, rfl, _⟩ := h
    rfl
  · obtain ⟨r, gs, rfl, hR, q⟩ := h
    obtain ⟨dx, D, G, hr1, hD⟩ := hR.at_
    have lk1 : ([("gauges", V.ref D), ("groups", V.ref G)] : List (Str × V)).lookup ("gauges" : Str) = some (V.ref D) := by rw [look_cons, if_pos rfl]
    refine ⟨_, pss_one (ps_ret (pe_callTy (call_list_dK rfl) (by rfl) B.list (by decide +kernel) (pa_cons (pe_fld (pv 0) rfl) pa_nil))), ?_⟩
    refine ⟨_, rfl, r, _, dx, _, _, rfl, hr1, R.cls, R.no _ (by decide +kernel), lk1, D, _, rfl, hD, fun p hp => ?_⟩
    have e : (kvOf gs).map (fun kv => kV kv.1) = (gnames gs).map V.str := by
      unfold kvOf gnames
      rw [List.map_map, List.map_map]
      rfl
    rw [e]
    exact q p hp
theorem scRG : FnScope ["self", "name"] ["self", "name"] (defScope sRackG) := ⟨rfl, rfl, rfl, by decide +kernel, rfl, by decide +kernel, by decide +kernel⟩
theorem f_rackG (F : Fun K "gauge" "Rack.gauge" sRackG f fd) (R : KTx K) : FnR P w K mg base CX0 1 f (spRackG K) := by
  refine mf_ok F scRG (fun vs H Q E h => ?_) (fun _ _ _ _ _ _ us hl => match us, hl with | [_, _], _ => rfl) (fun cdv A outer s H vs Q E hr h => ?_)
  · obtain ⟨r, gs, p, rfl, _⟩ := h
    rfl
  · obtain ⟨r, gs, p, rfl, hR, hp, q⟩ := h
    obtain ⟨dx, D, G, hr1, hD⟩ := hR.at_
    have lk1 : ([("gauges", V.ref D), ("groups", V.ref G)] : List (Str × V)).lookup ("gauges" : Str) = some (V.ref D) := by rw [look_cons, if_pos rfl]
    have hv := valV_kv_some hR.nd hp
    refine ⟨_,
      (pss_cons (ps_if (pt_cmp (pc_dnotin (hu_of hr) (pv 1) (pe_fld (pv 0) rfl)))
        (pss_one ps_never)
        pss_nil)
      (pss_one (ps_ret (pe_dget (hu_of hr) (pe_fld (pv 0) rfl) (pv 1) (fun _ _ => rfl)))))
      , ?_⟩
    refine ⟨_, rfl, _, rfl, r, _, dx, _, _, rfl, hr1, R.cls, R.no _ (by decide +kernel), lk1, D, _, rfl, .inl ⟨_, Sum.inr p.1.name, .inl hD, rfl, hv.symm⟩, false, rfl, ?_⟩
    exact ⟨_, rfl, r, _, dx, _, _, rfl, hr1, R.cls, R.no _ (by decide +kernel), lk1, _, rfl, D, _, rfl, .inl ⟨_, Sum.inr p.1.name, .inl hD, rfl, hv.symm⟩, q⟩
end
/-! ### in_order, span_list -/
def spInOrder (K : PySem.W.Frag) : Sp := fun vs H Q _ => ∃ (r kp : Addr) (gs : List GA) (ks : List Str), vs = [.ref r, .ref kp] ∧ RackAt K H r gs ∧ SqL K H kp (ks.map V.str) ∧
  ∀ H' p, Same H H' → H p = none → H' p = some (.lst (((gnames gs).filter fun x => decide (x ∈ ks)).map V.str)) → Q (.ref p) H'
def gdOf (gs : List GA) (lot : List Str) (x : Str) : GM.Gd := if x ∈ lot then none else (gs.find? fun p => decide (p.1.name = x)).map fun p => (sbOf p.1, saOf p.1)
def spansOf (gs : List GA) (lot ns : List Str) (sign : Int) : List GM.Sp := (ns.map (gdOf gs lot)).map (GM.spanOf sign)
def spSpan (K : PySem.W.Frag) : Sp := fun vs H Q _ => ∃ (r nm lt : Addr) (gs : List GA) (ns lot : List Str) (sign : Int), vs = [.ref r, .ref nm, .ref lt, .int sign] ∧ RackAt K H r gs ∧ SqL K H nm (ns.map V.str) ∧ SqL K H lt (lot.map V.str) ∧
  (∀ x ∈ ns, x ∈ gnames gs) ∧ ns.length ≤ 9 ∧ ∀ H' p xs, Same H H' → H p = none → H' p = some (.lst xs) → Sps K H' xs (spansOf gs lot ns sign) → Q (.ref p) H'
def FSB (K : PySem.W.Frag) (C : Addr) (sp : Sp) : Prop := ∃ i, i < 4 ∧ C = ga K (cn i) ∧ sp = spSB K i
def FSA (K : PySem.W.Frag) (C : Addr) (sp : Sp) : Prop := ∃ i, i < 4 ∧ C = ga K (cn i) ∧ sp = spSA K i
structure Slk (P : Program) (w : World) (K : PySem.W.Frag) (mg : Str → Option Value) (base : Heap) : Prop where
  sb : ∀ C sp, FSB K C sp → Cls K C ∧ ∃ g, Meth K C "slack_below" g ∧ FnR P w K mg base CX0 3 g sp
  sa : ∀ C sp, FSA K C sp → Cls K C ∧ ∃ g, Meth K C "slack_above" g ∧ FnR P w K mg base CX0 3 g sp
theorem find_of {gs : List GA} (nd : (gnames gs).Nodup) {p : GA} (h : p ∈ gs) : gs.find? (fun q => decide (q.1.name = p.1.name)) = some p := by
  induction gs with
  | nil => cases h
  | cons q r ih =>
    have nd : (q.1.name :: gnames r).Nodup := nd
    rw [List.find?_cons]
    rcases List.mem_cons.mp h with h | h
    · subst h
      simp
    · have ne : ¬ q.1.name = p.1.name := fun e => (List.nodup_cons.mp nd).1 (by rw [e]; exact List.mem_map.mpr ⟨p, h, rfl⟩)
      simp only [ne, decide_false]
      exact ih (List.nodup_cons.mp nd).2 h
theorem SpV.keep {K : PySem.W.Frag} {H : Hp} {v : V} {s : GM.Sp} {f : Addr} {l l' : List V} (h : SpV K H v s) (hf : H f = some (.lst l)) : SpV K (upd H f (.lst l')) v s := by
  cases s with
  | none => exact h
  | some p =>
    obtain ⟨t, ev, ht⟩ := h
    refine ⟨t, ev, ?_⟩
    rcases ht with (h | ⟨o, h⟩) | h
    · exact .inl (.inl (by rw [upd_ne (ne_of h hf (fun z => nomatch z))]; exact h))
    · exact .inl (.inr ⟨o, by rw [upd_ne (ne_of h hf (fun z => nomatch z))]; exact h⟩)
    · exact .inr h
theorem Sps.snoc {K : PySem.W.Frag} {H : Hp} {xs : List V} {sps : List GM.Sp} {v : V} {s : GM.Sp} (h : Sps K H xs sps) (hv : SpV K H v s) : Sps K H (xs ++ [v]) (sps ++ [s]) := by
  refine ⟨by simp [h.len], fun j u hu => ?_⟩
  by_cases hj : j < xs.length
  · rw [List.getElem?_append_left hj] at hu
    have := h.at_ j u hu
    have e : GM.atS (sps ++ [s]) j = GM.atS sps j := by
      unfold GM.atS
      rw [List.getD, List.getD, List.getElem?_append_left (by rw [← h.len]; exact hj)]
    rw [e]
    exact this
  · rw [List.getElem?_append_right (by omega)] at hu
    have hj2 : j - xs.length = 0 := by
      cases e : j - xs.length with
      | zero => rfl
      | succ n => rw [e] at hu; simp at hu
    rw [hj2] at hu
    obtain rfl := Option.some.inj hu
    have e : GM.atS (sps ++ [s]) j = s := by
      unfold GM.atS
      rw [List.getD, List.getElem?_append_right (by rw [← h.len]; omega), ← h.len, hj2]
      rfl
    rw [e]
    exact hv
theorem Sps.keep {K : PySem.W.Frag} {H : Hp} {xs : List V} {sps : List GM.Sp} {f : Addr} {l l' : List V} (h : Sps K H xs sps) (hf : H f = some (.lst l)) : Sps K (upd H f (.lst l')) xs sps := ⟨h.len, fun j v q => (h.at_ j v q).keep hf⟩
section
variable {P : Program} {w : World} {K : PySem.W.Frag} {mg : Str → Option Value} {base : Heap}
theorem scIO : FnScope ["rack", "kept", "name"] ["rack", "kept"] (defScope sInOrder) := ⟨rfl, rfl, rfl, by decide +kernel, rfl, by decide +kernel, by decide +kernel⟩
theorem d_inOrder (G : GF K mg "in_order" sInOrder) (Nm : MDef P w K mg base CX0 1 (ga K "Rack") "names" (spNames K)) : GDef P w K mg base CX0 2 "in_order" (spInOrder K) := by
  refine G.ok scIO (fun vs H Q E h => ?_) (fun _ _ _ _ _ _ us hl => match us, hl with | [_, _], _ => rfl) (fun f cdv A outer s H vs Q E hr h => ?_)
  · obtain ⟨r, kp, gs, ks, rfl, _⟩ := h
    rfl
  · obtain ⟨r, kp, gs, ks, rfl, hR, hk, q⟩ := h
    obtain ⟨dx, D, G, hr1, hD⟩ := hR.at_
    have hl9 : (gnames gs).length ≤ 9 := by unfold gnames; rw [List.length_map]; exact hR.len
    refine ⟨_,
      (pss_one (ps_ret (pe_lc (own := [(("name" : Str), 2)]) (g := gName 2) rfl scIO.nd (pi_list (pe_methR0 (pv 0) Nm hr pass0)) (blkOk_by (own := [(("name" : Str), 2)]) (N := ["rack", "kept", "name"]) (sc := defScope sInOrder) (by decide +kernel)) (fun _ _ _ _ _ => pg_name (i := 2) scIO.nd rfl (Or.inl rfl)) (fun _ _ _ _ _ => pts_one (pt_cmpR (op_inK K) (pv 2) (pv 1) (by rfl))) (fun _ _ _ _ _ => (pv 2)))))
      , ?_⟩
    refine ⟨_, rfl, r, dx, _, rfl, hr1, by rw [look_cons, if_neg (ne_st _ _ (by decide +kernel)), look_cons, if_neg (ne_st _ _ (by decide +kernel))]; rfl, r, gs, rfl, hR, fun p hp => ?_⟩
    refine ⟨p, rfl, ⟨_, SqL.of upd_same⟩, fun M hM => ?_⟩
    have hMp : M ≠ p := fun z => by rw [z, upd_same] at hM; cases hM
    have hM0 : H M = none := by rw [upd_ne hMp] at hM; exact hM
    refine lc_list (K := K) (a := p) (xs := (gnames gs).map V.str) (fun i H2 => Same H H2 ∧ H2 p = some (.lst ((gnames gs).map V.str)) ∧ H2 M = some (.lst ((((gnames gs).take i).filter fun x => decide (x ∈ ks)).map V.str)))
      ⟨same_mut (same_upd hp) hM0, by rw [upd_ne hMp.symm, upd_same], by rw [upd_same]; rfl⟩ (fun i H2 _ ⟨_, h, _⟩ => SqL.of h) ?_ ?_
    · rintro i y H2 hy ⟨s2, hp2, hM2⟩
      obtain ⟨x, hx, rfl⟩ : ∃ x, (gnames gs)[i]? = some x ∧ y = .str x := by
        rw [List.getElem?_map] at hy
        cases e : (gnames gs)[i]? with
        | none => rw [e] at hy; cases hy
        | some p => rw [e] at hy; exact ⟨p, rfl, (Option.some.inj hy).symm⟩
      have etk : (gnames gs).take (i + 1) = (gnames gs).take i ++ [x] := by rw [List.take_succ, hx]; rfl
      refine ⟨rfl, _, rfl, _, rfl, _, _, rfl, .inl (sqL_same hk s2), rfl, flat_strs _, decide (x ∈ ks), by rw [inV_str]; rfl, ?_⟩
      refine ite2 (fun c1 => ?_) fun c1 => ?_
      · refine ⟨_, rfl, _, hM2, ?_, same_mut s2 hM0, by rw [upd_ne hMp.symm]; exact hp2, ?_⟩
        · rw [List.length_map, sizeLine_eq]
          have := List.length_filter_le (fun x => decide (x ∈ ks)) ((gnames gs).take i)
          rw [List.length_take] at this
          omega
        · rw [upd_same, etk, List.filter_append, List.filter_cons, if_pos c1, List.map_append]
          rfl
      · refine ⟨s2, hp2, ?_⟩
        rw [hM2, etk, List.filter_append, List.filter_cons, if_neg c1]
        simp
    · rintro H2 ⟨s2, hp2, hM2⟩
      rw [List.length_map, List.take_length] at hM2
      exact q H2 M s2 hM0 hM2
theorem scSL : FnScope ["rack", "names", "lot", "sign", "found", "name", "gauge"] ["rack", "names", "lot", "sign"] (defScope sSpanList) := ⟨rfl, rfl, rfl, by decide +kernel, rfl, by decide +kernel, by decide +kernel⟩
theorem d_span (G : GF K mg "span_list" sSpanList) (Gm : MDef P w K mg base CX0 3 (ga K "Rack") "gauge" (spRackG K)) (S : Slk P w K mg base) : GDef P w K mg base CX0 4 "span_list" (spSpan K) := by
  refine G.ok scSL (fun vs H Q E h => ?_) (fun _ _ _ _ _ _ us hl => match us, hl with | [_, _, _, _], _ => rfl) (fun f cdv A outer s H vs Q E hr h => ?_)
  · obtain ⟨r, nm, lt, gs, ns, lot, sign, rfl, _⟩ := h
    rfl
  · obtain ⟨r, nm, lt, gs, ns, lot, sign, rfl, hR, hn, hl, hsub, hlen, q⟩ := h
    refine ⟨_,
      (pss_cons (ps_set (i := 4) scSL.nd rfl (Or.inl rfl) (pe_lst pa_nil))
      (pss_cons (ps_for PassesOwn.never rfl (pi_list (pv 1)) (pg_name (i := 5) scSL.nd rfl (Or.inl rfl))
        (pss_cons (ps_set (i := 6) scSL.nd rfl (Or.inl rfl) (pe_methR (pv 0) Gm hr pass0 (pa_cons (pv 5) pa_nil)))
        (pss_one (ps_if (pt_cmpR op_in_seq (pv 5) (pv 2) (by rfl))
          (pss_one (ps_expr (pe_bm PySem.F.plainAttrs_list PySem.F.slot_list_append PySem.F.type_list_append mt_append (pv 4) (pa_cons pe_non pa_nil))))
          (pss_one (ps_if (pt_cmpR op_gt (pv 3) pe_int (nomark _))
            (pss_one (ps_expr (pe_bm PySem.F.plainAttrs_list PySem.F.slot_list_append PySem.F.type_list_append mt_append (pv 4) (pa_cons (pe_tup (pa_cons (pe_un un_neg (pe_methF (pv 6) S.sa hr pass0)) (pa_cons (pe_methF (pv 6) S.sb hr pass0) pa_nil))) pa_nil))))
            (pss_one (ps_expr (pe_bm PySem.F.plainAttrs_list PySem.F.slot_list_append PySem.F.type_list_append mt_append (pv 4) (pa_cons (pe_tup (pa_cons (pe_un un_neg (pe_methF (pv 6) S.sb hr pass0)) (pa_cons (pe_methF (pv 6) S.sa hr pass0) pa_nil))) pa_nil))))))))))
      (pss_one (ps_ret (pv 4)))))
      , ?_⟩
    refine ⟨by show 0 ≤ sizeLine; decide, fun F hF => ?_⟩
    refine ⟨_, rfl, nm, rfl, ⟨_, sqL_same hn (same_upd hF)⟩, ?_⟩
    refine for_list (K := K) (a := nm) (xs := ns.map V.str) (fun i σ H2 => ∃ o5 o6 xs, σ = [some (.ref r), some (.ref nm), some (.ref lt), some (.int sign), some (.ref F), o5, o6] ∧ Same H H2 ∧ H2 F = some (.lst xs) ∧ Sps K H2 xs (spansOf gs lot (ns.take i) sign))
      ⟨_, _, [], rfl, same_upd hF, upd_same, ⟨rfl, fun j v h => by cases h⟩⟩ (fun i σ H2 _ ⟨_, _, _, _, s2, _⟩ => sqL_same hn s2) ?_ ?_
    · rintro i y σ H2 hy ⟨o5, o6, xs, rfl, s2, hF2, hsp⟩
      obtain ⟨x, hx, rfl⟩ : ∃ x, ns[i]? = some x ∧ y = .str x := by
        rw [List.getElem?_map] at hy
        cases e : ns[i]? with
        | none => rw [e] at hy; cases hy
        | some p => rw [e] at hy; exact ⟨p, rfl, (Option.some.inj hy).symm⟩
      obtain ⟨p, hp, rfl⟩ := List.mem_map.mp (hsub x (List.mem_of_getElem? hx))
      have etk : ns.take (i + 1) = ns.take i ++ [p.1.name] := by rw [List.take_succ, hx]; rfl
      have esp : spansOf gs lot (ns.take (i + 1)) sign = spansOf gs lot (ns.take i) sign ++ [GM.spanOf sign (gdOf gs lot p.1.name)] := by
        unfold spansOf
        rw [etk, List.map_append, List.map_append]
        rfl
      have hR2 := hR.same s2
      obtain ⟨dx, D, G, hr1, hD⟩ := hR2.at_
      have hi9 : xs.length < sizeLine := by
        have := hsp.len
        unfold spansOf at this
        rw [List.length_map, List.length_map, List.length_take] at this
        rw [sizeLine_eq]
        omega
      refine ⟨_, rfl, r, dx, _, rfl, hr1, by rw [look_cons, if_neg (ne_st _ _ (by decide +kernel)), look_cons, if_neg (ne_st _ _ (by decide +kernel))]; rfl, _, rfl, r, gs, p, rfl, hR2, hp, ?_⟩
      refine ⟨_, rfl, _, rfl, _, _, rfl, .inl (sqL_same hl s2), rfl, flat_strs _, decide (p.1.name ∈ lot), by rw [inV_str]; rfl, ?_⟩
      refine ite2 (fun c1 => ?_) fun c1 => ?_
      · have eg : gdOf gs lot p.1.name = none := by unfold gdOf; rw [if_pos (of_decide_eq_true c1)]
        refine ⟨_, rfl, .inl ⟨rfl, _, SqL.of hF2⟩, F, _, _, rfl, rfl, hF2, hi9, _, _, _, rfl, same_mut s2 hF, upd_same, ?_⟩
        rw [esp, eg]
        exact (hsp.keep hF2).snoc rfl
      · have eg : gdOf gs lot p.1.name = some (sbOf p.1, saOf p.1) := by
          unfold gdOf
          rw [if_neg (fun z => c1 (decide_eq_true z)), find_of hR.nd hp]
          rfl
        obtain ⟨dg, hg⟩ := hR2.gat p hp
        have W := hR.wf p hp
        have nb : (fOf p.1).lookup ("slack_below" : Str) = none := no_of _ (by decide +kernel)
        have na : (fOf p.1).lookup ("slack_above" : Str) = none := no_of _ (by decide +kernel)
        refine ⟨_, rfl, _, _, rfl, rfl, _, rfl, ?_⟩
        refine ite2 (fun c2 => ?_) fun c2 => ?_
        · have c2 : 0 < sign := of_decide_eq_true c2
          refine ⟨_, rfl, .inl ⟨rfl, _, SqL.of hF2⟩, ?_⟩
          refine ⟨_, rfl, p.2, _, dg, _, _, rfl, hg, na, ⟨p.1.sort, W.sort, rfl, rfl⟩, p.2, dg, p.1, rfl, rfl, W, hg, _, rfl, ?_⟩
          refine ⟨_, rfl, p.2, _, dg, _, _, rfl, hg, nb, ⟨p.1.sort, W.sort, rfl, rfl⟩, p.2, dg, p.1, rfl, rfl, W, hg, ?_⟩
          refine ⟨by show 2 ≤ sizeLine; decide, fun U hU => ?_⟩
          have nFU : F ≠ U := ne_of_none hF2 hU
          have hF3 : (upd H2 U (.tup [.int (-saOf p.1), .int (sbOf p.1)])) F = some (.lst xs) := by rw [upd_ne nFU]; exact hF2
          refine ⟨F, _, _, rfl, rfl, hF3, hi9, _, _, _, rfl, same_mut (s2.trans (same_upd hU)) hF, upd_same, ?_⟩
          rw [esp, eg]
          refine ((hsp.same (same_upd hU)).keep hF3).snoc (SpV.keep ?_ hF3)
          show SpV K _ _ (if 0 < sign then some (-saOf p.1, sbOf p.1) else some (-sbOf p.1, saOf p.1))
          rw [if_pos c2]
          exact ⟨U, rfl, SqT.of upd_same⟩
        · have c2 : ¬ 0 < sign := fun z => c2 (decide_eq_true z)
          refine ⟨_, rfl, .inl ⟨rfl, _, SqL.of hF2⟩, ?_⟩
          refine ⟨_, rfl, p.2, _, dg, _, _, rfl, hg, nb, ⟨p.1.sort, W.sort, rfl, rfl⟩, p.2, dg, p.1, rfl, rfl, W, hg, _, rfl, ?_⟩
          refine ⟨_, rfl, p.2, _, dg, _, _, rfl, hg, na, ⟨p.1.sort, W.sort, rfl, rfl⟩, p.2, dg, p.1, rfl, rfl, W, hg, ?_⟩
          refine ⟨by show 2 ≤ sizeLine; decide, fun U hU => ?_⟩
          have nFU : F ≠ U := ne_of_none hF2 hU
          have hF3 : (upd H2 U (.tup [.int (-sbOf p.1), .int (saOf p.1)])) F = some (.lst xs) := by rw [upd_ne nFU]; exact hF2
          refine ⟨F, _, _, rfl, rfl, hF3, hi9, _, _, _, rfl, same_mut (s2.trans (same_upd hU)) hF, upd_same, ?_⟩
          rw [esp, eg]
          refine ((hsp.same (same_upd hU)).keep hF3).snoc (SpV.keep ?_ hF3)
          show SpV K _ _ (if 0 < sign then some (-saOf p.1, sbOf p.1) else some (-sbOf p.1, saOf p.1))
          rw [if_neg c2]
          exact ⟨U, rfl, SqT.of upd_same⟩
    · rintro σ H2 ⟨o5, o6, xs, rfl, s2, hF2, hsp⟩
      rw [List.length_map, List.take_length] at hsp
      exact ⟨_, rfl, q H2 F xs s2 hF hF2 hsp⟩
end
end GR

set_option Elab.async false
set_option linter.all false
set_option maxRecDepth 100000
set_option maxHeartbeats 4000000
namespace GR
open PySem PySem.Spec PyProof.Rows L2
open He (ga ma)
def bestT (b : GM.Best) : HO := .tup [.int b.1, .bl b.2.1, .int b.2.2.1, optV b.2.2.2]
def spBest (K : PySem.W.Frag) : Sp := fun vs H Q _ => ∃ (r nm lt : Addr) (gs : List GA) (ns lot : List Str) (x : Str) (n : Nat), vs = [.ref r, .ref nm, .ref lt, .str x] ∧ RackAt K H r gs ∧ SqL K H nm (ns.map V.str) ∧ SqL K H lt (lot.map V.str) ∧
  (∀ x ∈ ns, x ∈ gnames gs) ∧ ns.length ≤ 9 ∧ ns[n]? = some x ∧ (∀ m y, m < n → ns[m]? = some y → y ≠ x) ∧ x ∉ lot ∧ ∀ H' t, Same H H' → H t = none → H' t = some (bestT (GM.bestTop (ns.map (gdOf gs lot)) n)) → Q (.ref t) H'
noncomputable def reachOf (gs : List GA) (ns lot : List Str) (n : Nat) : Option Int := if (GM.bestTop (ns.map (gdOf gs lot)) n).2.1 = true then some (GM.bestTop (ns.map (gdOf gs lot)) n).1 else none
def spHonest (K : PySem.W.Frag) : Sp := fun vs H Q _ => ∃ (r kp lt : Addr) (gs : List GA) (ks lot : List Str) (x : Str) (n : Nat), vs = [.ref r, .ref kp, .ref lt, .str x] ∧ RackAt K H r gs ∧ SqL K H kp (ks.map V.str) ∧ SqL K H lt (lot.map V.str) ∧
  ((gnames gs).filter fun y => decide (y ∈ ks))[n]? = some x ∧ x ∉ lot ∧ ∀ H', Same H H' → Q (optV (reachOf gs ((gnames gs).filter fun y => decide (y ∈ ks)) lot n)) H'
theorem gd_hon {gs : List GA} {lot : List Str} {x : Str} (nd : (gnames gs).Nodup) (hx : x ∈ gnames gs) (hl : x ∉ lot) : ∃ p ∈ gs, p.1.name = x ∧ gdOf gs lot x = some (sbOf p.1, saOf p.1) := by
  obtain ⟨p, hp, rfl⟩ := List.mem_map.mp hx
  refine ⟨p, hp, rfl, ?_⟩
  unfold gdOf
  rw [if_neg hl, find_of nd hp]
  rfl
theorem nodup_first {l : List Str} (nd : l.Nodup) {n : Nat} {x : Str} (h : l[n]? = some x) : ∀ m y, m < n → l[m]? = some y → y ≠ x := fun m y hm hy e => by
  have h2 : m < l.length := (List.getElem?_eq_some_iff.mp hy).1
  have := (List.getElem?_inj h2 nd).mp (show l[m]? = l[n]? by rw [h, hy, e])
  omega
section
variable {P : Program} {w : World} {K : PySem.W.Frag} {mg : Str → Option Value} {base : Heap}
theorem scBT : FnScope ["rack", "names", "lot", "name", "at", "middle", "best", "sign", "place", "spans", "level", "bounded", "distance"] ["rack", "names", "lot", "name"] (defScope sBestTop) := ⟨rfl, rfl, rfl, by decide +kernel, rfl, by decide +kernel, by decide +kernel⟩
theorem d_best (G : GF K mg "best_top" sBestTop) (B : Bl mg) (Dspan_list : GDef P w K mg base CX0 4 "span_list" (spSpan K)) (Dtop_level : GDef P w K mg base CX0 4 "top_level" (spTop K)) : GDef P w K mg base CX0 5 "best_top" (spBest K) := by
  refine G.ok scBT (fun vs H Q E h => ?_) (fun _ _ _ _ _ _ us hl => match us, hl with | [_, _, _, _], _ => rfl) (fun f cdv A outer s H vs Q E hr h => ?_)
  · obtain ⟨r, nm, lt, gs, ns, lot, x, n, rfl, _⟩ := h
    rfl
  · obtain ⟨r, nm, lt, gs, ns, lot, x, n, rfl, hR, hn, hl, hsub, hlen, hx, hfst, hxl, q⟩ := h
    refine ⟨_,
      (pss_cons (ps_set (i := 4) scBT.nd rfl (Or.inl rfl) (pe_bm PySem.F.plainAttrs_list PySem.F.slot_list_index PySem.F.type_list_index mt_index (pv 1) (pa_cons (pv 3) pa_nil)))
      (pss_cons (ps_set (i := 5) scBT.nd rfl (Or.inl rfl) (pe_op op_fdiv (pe_op op_sub (pe_callB call_len_seq (by rfl) B.len (by decide +kernel) (pa_cons (pv 1) pa_nil)) pe_int) pe_int))
      (pss_cons (ps_set (i := 6) scBT.nd rfl (Or.inl rfl) (pe_tup (pa_cons pe_int (pa_cons pe_bl (pa_cons pe_int (pa_cons pe_non pa_nil))))))
      (pss_cons (ps_for PassesOwn.never rfl (pi_tup (pe_tup (pa_cons (pe_tup (pa_cons pe_int (pa_cons (pv 5) pa_nil))) (pa_cons (pe_tup (pa_cons (pe_un un_neg pe_int) (pa_cons (pe_op op_sub (pe_op op_sub (pe_callB call_len_seq (by rfl) B.len (by decide +kernel) (pa_cons (pv 1) pa_nil)) pe_int) (pv 5)) pa_nil))) pa_nil)))) (pg_tup rfl (pgs_cons (pg_name (i := 7) scBT.nd rfl (Or.inl rfl)) (pgs_cons (pg_name (i := 8) scBT.nd rfl (Or.inl rfl)) pgs_nil)))
        (pss_cons (ps_set (i := 9) scBT.nd rfl (Or.inl rfl) (pe_callG Dspan_list hr rfl pass0 (pa_cons (pv 0) (pa_cons (pv 1) (pa_cons (pv 2) (pa_cons (pv 7) pa_nil))))))
        (pss_cons (ps_asg (pe_callG Dtop_level hr rfl pass0 (pa_cons (pv 9) (pa_cons (pv 8) (pa_cons (pv 4) pa_nil)))) (pg_tup rfl (pgs_cons (pg_name (i := 10) scBT.nd rfl (Or.inl rfl)) (pgs_cons (pg_name (i := 11) scBT.nd rfl (Or.inl rfl)) pgs_nil))))
        (pss_one (ps_if (PW.pt (pw_and (pt_cmpR op_notN (pv 10) pe_non (nomark _)) (pw_and1 (pt_val (pe_ix ix_tup (pv 6) pe_int (fun _ _ => rfl))))))
          (pss_cons (ps_set (i := 12) scBT.nd rfl (Or.inl rfl) (pe_op op_add (pv 10) (pe_ix ix_tup (pe_ix ix_list (pv 9) (pv 4) (fun _ _ => rfl)) pe_int (fun _ _ => rfl))))
          (pss_one (ps_if (PW.pt (pw_or (pt_not (pt_val (pv 11))) (pw_or1 (pt_cmpR op_gt (pv 12) (pe_ix ix_tup (pv 6) pe_int (fun _ _ => rfl)) (nomark _)))))
            (pss_one (ps_set (i := 6) scBT.nd rfl (Or.inl rfl) (pe_tup (pa_cons (pv 12) (pa_cons (pv 11) (pa_cons (pv 7) (pa_cons (pv 10) pa_nil)))))))
            pss_nil)))
          pss_nil)))))
      (pss_one (ps_ret (pv 6)))))))
      , ?_⟩
    have hnl : n < ns.length := (List.getElem?_eq_some_iff.mp hx).1
    have hzx : (ns.map V.str)[n]? = some (.str x) := by rw [List.getElem?_map, hx]; rfl
    refine ⟨_, rfl, .inl ⟨rfl, _, hn⟩, _, rfl, nm, _, .str x, n, .str x, rfl, rfl, hn, rfl, flat_strs _, hzx, ?_, ?_, ?_⟩
    · rw [eqV_str]
      exact decide_eq_true rfl
    · intro m z hm hz
      rw [List.getElem?_map] at hz
      cases e : ns[m]? with
      | none => rw [e] at hz; cases hz
      | some y =>
        rw [e] at hz
        obtain rfl := Option.some.inj hz
        rw [eqV_str]
        exact decide_eq_false (hfst m y hm e)
    refine ⟨_, rfl, nm, _, rfl, .inl hn, _, _, rfl, rfl, _, _, rfl, rfl, ⟨by decide, by decide⟩, ?_⟩
    rw [List.length_map]
    refine ⟨by show 4 ≤ sizeLine; decide, fun tb htb => ?_⟩
    have s1 : Same H (upd H tb (.tup [.int 0, .bl true, .int 1, .non])) := same_upd htb
    refine ⟨_, rfl, by show 2 ≤ sizeLine; decide, fun t1 ht1 => ?_⟩
    have s2 : Same H (upd (upd H tb (.tup [.int 0, .bl true, .int 1, .non])) t1 (.tup [.int 1, .int (((ns.length : Int) - 1) / 2)])) := s1.trans (same_upd ht1)
    refine ⟨_, rfl, _, rfl, nm, _, rfl, .inl (sqL_same hn s2), _, _, rfl, rfl, _, rfl, _, _, rfl, rfl, by show 2 ≤ sizeLine; decide, fun t2 ht2 => ?_⟩
    have ht2 : (upd (upd H tb (.tup [.int 0, .bl true, .int 1, .non])) t1 (.tup [.int 1, .int (((ns.length : Int) - 1) / 2)])) t2 = none := ht2
    rw [List.length_map]
    have s3 := s2.trans (same_upd (o := .tup [.int (-1), .int ((ns.length : Int) - 1 - ((ns.length : Int) - 1) / 2)]) ht2)
    refine ⟨by show 2 ≤ sizeLine; decide, fun t3 ht3 => ?_⟩
    have s4 := s3.trans (same_upd (o := .tup [V.ref t1, V.ref t2]) ht3)
    have n12 : t1 ≠ t2 := fun z => by rw [← z, upd_same] at ht2; cases ht2
    have n13 : t1 ≠ t3 := fun z => by rw [← z, upd_ne n12, upd_same] at ht3; cases ht3
    have n23 : t2 ≠ t3 := fun z => by rw [← z, upd_same] at ht3; cases ht3
    have nb1 : tb ≠ t1 := fun z => by rw [← z, upd_same] at ht1; cases ht1
    have nb2 : tb ≠ t2 := fun z => by rw [← z, upd_ne nb1, upd_same] at ht2; cases ht2
    have nb3 : tb ≠ t3 := fun z => by rw [← z, upd_ne nb2, upd_ne nb1, upd_same] at ht3; cases ht3
    have hb4 : (upd (upd (upd (upd H tb (.tup [.int 0, .bl true, .int 1, .non])) t1 (.tup [.int 1, .int (((ns.length : Int) - 1) / 2)])) t2 (.tup [.int (-1), .int ((ns.length : Int) - 1 - ((ns.length : Int) - 1) / 2)])) t3 (.tup [V.ref t1, V.ref t2])) tb = some (bestT (0, true, 1, none)) := by
      rw [upd_ne nb3, upd_ne nb2, upd_ne nb1, upd_same]
      rfl
    refine ⟨t3, rfl, ⟨_, SqT.of upd_same⟩, ?_⟩
    generalize hb0 : ((0, true, 1, none) : GM.Best) = b0 at hb4
    generalize hb1 : GM.bestStep (ns.map (gdOf gs lot)) n b0 1 (((ns.length : Int) - 1) / 2) = b1
    refine for_tup (K := K) (a := t3) (xs := [V.ref t1, V.ref t2]) (fun i σ H2 => ∃ tb o7 o8 o9 o10 o11 o12, σ = [some (.ref r), some (.ref nm), some (.ref lt), some (.str x), some (.int (n : Int)), some (.int (((ns.length : Int) - 1) / 2)), some (.ref tb), o7, o8, o9, o10, o11, o12] ∧ Same H H2 ∧ H tb = none ∧
      H2 t3 = some (.tup [V.ref t1, V.ref t2]) ∧ H2 t1 = some (.tup [.int 1, .int (((ns.length : Int) - 1) / 2)]) ∧ H2 t2 = some (.tup [.int (-1), .int ((ns.length : Int) - 1 - ((ns.length : Int) - 1) / 2)]) ∧
      H2 tb = some (bestT (match i with | 0 => b0 | 1 => b1 | _ => GM.bestTop (ns.map (gdOf gs lot)) n)))
      ⟨tb, _, _, _, _, _, _, rfl, s4, htb, upd_same, by rw [upd_ne n13, upd_ne n12, upd_same], by rw [upd_ne n23, upd_same], hb4⟩ (fun i σ H2 _ ⟨_, _, _, _, _, _, _, _, _, _, h, _⟩ => SqT.of h) ?_ ?_
    · rintro i y σ H5 hy ⟨tb, o7, o8, o9, o10, o11, o12, rfl, s5, htb, h53, h51, h52, h5b⟩
      obtain ⟨T, sign, place, B0, rfl, hT, hs, hB0, hB⟩ : ∃ (T : Addr) (sign place : Int) (B0 : GM.Best), y = .ref T ∧ H5 T = some (.tup [.int sign, .int place]) ∧ (sign = 1 ∨ sign = -1) ∧ H5 tb = some (bestT B0) ∧
          (match i + 1 with | 0 => b0 | 1 => b1 | _ => GM.bestTop (ns.map (gdOf gs lot)) n) = GM.bestStep (ns.map (gdOf gs lot)) n B0 sign place := by
        match i, hy, h5b with
        | 0, h, h5b => exact ⟨t1, 1, _, b0, (Option.some.inj h).symm, h51, .inl rfl, h5b, hb1.symm⟩
        | 1, h, h5b =>
          refine ⟨t2, -1, _, b1, (Option.some.inj h).symm, h52, .inr rfl, h5b, ?_⟩
          rw [← hb1, ← hb0]
          show GM.bestTop _ _ = _
          unfold GM.bestTop
          rw [List.length_map]
        | i + 2, h, _ => simp at h
      generalize (match i + 1 with | 0 => b0 | 1 => b1 | _ => GM.bestTop (ns.map (gdOf gs lot)) n) = B1 at hB ⊢
      subst hB
      obtain ⟨d0, c0, g0, l0⟩ := B0
      refine ⟨T, _, rfl, SqT.of hT, rfl, _, _, rfl, _, _, rfl, rfl, ?_⟩
      refine ⟨_, rfl, _, rfl, _, rfl, _, rfl, r, nm, lt, gs, ns, lot, sign, rfl, hR.same s5, sqL_same hn s5, sqL_same hl s5, hsub, hlen, fun H6 p xs s6 hp6 hp hsps => ?_⟩
      have s56 := s5.trans s6
      obtain ⟨pg, hpg, _, egd⟩ := gd_hon hR.nd (hsub x (List.mem_of_getElem? hx)) hxl
      obtain ⟨lo, hi, esp⟩ : ∃ lo hi, GM.spanOf sign (gdOf gs lot x) = some (lo, hi) := by
        rw [egd]
        show ∃ lo hi, (if 0 < sign then some (-saOf pg.1, sbOf pg.1) else some (-sbOf pg.1, saOf pg.1)) = some (lo, hi)
        by_cases h : 0 < sign
        · rw [if_pos h]; exact ⟨_, _, rfl⟩
        · rw [if_neg h]; exact ⟨_, _, rfl⟩
      have hat : GM.atS (spansOf gs lot ns sign) n = some (lo, hi) := by
        unfold GM.atS spansOf
        rw [List.getD, List.getElem?_map, List.getElem?_map, hx, ← esp]
        rfl
      have hsl : (spansOf gs lot ns sign).length = ns.length := by unfold spansOf; rw [List.length_map, List.length_map]
      refine ⟨_, rfl, _, rfl, _, rfl, p, xs, spansOf gs lot ns sign, place, n, rfl, SqL.of hp, hsps, by omega, by omega, ⟨lo, hi, hat⟩, fun H7 t s7 ht7 ht => ?_⟩
      have s67 := s56.trans s7
      refine ⟨t, _, rfl, SqT.of ht, rfl, _, _, rfl, _, _, rfl, rfl, ?_⟩
      have hbest : GM.bestStep (ns.map (gdOf gs lot)) n (d0, c0, g0, l0) sign place = (match GM.topLevel (spansOf gs lot ns sign) place n with
        | (some l, b) => if c0 = true then (if b = false ∨ d0 < l + hi then (l + hi, b, sign, some l) else (d0, c0, g0, l0)) else (d0, c0, g0, l0)
        | (none, _) => (d0, c0, g0, l0)) := by
        unfold GM.bestStep
        show (match GM.topLevel (spansOf gs lot ns sign) place n with
          | (some l, b) => if c0 = true then (if b = false ∨ d0 < l + GM.hiOf (GM.atS (spansOf gs lot ns sign) n) then (l + GM.hiOf (GM.atS (spansOf gs lot ns sign) n), b, sign, some l) else (d0, c0, g0, l0)) else (d0, c0, g0, l0)
          | (none, _) => (d0, c0, g0, l0)) = _
        rw [hat]
        rfl
      have hb7 : H7 tb = some (.tup [.int d0, .bl c0, .int g0, optV l0]) := s7 _ _ (s6 _ _ hB0)
      have h73 := s7 _ _ (s6 _ _ h53)
      have h71 := s7 _ _ (s6 _ _ h51)
      have h72 := s7 _ _ (s6 _ _ h52)
      rw [hbest]
      clear hbest
      obtain ⟨v, hv⟩ : ∃ v, xs[n]? = some v := ⟨xs[n]'(by rw [hsps.len, hsl]; exact hnl), List.getElem?_eq_getElem _⟩
      have hsv := (hsps.same s7).at_ n v hv
      rw [hat] at hsv
      obtain ⟨tv, rfl, htv⟩ := hsv
      generalize hTL : GM.topLevel (spansOf gs lot ns sign) place n = TL at ht ⊢
      obtain ⟨lo', b⟩ := TL
      cases lo' with
      | none =>
        refine ⟨_, rfl, rfl, _, rfl, ?_⟩
        exact ⟨tb, _, _, _, _, _, _, rfl, s67, htb, h73, h71, h72, hb7⟩
      | some l =>
        refine ⟨_, rfl, rfl, _, rfl, _, rfl, tb, _, _, _, rfl, rfl, SqT.of hb7, (show atI [V.int d0, V.bl c0, V.int g0, optV l0] 1 = some (V.bl c0) from rfl), _, rfl, ?_⟩
        cases c0 with
        | false => exact ⟨tb, _, _, _, _, _, _, rfl, s67, htb, h73, h71, h72, hb7⟩
        | true =>
          refine ⟨_, rfl, _, rfl, _, rfl, p, _, _, _, rfl, rfl, SqL.of (s7 _ _ hp), atI_nat hv, tv, _, _, _, rfl, rfl, htv, at1, _, _, rfl, rfl, ?_⟩
          have fin : (b = false ∨ d0 < l + hi) → ∀ tb2, H7 tb2 = none → ∃ tb o7 o8 o9 o10 o11 o12, [some (V.ref r), some (.ref nm), some (.ref lt), some (.str x), some (.int (n : Int)), some (.int (((ns.length : Int) - 1) / 2)), some (.ref tb2), some (.int sign), some (.int place), some (.ref p), some (.int l), some (.bl b), some (.int (l + hi))] = [some (V.ref r), some (.ref nm), some (.ref lt), some (.str x), some (.int (n : Int)), some (.int (((ns.length : Int) - 1) / 2)), some (.ref tb), o7, o8, o9, o10, o11, o12] ∧
              Same H (upd H7 tb2 (bestT (l + hi, b, sign, some l))) ∧ H tb = none ∧ (upd H7 tb2 (bestT (l + hi, b, sign, some l))) t3 = some (.tup [V.ref t1, V.ref t2]) ∧ (upd H7 tb2 (bestT (l + hi, b, sign, some l))) t1 = some (.tup [.int 1, .int (((ns.length : Int) - 1) / 2)]) ∧
              (upd H7 tb2 (bestT (l + hi, b, sign, some l))) t2 = some (.tup [.int (-1), .int ((ns.length : Int) - 1 - ((ns.length : Int) - 1) / 2)]) ∧
              (upd H7 tb2 (bestT (l + hi, b, sign, some l))) tb = some (bestT (match ((some l, b) : Option Int × Bool) with
                | (some l, b) => if true = true then (if b = false ∨ d0 < l + hi then (l + hi, b, sign, some l) else (d0, true, g0, l0)) else (d0, true, g0, l0)
                | (none, _) => (d0, true, g0, l0))) := fun hc tb2 hn2 => by
            refine ⟨tb2, _, _, _, _, _, _, rfl, s67.trans (same_upd hn2), s67.free hn2, by rw [upd_ne (ne_of_none h73 hn2)]; exact h73, by rw [upd_ne (ne_of_none h71 hn2)]; exact h71, by rw [upd_ne (ne_of_none h72 hn2)]; exact h72, ?_⟩
            rw [upd_same]
            show _ = some (bestT (if true = true then (if b = false ∨ d0 < l + hi then (l + hi, b, sign, some l) else (d0, true, g0, l0)) else (d0, true, g0, l0)))
            rw [if_pos rfl, if_pos hc]
          refine ⟨_, rfl, _, rfl, ?_⟩
          cases b with
          | false =>
            refine ⟨_, rfl, _, rfl, _, rfl, _, rfl, by show 4 ≤ sizeLine; decide, fun tb2 htb2 => ?_⟩
            exact fin (.inl rfl) tb2 htb2
          | true =>
            refine ⟨_, rfl, _, rfl, tb, _, _, _, rfl, rfl, SqT.of hb7, (show atI [V.int d0, V.bl true, V.int g0, optV l0] 0 = some (V.int d0) from rfl), _, _, rfl, rfl, _, rfl, ?_⟩
            refine ite2 (fun c2 => ?_) fun c2 => ?_
            · refine ⟨_, rfl, _, rfl, _, rfl, _, rfl, by show 4 ≤ sizeLine; decide, fun tb2 htb2 => ?_⟩
              exact fin (.inr (of_decide_eq_true c2)) tb2 htb2
            · have c2 : ¬ (true = false ∨ d0 < l + hi) := fun z => z.elim (fun z => by cases z) fun z => c2 (decide_eq_true z)
              refine ⟨tb, _, _, _, _, _, _, rfl, s67, htb, h73, h71, h72, ?_⟩
              show _ = some (bestT (if true = true then (if true = false ∨ d0 < l + hi then (l + hi, true, sign, some l) else (d0, true, g0, l0)) else (d0, true, g0, l0)))
              rw [if_pos rfl, if_neg c2]
              exact hb7
    · rintro σ H5 ⟨tb, o7, o8, o9, o10, o11, o12, rfl, s5, htb, h53, h51, h52, h5b⟩
      exact ⟨_, rfl, q H5 tb s5 htb h5b⟩
end
end GR

set_option Elab.async false
set_option linter.all false
set_option maxRecDepth 100000
set_option maxHeartbeats 4000000
namespace GR
open PySem PySem.Spec PyProof.Rows L2
open He (ga ma)
section
variable {P : Program} {w : World} {K : PySem.W.Frag} {mg : Str → Option Value} {base : Heap}
theorem scHR : FnScope ["rack", "kept", "lot", "name", "names", "distance", "bounded", "sign", "level"] ["rack", "kept", "lot", "name"] (defScope sHonest) := ⟨rfl, rfl, rfl, by decide +kernel, rfl, by decide +kernel, by decide +kernel⟩
theorem d_honest (G : GF K mg "honest_reach" sHonest) (B : Bl mg) (Din_order : GDef P w K mg base CX0 5 "in_order" (spInOrder K)) (Dbest_top : GDef P w K mg base CX0 5 "best_top" (spBest K)) : GDef P w K mg base CX0 6 "honest_reach" (spHonest K) := by
  refine G.ok scHR (fun vs H Q E h => ?_) (fun _ _ _ _ _ _ us hl => match us, hl with | [_, _, _, _], _ => rfl) (fun f cdv A outer s H vs Q E hr h => ?_)
  · obtain ⟨r, kp, lt, gs, ks, lot, x, n, rfl, _⟩ := h
    rfl
  · obtain ⟨r, kp, lt, gs, ks, lot, x, n, rfl, hR, hk, hl, hx, hxl, q⟩ := h
    refine ⟨_,
      (pss_cons (ps_set (i := 4) scHR.nd rfl (Or.inl rfl) (pe_callG Din_order hr rfl pass0 (pa_cons (pv 0) (pa_cons (pv 1) pa_nil))))
      (pss_cons (ps_if (pt_cmpR op_notIn_seq (pv 3) (pv 4) (by rfl))
        (pss_one ps_never)
        pss_nil)
      (pss_cons (ps_if (pt_cmpR op_in_seq (pv 3) (pv 2) (by rfl))
        (pss_one (ps_ret (pe_ifExp (pt_cmpR op_gt (pe_callB call_len_seq (by rfl) B.len (by decide +kernel) (pa_cons (pv 4) pa_nil)) pe_int (nomark _)) pe_non pe_int)))
        pss_nil)
      (pss_cons (ps_asg (pe_callG Dbest_top hr rfl pass0 (pa_cons (pv 0) (pa_cons (pv 4) (pa_cons (pv 2) (pa_cons (pv 3) pa_nil))))) (pg_tup rfl (pgs_cons (pg_name (i := 5) scHR.nd rfl (Or.inl rfl)) (pgs_cons (pg_name (i := 6) scHR.nd rfl (Or.inl rfl)) (pgs_cons (pg_name (i := 7) scHR.nd rfl (Or.inl rfl)) (pgs_cons (pg_name (i := 8) scHR.nd rfl (Or.inl rfl)) pgs_nil))))))
      (pss_one (ps_ret (pe_ifExp (pt_val (pv 6)) (pv 5) pe_non)))))))
      , ?_⟩
    refine ⟨_, rfl, _, rfl, r, kp, gs, ks, rfl, hR, hk, fun H1 p s1 hp hp1 => ?_⟩
    generalize hns : ((gnames gs).filter fun y => decide (y ∈ ks)) = ns at hx hp1 q
    have hsub : ∀ x ∈ ns, x ∈ gnames gs := fun x hx => by rw [← hns] at hx; exact (List.mem_filter.mp hx).1
    have hnd : ns.Nodup := by rw [← hns]; exact hR.nd.sublist List.filter_sublist
    have hlen : ns.length ≤ 9 := by
      rw [← hns]
      have := List.length_filter_le (fun y => decide (y ∈ ks)) (gnames gs)
      have e : (gnames gs).length = gs.length := by unfold gnames; rw [List.length_map]
      have := hR.len
      omega
    have hxm : x ∈ ns := List.mem_of_getElem? hx
    refine ⟨_, rfl, _, rfl, _, _, rfl, .inl (SqL.of hp1), rfl, flat_strs _, false, by rw [inV_str, decide_eq_true hxm]; rfl, ?_⟩
    refine ⟨_, rfl, _, rfl, _, _, rfl, .inl (sqL_same hl s1), rfl, flat_strs _, false, by rw [inV_str, decide_eq_false hxl]; rfl, ?_⟩
    refine ⟨_, rfl, _, rfl, _, rfl, _, rfl, r, p, lt, gs, ns, lot, x, n, rfl, hR.same s1, SqL.of hp1, sqL_same hl s1, hsub, hlen, hx, nodup_first hnd hx, hxl, fun H2 t s2 ht ht2 => ?_⟩
    have q2 := q H2 (s1.trans s2)
    unfold reachOf at q2
    generalize GM.bestTop (ns.map (gdOf gs lot)) n = bt at ht2 q2
    obtain ⟨d, b, sg, o⟩ := bt
    refine ⟨t, [.int d, .bl b, .int sg, optV o], rfl, SqT.of ht2, rfl, _, _, rfl, _, _, rfl, _, _, rfl, _, _, rfl, rfl, ?_⟩
    refine ⟨_, rfl, _, rfl, ?_⟩
    cases b with
    | false => exact q2
    | true => exact ⟨_, rfl, q2⟩
end
end GR

set_option Elab.async false
set_option linter.all false
set_option maxRecDepth 100000
set_option maxHeartbeats 4000000
namespace GR
open PySem PySem.Spec PyProof.Rows L2
open He (ga ma)
/-! ### a dict of numbers by names -/
def kvF (ns : List Str) (f : Str → Int) : List (Key × V) := ns.map fun y => (Sum.inr y, V.int (f y))
theorem valV_kvF {ns : List Str} {f : Str → Int} {x : Str} (h : x ∈ ns) : valV (kvF ns f) (Sum.inr x) = some (.int (f x)) := by
  induction ns with
  | nil => cases h
  | cons y r ih =>
    show valV ((Sum.inr y, V.int (f y)) :: kvF r f) _ = _
    by_cases e : y = x
    · subst e
      exact valV_pos rfl
    · rw [valV_neg (fun z => e (Sum.inr.inj z))]
      exact ih ((List.mem_cons.mp h).resolve_left fun z => e z.symm)
theorem valV_kvF_none {ns : List Str} {f : Str → Int} {x : Str} (h : x ∉ ns) : valV (kvF ns f) (Sum.inr x) = none := by
  unfold valV
  rw [Option.map_eq_none_iff, List.find?_eq_none]
  intro kv hk
  obtain ⟨p, hp, rfl⟩ := List.mem_map.mp hk
  simp only [decide_eq_true_eq]
  intro e
  exact h (by rw [← Sum.inr.inj e]; exact hp)
theorem putK_kvF {ns : List Str} {f : Str → Int} {x : Str} {v : Int} (h : x ∈ ns) : putK (kvF ns f) (Sum.inr x) (.int v) = kvF ns fun y => if y = x then v else f y := by
  have e : ((kvF ns f).any fun kv => decide (kv.1 = Sum.inr x)) = true := by rw [valV_any, valV_kvF h]; rfl
  unfold putK
  rw [if_pos e]
  unfold kvF
  rw [List.map_map]
  apply List.map_congr_left
  intro y _
  show (if (Sum.inr y : Key) = Sum.inr x then (Sum.inr y, V.int v) else (Sum.inr y, V.int (f y))) = (Sum.inr y, V.int (if y = x then v else f y))
  by_cases z : y = x
  · rw [if_pos (by rw [z]), if_pos z]
  · rw [if_neg (fun w => z (Sum.inr.inj w)), if_neg z]
theorem putK_kvF_new {ns : List Str} {f : Str → Int} {x : Str} (h : x ∉ ns) : putK (kvF ns f) (Sum.inr x) (.int (f x)) = kvF (ns ++ [x]) f := by
  rw [putK_new _ (valV_kvF_none h)]
  unfold kvF
  rw [List.map_append]
  rfl
theorem kvF_congr {ns : List Str} {f g : Str → Int} (h : ∀ x ∈ ns, f x = g x) : kvF ns f = kvF ns g := by
  unfold kvF
  apply List.map_congr_left
  intro y hy
  rw [h y hy]
theorem kvF_len (ns : List Str) (f : Str → Int) : (kvF ns f).length = ns.length := by unfold kvF; rw [List.length_map]
/-- a comprehension of a dict over a list that stays -/
theorem dc_list {K : PySem.W.Frag} {a : Addr} {xs : List V} {g : TG} {tt : TT} {tk tv : TE} {vs : List Nat} {σ : L2.St} {H1 : Hp} {D : Addr} {Qd : Hp → Prop} (Pv : Nat → Hp → Prop) (h0 : Pv 0 (upd H1 D (.dK []))) (hl : ∀ i H, i ≤ xs.length → Pv i H → SqL K H a xs)
    (hs : ∀ i x H, xs[i]? = some x → Pv i H → g x (wipe σ vs) H fun σ2 H2 => wipe σ2 vs = wipe σ vs ∧ tt σ2 H2 fun b H3 =>
      if b = true then tk σ2 H3 fun y H4 => tv σ2 H4 fun z H5 => ∃ kvs k, y = kV k ∧ H5 D = some (.dK kvs) ∧ kvs.length < sizeLine ∧ Pv (i + 1) (upd H5 D (.dK (putK kvs k z))) else Pv (i + 1) H3) (hd : ∀ H, Pv xs.length H → Qd H) :
    ∃ W : Nat → Nat → Hp → Prop, (∃ m, W 0 m (upd H1 D (.dK []))) ∧ ∀ i m H, W i m H →
      ((Itl K a).stop i H ∧ Qd H) ∨ ((Itl K a).go i H ∧ ∃ Nx : Hp → Prop, (∀ H', Nx H' → ∃ m', m' < m ∧ W (i + 1) m' H') ∧ ∀ x H', (Itl K a).yld i H x H' → g x (wipe σ vs) H' fun σ2 H2 => wipe σ2 vs = wipe σ vs ∧ tt σ2 H2 fun b H3 =>
        if b = true then tk σ2 H3 fun y H4 => tv σ2 H4 fun z H5 => ∃ kvs k, y = kV k ∧ H5 D = some (.dK kvs) ∧ kvs.length < sizeLine ∧ Nx (upd H5 D (.dK (putK kvs k z))) else Nx H3) := by
  refine ⟨fun i m H => m = xs.length - i ∧ i ≤ xs.length ∧ Pv i H, ⟨xs.length, by simp, Nat.zero_le _, h0⟩, ?_⟩
  rintro i m H ⟨rfl, hi, p⟩
  have q := hl i H hi p
  by_cases hlt : i < xs.length
  · refine .inr ⟨⟨xs, xs[i], q, by simp [hlt]⟩, Pv (i + 1), fun H' p' => ⟨xs.length - (i + 1), by omega, rfl, hlt, p'⟩, fun x H' y => ?_⟩
    obtain ⟨e, y⟩ := y
    subst e
    exact hs i x _ (y xs q) p
  · have e : i = xs.length := by omega
    subst e
    exact .inl ⟨⟨xs, q, Nat.le_refl _⟩, hd H p⟩
/-! ### NoCase -/
structure NTx (K : PySem.W.Frag) (mg : Str → Option Value) (fN : Addr) : Prop where
  glo : mg "NoCase" = some (.ref (ga K "NoCase"))
  ox : OexC K (ga K "NoCase")
  xf : XfC K (ga K "NoCase")
  noLot : PySem.W.findIn K (.ref (ga K "NoCase")) "lot" = some none
  sup : PySem.W.ks_superIn K (ga K "NoCase") (ga K "NoCase") "__init__" = some (some (.builtin "ValueError.__init__"))
  mro : PySem.W.mroIn K (ga K "NoCase") (.ref (ga K "NoCase")) = some true
  sub : PySem.W.subIn K (.ref (ga K "NoCase")) (.type "ValueError") = some true
  ini : PySem.W.findIn K (.ref (ga K "NoCase")) "__init__" = some (some (.ref fN))
  tyI : PySem.W.typeIn K (.ref fN) = some (.type "function")
  exm : PySem.W.exmOne K (.ref (ga K "NoCase")) (.ref (ga K "NoCase")) = some true
  ops : PySem.W.nsIn K PySem.cStatics "thirdparty.any" = some none
def spNoCase (C : Addr) (K : PySem.W.Frag) : Sp := fun vs H Q _ => ∃ (a l : Addr) (ls : List V), vs = [.ref a, .ref l] ∧ H a = some (exo a C none) ∧ SqL K H l ls ∧
  ∀ p dx, H p = none → (upd H p (.lst ls)) dx = none → dx ≠ a → Q .non (upd (upd (upd H p (.lst ls)) dx (exd dx [("lot", .ref p)])) a (exo a C (some dx)))
theorem sup_ok {CX : CXT} {P : Program} {w : World} {K : PySem.W.Frag} {mg : Str → Option Value} {base : Heap} {N : List Str} {x qual slf : Str} {st : Stmt} {f cc D : Addr} {fd : FuncData} {cdv : Value} {A : Around} {outer : List Env} {s : Shared} {H : Hp} {E : XK} : True := trivial
section
variable {P : Program} {w : World} {K : PySem.W.Frag} {mg : Str → Option Value} {base : Heap} {f cc : Addr} {fd : FuncData}
theorem scNC : FnScopeS ["self", "lot"] ["self", "lot"] (defScope sNoCaseI) := ⟨rfl, rfl, rfl, by decide +kernel, rfl, by decide +kernel, by decide +kernel, by decide +kernel⟩
theorem f_noCase (F : FunS P K "__init__" "NoCase.__init__" sNoCaseI f cc (ga K "NoCase") fd) (T : NTx K mg f) (B : Bl mg) (htop : (P.main.scope.names.lookup ("super" : Str)).isSome = false) : FnOk P w K mg base CX0 2 f fd ["self", "lot"] (spNoCase (ga K "NoCase") K) := by
  refine fn_ofS F scNC (fun vs H Q E h => ?_) fun cdv A outer s H vs Q E hcode hr h s1 I => ?_
  · obtain ⟨a, l, ls, rfl, _⟩ := h
    rfl
  · obtain ⟨a, l, ls, rfl, ha, hl, q⟩ := h
    have O := supOk_of (CX := CX0) (w := w) (mg := mg) (base := base) (N := ["self", "lot"]) (slf := "self") (A := A) (outer := outer) (s := s) (H := H) (E := E) F hcode rfl rfl rfl ⟨_, rfl, rfl⟩ rfl htop B.sup
    refine (pssa_expr (pea_supE O T.ops (pa_cons pe_str pa_nil)) (pss_one (ps_ost (pv 0) (pe_callTy call_list_of (by rfl) B.list (by decide +kernel) (pa_cons (pv 1) pa_nil))))).run [] s1 _ H _ I ?_
    refine ⟨a, _, rfl, ha, T.ox, T.sup, T.mro, T.sub, by show 1 ≤ 1000; decide, ha, ?_⟩
    refine ⟨_, rfl, l, ls, rfl, .inl hl, fun p hp => ?_⟩
    have nap : a ≠ p := ne_of_none ha hp
    refine ⟨_, rfl, a, _, rfl, T.ox, T.noLot, .inl ⟨by rw [upd_ne nap]; exact ha, fun dx hdx hne => q p dx hp hdx hne⟩⟩
end
end GR

set_option Elab.async false
set_option linter.all false
set_option maxRecDepth 100000
set_option maxHeartbeats 4000000
/-! name = {k: v for ..} on one line, the name a local. -/
namespace GR
open PySem PySem.Spec PyProof.Rows L2
theorem dc_assign_used {kx vx : Expr} {gs : List Comprehension} {scope : Scope} {pos tpos spos : Pos} {y : Str} {env : Env} (hsw : swapsWith (.DictComp kx vx gs scope pos) (some (.Name y tpos)) spos.line env = pure true) : True := trivial
theorem sw_trueD {kx vx : Expr} {gs : List Comprehension} {scope : Scope} {pos py : Pos} {y : Str} {l : Nat} {env : Env} (hk : env.scope.kind = .function) (hy : env.scope.names.lookup y = some .local) (hl : (py.line == pos.line) = true)
    (ha : (scope.names.any fun (n, k) => n == y && (k == .local || k == .cell)) = false) : swapsWith (.DictComp kx vx gs scope pos) (some (.Name y py)) l env = pure true := by
  have ky : env.kindOf y = some .local := hy
  have hb : env.blockKind = .function := by unfold Env.blockKind; rw [hk]; rfl
  unfold swapsWith
  simp only [hb, ky, ha, Expr.pos, hl]
  rfl
section
variable {X : Cx}
theorem ps_setDc {i : Nat} {y : Str} {py : Pos} {kx vx tg iter : Expr} {ifs : List Expr} {scope : Scope} {own : List (Str × Nat)} {pos spos : Pos} {wi : TI} {g : TG} {tt : TT} {tk tv : TE} (hc : X.calm = true) (hN : X.N.Nodup) (hy : X.N[i]? = some y) (hyl : X.env.scope.names.lookup y = some .local)
    (hsw : swapsWith (.DictComp kx vx [⟨tg, iter, ifs, 0⟩] scope pos) (some (.Name y py)) spos.line X.env = pure true) (hi : PI X tg iter wi) (ok : BlkOk X.N X.env.scope scope own)
    (hg : ∀ (s : Shared) (H : Hp) (C : Addr) (cl : List (Str × Addr)) (fp : List Addr), PG (X.blk s H scope (compEnvC scope cl C X.env) fp) tg g) (ht : ∀ (s : Shared) (H : Hp) (C : Addr) (cl : List (Str × Addr)) (fp : List Addr), PTs (X.blk s H scope (compEnvC scope cl C X.env) fp) ifs tt)
    (hk : ∀ (s : Shared) (H : Hp) (C : Addr) (cl : List (Str × Addr)) (fp : List Addr), PE (X.blk s H scope (compEnvC scope cl C X.env) fp) kx tk)
    (he : ∀ (s : Shared) (H : Hp) (C : Addr) (cl : List (Str × Addr)) (fp : List Addr), PE (X.blk s H scope (compEnvC scope cl C X.env) fp) vx tv) (hs : ∀ x, foldedSetIterable iter X.env x = pure x := by intro _; rfl) :
    PS X (.Assign [.Name y py] (.DictComp kx vx [⟨tg, iter, ifs, 0⟩] scope pos) spos) (tAsg (tDc wi g tt tk tv (own.map (·.2))) (gName i)) := by
  refine ⟨fun pins s σ H D I h => ?_⟩
  rw [exec_Assign_Name_used _ _ _ _ hsw]
  refine wpAny_bind (wpAny_standAt (wpAny_bind ?_))
  show wpAny _ X.A (do let _ ← comprehension (.DictComp kx vx [⟨tg, iter, ifs, 0⟩] scope pos) scope X.env (firstIterPos [⟨tg, iter, ifs, 0⟩] pos) newDict false (eval iter X.env) (some (assign (.Name y py) X.env))) _ _ s
  have h : tDc wi g tt tk tv (own.map (·.2)) σ H (fun x H1 => gName i x σ H1 D.nx) := h
  refine wpAny_bind (thn (dc_core (Qf := fun _ s' => SP X pins D .next s') hc hN I hi ok hg ht hk he hs h fun L C s' m H' I' q hn f => ?_) fun _ s' hq => wpAny_pure (wpAny_pure hq))
  show wpAny _ _ (assign (.Name y py) X.env (.ref L)) _ _ _
  refine wpAny_assign_Name (store_ok2 (v := V.ref L) I' hN hy (.inl hyl) rfl (fun s2 I2 ⟨a, sb, ha⟩ => ?_) (.inr hyl))
  obtain ⟨f0, f1, f2, f3, f4, f5⟩ := f
  have haC : C ≠ a := by
    rcases ha with z | z
    · rw [z]; exact f1
    · exact fun e => f4 y a z e.symm
  refine ⟨m, hn.sameBut sb haC, fun h3 sb3 => ?_⟩
  exact ⟨_, H', I2.turned (t' := s2.toks) (fun b o hb e => (sb3.2 b hb).trans e) f0 f1 f3 f4 f5, q⟩
end
end GR

set_option Elab.async false
set_option linter.all false
set_option maxRecDepth 100000
set_option maxHeartbeats 4000000
namespace GR
open PySem PySem.Spec PyProof.Rows L2
open He (ga ma)
noncomputable def bstOf (gs : List GA) (ns lot : List Str) (n : Nat) : GM.Best := GM.bestTop (ns.map (gdOf gs lot)) n
noncomputable def lvOf (b : GM.Best) (lim : Int) : Int := if b.2.1 = true then b.2.2.2.getD 0 else b.2.2.2.getD 0 + (lim + 1)
/-- what drop_case says: a level and readings -/
structure CaseIs (gs : List GA) (ns lot : List Str) (n : Nat) (lim X : Int) (g : Str → Int) : Prop where
  at_ : X = (bstOf gs ns lot n).2.2.1 * lvOf (bstOf gs ns lot n) lim
  inn : ∀ (j : Nat) y, ns[j]? = some y → g y = GM.caseR (ns.map (gdOf gs lot)) n (bstOf gs ns lot n).2.2.1 (lvOf (bstOf gs ns lot n) lim) j
  out : ∀ y, y ∉ ns → g y = X
def spDrop (K : PySem.W.Frag) : Sp := fun vs H Q E => ∃ (r kp lt : Addr) (gs : List GA) (ks ns lot : List Str) (x : Str) (n : Nat) (lim : Int), vs = [.ref r, .ref kp, .ref lt, .str x, .int lim] ∧ RackAt K H r gs ∧ SqL K H kp (ks.map V.str) ∧ SqL K H lt (lot.map V.str) ∧
  ((gnames gs).filter fun y => decide (y ∈ ks)) = ns ∧ ns[n]? = some x ∧ x ∉ lot ∧ 0 ≤ lim ∧
  (∀ d, reachOf gs ns lot n = some d → d ≤ lim → ∀ H' dd p, Same H H' → H' dd = some (.xd [("lot", .ref p)]) → H' p = some (.lst [.str x]) → E (.ref (ga K "NoCase")) (some dd) H') ∧
  ((∀ d, reachOf gs ns lot n = some d → lim < d) → ∀ H' t D X g, Same H H' → H' t = some (.tup [.int X, .ref D]) → H' D = some (.dK (kvF (gnames gs) g)) → CaseIs gs ns lot n lim X g → Q (.ref t) H')
theorem mul_ok {s x : Int} (h : s = 1 ∨ s = -1) : CMul s x := .inl (by rcases h with h | h <;> rw [h] <;> decide)
theorem gIf_false {i : Nat} {v : V} {rt : VK} {bk ct : L2.St → Hp → Prop} {tt : TT} {a b u : TS} {D : Ends} {σ : L2.St} {H : Hp} (h : ∀ R : Bool → Hp → Prop, R false H → tt (σ.set i (some v)) H R) (k : b { D with nx := u D } (σ.set i (some v)) H) : gName i v σ H (Ends.nx { nx := tSeq (tIfS tt a b) u D, rt := rt, bk := bk, ct := ct }) :=
  h _ (by
    show (if false = true then a { D with nx := u D } (σ.set i (some v)) H else b { D with nx := u D } (σ.set i (some v)) H)
    rw [if_neg Bool.false_ne_true]
    exact k)
theorem nIf {tt : TT} {a b u : TS} {D : Ends} {σ σ' : L2.St} {H : Hp} {rt : VK} {bk ct : L2.St → Hp → Prop} (h : ∀ N : L2.St → Hp → Prop, N σ' H → tIfS tt a b { D with nx := N } σ H) (k : u D σ' H) : Ends.nx { nx := tSeq (tIfS tt a b) u D, rt := rt, bk := bk, ct := ct } σ H := h _ k
theorem sqT_butD {K : PySem.W.Frag} {H H2 : Hp} {a b : Addr} {kvs : List (Key × V)} {xs : List V} (h : SqT K H b xs) (s : SameBut [a] H H2) (ha : H a = some (.dK kvs)) : SqT K H2 b xs := by
  rcases h with (h | ⟨o, h⟩) | h
  · exact .inl (.inl (s b _ h (by simpa using ne_of h ha (fun z => nomatch z))))
  · exact .inl (.inr ⟨o, s b _ h (by simpa using ne_of h ha (fun z => nomatch z))⟩)
  · exact .inr h
theorem spV_butD {K : PySem.W.Frag} {H H2 : Hp} {a : Addr} {kvs : List (Key × V)} {v : V} {sp : GM.Sp} (h : SpV K H v sp) (s : SameBut [a] H H2) (ha : H a = some (.dK kvs)) : SpV K H2 v sp := by
  cases sp with
  | none => exact h
  | some p => exact h.imp fun t ht => ⟨ht.1, sqT_butD ht.2 s ha⟩
theorem strs_at {ns : List Str} {i : Nat} {y : V} (h : (ns.map V.str)[i]? = some y) : ∃ x, ns[i]? = some x ∧ y = .str x := by
  rw [List.getElem?_map] at h
  cases e : ns[i]? with
  | none => rw [e] at h; cases h
  | some p => rw [e] at h; exact ⟨p, rfl, (Option.some.inj h).symm⟩
theorem kvF_snoc {ns : List Str} {i : Nat} {x : Str} {f : Str → Int} (nd : ns.Nodup) (h : ns[i]? = some x) : putK (kvF (ns.take i) f) (Sum.inr x) (.int (f x)) = kvF (ns.take (i + 1)) f := by
  have etk : ns.take (i + 1) = ns.take i ++ [x] := by rw [List.take_succ, h]; rfl
  rw [etk]
  refine putK_kvF_new fun hm => ?_
  have nd2 := nd.sublist (List.take_sublist (i + 1) ns)
  rw [etk, List.nodup_append] at nd2
  exact nd2.2.2 _ hm _ (by simp) rfl
section
variable {P : Program} {w : World} {K : PySem.W.Frag} {mg : Str → Option Value} {base : Heap}
theorem scDC : FnScope ["rack", "kept", "lot", "name", "limit", "names", "reach", "readings", "other", "distance", "bounded", "sign", "level", "spans", "at", "span"] ["rack", "kept", "lot", "name", "limit"] (defScope sDropCase) := ⟨rfl, rfl, rfl, by decide +kernel, rfl, by decide +kernel, by decide +kernel⟩
theorem d_drop (G : GF K mg "drop_case" sDropCase) (B : Bl mg) {fN ccN : Addr} {fdN : FuncData} (T : NTx K mg fN) (FN : FnOk P w K mg base CX0 2 fN fdN ["self", "lot"] (spNoCase (ga K "NoCase") K)) (bN : Binds K fdN ["self", "lot"] [])
    (Din_order : GDef P w K mg base CX0 6 "in_order" (spInOrder K)) (Dhonest_reach : GDef P w K mg base CX0 6 "honest_reach" (spHonest K)) (Dbest_top : GDef P w K mg base CX0 6 "best_top" (spBest K)) (Dspan_list : GDef P w K mg base CX0 6 "span_list" (spSpan K))
    (Doffset : GDef P w K mg base CX0 6 "offset" (spOffset K)) (Nm : MDef P w K mg base CX0 6 (ga K "Rack") "names" (spNames K)) : GDef P w K mg base (L2.CX P w) 7 "drop_case" (spDrop K) := by
  refine G.okX scDC (fun vs H Q E h => ?_) (fun _ _ _ _ _ _ us hl => match us, hl with | [_, _, _, _, _], _ => rfl) (fun f cdv A outer s H vs Q E hr h => ?_)
  · obtain ⟨r, kp, lt, gs, ks, ns, lot, x, n, lim, rfl, _⟩ := h
    rfl
  · obtain ⟨r, kp, lt, gs, ks, ns, lot, x, n, lim, rfl, hR, hk, hl, hns, hx, hxl, hlim, qE, q⟩ := h
    have hr3 : Room 3 _ := hr.mono (by decide)
    refine ⟨_,
      (pss_cons (ps_set (i := 5) scDC.nd rfl (Or.inl rfl) (pe_callG Din_order hr rfl pass0 (pa_cons (pv 0) (pa_cons (pv 1) pa_nil))))
      (pss_cons (ps_set (i := 6) scDC.nd rfl (Or.inl rfl) (pe_callG Dhonest_reach hr rfl pass0 (pa_cons (pv 0) (pa_cons (pv 5) (pa_cons (pv 2) (pa_cons (pv 3) pa_nil))))))
      (pss_cons (ps_if (PW.pt (pw_and (pt_cmpR op_notN (pv 6) pe_non (nomark _)) (pw_and1 (pt_cmpR op_le (pv 6) (pv 4) (nomark _)))))
        (pss_one (ps_raise rfl (takes_of rfl rfl rfl rfl) (pmk_oex T.ox T.ini T.tyI FN hr3 bN .nil pass0 rfl T.glo (pa_cons (pe_lst (pa_cons (pv 3) pa_nil)) pa_nil))))
        pss_nil)
      (pss_cons (ps_setDc (i := 7) (own := [(("other" : Str), 8)]) (g := gName 8) (tt := tYes) rfl scDC.nd rfl rfl (sw_trueD rfl rfl rfl (by decide +kernel)) (pi_list (pe_methR0 (pv 0) Nm hr pass0)) (blkOk_by (own := [(("other" : Str), 8)]) (N := ["rack", "kept", "lot", "name", "limit", "names", "reach", "readings", "other", "distance", "bounded", "sign", "level", "spans", "at", "span"]) (sc := defScope sDropCase) (by decide +kernel)) (fun _ _ _ _ _ => pg_name (i := 8) scDC.nd rfl (Or.inl rfl)) (fun _ _ _ _ _ => pts_nil) (fun _ _ _ _ _ => (pv 8)) (fun _ _ _ _ _ => pe_int))
      (pss_cons (ps_if (pt_cmpR op_in_seq (pv 3) (pv 2) (by rfl))
        (pss_cons (ps_dput (hu_of hr) (pv 7) (pv 3) (pe_op op_add (pv 4) pe_int) rfl)
        (pss_one (ps_ret (pe_tup (pa_cons pe_int (pa_cons (pv 7) pa_nil))))))
        pss_nil)
      (pss_cons (ps_asg (pe_callG Dbest_top hr rfl pass0 (pa_cons (pv 0) (pa_cons (pv 5) (pa_cons (pv 2) (pa_cons (pv 3) pa_nil))))) (pg_tup rfl (pgs_cons (pg_name (i := 9) scDC.nd rfl (Or.inl rfl)) (pgs_cons (pg_name (i := 10) scDC.nd rfl (Or.inl rfl)) (pgs_cons (pg_name (i := 11) scDC.nd rfl (Or.inr rfl)) (pgs_cons (pg_name (i := 12) scDC.nd rfl (Or.inr rfl)) pgs_nil))))))
      (pss_cons (ps_if (pt_not (pt_val (pv 10)))
        (pss_one (ps_aug (i := 12) scDC.nd rfl (Or.inr rfl) (pe_op op_add (pv 4) pe_int) ip_add))
        pss_nil)
      (pss_cons (ps_setDc (i := 7) (own := [(("other" : Str), 8)]) (g := gName 8) (tt := tYes) rfl scDC.nd rfl rfl (sw_trueD rfl rfl rfl (by decide +kernel)) (pi_list (pe_methR0 (pv 0) Nm hr pass0)) (blkOk_by (own := [(("other" : Str), 8)]) (N := ["rack", "kept", "lot", "name", "limit", "names", "reach", "readings", "other", "distance", "bounded", "sign", "level", "spans", "at", "span"]) (sc := defScope sDropCase) (by decide +kernel)) (fun _ _ _ _ _ => pg_name (i := 8) scDC.nd rfl (Or.inl rfl)) (fun _ _ _ _ _ => pts_nil) (fun _ _ _ _ _ => (pv 8)) (fun _ _ _ _ _ => (pe_op op_mul (pv 11) (pv 12))))
      (pss_cons (ps_set (i := 13) scDC.nd rfl (Or.inl rfl) (pe_callG Dspan_list hr rfl pass0 (pa_cons (pv 0) (pa_cons (pv 5) (pa_cons (pv 2) (pa_cons (pv 11) pa_nil))))))
      (pss_cons (ps_set (i := 14) scDC.nd rfl (Or.inl rfl) (pe_bm PySem.F.plainAttrs_list PySem.F.slot_list_index PySem.F.type_list_index mt_index (pv 5) (pa_cons (pv 3) pa_nil)))
      (pss_cons (ps_for (passes_of rfl) rfl (pi_enum (by rfl) B.enumerate (pa_cons (pv 13) pa_nil)) (pg_tup rfl (pgs_cons (pg_name (i := 8) scDC.nd rfl (Or.inl rfl)) (pgs_cons (pg_name (i := 15) scDC.nd rfl (Or.inl rfl)) pgs_nil)))
        (pss_one (ps_dput (hu_of hr) (pv 7) (pe_ix ix_list (pv 5) (pv 8) (fun _ _ => rfl)) (pe_op op_mul (pv 11) (pe_callG Doffset hr rfl pass0 (pa_cons (pv 15) (pa_cons (pv 12) pa_nil)))) rfl)))
      (pss_cons (ps_dput (hu_of hr) (pv 7) (pv 3) (pe_op op_mul (pv 11) (pe_op op_add (pv 12) (pe_ix ix_tup (pe_ix ix_list (pv 13) (pv 14) (fun _ _ => rfl)) pe_int (fun _ _ => rfl)))) rfl)
      (pss_one (ps_ret (pe_tup (pa_cons (pe_op op_mul (pv 11) (pv 12)) (pa_cons (pv 7) pa_nil)))))))))))))))))
      , ?_⟩
    refine ⟨_, rfl, _, rfl, r, kp, gs, ks, rfl, hR, hk, fun H1 p s1 hp hp1 => ?_⟩
    rw [hns] at hp1
    have hsub : ∀ x ∈ ns, x ∈ gnames gs := fun x hx => by rw [← hns] at hx; exact (List.mem_filter.mp hx).1
    have hnd : ns.Nodup := by rw [← hns]; exact hR.nd.sublist List.filter_sublist
    have hgl : (gnames gs).length ≤ 9 := by unfold gnames; rw [List.length_map]; exact hR.len
    have hlen : ns.length ≤ 9 := by
      rw [← hns]
      have := List.length_filter_le (fun y => decide (y ∈ ks)) (gnames gs)
      omega
    have hnl : n < ns.length := (List.getElem?_eq_some_iff.mp hx).1
    have hxm : x ∈ ns := List.mem_of_getElem? hx
    have hfil : ((gnames gs).filter fun y => decide (y ∈ ns)) = ns := by
      conv => rhs; rw [← hns]
      apply List.filter_congr
      intro y hy
      rw [← hns]
      simp [hy]
    refine ⟨_, rfl, _, rfl, _, rfl, _, rfl, r, p, lt, gs, ns, lot, x, n, rfl, hR.same s1, SqL.of hp1, sqL_same hl s1, by rw [hfil]; exact hx, hxl, fun H2 s2 => ?_⟩
    rw [hfil]
    have s12 := s1.trans s2
    have hp2 := s2 _ _ hp1
    generalize hro : reachOf gs ns lot n = ro at qE q
    by_cases hlow : ∀ d, ro = some d → lim < d
    · -- nothing is raised
      have q := q hlow
      refine gIf_false (fun R hR0 => ?_) ?_
      · cases ro with
        | none => exact ⟨_, rfl, rfl, _, rfl, hR0⟩
        | some d =>
          have := hlow d rfl
          exact ⟨_, rfl, rfl, _, rfl, _, rfl, _, rfl, _, _, rfl, rfl, false, congrArg V.bl (decide_eq_false (by omega)), hR0⟩
      -- the best: o is some, s is a sign
      generalize hb : bstOf gs ns lot n = bt
      obtain ⟨d, b, sg, o⟩ := bt
      have hb' : GM.bestTop (ns.map (gdOf gs lot)) n = (d, b, sg, o) := hb
      have hcond : b = false ∨ d ≠ 0 := by
        unfold reachOf at hro
        rw [hb'] at hro
        cases b with
        | false => exact .inl rfl
        | true =>
          right
          have : ro = some d := by rw [← hro]; rfl
          have := hlow d this
          omega
      obtain ⟨l, rfl, hsg, hd, F, hbey⟩ := GM.bestTop_down hb' hcond
      -- the first dict
      have lkn : ∀ D G : Addr, ([("gauges", V.ref D), ("groups", V.ref G)] : List (Str × V)).lookup ("names" : Str) = none := fun D G => by
        rw [look_cons, if_neg (ne_st _ _ (by decide +kernel)), look_cons, if_neg (ne_st _ _ (by decide +kernel))]
        rfl
      obtain ⟨dx, Dg, Gg, hr1, hDg⟩ := hR.at_
      refine ⟨_, rfl, r, dx, _, rfl, s12 _ _ hr1, lkn Dg Gg, r, gs, rfl, hR.same s12, fun q1 hq1 => ?_⟩
      refine ⟨q1, rfl, ⟨_, SqL.of upd_same⟩, fun D1 hD1 => ?_⟩
      have nD1 : q1 ≠ D1 := fun z => by rw [← z, upd_same] at hD1; cases hD1
      refine dc_list (K := K) (a := q1) (xs := (gnames gs).map V.str) (fun i H' => Same H2 H' ∧ H' q1 = some (.lst ((gnames gs).map V.str)) ∧ H' D1 = some (.dK (kvF ((gnames gs).take i) fun _ => 0)))
        ⟨(same_upd hq1).trans (same_upd hD1), by rw [upd_ne nD1, upd_same], upd_same⟩ (fun i H' _ ⟨_, h, _⟩ => SqL.of h) ?_ ?_
      · rintro i y H3 hy ⟨s3, hq3, hD3⟩
        obtain ⟨z, hz, rfl⟩ := strs_at hy
        have hD0 : H2 D1 = none := by rw [upd_ne nD1.symm] at hD1; exact hD1
        refine ⟨rfl, ?_⟩
        refine ⟨_, rfl, _, Sum.inr z, rfl, hD3, ?_, same_mut s3 hD0, by rw [upd_ne nD1]; exact hq3, ?_⟩
        · rw [kvF_len, List.length_take, sizeLine_eq]
          omega
        · rw [upd_same, ← kvF_snoc hR.nd hz]
      · rintro H3 ⟨s3, hq3, hD3⟩
        have s13 := s12.trans s3
        have hp3 := s3 _ _ hp2
        refine ⟨_, rfl, _, rfl, _, _, rfl, .inl (sqL_same hl s13), rfl, flat_strs _, false, by rw [inV_str, decide_eq_false hxl]; rfl, ?_⟩
        refine ⟨_, rfl, _, rfl, _, rfl, _, rfl, r, p, lt, gs, ns, lot, x, n, rfl, hR.same s13, SqL.of hp3, sqL_same hl s13, hsub, hlen, hx, nodup_first hnd hx, hxl, fun H4 t s4 ht ht4 => ?_⟩
        rw [hb'] at ht4
        have ht4 : H4 t = some (.tup [.int d, .bl b, .int sg, .int l]) := ht4
        have s14 := s13.trans s4
        have hp4 := s4 _ _ hp3
        refine ⟨t, _, rfl, SqT.of ht4, rfl, _, _, rfl, _, _, rfl, _, _, rfl, _, _, rfl, rfl, ?_⟩
        generalize hl' : lvOf (d, b, sg, some l) lim = l'
        refine nIf (σ' := [some (.ref r), some (.ref kp), some (.ref lt), some (.str x), some (.int lim), some (.ref p), some (optV ro), some (.ref D1), none, some (.int d), some (.bl b), some (.int sg), some (.int l'), none, none, none]) (fun N hN => ?_) ?_
        · refine ⟨_, rfl, _, rfl, ?_⟩
          cases b with
          | false =>
            have e : l' = l + (lim + 1) := hl'.symm
            subst e
            exact ⟨_, rfl, _, rfl, _, _, rfl, rfl, _, _, rfl, rfl, hN⟩
          | true =>
            have e : l' = l := hl'.symm
            subst e
            exact hN
        -- the second dict
        refine ⟨_, rfl, r, dx, _, rfl, s14 _ _ hr1, lkn Dg Gg, r, gs, rfl, hR.same s14, fun q2 hq2 => ?_⟩
        refine ⟨q2, rfl, ⟨_, SqL.of upd_same⟩, fun D2 hD2 => ?_⟩
        have nD2 : q2 ≠ D2 := fun z => by rw [← z, upd_same] at hD2; cases hD2
        have hD20 : H4 D2 = none := by rw [upd_ne nD2.symm] at hD2; exact hD2
        refine dc_list (K := K) (a := q2) (xs := (gnames gs).map V.str) (fun i H' => Same H4 H' ∧ H' q2 = some (.lst ((gnames gs).map V.str)) ∧ H' D2 = some (.dK (kvF ((gnames gs).take i) fun _ => sg * l')))
          ⟨(same_upd hq2).trans (same_upd hD2), by rw [upd_ne nD2, upd_same], upd_same⟩ (fun i H' _ ⟨_, h, _⟩ => SqL.of h) ?_ ?_
        · rintro i y H5 hy ⟨s5, hq5, hD5⟩
          obtain ⟨z, hz, rfl⟩ := strs_at hy
          refine ⟨rfl, ?_⟩
          refine ⟨_, rfl, _, rfl, _, rfl, _, _, rfl, rfl, mul_ok hsg, _, Sum.inr z, rfl, hD5, ?_, same_mut s5 hD20, by rw [upd_ne nD2]; exact hq5, ?_⟩
          · rw [kvF_len, List.length_take, sizeLine_eq]
            omega
          · rw [upd_same, ← kvF_snoc hR.nd hz]
        · rintro H5 ⟨s5, hq5, hD5⟩
          rw [List.length_map, List.take_length] at hD5
          have s15 := s14.trans s5
          have hp5 := s5 _ _ hp4
          refine ⟨_, rfl, _, rfl, _, rfl, _, rfl, r, p, lt, gs, ns, lot, sg, rfl, hR.same s15, SqL.of hp5, sqL_same hl s15, hsub, hlen, fun H6 fa xs s6 hf hf6 hsps => ?_⟩
          have s16 := s15.trans s6
          have hp6 := s6 _ _ hp5
          have hD6 := s6 _ _ hD5
          have hzx : (ns.map V.str)[n]? = some (.str x) := by rw [List.getElem?_map, hx]; rfl
          refine ⟨_, rfl, .inl ⟨rfl, _, SqL.of hp6⟩, _, rfl, p, _, .str x, n, .str x, rfl, rfl, SqL.of hp6, rfl, flat_strs _, hzx, ?_, ?_, ?_⟩
          · rw [eqV_str]
            exact decide_eq_true rfl
          · intro m z hm hz
            obtain ⟨y, hy, rfl⟩ := strs_at hz
            rw [eqV_str]
            exact decide_eq_false (nodup_first hnd hx m y hm hy)
          have hD2H : H D2 = none := s14.free hD20
          have npD2 : p ≠ D2 := ne_of_none hp4 hD20
          have nfD2 : fa ≠ D2 := (ne_of_none hD5 hf).symm
          have hsl : (spansOf gs lot ns sg).length = ns.length := by unfold spansOf; rw [List.length_map, List.length_map]
          refine ⟨_, rfl, fa, _, rfl, SqL.of hf6, ?_⟩
          refine for_it (n := xs.length) (walk_enum (xs := xs)) (fun i σ H' => ∃ o8 o15 g, σ = [some (.ref r), some (.ref kp), some (.ref lt), some (.str x), some (.int lim), some (.ref p), some (optV ro), some (.ref D2), o8, some (.int d), some (.bl b), some (.int sg), some (.int l'), some (.ref fa), some (.int (n : Int)), o15] ∧
            SameBut [D2] H6 H' ∧ H' D2 = some (.dK (kvF (gnames gs) g)) ∧ (∀ j y, j < i → ns[j]? = some y → g y = sg * GM.rd (spansOf gs lot ns sg) l' j) ∧ (∀ y, y ∉ ns → g y = sg * l'))
            ⟨_, _, _, rfl, fun _ _ e _ => e, hD6, fun j y hj => absurd hj (by omega), fun _ _ => rfl⟩ (fun i σ H' _ ⟨_, _, _, _, s2, _⟩ => SqL.of (s2 _ _ hf6 (by simpa using nfD2))) ?_ ?_
          · rintro i y σ H7 H8 hi ⟨o8, o15, g, rfl, s7, hD7, hg1, hg2⟩ ⟨T, y1, y2, rfl, hT, rfl, e1, e2⟩
            obtain rfl := Option.some.inj e1
            have his : i < ns.length := by rw [← hsl, ← hsps.len]; exact hi
            obtain ⟨z, hz⟩ : ∃ z, ns[i]? = some z := ⟨_, List.getElem?_eq_getElem his⟩
            have hzs : (ns.map V.str)[i]? = some (.str z) := by rw [List.getElem?_map, hz]; rfl
            have nTD : D2 ≠ T := ne_of_none hD7 hT
            have s8 : SameBut [D2] H6 (upd H7 T (.tup [.int (i : Nat), y2])) := fun b u e hn => by
              have := s7 b u e hn
              rw [upd_ne (ne_of_none this hT)]
              exact this
            have hp8 := s8 _ _ hp6 (by simpa using npD2)
            have hv := spV_butD (hsps.at_ i y2 e2) s8 hD6
            refine ⟨T, _, rfl, SqT.of upd_same, rfl, _, _, rfl, _, _, rfl, rfl, ?_⟩
            refine ⟨_, rfl, _, rfl, _, rfl, y2, _, l', rfl, hv, _, _, rfl, rfl, mul_ok hsg, _, rfl, _, rfl, _, rfl, p, _, _, _, rfl, rfl, SqL.of hp8, atI_nat hzs, ?_⟩
            refine ⟨D2, _, rfl, .inl ⟨_, Sum.inr z, by rw [upd_ne nTD]; exact hD7, rfl, by rw [kvF_len, sizeLine_eq]; omega, rfl⟩, ?_⟩
            refine ⟨_, _, _, rfl, but_in s8 (by simp), by rw [upd_same, putK_kvF (hsub z (List.mem_of_getElem? hz))], fun j y hj hy => ?_, fun y hy => ?_⟩
            · by_cases hji : j = i
              · subst hji
                rw [hz] at hy
                obtain rfl := Option.some.inj hy
                rw [if_pos rfl]
                rfl
              · have : y ≠ z := nodup_first hnd hz j y (by omega) hy
                rw [if_neg this]
                exact hg1 j y (by omega) hy
            · have : y ≠ z := fun e => hy (by rw [e]; exact List.mem_of_getElem? hz)
              rw [if_neg this]
              exact hg2 y hy
          · rintro σ H7 ⟨o8, o15, g, rfl, s7, hD7, hg1, hg2⟩
            have hf7 := s7 _ _ hf6 (by simpa using nfD2)
            obtain ⟨pg, hpg, _, egd⟩ := gd_hon hR.nd (hsub x hxm) hxl
            obtain ⟨lo, hi, esp⟩ : ∃ lo hi, GM.spanOf sg (gdOf gs lot x) = some (lo, hi) := by
              rw [egd]
              show ∃ lo hi, (if 0 < sg then some (-saOf pg.1, sbOf pg.1) else some (-sbOf pg.1, saOf pg.1)) = some (lo, hi)
              by_cases h : 0 < sg
              · rw [if_pos h]; exact ⟨_, _, rfl⟩
              · rw [if_neg h]; exact ⟨_, _, rfl⟩
            have hat : GM.atS (spansOf gs lot ns sg) n = some (lo, hi) := by
              unfold GM.atS spansOf
              rw [List.getD, List.getElem?_map, List.getElem?_map, hx, ← esp]
              rfl
            obtain ⟨v, hv⟩ : ∃ v, xs[n]? = some v := ⟨xs[n]'(by rw [hsps.len, hsl]; exact hnl), List.getElem?_eq_getElem _⟩
            have hsv := spV_butD (hsps.at_ n v hv) s7 hD6
            rw [hat] at hsv
            obtain ⟨tv, rfl, htv⟩ := hsv
            refine ⟨_, rfl, _, rfl, _, rfl, _, rfl, fa, _, _, _, rfl, rfl, SqL.of hf7, atI_nat hv, tv, _, _, _, rfl, rfl, htv, at1, _, _, rfl, rfl, _, _, rfl, rfl, mul_ok hsg, _, rfl, _, rfl, ?_⟩
            refine ⟨D2, _, rfl, .inl ⟨_, Sum.inr x, hD7, rfl, by rw [kvF_len, sizeLine_eq]; omega, rfl⟩, ?_⟩
            refine ⟨_, rfl, _, rfl, _, _, rfl, rfl, mul_ok hsg, _, rfl, by show 2 ≤ sizeLine; decide, fun tr htr => ?_⟩
            have nD2r : D2 ≠ tr := fun z => by rw [← z, upd_same] at htr; cases htr
            have hlv : lvOf (bstOf gs ns lot n) lim = l' := by rw [hb, hl']
            have hsgb : (bstOf gs ns lot n).2.2.1 = sg := by rw [hb]
            have s17 : Same H (upd (upd H7 D2 (.dK (putK (kvF (gnames gs) g) (Sum.inr x) (.int (sg * (l' + hi)))))) tr (.tup [.int (sg * l'), .ref D2])) := fun b u e => by
              have e6 := s16 b u e
              have nb : b ≠ D2 := ne_of_none e hD2H
              have e7 := s7 b u e6 (by simpa using nb)
              have e8 : (upd H7 D2 (.dK (putK (kvF (gnames gs) g) (Sum.inr x) (.int (sg * (l' + hi)))))) b = some u := by rw [upd_ne nb]; exact e7
              rw [upd_ne (ne_of_none e8 htr)]
              exact e8
            refine q _ tr D2 (sg * l') (fun y => if y = x then sg * (l' + hi) else g y) s17 upd_same (by rw [upd_ne nD2r, upd_same, putK_kvF (hsub x hxm)]) ⟨by rw [hlv, hsgb], fun j y hj => ?_, fun y hy => ?_⟩
            · rw [hlv, hsgb]
              show (if y = x then sg * (l' + hi) else g y) = GM.caseR _ n sg l' j
              unfold GM.caseR
              have er : GM.rch ((ns.map (gdOf gs lot)).map (GM.spanOf sg)) n l' = l' + hi := by
                unfold GM.rch
                have : GM.atS ((ns.map (gdOf gs lot)).map (GM.spanOf sg)) n = some (lo, hi) := hat
                rw [this]
                rfl
              by_cases hjn : j = n
              · rw [hjn] at hj
                rw [hx] at hj
                rw [if_pos (Option.some.inj hj).symm, if_pos hjn, er]
              · have hyx : y ≠ x := fun e => by
                  have h2 : j < ns.length := (List.getElem?_eq_some_iff.mp hj).1
                  exact hjn ((List.getElem?_inj h2 hnd).mp (by rw [hj, hx, e]))
                rw [if_neg hyx, if_neg hjn]
                refine hg1 j y ?_ hj
                rw [hsps.len, hsl]
                exact (List.getElem?_eq_some_iff.mp hj).1
            · show (if y = x then sg * (l' + hi) else g y) = _
              rw [if_neg (fun e => hy (by rw [e]; exact hxm))]
              exact hg2 y hy
    · -- raised
      obtain ⟨d, hd, hdl⟩ : ∃ d, ro = some d ∧ d ≤ lim := by
        apply Classical.byContradiction
        intro hh
        exact hlow fun d e => by
          by_cases hc : d ≤ lim
          · exact absurd ⟨d, e, hc⟩ hh
          · omega
      subst hd
      refine ⟨_, rfl, rfl, _, rfl, _, rfl, _, rfl, _, _, rfl, rfl, true, congrArg V.bl (decide_eq_true hdl), ?_⟩
      refine ⟨_, rfl, by show 1 ≤ sizeLine; decide, fun l hl3 => ?_⟩
      refine ⟨by show 1 ≤ 1000; decide, fun e he => ?_⟩
      have nle : l ≠ e := fun z => by rw [← z, upd_same] at he; cases he
      have he2 : H2 e = none := by rw [upd_ne nle.symm] at he; exact he
      refine ⟨e, l, [V.str x], rfl, upd_same, SqL.of (by rw [upd_ne nle]; exact upd_same), fun pl dx hpl hdx hne => ?_⟩
      have nple : pl ≠ e := fun z => by rw [z, upd_same] at hpl; cases hpl
      have hpl1 : (upd H2 l (.lst [V.str x])) pl = none := by rw [upd_ne nple] at hpl; exact hpl
      have npll : pl ≠ l := fun z => by rw [z, upd_same] at hpl1; cases hpl1
      have hpl2 : H2 pl = none := by rw [upd_ne npll] at hpl1; exact hpl1
      have ndpl : dx ≠ pl := fun z => by rw [z, upd_same] at hdx; cases hdx
      have hdx1 : (upd H2 l (.lst [V.str x])) dx = none := by rw [upd_ne ndpl, upd_ne hne] at hdx; exact hdx
      have ndl : dx ≠ l := fun z => by rw [z, upd_same] at hdx1; cases hdx1
      have hdx2 : H2 dx = none := by rw [upd_ne ndl] at hdx1; exact hdx1
      refine ⟨rfl, dx, [("lot", .ref pl)], upd_same, by rw [upd_ne hne, upd_same], hdx1, ?_⟩
      refine qE d rfl hdl _ dx pl (fun b u eb => ?_) upd_same ?_
      · have e2 := s12 b u eb
        have nbe := ne_of_none e2 he2
        rw [upd_ne (ne_of_none e2 hdx2), del_ne nbe, upd_ne nbe, upd_ne (ne_of_none e2 hdx2), upd_ne (ne_of_none e2 hpl2), upd_ne nbe, upd_ne (ne_of_none e2 hl3)]
        exact e2
      · rw [upd_ne ndpl.symm, del_ne nple, upd_ne nple, upd_ne ndpl.symm, upd_same]
end
end GR

set_option Elab.async false
set_option linter.all false
set_option maxRecDepth 100000
set_option maxHeartbeats 4000000
namespace GR
open PySem PySem.Spec PyProof.Rows L2
open He (ga ma)
section
variable {X : Cx} {CX : CXT} {k : Nat} {x : Str} {sp : Sp} {E : L2.St → XK} {p pos : Pos} {e : Expr} {es : List Expr} {t : TA}
theorem pe_callGS (G : GDef X.prog X.w X.K X.mg X.base CX k x sp) (hr : Room k X.A) (hg : Gl X x) (hx : ∀ σ, PassesAt CX X σ (E σ)) (ha : PA X (e :: es) t) (hdb : (x == ("__debug__" : Str)) = false := by decide)
    (he : starEach (e :: es) X.env = (false, eval e X.env) :: starEach es X.env := by rfl) (hpl : (backTo pos (starEach es X.env)).any (·.1) = false := by rfl) : PE X (.Call (.Name x p) (e :: es) [] pos) (tCallGS sp E t) := by
  obtain ⟨f, hm, hk, F⟩ := G
  refine ⟨fun pins s σ H Q I h => ?_⟩
  refine wpAny_Call_Name_kw (ld_glob I hg hm ?_ hdb)
  refine PySem.W.callWith_K (h₀ := X.base) I.ok.mod.kin hk (thn (ha.run pos pins s σ H _ I h) fun us s1 ⟨vs, H1, I1, r, q⟩ => ⟨I1.kIn, ?_⟩) he hpl
  refine wpAny_call (codeAny_mono (F X.A X.stack s1 H1 us vs Q (E σ) hr I1.env0 r q) fun r s' hq => ?_)
  cases r with
  | error e => exact hx σ pins H1 s1 e s' I1 hq
  | ok fl =>
    cases fl with
    | ret u => exact I1.after hq
    | next => exact False.elim hq
    | brk => exact False.elim hq
    | cont => exact False.elim hq
end
def spCase (K : PySem.W.Frag) : Sp := fun vs H Q _ => ∃ (r kp lt : Addr) (gs : List GA) (ks ns lot : List Str) (x : Str) (n : Nat) (lim : Int), vs = [.ref r, .ref kp, .ref lt, .str x, .int lim] ∧ RackAt K H r gs ∧ SqL K H kp (ks.map V.str) ∧ SqL K H lt (lot.map V.str) ∧
  ((gnames gs).filter fun y => decide (y ∈ ks)) = ns ∧ ns[n]? = some x ∧ x ∉ lot ∧ 0 ≤ lim ∧
  (∀ d, reachOf gs ns lot n = some d → d ≤ lim → ∀ H' p, Same H H' → H' p = some (.lst [.str x]) → Q (.ref p) H') ∧
  ((∀ d, reachOf gs ns lot n = some d → lim < d) → ∀ H' t D X g, Same H H' → H' t = some (.tup [.int X, .ref D]) → H' D = some (.dK (kvF (gnames gs) g)) → CaseIs gs ns lot n lim X g → Q (.ref t) H')
section
variable {P : Program} {w : World} {K : PySem.W.Frag} {mg : Str → Option Value} {base : Heap}
theorem scCs : FnScope ["_law_rack", "_law_kept", "_law_lot", "_law_word_here", "_law_most", "e"] ["_law_rack", "_law_kept", "_law_lot", "_law_word_here", "_law_most"] (defScope sCase) := ⟨rfl, rfl, rfl, by decide +kernel, rfl, by decide +kernel, by decide +kernel⟩
theorem d_case (G : GF K mg "_law_case" sCase) {fN : Addr} (T : NTx K mg fN) (D : GDef P w K mg base (L2.CX P w) 7 "drop_case" (spDrop K)) : GDef P w K mg base CX0 8 "_law_case" (spCase K) := by
  refine G.ok scCs (fun vs H Q E h => ?_) (fun _ _ _ _ _ _ us hl => match us, hl with | [_, _, _, _, _], _ => rfl) (fun f cdv A outer s H vs Q E hr h => ?_)
  · obtain ⟨r, kp, lt, gs, ks, ns, lot, x, n, lim, rfl, _⟩ := h
    rfl
  · obtain ⟨r, kp, lt, gs, ks, ns, lot, x, n, lim, rfl, hR, hk, hl, hns, hx, hxl, hlim, q1, q2⟩ := h
    refine ⟨_, pss_one (ps_try_as (i := 5) (tb := fun W => tRet (tCallGS (spDrop K) (WE W) (tCons (tVar 0) (tCons (tVar 1) (tCons (tVar 2) (tCons (tVar 3) (tCons (tVar 4) tNil)))))))
      (ts := fun a cls d => tRet (tXf a cls d (ga K "NoCase") "lot" (tVar 5))) (Wout := fun _ _ _ _ => False) rfl rfl scCs.nd rfl rfl ⟨rfl, by decide, Or.inl T.glo⟩ takes0
      (fun W pn xe tk _ => pss_one (ps_ret (by exact (pe_callGS D hr rfl (fun σ => passAt tk σ) (by exact (pa_cons (pv 0) (pa_cons (pv 1) (pa_cons (pv 2) (pa_cons (pv 3) (pa_cons (pv 4) pa_nil))))))))))
      (fun a oe cls d pn hz hf => pss_one (ps_ret (by exact (pe_xf T.xf T.noLot hz hf (pv 5)))))), ?_⟩
    refine ⟨_, rfl, _, rfl, _, rfl, _, rfl, _, rfl, r, kp, lt, gs, ks, ns, lot, x, n, lim, rfl, hR, hk, hl, hns, hx, hxl, hlim, fun d hd hdl H' dd p s2 h1 h2 => ?_, fun hlow H' t D X g s2 h1 h2 h3 => q2 hlow H' t D X g s2 h1 h2 h3⟩
    refine ⟨true, T.exm, fun _ a0 _ => ?_, fun z => Bool.noConfusion z⟩
    exact ⟨_, rfl, rfl, rfl, dd, _, _, rfl, h1, by rw [look_cons, if_pos rfl], q1 d hd hdl H' p s2 h2⟩
end
end GR

/-! The farthest of a list of names, plain. -/
namespace GM
universe u
section
variable {α : Type} [DecidableEq α]
def rOf (ks : List α) (f : α → Int) (j : Nat) : Int := match ks[j]? with
  | some x => f x
  | none => 0
theorem rOf_at {ks : List α} {f : α → Int} {j : Nat} {x : α} (h : ks[j]? = some x) : rOf ks f j = f x := by unfold rOf; rw [h]
theorem map_rOf (ks : List α) (f : α → Int) : ks.map f = (List.range ks.length).map (rOf ks f) := by
  apply List.ext_getElem?
  intro j
  rw [List.getElem?_map, List.getElem?_map]
  by_cases h : j < ks.length
  · rw [List.getElem?_range h, List.getElem?_eq_getElem h]
    show some (f ks[j]) = some (rOf ks f j)
    rw [rOf_at (List.getElem?_eq_getElem h)]
  · rw [List.getElem?_eq_none_iff.mpr (by omega), List.getElem?_eq_none_iff.mpr (by simp; omega)]
    rfl
/-- b is the first farthest from the middle -/
def FarIs (ks : List α) (f : α → Int) (b : α) (dist mid : Int) : Prop :=
  ∃ at_, ks[at_]? = some b ∧ IsMed (rOf ks f) ks.length (((ks.length : Int) - 1) / 2) mid ∧ FirstFar (rOf ks f) ks.length mid at_ ∧ dist = iabs (f b - mid)
theorem FarIs.uniq {ks : List α} {f : α → Int} {b b' : α} {d d' m m' : Int} (h : FarIs ks f b d m) (h' : FarIs ks f b' d' m') : b = b' ∧ d = d' ∧ m = m' := by
  obtain ⟨i, h1, h2, h3, h4⟩ := h
  obtain ⟨j, g1, g2, g3, g4⟩ := h'
  have e := h2.uniq g2
  subst e
  have e := h3.uniq g3
  subst e
  rw [h1] at g1
  obtain rfl := Option.some.inj g1
  exact ⟨rfl, by rw [h4, g4], rfl⟩
theorem FarIs.congr {ks : List α} {f g : α → Int} {b : α} {d m : Int} (h : FarIs ks f b d m) (e : ∀ x ∈ ks, f x = g x) : FarIs ks g b d m := by
  obtain ⟨i, h1, h2, h3, h4⟩ := h
  have er : rOf ks f = rOf ks g := by
    funext j
    unfold rOf
    cases q : ks[j]? with
    | none => rfl
    | some x => exact e x (List.mem_of_getElem? q)
  refine ⟨i, h1, er ▸ h2, er ▸ h3, by rw [← e b (List.mem_of_getElem? h1)]; exact h4⟩
theorem FarIs.ge {ks : List α} {f : α → Int} {b : α} {d m : Int} (h : FarIs ks f b d m) {x : α} (hx : x ∈ ks) : iabs (f x - m) ≤ d := by
  obtain ⟨i, h1, h2, h3, h4⟩ := h
  obtain ⟨j, hj, e⟩ := List.mem_iff_getElem.mp hx
  have := h3.2.1 j hj
  rw [rOf_at h1, rOf_at (x := x) (by rw [List.getElem?_eq_getElem hj, e])] at this
  omega
theorem FarIs.mem {ks : List α} {f : α → Int} {b : α} {d m : Int} (h : FarIs ks f b d m) : b ∈ ks := by
  obtain ⟨i, h1, _⟩ := h
  exact List.mem_of_getElem? h1
/-- the middle of the sorted readings -/
theorem sorted_med {ks : List α} {f : α → Int} {ms : List Int} {k : Nat} {v : Int} (hp : ms.Perm (ks.map f)) (hs : ms.Pairwise (· ≤ ·)) (hk : (k : Int) = ((ks.length : Int) - 1) / 2) (h : ms[k]? = some v) : IsMed (rOf ks f) ks.length (((ks.length : Int) - 1) / 2) v := by
  have := med_of_sorted (map_rOf ks f) hp hs h
  rw [← hk]
  exact this
/-- first of those that fit -/
theorem filter_head {p : α → Bool} {b : α} {rest : List α} : ∀ {l : List α}, l.filter p = b :: rest → ∃ i : Nat, l[i]? = some b ∧ p b = true ∧ ∀ (j : Nat) (y : α), j < i → l[j]? = some y → p y = false
  | [], h => by simp at h
  | x :: l, h => by
    rw [List.filter_cons] at h
    by_cases c : p x = true
    · rw [if_pos c] at h
      obtain ⟨rfl, _⟩ := List.cons.inj h
      exact ⟨0, rfl, c, fun j y hj => absurd hj (by omega)⟩
    · rw [if_neg c] at h
      obtain ⟨i, h1, h2, h3⟩ := filter_head h
      refine ⟨i + 1, h1, h2, fun j y hj hy => ?_⟩
      cases j with
      | zero =>
        obtain rfl := Option.some.inj hy
        simpa using c
      | succ j => exact h3 j y (by omega) hy
/-- the greatest distance, by max -/
theorem FarIs.max {ks : List α} {f : α → Int} {b : α} {d m v : Int} (h : FarIs ks f b d m) (h1 : v ∈ ks.map fun x => iabs (f x - m)) (h2 : ∀ y, y ∈ ks.map (fun x => iabs (f x - m)) → y ≤ v) : v = d := by
  obtain ⟨x, hx, rfl⟩ := List.mem_map.mp h1
  have a := h.ge hx
  have c := h2 (iabs (f b - m)) (List.mem_map.mpr ⟨b, h.mem, rfl⟩)
  obtain ⟨i, _, _, _, h4⟩ := h
  omega
theorem FarIs.head {ks : List α} {f : α → Int} {b : α} {d m : Int} (h : FarIs ks f b d m) : ∃ rest, (ks.filter fun x => decide (iabs (f x - m) = d)) = b :: rest := by
  have hb : b ∈ ks.filter fun x => decide (iabs (f x - m) = d) := by
    refine List.mem_filter.mpr ⟨h.mem, ?_⟩
    obtain ⟨i, _, _, _, h4⟩ := h
    exact decide_eq_true h4.symm
  cases e : ks.filter fun x => decide (iabs (f x - m) = d) with
  | nil => rw [e] at hb; cases hb
  | cons c rest =>
    refine ⟨rest, ?_⟩
    obtain ⟨j, g1, g2, g3⟩ := filter_head e
    have g2 := of_decide_eq_true g2
    have hF : FarIs ks f c d m := by
      refine ⟨j, g1, ?_, ⟨(List.getElem?_eq_some_iff.mp g1).1, fun k hk => ?_, fun k hk => ?_⟩, g2.symm⟩
      · obtain ⟨i, _, h2, _⟩ := h
        exact h2
      · rw [rOf_at g1, rOf_at (List.getElem?_eq_getElem hk), g2]
        exact h.ge (List.getElem_mem hk)
      · have hk2 : k < ks.length := by
          have := (List.getElem?_eq_some_iff.mp g1).1
          omega
        rw [rOf_at g1, rOf_at (List.getElem?_eq_getElem hk2), g2]
        have a := h.ge (List.getElem_mem hk2)
        have c := of_decide_eq_false (g3 k _ hk (List.getElem?_eq_getElem hk2))
        omega
    rw [(hF.uniq h).1]
end
end GM

set_option Elab.async false
set_option linter.all false
set_option maxRecDepth 100000
set_option maxHeartbeats 4000000
namespace GR
open PySem PySem.Spec PyProof.Rows L2
open He (ga ma)
structure PTx (K : PySem.W.Frag) (gS : Addr) : Prop where
  cls : Cls K (ga K "Keeper")
  no : ∀ f, f ∈ (["bound", "order", "gone"] : List Str) → NoAttr K (ga K "Keeper") f
  pset : ∃ p, PSetOf K (ga K "Keeper") "limit" p gS
def fKp (O G : Addr) : List (Str × V) := [("bound", .int 0), ("order", .ref O), ("gone", .ref G)]
structure KpAt (K : PySem.W.Frag) (H : Hp) (a dx O G : Addr) (ns gone : List Str) : Prop where
  at_ : H a = some (.ins (ga K "Keeper") dx (fKp O G))
  ord : H O = some (.lst (ns.map V.str))
  gon : H G = some (.lst (gone.map V.str))
theorem KpAt.same {K : PySem.W.Frag} {H H' : Hp} {a dx O G : Addr} {ns gone : List Str} (h : KpAt K H a dx O G ns gone) (e : Same H H') : KpAt K H' a dx O G ns gone := ⟨e _ _ h.at_, e _ _ h.ord, e _ _ h.gon⟩
theorem lkB (O G : Addr) : (fKp O G).lookup ("bound" : Str) = some (.int 0) := by unfold fKp; rw [look_cons, if_pos rfl]
theorem lkO (O G : Addr) : (fKp O G).lookup ("order" : Str) = some (.ref O) := by unfold fKp; rw [look_cons, if_neg (ne_st _ _ (by decide +kernel)), look_cons, if_pos rfl]
theorem lkG (O G : Addr) : (fKp O G).lookup ("gone" : Str) = some (.ref G) := by unfold fKp; rw [look_cons, if_neg (ne_st _ _ (by decide +kernel)), look_cons, if_neg (ne_st _ _ (by decide +kernel)), look_cons, if_pos rfl]
def spKpSet (K : PySem.W.Frag) : Sp := fun vs H Q _ => ∃ (a dx : Addr) (fs : List (Str × V)) (v : Int), vs = [.ref a, .int v] ∧ H a = some (.ins (ga K "Keeper") dx fs) ∧ fs.length < 1000 ∧ 0 ≤ v ∧ Q .non (upd H a (.ins (ga K "Keeper") dx (putF "bound" (.int v) fs)))
def spKpI (K : PySem.W.Frag) : Sp := fun vs H Q _ => ∃ (a dx r : Addr) (gs : List GA), vs = [.ref a, .ref r, .int 0] ∧ H a = some (.ins (ga K "Keeper") dx []) ∧ RackAt K H r gs ∧
  ∀ H' O G, SameBut [a] H H' → H O = none → H G = none → KpAt K H' a dx O G (gnames gs) [] → Q .non H'
def keptOf (ns gone : List Str) : List Str := ns.filter fun x => !decide (x ∈ gone)
def spKept (K : PySem.W.Frag) : Sp := fun vs H Q _ => ∃ (a dx O G : Addr) (ns gone : List Str), vs = [.ref a] ∧ KpAt K H a dx O G ns gone ∧ ns.length ≤ 9 ∧ ∀ H' p, Same H H' → H p = none → H' p = some (.lst ((keptOf ns gone).map V.str)) → Q (.ref p) H'
def spDropped (K : PySem.W.Frag) : Sp := fun vs H Q _ => ∃ (a dx O G : Addr) (ns gone : List Str), vs = [.ref a] ∧ KpAt K H a dx O G ns gone ∧ ∀ p, H p = none → Q (.ref p) (upd H p (.lst (gone.map V.str)))
def goneOf (gone : List Str) (b : Str) (d : Int) : List Str := if 0 < d then gone ++ [b] else gone
def spKpTake (K : PySem.W.Frag) : Sp := fun vs H Q _ => ∃ (a dx O G D : Addr) (ns gone ms : List Str) (f : Str → Int) (b : Str) (d m : Int), vs = [.ref a, .ref D] ∧ KpAt K H a dx O G ns gone ∧ ns.length ≤ 9 ∧ gone.length ≤ 1000 ∧ H D = some (.dK (kvF ms f)) ∧ (∀ x ∈ ns, x ∈ ms) ∧ O ≠ G ∧
  GM.FarIs (keptOf ns gone) f b d m ∧ ∀ H', SameBut [G] H H' → KpAt K H' a dx O G ns (goneOf gone b d) → Q (.int m) H'
section
variable {P : Program} {w : World} {K : PySem.W.Frag} {mg : Str → Option Value} {base : Heap} {f gS : Addr} {fd : FuncData}
theorem scKS : FnScope ["self", "value"] ["self", "value"] (defScope sKeepSet) := ⟨rfl, rfl, rfl, by decide +kernel, rfl, by decide +kernel, by decide +kernel⟩
theorem f_kpSet (F : Fun K "limit" "Keeper.limit" sKeepSet f fd) (T : PTx K gS) : FnR P w K mg base CX0 1 f (spKpSet K) := by
  refine mf_ok F scKS (fun vs H Q E h => ?_) (fun _ _ _ _ _ _ us hl => match us, hl with | [_, _], _ => rfl) (fun cdv A outer s H vs Q E hr h => ?_)
  · obtain ⟨a, dx, fs, v, rfl, _⟩ := h
    rfl
  · obtain ⟨a, dx, fs, v, rfl, ha, hl, hv, q⟩ := h
    refine ⟨_,
      (pss_cons (ps_if (pt_cmpR op_lt (pv 1) pe_int (nomark _))
        (pss_one ps_never)
        pss_nil)
      (pss_one (ps_fld (pv 0) (pv 1) rfl)))
      , ?_⟩
    have hf : decide (v < 0) = false := decide_eq_false (by omega)
    refine ⟨_, rfl, _, _, rfl, rfl, false, congrArg V.bl hf, ?_⟩
    exact ⟨_, rfl, _, rfl, a, _, dx, _, rfl, ha, T.cls, T.no _ (by decide +kernel), hl, q⟩
theorem scKI : FnScope ["self", "rack", "limit"] ["self", "rack", "limit"] (defScope sKeepI) := ⟨rfl, rfl, rfl, by decide +kernel, rfl, by decide +kernel, by decide +kernel⟩
theorem f_kpI (F : Fun K "__init__" "Keeper.__init__" sKeepI f fd) (T : PTx K gS) (S : FnR P w K mg base CX0 1 gS (spKpSet K)) (Nm : MDef P w K mg base CX0 3 (ga K "Rack") "names" (spNames K)) : FnR P w K mg base CX0 4 f (spKpI K) := by
  obtain ⟨pp, pset⟩ := T.pset
  refine mf_ok F scKI (fun vs H Q E h => ?_) (fun _ _ _ _ _ _ us hl => match us, hl with | [_, _, _], _ => rfl) (fun cdv A outer s H vs Q E hr h => ?_)
  · obtain ⟨a, dx, r, gs, rfl, _⟩ := h
    rfl
  · obtain ⟨a, dx, r, gs, rfl, ha, hR, q⟩ := h
    refine ⟨_, pss_cons (ps_propset pset S hr pass0 (pv 0) (pv 2)) (pss_cons (ps_fld (pv 0) (pe_methR0 (pv 1) Nm hr pass0) rfl) (pss_one (ps_fld (pv 0) (pe_lst pa_nil) rfl))), ?_⟩
    refine ⟨_, rfl, _, rfl, a, dx, _, rfl, ha, a, dx, _, 0, rfl, ha, by show 0 < 1000; decide, Int.le_refl _, ?_⟩
    have hra : r ≠ a := by
      obtain ⟨dx2, D, G, h1, _⟩ := hR.at_
      refine ne_of h1 ha fun z => ?_
      have := (HO.ins.inj z).2.2
      cases this
    have s1 : SameBut [a] H (upd H a (.ins (ga K "Keeper") dx (putF "bound" (.int 0) []))) := but_upd (by simp)
    have hR1 : RackAt K (upd H a (.ins (ga K "Keeper") dx (putF "bound" (.int 0) []))) r gs := by
      obtain ⟨dx2, D, G, h1, h2⟩ := hR.at_
      refine ⟨⟨dx2, D, G, by rw [upd_ne hra]; exact h1, by rw [upd_ne (ne_of h2 ha fun z => nomatch z)]; exact h2⟩, hR.nd, hR.len, fun p hp => ?_, hR.wf⟩
      obtain ⟨dg, hg⟩ := hR.gat p hp
      refine ⟨dg, ?_⟩
      rw [upd_ne (ne_of hg ha fun z => fOf_ne _ (HO.ins.inj z).2.2)]
      exact hg
    obtain ⟨dx2, D, G, h1, h2⟩ := hR1.at_
    refine ⟨_, rfl, r, dx2, _, rfl, h1, by rw [look_cons, if_neg (ne_st _ _ (by decide +kernel)), look_cons, if_neg (ne_st _ _ (by decide +kernel))]; rfl, r, gs, rfl, hR1, fun O hO => ?_⟩
    have nOa : a ≠ O := fun z => by rw [← z, upd_same] at hO; cases hO
    have hO0 : H O = none := by rw [upd_ne nOa.symm] at hO; exact hO
    refine ⟨_, rfl, a, _, dx, _, rfl, by rw [upd_ne nOa, upd_same], T.cls, T.no _ (by decide +kernel), by show 1 < 1000; decide, ?_⟩
    refine ⟨by show 0 ≤ sizeLine; decide, fun Gn hGn => ?_⟩
    have nGa : a ≠ Gn := fun z => by rw [← z, upd_same] at hGn; cases hGn
    have hG1 := hGn
    rw [upd_ne nGa.symm] at hG1
    have nGO : O ≠ Gn := fun z => by rw [← z, upd_same] at hG1; cases hG1
    rw [upd_ne nGO.symm, upd_ne nGa.symm] at hG1
    have e1 : putF "order" (.ref O) (putF "bound" (.int 0) []) = ([("bound", V.int 0), ("order", V.ref O)] : List (Str × V)) := by
      show putF "order" (.ref O) [("bound", V.int 0)] = _
      rw [put_end (by rw [look_cons, if_neg (ne_st _ _ (by decide +kernel))]; rfl)]
      rfl
    refine ⟨_, rfl, a, _, dx, _, rfl, by rw [upd_ne nGa, upd_same], T.cls, T.no _ (by decide +kernel), by rw [e1]; show 2 < 1000; decide, ?_⟩
    have e2 : putF "gone" (.ref Gn) (putF "order" (.ref O) (putF "bound" (.int 0) [])) = fKp O Gn := by
      rw [e1, put_end (by rw [look_cons, if_neg (ne_st _ _ (by decide +kernel)), look_cons, if_neg (ne_st _ _ (by decide +kernel))]; rfl)]
      rfl
    refine q _ O Gn (but_in (but_new (but_in (but_new s1 hO0) (by simp)) hG1) (by simp)) hO0 hG1 ⟨by rw [upd_same, e2], ?_, ?_⟩
    · rw [upd_ne nOa.symm, upd_ne nGO, upd_ne nOa.symm, upd_same]
    · rw [upd_ne nGa.symm, upd_same]
      rfl
theorem scKk : FnScope ["self", "name"] ["self"] (defScope sKept) := ⟨rfl, rfl, rfl, by decide +kernel, rfl, by decide +kernel, by decide +kernel⟩
theorem f_kept (F : Fun K "kept" "Keeper.kept" sKept f fd) (T : PTx K gS) : FnR P w K mg base CX0 1 f (spKept K) := by
  refine mf_ok F scKk (fun vs H Q E h => ?_) (fun _ _ _ _ _ _ us hl => match us, hl with | [_], _ => rfl) (fun cdv A outer s H vs Q E hr h => ?_)
  · obtain ⟨a, dx, O, G, ns, gone, rfl, _⟩ := h
    rfl
  · obtain ⟨a, dx, O, G, ns, gone, rfl, hK, hlen, q⟩ := h
    refine ⟨_,
      (pss_one (ps_ret (pe_lc (own := [(("name" : Str), 1)]) (g := gName 1) rfl scKk.nd (pi_list (pe_fld (pv 0) rfl)) (blkOk_by (own := [(("name" : Str), 1)]) (N := ["self", "name"]) (sc := defScope sKept) (by decide +kernel)) (fun _ _ _ _ _ => pg_name (i := 1) scKk.nd rfl (Or.inl rfl)) (fun _ _ _ _ _ => pts_one (pt_cmpR (op_notInK K) (pv 1) (pe_fldK K (pv 0) rfl) (by rfl))) (fun _ _ _ _ _ => (pv 1)))))
      , ?_⟩
    refine ⟨_, rfl, a, _, dx, _, _, rfl, hK.at_, T.cls, T.no _ (by decide +kernel), lkO O G, O, rfl, ⟨_, SqL.of hK.ord⟩, fun M hM => ?_⟩
    refine lc_list (K := K) (a := O) (xs := ns.map V.str) (fun i H2 => Same H H2 ∧ H2 M = some (.lst ((keptOf (ns.take i) gone).map V.str)))
      ⟨same_upd hM, upd_same⟩ (fun i H2 _ ⟨s2, h⟩ => SqL.of (s2 _ _ hK.ord)) ?_ ?_
    · rintro i y H2 hy ⟨s2, hM2⟩
      obtain ⟨x, hx, rfl⟩ := strs_at hy
      have etk : ns.take (i + 1) = ns.take i ++ [x] := by rw [List.take_succ, hx]; rfl
      refine ⟨rfl, _, rfl, _, rfl, a, _, dx, _, _, rfl, s2 _ _ hK.at_, T.cls, T.no _ (by decide +kernel), lkG O G, _, _, rfl, .inl (SqL.of (s2 _ _ hK.gon)), rfl, flat_strs _, !decide (x ∈ gone), by rw [inV_str]; cases decide (x ∈ gone) <;> rfl, ?_⟩
      refine ite2 (fun c1 => ?_) fun c1 => ?_
      · refine ⟨_, rfl, _, hM2, ?_, same_mut s2 hM, ?_⟩
        · rw [List.length_map, sizeLine_eq]
          have := List.length_filter_le (fun x => !decide (x ∈ gone)) (ns.take i)
          rw [List.length_take] at this
          unfold keptOf
          omega
        · rw [upd_same, etk]
          unfold keptOf
          rw [List.filter_append, List.filter_cons, if_pos c1, List.map_append]
          rfl
      · refine ⟨s2, ?_⟩
        rw [hM2, etk]
        unfold keptOf
        rw [List.filter_append, List.filter_cons, if_neg c1]
        simp
    · rintro H2 ⟨s2, hM2⟩
      rw [List.length_map, List.take_length] at hM2
      exact q H2 M s2 hM hM2
theorem scKd : FnScope ["self"] ["self"] (defScope sDropped) := ⟨rfl, rfl, rfl, by decide +kernel, rfl, by decide +kernel, by decide +kernel⟩
theorem f_dropped (F : Fun K "dropped" "Keeper.dropped" sDropped f fd) (B : Bl mg) (T : PTx K gS) : FnR P w K mg base CX0 1 f (spDropped K) := by
  refine mf_ok F scKd (fun vs H Q E h => ?_) (fun _ _ _ _ _ _ us hl => match us, hl with | [_], _ => rfl) (fun cdv A outer s H vs Q E hr h => ?_)
  · obtain ⟨a, dx, O, G, ns, gone, rfl, _⟩ := h
    rfl
  · obtain ⟨a, dx, O, G, ns, gone, rfl, hK, q⟩ := h
    refine ⟨_,
      (pss_one (ps_ret (pe_callTy call_list_of (by rfl) B.list (by decide +kernel) (pa_cons (pe_fld (pv 0) rfl) pa_nil))))
      , ?_⟩
    exact ⟨_, rfl, a, _, dx, _, _, rfl, hK.at_, T.cls, T.no _ (by decide +kernel), lkG O G, G, _, rfl, .inl (SqL.of hK.gon), q⟩
end
end GR

set_option Elab.async false
set_option linter.all false
set_option maxRecDepth 100000
set_option maxHeartbeats 4000000
namespace GR
open PySem PySem.Spec PyProof.Rows L2
open He (ga ma)
section
variable {P : Program} {w : World} {K : PySem.W.Frag} {mg : Str → Option Value} {base : Heap} {f gS : Addr} {fd : FuncData}
theorem scKt : FnScope ["self", "readings", "names", "name", "values", "answer", "distance", "far"] ["self", "readings"] (defScope sTakeK) := ⟨rfl, rfl, rfl, by decide +kernel, rfl, by decide +kernel, by decide +kernel⟩
theorem f_kpTake (F : Fun K "take" "Keeper.take" sTakeK f fd) (B : Bl mg) (T : PTx K gS) (Kp : MDef P w K mg base CX0 2 (ga K "Keeper") "kept" (spKept K)) : FnR P w K mg base CX0 3 f (spKpTake K) := by
  refine mf_ok F scKt (fun vs H Q E h => ?_) (fun _ _ _ _ _ _ us hl => match us, hl with | [_, _], _ => rfl) (fun cdv A outer s H vs Q E hr h => ?_)
  · obtain ⟨a, dx, O, G, D, ns, gone, ms, f, b, d, m, rfl, _⟩ := h
    rfl
  · obtain ⟨a, dx, O, G, D, ns, gone, ms, f, b, d, m, rfl, hK, hlen, hgl, hD, hsub, hOG, hfar, q⟩ := h
    refine ⟨_,
      (pss_cons (ps_set (i := 2) scKt.nd rfl (Or.inl rfl) (pe_methR0 (pv 0) Kp hr pass0))
      (pss_cons (ps_if (pt_not (pt_truth (pv 2) (by intro _; rfl)))
        (pss_one ps_never)
        pss_nil)
      (pss_cons (ps_for PassesOwn.never rfl (pi_list (pv 2)) (pg_name (i := 3) scKt.nd rfl (Or.inl rfl))
        (pss_one (ps_if (pt_cmp (pc_dnotin (hu_of hr) (pv 3) (pv 1)))
          (pss_one ps_never)
          pss_nil)))
      (pss_cons (ps_set (i := 4) scKt.nd rfl (Or.inl rfl) (pe_callB cr_sorted (by rfl) B.sorted (by decide +kernel) (pa_cons (pe_lc (own := [(("name" : Str), 3)]) (g := gName 3) (tt := tYes) rfl scKt.nd (pi_list (pv 2)) (blkOk_by (own := [(("name" : Str), 3)]) (N := ["self", "readings", "names", "name", "values", "answer", "distance", "far"]) (sc := defScope sTakeK) (by decide +kernel)) (fun _ _ _ _ _ => pg_name (i := 3) scKt.nd rfl (Or.inl rfl)) (fun _ _ _ _ _ => pts_nil) (fun _ _ _ _ _ => (pe_dget (hu_of hr) (pv 1) (pv 3) (fun _ _ => rfl)))) pa_nil)))
      (pss_cons (ps_set (i := 5) scKt.nd rfl (Or.inr rfl) (pe_ix ix_list (pv 4) (pe_op op_fdiv (pe_op op_sub (pe_callB call_len_seq (by rfl) B.len (by decide +kernel) (pa_cons (pv 4) pa_nil)) pe_int) pe_int) (fun _ _ => rfl)))
      (pss_cons (ps_set (i := 6) scKt.nd rfl (Or.inr rfl) (pe_callB (cr_max rfl) (by rfl) B.max (by decide +kernel) (pa_cons (pe_lc (own := [(("name" : Str), 3)]) (g := gName 3) (tt := tYes) rfl scKt.nd (pi_list (pv 2)) (blkOk_by (own := [(("name" : Str), 3)]) (N := ["self", "readings", "names", "name", "values", "answer", "distance", "far"]) (sc := defScope sTakeK) (by decide +kernel)) (fun _ _ _ _ _ => pg_name (i := 3) scKt.nd rfl (Or.inl rfl)) (fun _ _ _ _ _ => pts_nil) (fun _ _ _ _ _ => (pe_callB call_abs (by rfl) B.abs (by decide +kernel) (pa_cons (pe_op op_sub (pe_dget (hu_of hr) (pv 1) (pv 3) (fun _ _ => rfl)) (pv 5)) pa_nil)))) pa_nil)))
      (pss_cons (ps_if (pt_cmpR op_gt (pv 6) (pe_fld (pv 0) rfl) (nomark _))
        (pss_cons (ps_setLc (i := 7) (own := [(("name" : Str), 3)]) (g := gName 3) rfl scKt.nd rfl rfl (sw_true rfl rfl rfl (by decide +kernel)) (pi_list (pv 2)) (blkOk_by (own := [(("name" : Str), 3)]) (N := ["self", "readings", "names", "name", "values", "answer", "distance", "far"]) (sc := defScope sTakeK) (by decide +kernel)) (fun _ _ _ _ _ => pg_name (i := 3) scKt.nd rfl (Or.inl rfl)) (fun _ _ _ _ _ => pts_one (pt_cmpR op_eq (pe_callB call_abs (by rfl) B.abs (by decide +kernel) (pa_cons (pe_op op_sub (pe_dget (hu_of hr) (pv 1) (pv 3) (fun _ _ => rfl)) (pv 5)) pa_nil)) (pv 6) (nomark _))) (fun _ _ _ _ _ => (pv 3)))
        (pss_one (ps_expr (pe_bm PySem.F.plainAttrs_list PySem.F.slot_list_append PySem.F.type_list_append mt_append (pe_fld (pv 0) rfl) (pa_cons (pe_ix ix_list (pv 7) pe_int (fun _ _ => rfl)) pa_nil)))))
        pss_nil)
      (pss_one (ps_ret (pv 5))))))))))
      , ?_⟩
    have lkk : (fKp O G).lookup ("kept" : Str) = none := by
      unfold fKp
      rw [look_cons, if_neg (ne_st _ _ (by decide +kernel)), look_cons, if_neg (ne_st _ _ (by decide +kernel)), look_cons, if_neg (ne_st _ _ (by decide +kernel))]
      rfl
    refine ⟨_, rfl, a, dx, _, rfl, hK.at_, lkk, a, dx, O, G, ns, gone, rfl, hK, hlen, fun H1 p s1 hp hp1 => ?_⟩
    have hksub : ∀ x ∈ keptOf ns gone, x ∈ ms := fun x hx => hsub x (List.mem_filter.mp hx).1
    have hkl : (keptOf ns gone).length ≤ 9 := Nat.le_trans (List.length_filter_le _ _) hlen
    have hkpos : 0 < (keptOf ns gone).length := by
      have := hfar.mem
      exact List.length_pos_of_mem this
    generalize hks : keptOf ns gone = ks at hp1 hfar hksub hkl hkpos
    refine ⟨_, rfl, _, .inl ⟨_, SqL.of hp1, rfl⟩, ?_⟩
    refine ite2 (fun c1 => ?_) fun c1 => ?_
    · exfalso
      simp at c1
      rw [c1] at hkpos
      simp at hkpos
    · refine ⟨_, rfl, p, rfl, ⟨_, SqL.of hp1⟩, ?_⟩
      refine for_list (K := K) (a := p) (xs := ks.map V.str) (fun i σ H2 => ∃ o3, σ = [some (.ref a), some (.ref D), some (.ref p), o3, none, none, none, none] ∧ H1 = H2) ⟨_, rfl, rfl⟩ (fun i σ H2 _ ⟨_, _, h⟩ => by rw [← h]; exact SqL.of hp1) ?_ ?_
      · rintro i y σ H2 hy ⟨o3, rfl, rfl⟩
        obtain ⟨x, hx, rfl⟩ := strs_at hy
        exact ⟨_, rfl, _, rfl, D, _, rfl, .inl ⟨_, Sum.inr x, .inl (s1 _ _ hD), rfl, (valV_kvF (hksub x (List.mem_of_getElem? hx))).symm⟩, false, rfl, _, rfl, rfl⟩
      · rintro σ H2 ⟨o3, rfl, rfl⟩
        -- values
        refine ⟨_, rfl, p, rfl, ⟨_, SqL.of hp1⟩, fun M hM => ?_⟩
        refine lc_list (K := K) (a := p) (xs := ks.map V.str) (fun i H2 => Same H1 H2 ∧ H2 M = some (.lst (((ks.take i).map f).map V.int))) ⟨same_upd hM, upd_same⟩ (fun i H2 _ ⟨s2, _⟩ => SqL.of (s2 _ _ hp1)) ?_ ?_
        · rintro i y H2 hy ⟨s2, hM2⟩
          obtain ⟨x, hx, rfl⟩ := strs_at hy
          have etk : ks.take (i + 1) = ks.take i ++ [x] := by rw [List.take_succ, hx]; rfl
          refine ⟨rfl, _, rfl, _, rfl, D, _, rfl, .inl ⟨_, Sum.inr x, .inl (s2 _ _ (s1 _ _ hD)), rfl, (valV_kvF (hksub x (List.mem_of_getElem? hx))).symm⟩, ?_⟩
          refine ⟨_, hM2, ?_, same_mut s2 hM, ?_⟩
          · rw [List.length_map, List.length_map, List.length_take, sizeLine_eq]
            omega
          · rw [upd_same, etk, List.map_append, List.map_append]
            rfl
        · rintro H2 ⟨s2, hM2⟩
          rw [List.length_map, List.take_length] at hM2
          refine ⟨M, ks.map f, rfl, SqL.of hM2, by rw [List.length_map]; omega, fun vs qv hperm hsort hqv => ?_⟩
          have hvl : vs.length = ks.length := by rw [hperm.length_eq, List.length_map]
          have hkk : (ks.length - 1) / 2 < vs.length := by omega
          obtain ⟨v, hv⟩ : ∃ v, vs[(ks.length - 1) / 2]? = some v := ⟨_, List.getElem?_eq_getElem hkk⟩
          have hidx : (((vs.map V.int).length : Int) - 1) / 2 = (((ks.length - 1) / 2 : Nat) : Int) := by
            rw [List.length_map, hvl]
            omega
          have hat : atI (vs.map V.int) ((((vs.map V.int).length : Int) - 1) / 2) = some (V.int v) := by
            rw [hidx]
            exact atI_nat (by rw [List.getElem?_map, hv]; rfl)
          have hmed := GM.sorted_med hperm hsort (by omega) hv
          obtain rfl : v = m := by
            obtain ⟨i, g1, g2, g3, g4⟩ := hfar
            exact hmed.uniq g2
          have s3 : Same H1 (upd H2 qv (.lst (vs.map V.int))) := same_mut s2 (s2.free hqv)
          refine ⟨_, rfl, _, rfl, qv, _, rfl, .inl (SqL.of upd_same), _, _, rfl, rfl, _, _, rfl, rfl, ⟨by decide, by decide⟩, qv, _, _, _, rfl, rfl, SqL.of upd_same, hat, ?_⟩
          -- distance
          refine ⟨_, rfl, p, rfl, ⟨_, SqL.of (s3 _ _ hp1)⟩, fun M2 hM2' => ?_⟩
          have hM20 := s3.free hM2'
          refine lc_list (K := K) (a := p) (xs := ks.map V.str) (fun i H2 => Same H1 H2 ∧ H2 M2 = some (.lst (((ks.take i).map fun x => GM.iabs (f x - v)).map V.int))) ⟨same_mut s3 hM20, upd_same⟩ (fun i H2 _ ⟨s2, _⟩ => SqL.of (s2 _ _ hp1)) ?_ ?_
          · rintro i y H4 hy ⟨s4, hM4⟩
            obtain ⟨x, hx, rfl⟩ := strs_at hy
            have etk : ks.take (i + 1) = ks.take i ++ [x] := by rw [List.take_succ, hx]; rfl
            refine ⟨rfl, _, rfl, _, rfl, D, _, rfl, .inl ⟨_, Sum.inr x, .inl (s4 _ _ (s1 _ _ hD)), rfl, (valV_kvF (hksub x (List.mem_of_getElem? hx))).symm⟩, _, rfl, _, _, rfl, rfl, _, rfl, ?_⟩
            refine ⟨_, hM4, ?_, same_mut s4 hM20, ?_⟩
            · rw [List.length_map, List.length_map, List.length_take, sizeLine_eq]
              omega
            · rw [upd_same, etk, List.map_append, List.map_append]
              rfl
          · rintro H4 ⟨s4, hM4⟩
            rw [List.length_map, List.take_length] at hM4
            refine ⟨M2, _, rfl, SqL.of hM4, by rw [List.length_map]; omega, fun dd hdd hmax => ?_⟩
            obtain rfl : dd = d := hfar.max hdd hmax
            have s14 := s1.trans s4
            refine ⟨_, rfl, _, rfl, a, _, dx, _, _, rfl, s14 _ _ hK.at_, T.cls, T.no _ (by decide +kernel), lkB O G, _, _, rfl, rfl, _, rfl, ?_⟩
            refine ite2 (fun c2 => ?_) fun c2 => ?_
            · have c2 : 0 < dd := of_decide_eq_true c2
              have eg : goneOf gone b dd = gone ++ [b] := by unfold goneOf; rw [if_pos c2]
              refine ⟨_, rfl, p, rfl, ⟨_, SqL.of (s4 _ _ hp1)⟩, fun M3 hM3 => ?_⟩
              have hM30 := s4.free hM3
              refine lc_list (K := K) (a := p) (xs := ks.map V.str) (fun i H2 => Same H1 H2 ∧ H2 M3 = some (.lst (((ks.take i).filter fun x => decide (GM.iabs (f x - v) = dd)).map V.str))) ⟨same_mut s4 hM30, upd_same⟩ (fun i H2 _ ⟨s2, _⟩ => SqL.of (s2 _ _ hp1)) ?_ ?_
              · rintro i y H5 hy ⟨s5, hM5⟩
                obtain ⟨x, hx, rfl⟩ := strs_at hy
                have etk : ks.take (i + 1) = ks.take i ++ [x] := by rw [List.take_succ, hx]; rfl
                refine ⟨rfl, _, rfl, _, rfl, D, _, rfl, .inl ⟨_, Sum.inr x, .inl (s5 _ _ (s1 _ _ hD)), rfl, (valV_kvF (hksub x (List.mem_of_getElem? hx))).symm⟩, _, rfl, _, _, rfl, rfl, _, rfl, _, rfl, rfl, decide (GM.iabs (f x - v) = dd), ?_, ?_⟩
                · first | rfl | (exact congrArg V.bl (by simp [eqV]; rfl))
                · refine ite2 (fun c3 => ?_) fun c3 => ?_
                  · refine ⟨_, rfl, _, hM5, ?_, same_mut s5 hM30, ?_⟩
                    · rw [List.length_map, sizeLine_eq]
                      have := List.length_filter_le (fun x => decide (GM.iabs (f x - v) = dd)) (ks.take i)
                      rw [List.length_take] at this
                      omega
                    · rw [upd_same, etk, List.filter_append, List.filter_cons, if_pos c3, List.map_append]
                      rfl
                  · refine ⟨s5, ?_⟩
                    rw [hM5, etk, List.filter_append, List.filter_cons, if_neg c3]
                    simp
              · rintro H5 ⟨s5, hM5⟩
                rw [List.length_map, List.take_length] at hM5
                obtain ⟨rest, hrest⟩ := hfar.head
                rw [hrest] at hM5
                have s15 := s1.trans s5
                have hG5 := s15 _ _ hK.gon
                refine ⟨_, rfl, a, _, dx, _, _, rfl, s15 _ _ hK.at_, T.cls, T.no _ (by decide +kernel), lkG O G, .inl ⟨rfl, _, SqL.of hG5⟩, ?_⟩
                refine ⟨_, rfl, M3, _, _, _, rfl, rfl, SqL.of hM5, (show atI (V.str b :: rest.map V.str) ((0 : Nat) : Int) = some (V.str b) from atI_nat rfl), G, _, _, rfl, rfl, hG5, by rw [List.length_map, sizeLine_eq]; omega, ?_⟩
                refine ⟨_, rfl, q _ (fun b o e hn => ?_) ⟨?_, ?_, ?_⟩⟩
                · rw [upd_ne (by simpa using hn)]
                  exact s15 b o e
                · rw [upd_ne (ne_of hK.at_ hK.gon fun z => nomatch z)]
                  exact s15 _ _ hK.at_
                · rw [upd_ne hOG]
                  exact s15 _ _ hK.ord
                · rw [upd_same, eg, List.map_append]
                  rfl
            · have eg : goneOf gone b dd = gone := by unfold goneOf; rw [if_neg (fun z => c2 (decide_eq_true z))]
              refine ⟨_, rfl, q _ (fun b o e _ => s14 b o e) ?_⟩
              rw [eg]
              exact hK.same s14
end
end GR

set_option Elab.async false
set_option linter.all false
set_option maxRecDepth 100000
set_option maxHeartbeats 4000000
/-! z[::-1], z a text; small tools for the law's defs. -/
namespace GR
open PySem PySem.Spec PyProof.Rows L2
def revStr (z : Str) : Str := ⟨z.cps.toList.reverse.toArray⟩
theorem rev_picked (z : Str) (tk : Tok) : ((PySem.slicePicked z none none (some ((-1 : Int), tk))).filterMap (z.cps[·]?)).toArray = z.cps.toList.reverse.toArray := by
  have e : PySem.slicePicked z none none (some ((-1 : Int), tk)) = sliceRange ((z.cps.size : Int) - 1) (-1) (-1) := rfl
  rw [e, PySem.W.krv_sliceRange, PySem.W.krv_range, List.filterMap_reverse, PySem.W.krv_all]
def tRevS (te : TE) : TE := fun σ H Q => te σ H fun x H1 => ∃ z, x = .str z ∧ z.length ≤ sizeLine ∧ Q (.str (revStr z)) H1
section
variable {X : Cx}
theorem pe_revS {e : Expr} {te : TE} {k : Nat} {p1 p2 p3 pos : Pos} (he : PE X e te) : PE X (.Subscript e (.Slice none none (some (.UnaryOp .USub (.Constant (.int 1) k p1) p2)) p3) pos) (tRevS te) := by
  refine ⟨fun pins s σ H Q I h => ?_⟩
  refine Subscript_ (thn (he.run pins s σ H _ I h) fun v s1 ⟨x, H1, I1, r1, q1⟩ => ?_)
  obtain ⟨z, ex, hz, q⟩ := q1
  subst ex
  obtain ⟨t, rfl⟩ := r1
  have hst : PO X (some (.UnaryOp .USub (.Constant (.int 1) k p1) p2)) (tPart (tUn (rU fun i => .int (-i)) (tC (.int 1)))) := po_some (pe_un un_neg pe_int)
  refine wpAny_Slice (thn (po_none.run pins s1 σ H1 (fun o H2 => o = none ∧ H2 = H1) I1 ⟨rfl, rfl⟩) fun vl s2 ⟨l, H2, I2, pl, el, e2⟩ => ?_)
  subst el e2
  refine thn (po_none.run pins s2 σ H2 (fun o H3 => o = none ∧ H3 = H2) I2 ⟨rfl, rfl⟩) fun vu s3 ⟨u, H3, I3, pu, eu, e3⟩ => ?_
  subst eu e3
  refine thn (hst.run pins s3 σ H3 (fun o H4 => o = some (-1) ∧ H4 = H3) I3 ⟨1, rfl, -1, rfl, rfl, rfl⟩) fun vs s4 ⟨o, H4, I4, ps, eo, e4⟩ => ?_
  subst eo e4
  have I5 : Inv X pins σ H4 { s4 with heap := s4.heap.push { cls := .type "slice", data := .fields #[vl, vu, vs] } } := I4.kept (t' := s4.toks) fun b ob q => Heap.get?_push_of_some _ q
  obtain ⟨l0, rfl, hl0⟩ := IsPart.raw pl
  obtain rfl : l0 = none := by cases l0 with | none => rfl | some _ => cases hl0
  obtain ⟨u0, rfl, hu0⟩ := IsPart.raw pu
  obtain rfl : u0 = none := by cases u0 with | none => rfl | some _ => cases hu0
  obtain ⟨st0, rfl, hst0⟩ := IsPart.raw ps
  obtain ⟨tk, rfl⟩ : ∃ tk, st0 = some ((-1 : Int), tk) := by
    cases st0 with
    | none => cases hst0
    | some p => exact ⟨p.2, by obtain ⟨a, b⟩ := p; cases hst0; rfl⟩
  show wpAny (model X.prog X.w) X.A (subscriptTail e (.Slice none none (some (.UnaryOp .USub (.Constant (.int 1) k p1) p2)) p3) (.str z t) (.ref s4.heap.objs.size)) (EP X pins σ Q) X.xe { s4 with heap := s4.heap.push { cls := .type "slice", data := .fields #[PySem.partValue none, PySem.partValue none, PySem.partValue (some ((-1 : Int), tk))] } }
  refine tail_any (ops := [.str z t, .ref s4.heap.objs.size]) (typeIs_str _ z t) (PySem.F.slot_str_getitem.lookup) ?_ (by with_unfolding_all rfl)
  refine wpAny_getItem_str_slice (l := none) (u := none) (st := some ((-1 : Int), tk)) ⟨_, Heap.get?_push_size _ rfl, rfl, rfl⟩ rfl ?_
  unfold PySem.sliceMade
  rw [if_neg (by simp), rev_picked]
  refine ⟨?_, .str _, _, I5.tok _, ⟨_, rfl⟩, q⟩
  show z.cps.toList.reverse.toArray.size ≤ sizeLine
  rw [List.size_toArray, List.length_reverse]
  exact hz
end
/-- an if, by a mid-condition -/
theorem mIf {tt : TT} {a b u : TS} {D : Ends} {σ : L2.St} {H : Hp} {rt : VK} {bk ct : L2.St → Hp → Prop} (I : L2.St → Hp → Prop) (h : ∀ N : L2.St → Hp → Prop, (∀ σ' H', I σ' H' → N σ' H') → tIfS tt a b { D with nx := N } σ H) (k : ∀ σ' H', I σ' H' → u D σ' H') :
    Ends.nx { nx := tSeq (tIfS tt a b) u D, rt := rt, bk := bk, ct := ct } σ H := h _ k
end GR
namespace GR
open PySem PySem.Spec PyProof.Rows L2
theorem gmIf {i : Nat} {v : V} {tt : TT} {a b u : TS} {D : Ends} {σ : L2.St} {H : Hp} {rt : VK} {bk ct : L2.St → Hp → Prop} (I : L2.St → Hp → Prop) (h : ∀ N : L2.St → Hp → Prop, (∀ σ' H', I σ' H' → N σ' H') → tIfS tt a b { D with nx := N } (σ.set i (some v)) H)
    (k : ∀ σ' H', I σ' H' → u D σ' H') : gName i v σ H (Ends.nx { nx := tSeq (tIfS tt a b) u D, rt := rt, bk := bk, ct := ct }) := h _ k
theorem upd_self {H : Hp} {a : Addr} {o : HO} (h : H a = some o) : upd H a o = H := by
  funext b
  by_cases hb : b = a
  · rw [hb, upd_same, h]
  · rw [upd_ne hb]
theorem atI_int {α : Type} {xs : List α} {p : Int} {v : α} (h0 : 0 ≤ p) (h : xs[p.toNat]? = some v) : atI xs p = some v := by
  have e : p = ((p.toNat : Nat) : Int) := by omega
  rw [e]
  exact atI_nat h
end GR
namespace GR
open PySem PySem.Spec PyProof.Rows L2
theorem tmIf {i : Nat} {v : V} {tt : TT} {a b u : TS} {D : Ends} {σ : L2.St} {H : Hp} {rt : VK} {bk ct : L2.St → Hp → Prop} (I : L2.St → Hp → Prop) (h : ∀ N : L2.St → Hp → Prop, (∀ σ' H', I σ' H' → N σ' H') → tIfS tt a b { D with nx := N } (σ.set i (some v)) H)
    (k : ∀ σ' H', I σ' H' → u D σ' H') : tNext { nx := tSeq (tAsg (tC v) (gName i)) (tSeq (tIfS tt a b) u) D, rt := rt, bk := bk, ct := ct } σ H := h _ k
end GR

set_option Elab.async false
set_option linter.all false
set_option maxRecDepth 100000
set_option maxHeartbeats 4000000
namespace GR
open PySem PySem.Spec PyProof.Rows L2
open He (ga ma)
/-- the box that the law draws from -/
def BoxAt (H : Hp) (b C : Addr) : Prop := ∃ (cs : List Int) (p d s : Int), H b = some (.lst [.ref C, .int p, .int d, .int s]) ∧ H C = some (.lst (cs.map V.int)) ∧ 0 ≤ p ∧ 0 ≤ d ∧ 0 ≤ s ∧ s < 2147483647
theorem BoxAt.same {H H' : Hp} {b C : Addr} (h : BoxAt H b C) (e : Same H H') : BoxAt H' b C := by
  obtain ⟨cs, p, d, s, h1, h2, h3⟩ := h
  exact ⟨cs, p, d, s, e _ _ h1, e _ _ h2, h3⟩
def spTake : Sp := fun vs H Q _ => ∃ (b C : Addr) (m : Int), vs = [.ref b, .int m] ∧ BoxAt H b C ∧ 0 < m ∧ m < 1073741824 ∧ ∀ H' r, SameBut [b] H H' → BoxAt H' b C → 0 ≤ r → r < m → Q (.int r) H'
def spBox (K : PySem.W.Frag) : Sp := fun vs H Q _ => ∃ (a : Addr) (cs : List Int) (s : Int), vs = [.ref a, .int s] ∧ SqL K H a (cs.map V.int) ∧ 0 ≤ s ∧ s < 2147483647 ∧ ∀ H' b C, Same H H' → H b = none → H C = none → BoxAt H' b C → Q (.ref b) H'
def spWhole : Sp := fun vs H Q _ => ∃ i : Int, vs = [.int i] ∧ Q (.bl true) H
def spSpot : Sp := fun vs H Q _ => ∃ b C : Addr, vs = [.ref b] ∧ BoxAt H b C ∧ ∀ H' i, SameBut [b] H H' → BoxAt H' b C → Q (.int i) H'
theorem atInts {ns : List Int} {r : Int} (h0 : 0 ≤ r) (h1 : r < ns.length) : ∃ c ∈ ns, atI (ns.map V.int) r = some (V.int c) := by
  have hl : r.toNat < ns.length := by omega
  exact ⟨ns[r.toNat], List.getElem_mem hl, atI_int h0 (by rw [List.getElem?_map, List.getElem?_eq_getElem hl]; rfl)⟩
section
variable {P : Program} {w : World} {K : PySem.W.Frag} {mg : Str → Option Value} {base : Heap}
theorem scBx : FnScope ["_law_script", "_law_salt", "_law_cell"] ["_law_script", "_law_salt"] (defScope sBox) := ⟨rfl, rfl, rfl, by decide +kernel, rfl, by decide +kernel, by decide +kernel⟩
theorem d_box (G : GF K mg "_law_box" sBox) (B : Bl mg) : GDef P w K mg base CX0 1 "_law_box" (spBox K) := by
  refine G.ok scBx (fun vs H Q E h => ?_) (fun _ _ _ _ _ _ us hl => match us, hl with | [_, _], _ => rfl) (fun f cdv A outer s H vs Q E hr h => ?_)
  · obtain ⟨a, cs, s, rfl, _⟩ := h
    rfl
  · obtain ⟨a, cs, z, rfl, ha, hz0, hz1, q⟩ := h
    refine ⟨_,
      (pss_one (ps_ret (pe_lst (pa_cons (pe_lc (own := [(("_law_cell" : Str), 2)]) (g := gName 2) (tt := tYes) rfl scBx.nd (pi_list (pe_slice sl_list (pv 0) po_none (po_some pe_int))) (blkOk_by (own := [(("_law_cell" : Str), 2)]) (N := ["_law_script", "_law_salt", "_law_cell"]) (sc := defScope sBox) (by decide +kernel)) (fun _ _ _ _ _ => pg_name (i := 2) scBx.nd rfl (Or.inl rfl)) (fun _ _ _ _ _ => pts_nil) (fun _ _ _ _ _ => (pe_callTy call_int1 (by rfl) B.int (by decide +kernel) (pa_cons (pv 2) pa_nil)))) (pa_cons pe_int (pa_cons pe_int (pa_cons (pv 1) pa_nil)))))))
      , ?_⟩
    obtain ⟨ds, hds, hdl⟩ : ∃ ds : List Int, cutV (cs.map V.int) none (some 63) = ds.map V.int ∧ ds.length ≤ 63 := by
      refine ⟨(cs.drop (HT.sIx (cs.map V.int).length 0 none)).take (HT.sIx (cs.map V.int).length (cs.map V.int).length (some 63) - HT.sIx (cs.map V.int).length 0 none), ?_, ?_⟩
      · unfold cutV
        rw [List.map_take, List.map_drop]
      · rw [List.length_take]
        have : HT.sIx (cs.map V.int).length (cs.map V.int).length (some 63) ≤ 63 := by
          rw [show (63 : Int) = ((63 : Nat) : Int) from rfl, HT.sIx_nat]
          exact Nat.min_le_left _ _
        omega
    refine ⟨_, rfl, 63, rfl, a, _, rfl, ha, fun S hS => ?_⟩
    have hS1 : (upd H S (.lst (cutV (cs.map V.int) none (some 63)))) S = some (.lst (ds.map V.int)) := by rw [upd_same, hds]
    have sS : Same H (upd H S (.lst (cutV (cs.map V.int) none (some 63)))) := same_upd hS
    generalize upd H S (.lst (cutV (cs.map V.int) none (some 63))) = H1 at hS1 sS
    refine ⟨S, rfl, ⟨_, SqL.of hS1⟩, fun D hD => ?_⟩
    refine lc_list (K := K) (a := S) (xs := ds.map V.int) (fun i H2 => Same H1 H2 ∧ H2 D = some (.lst ((ds.take i).map V.int))) ⟨same_upd hD, upd_same⟩ (fun i H2 _ ⟨s2, _⟩ => SqL.of (s2 _ _ hS1)) ?_ ?_
    · rintro i y H2 hy ⟨s2, hD2⟩
      obtain ⟨c, hc, rfl⟩ : ∃ c, ds[i]? = some c ∧ y = .int c := by
        rw [List.getElem?_map] at hy
        cases e : ds[i]? with
        | none => rw [e] at hy; cases hy
        | some p => rw [e] at hy; exact ⟨p, rfl, (Option.some.inj hy).symm⟩
      have etk : ds.take (i + 1) = ds.take i ++ [c] := by rw [List.take_succ, hc]; rfl
      refine ⟨rfl, _, rfl, .inl ⟨_, rfl, _, hD2, ?_, same_mut s2 hD, ?_⟩⟩
      · rw [List.length_map, List.length_take, sizeLine_eq]
        omega
      · rw [upd_same, etk, List.map_append]
        rfl
    · rintro H2 ⟨s2, hD2⟩
      rw [List.length_map, List.take_length] at hD2
      refine ⟨_, rfl, by show 4 ≤ sizeLine; decide, fun b hb => ?_⟩
      have nDb : D ≠ b := ne_of_none hD2 hb
      exact q _ b D (sS.trans (s2.trans (same_upd hb))) ((sS.trans s2).free hb) (sS.free hD) ⟨ds, 0, 0, z, upd_same, by rw [upd_ne nDb]; exact hD2, Int.le_refl _, Int.le_refl _, hz0, hz1⟩
theorem scWh : FnScope ["_law_worth"] ["_law_worth"] (defScope sWhole) := ⟨rfl, rfl, rfl, by decide +kernel, rfl, by decide +kernel, by decide +kernel⟩
theorem d_whole (G : GF K mg "_law_whole" sWhole) (B : Bl mg) : GDef P w K mg base CX0 1 "_law_whole" spWhole := by
  refine G.ok scWh (fun vs H Q E h => ?_) (fun _ _ _ _ _ _ us hl => match us, hl with | [_], _ => rfl) (fun f cdv A outer s H vs Q E hr h => ?_)
  · obtain ⟨i, rfl, _⟩ := h
    rfl
  · obtain ⟨i, rfl, q⟩ := h
    refine ⟨_,
      (pss_one (ps_ret (pe_and (pe_callB call_isi (by rfl) B.isinstance (by decide +kernel) (pa_cons (pv 0) (pa_cons (pe_bltn (v := .ty "int") (by rfl) B.int (by decide +kernel) rfl) pa_nil))) (pe_one (pe_not (pe_callB call_isi (by rfl) B.isinstance (by decide +kernel) (pa_cons (pv 0) (pa_cons (pe_bltn (v := .ty "bool") (by rfl) B.bool (by decide +kernel) rfl) pa_nil))))))))
      , ?_⟩
    refine ⟨_, rfl, _, _, .type "int", .type "int", true, rfl, .ty _, .base (.int i), kit_ty (by decide +kernel), _, rfl, ?_⟩
    exact ⟨_, rfl, _, _, .type "int", .type "bool", false, rfl, .ty _, .base (.int i), kit_ty (by decide +kernel), _, rfl, q⟩
theorem scSp : FnScope ["_law_box_here"] ["_law_box_here"] (defScope sSpot) := ⟨rfl, rfl, rfl, by decide +kernel, rfl, by decide +kernel, by decide +kernel⟩
theorem d_spot (G : GF K mg "_law_spot" sSpot) (B : Bl mg) (D_law_take : GDef P w K mg base CX0 1 "_law_take" spTake) : GDef P w K mg base CX0 2 "_law_spot" spSpot := by
  refine G.ok scSp (fun vs H Q E h => ?_) (fun _ _ _ _ _ _ us hl => match us, hl with | [_], _ => rfl) (fun f cdv A outer s H vs Q E hr h => ?_)
  · obtain ⟨b, C, rfl, _⟩ := h
    rfl
  · obtain ⟨b, C, rfl, hb, q⟩ := h
    refine ⟨_,
      (pss_one (ps_ret (pe_op op_add (pe_ix ix_list (pe_lst (pa_cons pe_int (pa_cons pe_int (pa_cons (pe_un un_neg pe_int) (pa_cons (pe_op op_pow pe_int pe_int) (pa_cons (pe_un un_neg (pe_op op_pow pe_int pe_int)) pa_nil)))))) (pe_callG D_law_take hr rfl pass0 (pa_cons (pv 0) (pa_cons pe_int pa_nil))) (fun _ _ => rfl)) (pe_callG D_law_take hr rfl pass0 (pa_cons (pv 0) (pa_cons pe_int pa_nil))))))
      , ?_⟩
    refine ⟨_, rfl, _, _, rfl, rfl, ⟨by decide, by decide, by decide⟩, _, _, rfl, rfl, ⟨by decide, by decide, by decide⟩, _, rfl, by show 5 ≤ sizeLine; decide, fun L hL => ?_⟩
    have s1 : Same H (upd H L (.lst [.int 0, .int 17, .int (-1000), .int (10 ^ (14 : Int).toNat), .int (-(10 ^ (21 : Int).toNat))])) := same_upd hL
    refine ⟨_, rfl, b, C, 5, rfl, hb.same s1, by decide, by decide, fun H1 r1 s2 hb1 h0 h5 => ?_⟩
    have hbH : b ≠ L := by
      obtain ⟨cs, p, d, z, h1, _⟩ := hb
      exact ne_of_none h1 hL
    have hL1 := s2 _ _ (upd_same (H := H) (a := L)) (by simpa using hbH.symm)
    obtain ⟨c, _, hc⟩ := atInts (ns := [0, 17, -1000, 10 ^ (14 : Int).toNat, -(10 ^ (21 : Int).toNat)]) h0 (by simpa using h5)
    refine ⟨L, _, _, _, rfl, rfl, SqL.of hL1, hc, ?_⟩
    refine ⟨_, rfl, b, C, 50, rfl, hb1, by decide, by decide, fun H2 r2 s3 hb2 _ _ => ⟨_, _, rfl, rfl, q H2 _ (fun x o e hn => s3 _ _ (s2 _ _ (s1 _ _ e) hn) hn) hb2⟩⟩
theorem scTk : FnScope ["_law_box_here", "_law_many", "_law_cells", "_law_digit", "_law_cell"] ["_law_box_here", "_law_many"] (defScope sTake) := ⟨rfl, rfl, rfl, by decide +kernel, rfl, by decide +kernel, by decide +kernel⟩
theorem d_take (G : GF K mg "_law_take" sTake) (B : Bl mg) : GDef P w K mg base CX0 1 "_law_take" spTake := by
  refine G.ok scTk (fun vs H Q E h => ?_) (fun _ _ _ _ _ _ us hl => match us, hl with | [_, _], _ => rfl) (fun f cdv A outer s H vs Q E hr h => ?_)
  · obtain ⟨b, C, m, rfl, _⟩ := h
    rfl
  · obtain ⟨b, C, m, rfl, ⟨cs, p, d, z, hb, hC, hp, hd, hz, hz2⟩, hm, hm2, q⟩ := h
    refine ⟨_,
      (pss_cons (ps_set (i := 2) scTk.nd rfl (Or.inl rfl) (pe_ix ix_list (pv 0) pe_int (fun _ _ => rfl)))
      (pss_cons (ps_if (PW.pt (pw_and (pt_cmpR op_eq (pe_ix ix_list (pv 0) pe_int (fun _ _ => rfl)) pe_int (nomark _)) (pw_and (pt_cmpR op_lt (pe_ix ix_list (pv 0) pe_int (fun _ _ => rfl)) (pe_callB call_len_seq (by rfl) B.len (by decide +kernel) (pa_cons (pv 2) pa_nil)) (nomark _)) (pw_and1 (pt_cmpR op_gt (pe_ix ix_list (pv 2) (pe_ix ix_list (pv 0) pe_int (fun _ _ => rfl)) (fun _ _ => rfl)) (pe_op op_pow pe_int pe_int) (nomark _))))))
        (pss_cons (ps_asg (pe_op op_sub (pe_ix ix_list (pv 2) (pe_ix ix_list (pv 0) pe_int (fun _ _ => rfl)) (fun _ _ => rfl)) (pe_op op_pow pe_int pe_int)) (pg_sub (pv 0) pe_int set_list))
        (pss_one (ps_asg (pe_op op_add (pe_ix ix_list (pv 0) pe_int (fun _ _ => rfl)) pe_int) (pg_sub (pv 0) pe_int set_list))))
        pss_nil)
      (pss_cons (ps_if (pt_cmpR op_gt (pe_ix ix_list (pv 0) pe_int (fun _ _ => rfl)) pe_int (nomark _))
        (pss_cons (ps_set (i := 3) scTk.nd rfl (Or.inl rfl) (pe_op op_mod (pe_callTy call_int1 (by rfl) B.int (by decide +kernel) (pa_cons (pe_ix ix_list (pv 0) pe_int (fun _ _ => rfl)) pa_nil)) (pv 1)))
        (pss_cons (ps_asg (pe_op op_fdiv (pe_callTy call_int1 (by rfl) B.int (by decide +kernel) (pa_cons (pe_ix ix_list (pv 0) pe_int (fun _ _ => rfl)) pa_nil)) (pv 1)) (pg_sub (pv 0) pe_int set_list))
        (pss_one (ps_ret (pv 3)))))
        pss_nil)
      (pss_cons (ps_set (i := 4) scTk.nd rfl (Or.inl rfl) pe_int)
      (pss_cons (ps_if (pt_cmpR op_lt (pe_ix ix_list (pv 0) pe_int (fun _ _ => rfl)) (pe_callB call_len_seq (by rfl) B.len (by decide +kernel) (pa_cons (pv 2) pa_nil)) (nomark _))
        (pss_one (ps_set (i := 4) scTk.nd rfl (Or.inl rfl) (pe_callTy call_int1 (by rfl) B.int (by decide +kernel) (pa_cons (pe_ix ix_list (pv 2) (pe_ix ix_list (pv 0) pe_int (fun _ _ => rfl)) (fun _ _ => rfl)) pa_nil))))
        pss_nil)
      (pss_cons (ps_asg (pe_op op_add (pe_ix ix_list (pv 0) pe_int (fun _ _ => rfl)) pe_int) (pg_sub (pv 0) pe_int set_list))
      (pss_cons (ps_asg (pe_op op_mod (pe_callTy call_int1 (by rfl) B.int (by decide +kernel) (pa_cons (pe_op op_add (pe_op op_add (pe_op op_mul (pe_ix ix_list (pv 0) pe_int (fun _ _ => rfl)) pe_int) (pe_op op_mul (pv 4) pe_int)) (pe_ix ix_list (pv 0) pe_int (fun _ _ => rfl))) pa_nil)) pe_int) (pg_sub (pv 0) pe_int set_list))
      (pss_one (ps_ret (pe_op op_mod (pe_op op_mod (pe_callTy call_int1 (by rfl) B.int (by decide +kernel) (pa_cons (pe_op op_add (pe_op op_mul (pe_op op_fdiv (pe_ix ix_list (pv 0) pe_int (fun _ _ => rfl)) pe_int) pe_int) (pe_op op_mod (pe_callTy call_int1 (by rfl) B.int (by decide +kernel) (pa_cons (pe_ix ix_list (pv 0) pe_int (fun _ _ => rfl)) pa_nil)) pe_int)) pa_nil)) pe_int) (pv 1)))))))))))
      , ?_⟩
    have nCb : C ≠ b := fun e => by
      rw [e, hb] at hC
      have := HO.lst.inj (Option.some.inj hC)
      cases cs with
      | nil => cases this
      | cons a r => exact V.noConfusion (List.cons.inj this).1
    have a0 : ∀ p d z : Int, atI [V.ref C, V.int p, V.int d, V.int z] 0 = some (V.ref C) := fun _ _ _ => rfl
    have a1 : ∀ p d z : Int, atI [V.ref C, V.int p, V.int d, V.int z] 1 = some (V.int p) := fun _ _ _ => rfl
    have a2 : ∀ p d z : Int, atI [V.ref C, V.int p, V.int d, V.int z] 2 = some (V.int d) := fun _ _ _ => rfl
    have a3 : ∀ p d z : Int, atI [V.ref C, V.int p, V.int d, V.int z] 3 = some (V.int z) := fun _ _ _ => rfl
    have cat : ∀ {p : Int}, 0 ≤ p → p < (cs.map V.int).length → ∃ c, atI (cs.map V.int) p = some (V.int c) := fun {p} h0 h1 => by
      rw [List.length_map] at h1
      have hl : p.toNat < cs.length := by omega
      exact ⟨cs[p.toNat], atI_int h0 (by rw [List.getElem?_map, List.getElem?_eq_getElem hl]; rfl)⟩
    refine ⟨_, rfl, b, _, _, _, rfl, rfl, SqL.of hb, a0 p d z, ?_⟩
    refine gmIf (fun σ' H' => σ' = [some (.ref b), some (.int m), some (.ref C), none, none] ∧ ∃ p' d', 0 ≤ p' ∧ 0 ≤ d' ∧ H' = upd H b (.lst [.ref C, .int p', .int d', .int z])) (fun N hN => ?_) ?_
    · have stay : N [some (.ref b), some (.int m), some (.ref C), none, none] H := hN _ _ ⟨rfl, p, d, hp, hd, (upd_self hb).symm⟩
      refine ⟨_, rfl, b, _, _, _, rfl, rfl, SqL.of hb, a2 p d z, rfl, _, rfl, ?_⟩
      refine ite2 (fun c1 => ?_) fun c1 => ?_
      · refine ⟨_, rfl, b, _, _, _, rfl, rfl, SqL.of hb, a1 p d z, _, rfl, C, _, rfl, .inl (SqL.of hC), _, _, rfl, rfl, _, rfl, ?_⟩
        refine ite2 (fun c2 => ?_) fun c2 => ?_
        · obtain ⟨c, hc⟩ := cat hp (of_decide_eq_true c2)
          refine ⟨_, rfl, _, rfl, b, _, _, _, rfl, rfl, SqL.of hb, a1 p d z, C, _, _, _, rfl, rfl, SqL.of hC, hc, _, _, rfl, rfl, ⟨by decide, by decide, by decide⟩, _, _, rfl, rfl, _, rfl, ?_⟩
          refine ite2 (fun c3 => ?_) fun c3 => ?_
          · have c3 := of_decide_eq_true c3
            refine ⟨_, rfl, _, rfl, b, _, _, _, rfl, rfl, SqL.of hb, a1 p d z, C, _, _, _, rfl, rfl, SqL.of hC, hc, _, _, rfl, rfl, ⟨by decide, by decide, by decide⟩, _, _, rfl, rfl, _, rfl, b, _, _, _, rfl, rfl, hb, rfl, ?_⟩
            refine ⟨_, rfl, b, _, _, _, rfl, rfl, SqL.of upd_same, a1 p _ z, _, _, rfl, rfl, _, rfl, b, _, _, _, rfl, rfl, upd_same, rfl, ?_⟩
            refine hN _ _ ⟨rfl, p + 1, _, by omega, ?_, upd_upd⟩
            have c4 : (10 : Int) ^ (18 : Int).toNat < c := c3
            omega
          · exact stay
        · exact stay
      · exact stay
    · rintro σ' H' ⟨rfl, p1, d1, hp1, hd1, rfl⟩
      have hC1 : (upd H b (.lst [.ref C, .int p1, .int d1, .int z])) C = some (.lst (cs.map V.int)) := by rw [upd_ne nCb]; exact hC
      refine ⟨_, rfl, b, _, _, _, rfl, rfl, SqL.of upd_same, a2 p1 d1 z, _, _, rfl, rfl, _, rfl, ?_⟩
      refine ite2 (fun c1 => ?_) fun c1 => ?_
      · refine ⟨_, rfl, b, _, _, _, rfl, rfl, SqL.of upd_same, a2 p1 d1 z, .inl ⟨_, rfl, _, rfl, _, _, rfl, rfl, hm, ?_⟩⟩
        refine ⟨_, rfl, b, _, _, _, rfl, rfl, SqL.of upd_same, a2 p1 d1 z, .inl ⟨_, rfl, _, rfl, _, _, rfl, rfl, ⟨hm, hm2⟩, ?_⟩⟩
        refine ⟨_, rfl, b, _, _, _, rfl, rfl, upd_same, rfl, ?_⟩
        rw [upd_upd]
        refine ⟨_, rfl, q _ _ (but_upd (by simp)) ⟨cs, p1, d1 / m, z, upd_same, by rw [upd_ne nCb]; exact hC, hp1, Int.ediv_nonneg hd1 (by omega), hz, hz2⟩ (Int.emod_nonneg _ (by omega)) (Int.emod_lt_of_pos _ hm)⟩
      · refine tmIf (fun σ' H' => ∃ c : Int, σ' = [some (.ref b), some (.int m), some (.ref C), none, some (.int c)] ∧ H' = upd H b (.lst [.ref C, .int p1, .int d1, .int z])) (fun N hN => ?_) ?_
        · refine ⟨_, rfl, b, _, _, _, rfl, rfl, SqL.of upd_same, a1 p1 d1 z, _, rfl, C, _, rfl, .inl (SqL.of hC1), _, _, rfl, rfl, _, rfl, ?_⟩
          refine ite2 (fun c2 => ?_) fun c2 => ?_
          · obtain ⟨c, hc⟩ := cat hp1 (of_decide_eq_true c2)
            exact ⟨_, rfl, _, rfl, b, _, _, _, rfl, rfl, SqL.of upd_same, a1 p1 d1 z, C, _, _, _, rfl, rfl, SqL.of hC1, hc, .inl ⟨_, rfl, hN _ _ ⟨c, rfl, rfl⟩⟩⟩
          · exact hN _ _ ⟨0, rfl, rfl⟩
        · rintro σ' H' ⟨c, rfl, rfl⟩
          refine ⟨_, rfl, b, _, _, _, rfl, rfl, SqL.of upd_same, a1 p1 d1 z, _, _, rfl, rfl, _, rfl, b, _, _, _, rfl, rfl, upd_same, rfl, ?_⟩
          rw [upd_upd]
          refine ⟨_, rfl, b, _, _, _, rfl, rfl, SqL.of upd_same, a3 _ d1 z, _, _, rfl, rfl, .inr ⟨by decide, by decide⟩, _, rfl, _, _, rfl, rfl, .inr ⟨by decide, by decide⟩, _, _, rfl, rfl, _, rfl, b, _, _, _, rfl, rfl, SqL.of upd_same, a1 _ d1 z, _, _, rfl, rfl, .inl ⟨_, rfl, _, _, rfl, rfl, (by show (0 : Int) < 2147483647; decide), ?_⟩⟩
          refine ⟨_, rfl, b, _, _, _, rfl, rfl, upd_same, rfl, ?_⟩
          rw [upd_upd]
          have hz0 : 0 ≤ (z * 48271 + c * 7 + (p1 + 1)) % 2147483647 := Int.emod_nonneg _ (by decide)
          have hz1 : (z * 48271 + c * 7 + (p1 + 1)) % 2147483647 < 2147483647 := Int.emod_lt_of_pos _ (by decide)
          have at3 := a3 (p1 + 1) d1 ((z * 48271 + c * 7 + (p1 + 1)) % 2147483647)
          refine ⟨_, rfl, b, _, _, _, rfl, rfl, SqL.of upd_same, at3, _, _, rfl, rfl, ⟨by decide, by decide⟩, _, _, rfl, rfl, .inr ⟨by decide, by decide⟩, _, rfl, b, _, _, _, rfl, rfl, SqL.of upd_same, at3, .inl ⟨_, rfl, _, _, rfl, rfl, (by show (0 : Int) < 65537; decide), _, _, rfl, rfl, .inl ⟨_, rfl, _, _, rfl, rfl, (by show (0 : Int) < 1000003; decide), _, rfl, _, _, rfl, rfl, hm, ?_⟩⟩⟩
          exact q _ _ (but_upd (by simp)) ⟨cs, p1 + 1, d1, _, upd_same, by rw [upd_ne nCb]; exact hC, by omega, hd1, hz0, hz1⟩ (Int.emod_nonneg _ (by omega)) (Int.emod_lt_of_pos _ hm)
end
end GR

set_option Elab.async false
set_option linter.all false
set_option maxRecDepth 100000
set_option maxHeartbeats 4000000
namespace GR
open PySem PySem.Spec PyProof.Rows L2
open He (ga ma)
/-! ### names, plain -/
def ltr (r : Int) : Nat := letters.cps.toList.getD r.toNat 0
theorem letters_len : letters.cps.toList.length = 26 := by decide +kernel
theorem letters_nd : letters.cps.toList.Nodup := by decide +kernel
theorem ltr_at {r : Int} (h0 : 0 ≤ r) (h1 : r < 26) : letters.cps.toList[r.toNat]? = some (ltr r) := by
  have hl : r.toNat < letters.cps.toList.length := by rw [letters_len]; omega
  unfold ltr
  rw [List.getD, List.getElem?_eq_getElem hl]
  rfl
theorem ltr_inj {r q : Int} (h0 : 0 ≤ r) (h1 : r < 26) (g0 : 0 ≤ q) (g1 : q < 26) (e : ltr r = ltr q) : r = q := by
  have hl : r.toNat < letters.cps.toList.length := by rw [letters_len]; omega
  have := (List.getElem?_inj hl letters_nd).mp (show letters.cps.toList[r.toNat]? = letters.cps.toList[q.toNat]? by rw [ltr_at h0 h1, ltr_at g0 g1, e])
  omega
def nm (n : Int) : Nat → Int
  | 0 => n
  | k + 1 => nm n k / 26
def digs (n : Int) : Nat → List Nat
  | 0 => []
  | k + 1 => digs n k ++ [ltr (nm n k % 26)]
theorem digs_len (n : Int) : ∀ k, (digs n k).length = k
  | 0 => rfl
  | k + 1 => by
    show (digs n k ++ [_]).length = k + 1
    rw [List.length_append, digs_len n k]
    rfl
theorem digs_head (n : Int) : ∀ k, ∃ r, digs n (k + 1) = ltr (n % 26) :: r
  | 0 => ⟨[], rfl⟩
  | k + 1 => by
    obtain ⟨r, h⟩ := digs_head n k
    refine ⟨r ++ [ltr (nm n (k + 1) % 26)], ?_⟩
    show digs n (k + 1) ++ [_] = _
    rw [h]
    rfl
theorem digs_abc (n : Int) : ∀ k, ∀ c ∈ digs n k, c ∈ letters.cps.toList
  | 0, c, h => by cases h
  | k + 1, c, h => by
    rcases List.mem_append.mp (show c ∈ digs n k ++ [ltr (nm n k % 26)] from h) with h | h
    · exact digs_abc n k c h
    · obtain rfl : c = _ := by simpa using h
      exact List.mem_of_getElem? (ltr_at (Int.emod_nonneg _ (by decide)) (Int.emod_lt_of_pos _ (by decide)))
def wordOf (n : Int) (k : Nat) (back : Bool) : Str := if back = true then revStr ⟨(digs n k).toArray⟩ else ⟨(digs n k).toArray⟩
theorem word_cps (n : Int) (k : Nat) (back : Bool) : (wordOf n k back).cps.toList = if back = true then (digs n k).reverse else digs n k := by
  unfold wordOf
  cases back with
  | true => simp [revStr]
  | false => simp
theorem word_inj {n n' : Int} {k : Nat} {back : Bool} (hk : 1 ≤ k) (e : wordOf n k back = wordOf n' k back) : n % 26 = n' % 26 := by
  have e1 : (if back = true then (digs n k).reverse else digs n k) = (if back = true then (digs n' k).reverse else digs n' k) := by rw [← word_cps, ← word_cps, e]
  have e2 : digs n k = digs n' k := by
    cases back with
    | true =>
      simp only [if_true] at e1
      have := congrArg List.reverse e1
      rw [List.reverse_reverse, List.reverse_reverse] at this
      exact this
    | false => simpa using e1
  obtain ⟨k, rfl⟩ : ∃ j, k = j + 1 := ⟨k - 1, by omega⟩
  obtain ⟨r, h⟩ := digs_head n k
  obtain ⟨r', h'⟩ := digs_head n' k
  rw [h, h'] at e2
  exact ltr_inj (Int.emod_nonneg _ (by decide)) (Int.emod_lt_of_pos _ (by decide)) (Int.emod_nonneg _ (by decide)) (Int.emod_lt_of_pos _ (by decide)) (List.cons.inj e2).1
theorem word_len (n : Int) (k : Nat) (back : Bool) : (wordOf n k back).length = k := by
  show (wordOf n k back).cps.size = k
  rw [← Array.length_toList, word_cps]
  cases back with
  | true => simp [digs_len]
  | false => simp [digs_len]
theorem word_valid {n : Int} {k : Nat} {back : Bool} (h1 : 1 ≤ k) (h2 : k ≤ 12) (hn : wordOf n k back ∉ words4) : Valid (wordOf n k back) := by
  refine ⟨by rw [word_len]; exact h1, by rw [word_len]; exact h2, hn, fun c hc => ?_⟩
  rw [word_cps] at hc
  cases back with
  | true => exact digs_abc n k c (by simpa using hc)
  | false => exact digs_abc n k c (by simpa using hc)
/-- twenty trials that are all bad: too many -/
theorem word_free {n : Int} {k : Nat} {back : Bool} {ws : List Str} (hk : 1 ≤ k) (hw : ws.length ≤ 8) (h : ∀ u : Nat, u < 20 → wordOf (n + u) k back ∈ ws ∨ wordOf (n + u) k back ∈ words4) : False := by
  have nd : ((List.range 20).map fun u : Nat => wordOf (n + (u : Nat)) k back).Nodup := by
    rw [List.nodup_iff_pairwise_ne, List.pairwise_map]
    have hr : (List.range 20).Pairwise (· < ·) := List.pairwise_lt_range
    refine List.Pairwise.imp_of_mem ?_ hr
    intro a b ha hb hab e
    have ha := List.mem_range.mp ha
    have hb := List.mem_range.mp hb
    have := word_inj hk e
    omega
  have sub : ∀ x ∈ (List.range 20).map (fun u : Nat => wordOf (n + (u : Nat)) k back), x ∈ ws ++ words4 := by
    intro x hx
    obtain ⟨u, hu, rfl⟩ := List.mem_map.mp hx
    rcases h u (List.mem_range.mp hu) with h | h
    · exact List.mem_append.mpr (.inl h)
    · exact List.mem_append.mpr (.inr h)
  have := nd.length_le_of_subset sub
  rw [List.length_map, List.length_range, List.length_append] at this
  have e : words4.length = 4 := rfl
  omega
end GR

set_option Elab.async false
set_option linter.all false
set_option maxRecDepth 100000
set_option maxHeartbeats 4000000
namespace GR
open PySem PySem.Spec PyProof.Rows L2
open He (ga ma)
def spWord : Sp := fun vs H Q _ => ∃ (n : Int) (k : Nat) (back : Bool), vs = [.int n, .int (k : Int), .bl back] ∧ 1 ≤ k ∧ k ≤ 12 ∧ Q (.str (wordOf n k back)) H
def spWords : Sp := fun vs H Q _ => ∃ (b C : Addr) (m : Nat), vs = [.ref b, .int (m : Int)] ∧ BoxAt H b C ∧ m ≤ 9 ∧ ∀ H' p (ws : List Str), SameBut [b] H H' → BoxAt H' b C → H p = none → H' p = some (.lst (ws.map V.str)) → ws.length = m → ws.Nodup → (∀ x ∈ ws, Valid x) → Q (.ref p) H'
theorem gcIf {i : Nat} {v : V} {tt : TT} {a b : TS} {D : Ends} {σ : L2.St} {H : Hp} (P1 P2 : Hp → Prop) (h : ∀ R : Bool → Hp → Prop, (∀ H', P1 H' → R true H') → (∀ H', P2 H' → R false H') → tt (σ.set i (some v)) H R)
    (ha : ∀ H', P1 H' → a D (σ.set i (some v)) H') (hb : ∀ H', P2 H' → b D (σ.set i (some v)) H') : gName i v σ H (fun σ2 H2 => tIfS tt a b D σ2 H2) :=
  h (fun c H1 => if c = true then a D (σ.set i (some v)) H1 else b D (σ.set i (some v)) H1) (fun H' p => by show (if true = true then _ else _); rw [if_pos rfl]; exact ha H' p) (fun H' p => by show (if false = true then _ else _); rw [if_neg Bool.false_ne_true]; exact hb H' p)
theorem box_ne {H : Hp} {b C L : Addr} (h : BoxAt H b C) (n : H L = none) : b ≠ L := by
  obtain ⟨cs, p, d, z, h1, _⟩ := h
  exact ne_of_none h1 n
theorem box_neC {H : Hp} {b C L : Addr} (h : BoxAt H b C) (n : H L = none) : C ≠ L := by
  obtain ⟨cs, p, d, z, h1, h2, _⟩ := h
  exact ne_of_none h2 n
theorem BoxAt.put {H : Hp} {b C L : Addr} {o : HO} (h : BoxAt H b C) (h1 : b ≠ L) (h2 : C ≠ L) : BoxAt (upd H L o) b C := by
  obtain ⟨cs, p, d, z, g1, g2, g3⟩ := h
  exact ⟨cs, p, d, z, by rw [upd_ne h1]; exact g1, by rw [upd_ne h2]; exact g2, g3⟩
theorem but_trans {as : List Addr} {H H1 H2 : Hp} (a : SameBut as H H1) (b : SameBut as H1 H2) : SameBut as H H2 := fun c o e n => b c o (a c o e n) n
theorem but_freeB {H H2 : Hp} {b C x : Addr} (s : SameBut [b] H H2) (hb : BoxAt H2 b C) (n : H2 x = none) : H x = none := by
  cases e : H x with
  | none => rfl
  | some o =>
    by_cases z : x = b
    · exact absurd z.symm (box_ne hb n)
    · have := s x o e (by simpa using z)
      rw [n] at this
      cases this
section
variable {P : Program} {w : World} {K : PySem.W.Frag} {mg : Str → Option Value} {base : Heap}
theorem scWd : FnScope ["_law_number", "_law_many", "_law_back", "_law_word_here", "_law_turn"] ["_law_number", "_law_many", "_law_back"] (defScope sWord) := ⟨rfl, rfl, rfl, by decide +kernel, rfl, by decide +kernel, by decide +kernel⟩
theorem d_word (G : GF K mg "_law_word" sWord) (B : Bl mg) : GDef P w K mg base CX0 1 "_law_word" spWord := by
  refine G.ok scWd (fun vs H Q E h => ?_) (fun _ _ _ _ _ _ us hl => match us, hl with | [_, _, _], _ => rfl) (fun f cdv A outer s H vs Q E hr h => ?_)
  · obtain ⟨n, k, back, rfl, _⟩ := h
    rfl
  · obtain ⟨n, k, back, rfl, hk1, hk2, q⟩ := h
    refine ⟨_,
      (pss_cons (ps_set (i := 3) scWd.nd rfl (Or.inl rfl) pe_str)
      (pss_cons (ps_for PassesOwn.never rfl (pi_range1 rfl B.range (pa_cons (pv 1) pa_nil)) (pg_name (i := 4) scWd.nd rfl (Or.inl rfl))
        (pss_cons (ps_set (i := 3) scWd.nd rfl (Or.inl rfl) (pe_op op_add_str (pv 3) (pe_ix ix_str pe_str (pe_op op_mod (pe_callTy call_int1 (by rfl) B.int (by decide +kernel) (pa_cons (pv 0) pa_nil)) pe_int) (fun _ _ => rfl))))
        (pss_one (ps_set (i := 0) scWd.nd rfl (Or.inl rfl) (pe_op op_fdiv (pe_callTy call_int1 (by rfl) B.int (by decide +kernel) (pa_cons (pv 0) pa_nil)) pe_int)))))
      (pss_cons (ps_if (pt_val (pv 2))
        (pss_one (ps_ret (pe_revS (pv 3))))
        pss_nil)
      (pss_one (ps_ret (pv 3))))))
      , ?_⟩
    refine ⟨_, rfl, (k : Int), rfl, by omega, by omega, ?_⟩
    refine for_it (n := k) (walk_range (lo := 0) (n := k)) (fun i σ H2 => ∃ o4, σ = [some (.int (nm n i)), some (.int (k : Int)), some (.bl back), some (.str ⟨(digs n i).toArray⟩), o4] ∧ H = H2) ⟨_, rfl, rfl⟩ (fun _ _ _ _ _ => trivial) ?_ ?_
    · rintro i y σ H2 H3 hi ⟨o4, rfl, rfl⟩ ⟨rfl, rfl⟩
      refine ⟨_, rfl, _, rfl, .inl ⟨_, rfl, _, _, rfl, rfl, (by show (0 : Int) < 26; decide), ?_⟩⟩
      have h0 : 0 ≤ nm n i % 26 := Int.emod_nonneg _ (by decide)
      have h1 : nm n i % 26 < 26 := Int.emod_lt_of_pos _ (by decide)
      refine ⟨letters, _, _, rfl, rfl, (by show letters.cps.size ≤ sizeLine; rw [← Array.length_toList, letters_len, sizeLine_eq]; decide), atI_int h0 (ltr_at h0 h1), ?_⟩
      refine ⟨_, _, rfl, rfl, ?_, ?_⟩
      · show (digs n i).toArray.size + 1 ≤ sizeLine
        rw [List.size_toArray, digs_len, sizeLine_eq]
        omega
      · refine ⟨_, rfl, .inl ⟨_, rfl, _, _, rfl, rfl, ⟨by decide, by decide⟩, ?_⟩⟩
        refine ⟨some (.int (0 + (i : Int))), ?_, rfl⟩
        have e : (⟨(digs n i).toArray⟩ : Str) ++ (⟨#[ltr (nm n i % 26)]⟩ : Str) = ⟨(digs n (i + 1)).toArray⟩ := by
          show (⟨(digs n i).toArray ++ #[ltr (nm n i % 26)]⟩ : Str) = ⟨(digs n i ++ [ltr (nm n i % 26)]).toArray⟩
          simp
        rw [← e]
        rfl
    · rintro σ H2 ⟨o4, rfl, rfl⟩
      refine ⟨_, rfl, _, rfl, ?_⟩
      cases back with
      | true =>
        refine ⟨_, rfl, _, rfl, ?_, q⟩
        show (digs n k).toArray.size ≤ sizeLine
        rw [List.size_toArray, digs_len, sizeLine_eq]
        omega
      | false => exact ⟨_, rfl, q⟩
theorem scWs : FnScope ["_law_box_here", "_law_many", "_law_words_here", "_law_back", "_law_turn", "_law_wide", "_law_number", "_law_word_here", "_law_again"] ["_law_box_here", "_law_many"] (defScope sWords) := ⟨rfl, rfl, rfl, by decide +kernel, rfl, by decide +kernel, by decide +kernel⟩
theorem d_words (G : GF K mg "_law_words" sWords) (B : Bl mg) (D_law_take : GDef P w K mg base CX0 1 "_law_take" spTake) (D_law_word : GDef P w K mg base CX0 1 "_law_word" spWord) : GDef P w K mg base CX0 2 "_law_words" spWords := by
  refine G.ok scWs (fun vs H Q E h => ?_) (fun _ _ _ _ _ _ us hl => match us, hl with | [_, _], _ => rfl) (fun f cdv A outer s H vs Q E hr h => ?_)
  · obtain ⟨b, C, m, rfl, _⟩ := h
    rfl
  · obtain ⟨b, C, m, rfl, hb, hm, q⟩ := h
    refine ⟨_,
      (pss_cons (ps_set (i := 2) scWs.nd rfl (Or.inl rfl) (pe_lst pa_nil))
      (pss_cons (ps_set (i := 3) scWs.nd rfl (Or.inl rfl) (pe_cmpR op_eq (pe_callG D_law_take hr rfl pass0 (pa_cons (pv 0) (pa_cons pe_int pa_nil))) pe_int (nomark _)))
      (pss_cons (ps_for PassesOwn.never rfl (pi_range1 rfl B.range (pa_cons (pv 1) pa_nil)) (pg_name (i := 4) scWs.nd rfl (Or.inl rfl))
        (pss_cons (ps_set (i := 5) scWs.nd rfl (Or.inl rfl) (pe_ix ix_list (pe_lst (pa_cons pe_int (pa_cons pe_int (pa_cons pe_int (pa_cons pe_int (pa_cons pe_int (pa_cons pe_int pa_nil))))))) (pe_callG D_law_take hr rfl pass0 (pa_cons (pv 0) (pa_cons pe_int pa_nil))) (fun _ _ => rfl)))
        (pss_cons (ps_set (i := 6) scWs.nd rfl (Or.inl rfl) (pe_callG D_law_take hr rfl pass0 (pa_cons (pv 0) (pa_cons pe_int pa_nil))))
        (pss_cons (ps_set (i := 7) scWs.nd rfl (Or.inl rfl) (pe_callG D_law_word hr rfl pass0 (pa_cons (pv 6) (pa_cons (pv 5) (pa_cons (pv 3) pa_nil)))))
        (pss_cons (ps_for PassesOwn.never rfl (pi_range1 rfl B.range (pa_cons pe_int pa_nil)) (pg_name (i := 8) scWs.nd rfl (Or.inl rfl))
          (pss_one (ps_if (PW.pt (pw_or (pt_cmpR op_in_seq (pv 7) (pv 2) (by rfl)) (pw_or1 (pt_cmpR op_in_seq (pv 7) (pe_lst (pa_cons pe_str (pa_cons pe_str (pa_cons pe_str (pa_cons pe_str pa_nil))))) (by rfl)))))
            (pss_cons (ps_set (i := 6) scWs.nd rfl (Or.inl rfl) (pe_op op_add (pv 6) pe_int))
            (pss_one (ps_set (i := 7) scWs.nd rfl (Or.inl rfl) (pe_callG D_law_word hr rfl pass0 (pa_cons (pv 6) (pa_cons (pv 5) (pa_cons (pv 3) pa_nil)))))))
            pss_nil)))
        (pss_one (ps_expr (pe_bm PySem.F.plainAttrs_list PySem.F.slot_list_append PySem.F.type_list_append mt_append (pv 2) (pa_cons (pv 7) pa_nil)))))))))
      (pss_one (ps_ret (pv 2))))))
      , ?_⟩
    refine ⟨by show 0 ≤ sizeLine; decide, fun W hW => ?_⟩
    have nbW := box_ne hb hW
    have nCW := box_neC hb hW
    refine ⟨_, rfl, b, C, 2, rfl, hb.same (same_upd hW), by decide, by decide, fun H1 r1 s1 hb1 _ _ => ?_⟩
    have s01 : SameBut [b] H H1 := fun x o e n => s1 x o (same_upd hW x o e) n
    have hW1 := s1 _ _ (upd_same (H := H) (a := W)) (by simpa using nbW.symm)
    refine ⟨rfl, ?_⟩
    generalize decide (V.int r1 = V.int 1) = back
    refine ⟨_, rfl, (m : Int), rfl, by omega, by omega, ?_⟩
    refine for_it (n := m) (walk_range (lo := 0) (n := m)) (fun i σ H2 => ∃ o4 o5 o6 o7 o8 ws, σ = [some (.ref b), some (.int (m : Int)), some (.ref W), some (.bl back), o4, o5, o6, o7, o8] ∧ SameBut [b] H H2 ∧ BoxAt H2 b C ∧
      H2 W = some (.lst (ws.map V.str)) ∧ ws.length = i ∧ ws.Nodup ∧ ∀ x ∈ ws, Valid x) ⟨_, _, _, _, _, [], rfl, s01, hb1, hW1, rfl, List.nodup_nil, fun _ h => by cases h⟩ (fun _ _ _ _ _ => trivial) ?_ ?_
    · rintro i y σ H2 H3 hi ⟨o4, o5, o6, o7, o8, ws, rfl, s2, hb2, hW2, hwl, hwn, hwv⟩ ⟨rfl, rfl⟩
      refine ⟨by show 6 ≤ sizeLine; decide, fun L hL => ?_⟩
      have nbL := box_ne hb2 hL
      have hL0 := but_freeB s2 hb2 hL
      have nWL : W ≠ L := ne_of_none hW2 hL
      refine ⟨_, rfl, b, C, 6, rfl, hb2.same (same_upd hL), by decide, by decide, fun H4 r2 s4 hb4 hr0 hr6 => ?_⟩
      have hL4 : H4 L = some (.lst (([1, 1, 2, 3, 5, 12] : List Int).map V.int)) := s4 _ _ (upd_same) (by simpa using nbL.symm)
      obtain ⟨k', hk', hat⟩ := atInts (ns := [1, 1, 2, 3, 5, 12]) hr0 (by simpa using hr6)
      obtain ⟨k, rfl, hk1, hk2⟩ : ∃ k : Nat, k' = (k : Int) ∧ 1 ≤ k ∧ k ≤ 12 := by
        have : k' = 1 ∨ k' = 2 ∨ k' = 3 ∨ k' = 5 ∨ k' = 12 := by simpa [or_assoc] using hk'
        exact ⟨k'.toNat, by omega, by omega, by omega⟩
      refine ⟨L, _, _, _, rfl, rfl, SqL.of hL4, hat, ?_⟩
      have s04 : SameBut [b] H H4 := fun x o e n => s4 x o (but_new s2 hL0 x o e n) n
      have hW4 : H4 W = some (.lst (ws.map V.str)) := s4 _ _ (by rw [upd_ne nWL]; exact hW2) (by simpa using nbW.symm)
      refine ⟨_, rfl, b, C, 500000, rfl, hb4, by decide, by decide, fun H5 n0 s5 hb5 _ _ => ?_⟩
      have s05 : SameBut [b] H H5 := but_trans s04 s5
      have hW5 : H5 W = some (.lst (ws.map V.str)) := s5 _ _ hW4 (by simpa using nbW.symm)
      refine ⟨_, rfl, _, rfl, _, rfl, n0, k, back, rfl, hk1, hk2, ?_⟩
      refine ⟨20, rfl, by decide, by decide, ?_⟩
      refine for_it (n := 20) (walk_range (lo := 0) (n := 20)) (fun j σ H2 => ∃ o4 o8 t, σ = [some (.ref b), some (.int (m : Int)), some (.ref W), some (.bl back), o4, some (.int (k : Int)), some (.int (n0 + (t : Nat))), some (.str (wordOf (n0 + (t : Nat)) k back)), o8] ∧ SameBut [b] H H2 ∧ BoxAt H2 b C ∧
        H2 W = some (.lst (ws.map V.str)) ∧ t ≤ j ∧ (∀ u : Nat, u < t → wordOf (n0 + u) k back ∈ ws ∨ wordOf (n0 + u) k back ∈ words4) ∧ (t < j → ¬ (wordOf (n0 + (t : Nat)) k back ∈ ws ∨ wordOf (n0 + (t : Nat)) k back ∈ words4)))
        ⟨some (.int (0 + (i : Int))), o8, 0, by rw [show n0 + ((0 : Nat) : Int) = n0 from Int.add_zero n0]; rfl, s05, hb5, hW5, Nat.le_refl _, fun u hu => absurd hu (by omega), fun h => absurd h (by omega)⟩ (fun _ _ _ _ _ => trivial) ?_ ?_
      · rintro j y σ H6 H7 hj ⟨o4, o8, t, rfl, s6, hb6, hW6, ht, hbad, hgood⟩ ⟨rfl, rfl⟩
        refine gcIf (fun H' => (SameBut [b] H H' ∧ BoxAt H' b C ∧ H' W = some (.lst (ws.map V.str))) ∧ (wordOf (n0 + (t : Nat)) k back ∈ ws ∨ wordOf (n0 + (t : Nat)) k back ∈ words4))
          (fun H' => (SameBut [b] H H' ∧ BoxAt H' b C ∧ H' W = some (.lst (ws.map V.str))) ∧ ¬ (wordOf (n0 + (t : Nat)) k back ∈ ws ∨ wordOf (n0 + (t : Nat)) k back ∈ words4)) (fun R h1 h2 => ?_) ?_ ?_
        · refine ⟨_, rfl, _, rfl, _, _, rfl, .inl (SqL.of hW6), rfl, flat_strs _, decide (wordOf (n0 + (t : Nat)) k back ∈ ws), by rw [inV_str]; rfl, ?_⟩
          refine ite2 (fun c1 => ?_) fun c1 => ?_
          · exact h1 _ ⟨⟨s6, hb6, hW6⟩, .inl (of_decide_eq_true c1)⟩
          · refine ⟨_, rfl, by show 4 ≤ sizeLine; decide, fun L2 hL2 => ?_⟩
            have e4 : SqL K (upd H7 L2 (.lst [.str "rank", .str "trim", .str "weigh", .str "together"])) L2 (words4.map V.str) := SqL.of upd_same
            have st : SameBut [b] H (upd H7 L2 (.lst [.str "rank", .str "trim", .str "weigh", .str "together"])) ∧ BoxAt (upd H7 L2 (.lst [.str "rank", .str "trim", .str "weigh", .str "together"])) b C ∧ (upd H7 L2 (.lst [.str "rank", .str "trim", .str "weigh", .str "together"])) W = some (.lst (ws.map V.str)) :=
              ⟨but_new s6 (but_freeB s6 hb6 hL2), hb6.same (same_upd hL2), by rw [upd_ne (ne_of_none hW6 hL2)]; exact hW6⟩
            refine ⟨_, _, rfl, .inl e4, rfl, flat_strs _, decide (wordOf (n0 + (t : Nat)) k back ∈ words4), by rw [inV_str]; rfl, ?_⟩
            cases hc : decide (wordOf (n0 + (t : Nat)) k back ∈ words4) with
            | true => exact h1 _ ⟨st, .inr (of_decide_eq_true hc)⟩
            | false => exact h2 _ ⟨st, fun z => z.elim (fun z => c1 (decide_eq_true z)) (of_decide_eq_false hc)⟩
        · rintro H' ⟨⟨s7, hb7, hW7⟩, hcond⟩
          have htj : t = j := by
            by_cases h : t < j
            · exact absurd hcond (hgood h)
            · omega
          refine ⟨_, rfl, _, _, rfl, rfl, _, rfl, _, rfl, _, rfl, n0 + (t : Int) + 1, k, back, rfl, hk1, hk2, ?_⟩
          have e1 : n0 + (t : Int) + 1 = n0 + ((t + 1 : Nat) : Int) := by omega
          refine ⟨_, _, t + 1, by rw [← e1]; rfl, s7, hb7, hW7, by omega, fun u hu => ?_, fun h => absurd h (by omega)⟩
          by_cases hut : u = t
          · rw [hut]; exact hcond
          · exact hbad u (by omega)
        · rintro H' ⟨⟨s7, hb7, hW7⟩, hcond⟩
          exact ⟨_, _, t, rfl, s7, hb7, hW7, by omega, hbad, fun _ => hcond⟩
      · rintro σ H6 ⟨o4, o8, t, rfl, s6, hb6, hW6, ht, hbad, hgood⟩
        have hok : ¬ (wordOf (n0 + (t : Nat)) k back ∈ ws ∨ wordOf (n0 + (t : Nat)) k back ∈ words4) := by
          by_cases h : t < 20
          · exact hgood h
          · exact absurd (word_free hk1 (by omega) fun u hu => hbad u (by omega)) id
        refine ⟨_, rfl, .inl ⟨rfl, _, SqL.of hW6⟩, _, rfl, W, _, _, rfl, rfl, hW6, by rw [List.length_map, sizeLine_eq]; omega, ?_⟩
        refine ⟨_, _, _, _, _, ws ++ [wordOf (n0 + (t : Nat)) k back], rfl, but_new s6 hW, ?_, ?_, by simp [hwl], ?_, ?_⟩
        · exact hb6.put nbW nCW
        · rw [upd_same, List.map_append]
          rfl
        · rw [List.nodup_append]
          refine ⟨hwn, by simp, fun a ha c hc e => hok (.inl ?_)⟩
          have : c = wordOf (n0 + (t : Nat)) k back := by simpa using hc
          rw [← this, ← e]
          exact ha
        · intro x hx
          rcases List.mem_append.mp hx with h | h
          · exact hwv x h
          · have : x = wordOf (n0 + (t : Nat)) k back := by simpa using h
            rw [this]
            exact word_valid hk1 hk2 fun z => hok (.inr z)
    · rintro σ H2 ⟨o4, o5, o6, o7, o8, ws, rfl, s2, hb2, hW2, hwl, hwn, hwv⟩
      exact ⟨_, rfl, q H2 W ws s2 hb2 hW hW2 hwl hwn hwv⟩
end
end GR

set_option Elab.async false
set_option linter.all false
set_option maxRecDepth 100000
set_option maxHeartbeats 4000000
namespace GR
open PySem PySem.Spec PyProof.Rows L2
open He (ga ma)
def spec6 (s : GSpec) : List V := [.str s.name, .int (s.sort : Int), .int s.rad, .int s.grain, .int s.late, .int s.drift]
def SpecsAt (H : Hp) (L : Addr) (qs : List GA) : Prop := H L = some (.lst (qs.map fun q => V.ref q.2)) ∧ ∀ q ∈ qs, H q.2 = some (.tup (spec6 q.1))
theorem SpecsAt.same {H H' : Hp} {L : Addr} {qs : List GA} (h : SpecsAt H L qs) (e : Same H H') : SpecsAt H' L qs := ⟨e _ _ h.1, fun q hq => e _ _ (h.2 q hq)⟩
def spSpecs : Sp := fun vs H Q _ => ∃ (b C W : Addr) (ws : List Str), vs = [.ref b, .ref W] ∧ BoxAt H b C ∧ H W = some (.lst (ws.map V.str)) ∧ b ≠ W ∧ ws.length ≤ 9 ∧ (∀ x ∈ ws, Valid x) ∧
  ∀ H' p qs, SameBut [b] H H' → BoxAt H' b C → H p = none → SpecsAt H' p qs → (∀ q ∈ qs, Wf q.1) → gnames qs = ws → Q (.ref p) H'
def spSlacks : Sp := fun vs H Q _ => ∃ (t : Addr) (s : GSpec), vs = [.ref t] ∧ H t = some (.tup (spec6 s)) ∧ Wf s ∧ ∀ p, H p = none → Q (.ref p) (upd H p (.tup [.int (sbOf s), .int (saOf s)]))
def spGauge (K : PySem.W.Frag) : Sp := fun vs H Q _ => ∃ (t : Addr) (s : GSpec), vs = [.ref t] ∧ H t = some (.tup (spec6 s)) ∧ Wf s ∧ ∀ H' p, Same H H' → GaugeAt K H' p s → Q (.ref p) H'
def spGauges (K : PySem.W.Frag) : Sp := fun vs H Q _ => ∃ (L : Addr) (qs : List GA), vs = [.ref L] ∧ SpecsAt H L qs ∧ (∀ q ∈ qs, Wf q.1) ∧ qs.length ≤ 9 ∧
  ∀ H' p (gs : List GA), Same H H' → H p = none → H' p = some (.lst (gs.map fun g => V.ref g.2)) → gs.map (·.1) = qs.map (·.1) → (∀ g ∈ gs, GaugeAt K H' g.2 g.1) → Q (.ref p) H'
theorem refs_at {qs : List GA} {i : Nat} {y : V} (h : (qs.map fun q => V.ref q.2)[i]? = some y) : ∃ q, qs[i]? = some q ∧ y = .ref q.2 := by
  rw [List.getElem?_map] at h
  cases e : qs[i]? with
  | none => rw [e] at h; cases h
  | some p => rw [e] at h; exact ⟨p, rfl, (Option.some.inj h).symm⟩
theorem b01 (b : Bool) : -(2 ^ 64) < (if b = true then (1 : Int) else 0) ∧ (if b = true then (1 : Int) else 0) < 2 ^ 64 := by cases b <;> decide
theorem s0 (s : GSpec) : atI (spec6 s) 0 = some (.str s.name) := rfl
theorem s1 (s : GSpec) : atI (spec6 s) 1 = some (.int (s.sort : Int)) := rfl
theorem s2 (s : GSpec) : atI (spec6 s) 2 = some (.int s.rad) := rfl
theorem s3 (s : GSpec) : atI (spec6 s) 3 = some (.int s.grain) := rfl
theorem s4 (s : GSpec) : atI (spec6 s) 4 = some (.int s.late) := rfl
theorem s5 (s : GSpec) : atI (spec6 s) 5 = some (.int s.drift) := rfl
section
variable {P : Program} {w : World} {K : PySem.W.Frag} {mg : Str → Option Value} {base : Heap}
theorem scSs : FnScope ["_law_box_here", "_law_words_here", "_law_unit", "_law_wide", "_law_specs_here", "_law_word_here", "_law_sort", "_law_grain", "_law_drift"] ["_law_box_here", "_law_words_here"] (defScope sSpecs) := ⟨rfl, rfl, rfl, by decide +kernel, rfl, by decide +kernel, by decide +kernel⟩
theorem d_specs (G : GF K mg "_law_specs" sSpecs) (B : Bl mg) (D_law_take : GDef P w K mg base CX0 1 "_law_take" spTake) : GDef P w K mg base CX0 2 "_law_specs" spSpecs := by
  refine G.ok scSs (fun vs H Q E h => ?_) (fun _ _ _ _ _ _ us hl => match us, hl with | [_, _], _ => rfl) (fun f cdv A outer s H vs Q E hr h => ?_)
  · obtain ⟨b, C, W, ws, rfl, _⟩ := h
    rfl
  · obtain ⟨b, C, W, ws, rfl, hb, hW, nbW, hwl, hwv, q⟩ := h
    refine ⟨_,
      (pss_cons (ps_set (i := 2) scSs.nd rfl (Or.inl rfl) (pe_ix ix_list (pe_lst (pa_cons pe_int (pa_cons pe_int (pa_cons pe_int (pa_cons (pe_op op_pow pe_int pe_int) pa_nil))))) (pe_callG D_law_take hr rfl pass0 (pa_cons (pv 0) (pa_cons pe_int pa_nil))) (fun _ _ => rfl)))
      (pss_cons (ps_set (i := 3) scSs.nd rfl (Or.inl rfl) (pe_ix ix_list (pe_lst (pa_cons pe_int (pa_cons pe_int (pa_cons pe_int pa_nil)))) (pe_callG D_law_take hr rfl pass0 (pa_cons (pv 0) (pa_cons pe_int pa_nil))) (fun _ _ => rfl)))
      (pss_cons (ps_set (i := 4) scSs.nd rfl (Or.inl rfl) (pe_lst pa_nil))
      (pss_cons (ps_for PassesOwn.never rfl (pi_list (pv 1)) (pg_name (i := 5) scSs.nd rfl (Or.inl rfl))
        (pss_cons (ps_set (i := 6) scSs.nd rfl (Or.inl rfl) (pe_ix ix_list (pe_lst (pa_cons pe_int (pa_cons pe_int (pa_cons pe_int (pa_cons pe_int (pa_cons pe_int pa_nil)))))) (pe_callG D_law_take hr rfl pass0 (pa_cons (pv 0) (pa_cons pe_int pa_nil))) (fun _ _ => rfl)))
        (pss_cons (ps_set (i := 7) scSs.nd rfl (Or.inl rfl) (pe_op op_add pe_int (pe_op op_mul (pv 2) (pe_callG D_law_take hr rfl pass0 (pa_cons (pv 0) (pa_cons (pv 3) pa_nil))))))
        (pss_cons (ps_set (i := 8) scSs.nd rfl (Or.inl rfl) (pe_op op_mul (pv 2) (pe_callG D_law_take hr rfl pass0 (pa_cons (pv 0) (pa_cons (pv 3) pa_nil)))))
        (pss_one (ps_expr (pe_bm PySem.F.plainAttrs_list PySem.F.slot_list_append PySem.F.type_list_append mt_append (pv 4) (pa_cons (pe_tup (pa_cons (pv 5) (pa_cons (pv 6) (pa_cons (pe_op op_mul (pv 2) (pe_callG D_law_take hr rfl pass0 (pa_cons (pv 0) (pa_cons (pv 3) pa_nil)))) (pa_cons (pv 7) (pa_cons (pe_callG D_law_take hr rfl pass0 (pa_cons (pv 0) (pa_cons pe_int pa_nil))) (pa_cons (pv 8) pa_nil))))))) pa_nil))))))))
      (pss_one (ps_ret (pv 4)))))))
      , ?_⟩
    -- unit
    refine ⟨_, _, rfl, rfl, ⟨by decide, by decide, by decide⟩, by show 4 ≤ sizeLine; decide, fun L1 hL1 => ?_⟩
    have nb1 := box_ne hb hL1
    refine ⟨_, rfl, b, C, 4, rfl, hb.same (same_upd hL1), by decide, by decide, fun H1 r1 e1 hb1 hr0 hr1 => ?_⟩
    have hl1 : H1 L1 = some (.lst (([1, 1, 1, 10 ^ (6 : Int).toNat] : List Int).map V.int)) := e1 _ _ upd_same (by simpa using nb1.symm)
    obtain ⟨un, hun, hat1⟩ := atInts (ns := [1, 1, 1, 10 ^ (6 : Int).toNat]) hr0 (by simpa using hr1)
    have hu : 1 ≤ un ∧ un ≤ 1000000 := by
      have : un = 1 ∨ un = 10 ^ (6 : Int).toNat := by simpa [or_assoc] using hun
      rcases this with h | h
      · omega
      · rw [h]; decide
    have s01 : SameBut [b] H H1 := fun x o e n => e1 x o (same_upd hL1 x o e) n
    refine ⟨L1, _, _, _, rfl, rfl, SqL.of hl1, hat1, ?_⟩
    -- wide
    refine ⟨by show 3 ≤ sizeLine; decide, fun L2 hL2 => ?_⟩
    have nb2 := box_ne hb1 hL2
    refine ⟨_, rfl, b, C, 3, rfl, hb1.same (same_upd hL2), by decide, by decide, fun H2 r2 e2 hb2 hr0 hr1 => ?_⟩
    have hl2 : H2 L2 = some (.lst (([1, 4, 30] : List Int).map V.int)) := e2 _ _ upd_same (by simpa using nb2.symm)
    obtain ⟨wd, hwd, hat2⟩ := atInts (ns := [1, 4, 30]) hr0 (by simpa using hr1)
    have hw : 1 ≤ wd ∧ wd ≤ 30 := by
      have : wd = 1 ∨ wd = 4 ∨ wd = 30 := by simpa [or_assoc] using hwd
      omega
    have s02 : SameBut [b] H H2 := fun x o e n => e2 x o (but_new s01 (but_freeB s01 hb1 hL2) x o e n) n
    refine ⟨L2, _, _, _, rfl, rfl, SqL.of hl2, hat2, ?_⟩
    refine ⟨by show 0 ≤ sizeLine; decide, fun S hS => ?_⟩
    have hS0 := but_freeB s02 hb2 hS
    have nbS := box_ne hb hS0
    have nCS := box_neC hb hS0
    have nWS : W ≠ S := ne_of_none hW hS0
    have cm : ∀ z : Int, CMul un z := fun z => .inl ⟨by omega, by omega⟩
    refine ⟨_, rfl, W, rfl, ⟨_, SqL.of (but_new s02 hS0 _ _ hW (by simpa using nbW.symm))⟩, ?_⟩
    refine for_list (K := K) (a := W) (xs := ws.map V.str) (fun i σ H' => ∃ o5 o6 o7 o8 qs, σ = [some (.ref b), some (.ref W), some (.int un), some (.int wd), some (.ref S), o5, o6, o7, o8] ∧ SameBut [b] H H' ∧ BoxAt H' b C ∧ SpecsAt H' S qs ∧ (∀ q ∈ qs, Wf q.1) ∧ gnames qs = ws.take i)
      ⟨_, _, _, _, [], rfl, but_new s02 hS0, hb2.put nbS nCS, ⟨upd_same, (fun q h => by cases h)⟩, (fun q h => by cases h), rfl⟩ (fun i σ H' _ ⟨_, _, _, _, _, _, s', _⟩ => SqL.of (s' _ _ hW (by simpa using nbW.symm))) ?_ ?_
    · rintro i y σ H3 hy ⟨o5, o6, o7, o8, qs, rfl, s03, hb3, hq3, hwf, hnm⟩
      obtain ⟨x, hx, rfl⟩ := strs_at hy
      have etk : ws.take (i + 1) = ws.take i ++ [x] := by rw [List.take_succ, hx]; rfl
      refine ⟨by show 5 ≤ sizeLine; decide, fun L3 hL3 => ?_⟩
      have nb3 := box_ne hb3 hL3
      have nS3 : S ≠ L3 := ne_of_none hq3.1 hL3
      refine ⟨_, rfl, b, C, 5, rfl, hb3.same (same_upd hL3), by decide, by decide, fun H4 r4 e4 hb4 hr0 hr1 => ?_⟩
      have hl4 : H4 L3 = some (.lst (([0, 0, 1, 2, 3] : List Int).map V.int)) := e4 _ _ upd_same (by simpa using nb3.symm)
      obtain ⟨so, hso, hat4⟩ := atInts (ns := [0, 0, 1, 2, 3]) hr0 (by simpa using hr1)
      obtain ⟨so, rfl, hso4⟩ : ∃ k : Nat, so = (k : Int) ∧ k < 4 := by
        have : so = 0 ∨ so = 1 ∨ so = 2 ∨ so = 3 := by simpa [or_assoc] using hso
        exact ⟨so.toNat, by omega, by omega⟩
      refine ⟨L3, _, _, _, rfl, rfl, SqL.of hl4, hat4, ?_⟩
      have s34 : SameBut [b] H3 H4 := fun x o e n => e4 x o (same_upd hL3 x o e) n
      refine ⟨_, rfl, _, rfl, _, rfl, b, C, wd, rfl, hb4, by omega, by omega, fun H5 g5 e5 hb5 h50 h51 => ⟨_, _, rfl, rfl, cm _, _, _, rfl, rfl, ?_⟩⟩
      refine ⟨_, rfl, _, rfl, _, rfl, b, C, wd, rfl, hb5, by omega, by omega, fun H6 g6 e6 hb6 h60 h61 => ⟨_, _, rfl, rfl, cm _, ?_⟩⟩
      have s36 : SameBut [b] H3 H6 := but_trans (but_trans s34 e5) e6
      have nSb : S ∉ [b] := by simpa using nbS.symm
      refine ⟨_, rfl, .inl ⟨rfl, _, SqL.of (s36 _ _ hq3.1 nSb)⟩, ?_⟩
      refine ⟨_, rfl, _, rfl, _, rfl, _, rfl, _, rfl, b, C, wd, rfl, hb6, by omega, by omega, fun H7 g7 e7 hb7 h70 h71 => ⟨_, _, rfl, rfl, cm _, ?_⟩⟩
      refine ⟨_, rfl, _, rfl, b, C, 3, rfl, hb7, by decide, by decide, fun H8 g8 e8 hb8 h80 h81 => ?_⟩
      refine ⟨_, rfl, by show 6 ≤ sizeLine; decide, fun U hU => ?_⟩
      have s38 : SameBut [b] H3 H8 := but_trans (but_trans s36 e7) e8
      have hS8 := s38 _ _ hq3.1 nSb
      have nSU : S ≠ U := ne_of_none hS8 hU
      have hqs : ∀ q ∈ qs, q.2 ≠ b := fun q hq => by
        obtain ⟨cs, p, d, z, g1, _⟩ := hb3
        exact ne_of (hq3.2 q hq) g1 fun z => nomatch z
      have hlen9 : qs.length ≤ 9 := by
        have := congrArg List.length hnm
        unfold gnames at this
        rw [List.length_map, List.length_take] at this
        omega
      refine ⟨S, _, _, rfl, rfl, by rw [upd_ne nSU]; exact hS8, by rw [List.length_map, sizeLine_eq]; omega, ?_⟩
      have hb9 := (hb8.same (same_upd (o := .tup (spec6 ⟨x, so, un * g7, 1 + un * g5, g8, un * g6⟩)) hU)).put (o := .lst ((qs.map fun q => V.ref q.2) ++ [V.ref U])) nbS nCS
      refine ⟨_, _, _, _, qs ++ [(⟨x, so, un * g7, 1 + un * g5, g8, un * g6⟩, U)], rfl, ?_, hb9, ⟨?_, fun q hq => ?_⟩, fun q hq => ?_, ?_⟩
      · exact but_new (but_new (but_trans s03 s38) (but_freeB (but_trans s03 s38) hb8 hU)) hS0
      · rw [upd_same, List.map_append]
        rfl
      · rcases List.mem_append.mp hq with h | h
        · have h8 := s38 _ _ (hq3.2 q h) (by simpa using hqs q h)
          rw [upd_ne (ne_of h8 hS8 fun z => nomatch z), upd_ne (ne_of_none h8 hU)]
          exact h8
        · obtain rfl : q = _ := by simpa using h
          rw [upd_ne nSU.symm, upd_same]
          rfl
      · rcases List.mem_append.mp hq with h | h
        · exact hwf q h
        · obtain rfl : q = _ := by simpa using h
          have m5 : 0 ≤ un * g5 := Int.mul_nonneg (by omega) h50
          have m6 : 0 ≤ un * g6 := Int.mul_nonneg (by omega) h60
          have m7 : 0 ≤ un * g7 := Int.mul_nonneg (by omega) h70
          exact ⟨hso4, hwv x (List.mem_of_getElem? hx), m7, by show (1 : Int) ≤ 1 + un * g5; omega, h80, by show g8 ≤ 2; omega, m6⟩
      · rw [etk, ← hnm]
        unfold gnames
        rw [List.map_append]
        rfl
    · rintro σ H3 ⟨o5, o6, o7, o8, qs, rfl, s03, hb3, hq3, hwf, hnm⟩
      rw [List.length_map, List.take_length] at hnm
      exact ⟨_, rfl, q H3 S qs s03 hb3 hS0 hq3 hwf hnm⟩
theorem scSk : FnScope ["_law_spec", "_law_old"] ["_law_spec"] (defScope sSlacks) := ⟨rfl, rfl, rfl, by decide +kernel, rfl, by decide +kernel, by decide +kernel⟩
theorem d_slacks (G : GF K mg "_law_slacks" sSlacks) (B : Bl mg) : GDef P w K mg base CX0 1 "_law_slacks" spSlacks := by
  refine G.ok scSk (fun vs H Q E h => ?_) (fun _ _ _ _ _ _ us hl => match us, hl with | [_], _ => rfl) (fun f cdv A outer s H vs Q E hr h => ?_)
  · obtain ⟨t, s, rfl, _⟩ := h
    rfl
  · obtain ⟨t, s, rfl, ht, W, q⟩ := h
    refine ⟨_,
      (pss_cons (ps_set (i := 1) scSk.nd rfl (Or.inl rfl) (pe_op op_mul (pe_op op_mul (pe_ix ix_tup (pv 0) pe_int (fun _ _ => rfl)) (pe_ix ix_tup (pv 0) pe_int (fun _ _ => rfl))) (pe_callTy call_int1 (by rfl) B.int (by decide +kernel) (pa_cons (pe_cmpR op_ge (pe_ix ix_tup (pv 0) pe_int (fun _ _ => rfl)) pe_int (nomark _)) pa_nil))))
      (pss_one (ps_ret (pe_tup (pa_cons (pe_op op_add (pe_ix ix_tup (pv 0) pe_int (fun _ _ => rfl)) (pv 1)) (pa_cons (pe_op op_add (pe_op op_add (pe_ix ix_tup (pv 0) pe_int (fun _ _ => rfl)) (pv 1)) (pe_op op_mul (pe_op op_sub (pe_ix ix_tup (pv 0) pe_int (fun _ _ => rfl)) pe_int) (pe_callTy call_int1 (by rfl) B.int (by decide +kernel) (pa_cons (pe_or (pe_cmpR op_eq (pe_ix ix_tup (pv 0) pe_int (fun _ _ => rfl)) pe_int (nomark _)) (pe_one (pe_cmpR op_eq (pe_ix ix_tup (pv 0) pe_int (fun _ _ => rfl)) pe_int (nomark _)))) pa_nil)))) pa_nil))))))
      , ?_⟩
    have hT : SqT K H t (spec6 s) := SqT.of ht
    have hl : CMul s.late s.drift := .inl ⟨by have := W.late; omega, by have := W.late2; omega⟩
    refine ⟨_, rfl, t, _, _, _, rfl, rfl, hT, s4 s, _, rfl, t, _, _, _, rfl, rfl, hT, s5 s, _, _, rfl, rfl, hl, ?_⟩
    refine ⟨_, rfl, t, _, _, _, rfl, rfl, hT, s1 s, _, _, rfl, rfl, .inr ⟨_, rfl, _, _, rfl, rfl, .inr (b01 _), ?_⟩⟩
    refine ⟨_, rfl, t, _, _, _, rfl, rfl, hT, s2 s, _, rfl, _, _, rfl, rfl, ?_⟩
    refine ⟨_, rfl, t, _, _, _, rfl, rfl, hT, s2 s, _, rfl, _, _, rfl, rfl, ?_⟩
    refine ⟨_, rfl, t, _, _, _, rfl, rfl, hT, s3 s, _, _, rfl, rfl, ?_⟩
    have eo : s.late * s.drift * (if decide ((2 : Int) ≤ (s.sort : Int)) = true then 1 else 0) = oldOf s := by
      unfold oldOf
      by_cases h : 2 ≤ s.sort
      · rw [if_pos (decide_eq_true (by omega)), if_pos h, Int.mul_one]
      · rw [if_neg (fun z => h (by have := of_decide_eq_true z; omega)), if_neg h, Int.mul_zero]
    have fin : ∀ b : Bool, (b = true ↔ s.sort = 1 ∨ s.sort = 3) → ∀ p, H p = none → Q (.ref p) (upd H p (.tup [.int (s.rad + s.late * s.drift * (if decide ((2 : Int) ≤ (s.sort : Int)) = true then 1 else 0)), .int (s.rad + s.late * s.drift * (if decide ((2 : Int) ≤ (s.sort : Int)) = true then 1 else 0) + (s.grain - 1) * (if b = true then 1 else 0))])) := fun b hb p hp => by
      rw [eo]
      have e2 : s.rad + oldOf s + (s.grain - 1) * (if b = true then 1 else 0) = saOf s := by
        unfold saOf
        by_cases h : b = true
        · rw [if_pos h, if_pos (hb.mp h), Int.mul_one]
        · rw [if_neg h, if_neg (fun z => h (hb.mpr z)), Int.mul_zero]
      rw [e2]
      exact q p hp
    refine ⟨_, rfl, t, _, _, _, rfl, rfl, hT, s1 s, rfl, _, rfl, ?_⟩
    refine ite2 (fun c1 => ?_) fun c1 => ?_
    · have c1 : s.sort = 1 := by
        have := of_decide_eq_true c1
        have := V.int.inj this
        omega
      exact .inr ⟨true, rfl, _, _, rfl, rfl, (.inr (b01 _)), _, _, rfl, rfl, by show 2 ≤ sizeLine; decide, fun p hp => fin true ⟨fun _ => .inl c1, fun _ => rfl⟩ p hp⟩
    · have c1 : ¬ s.sort = 1 := fun z => c1 (decide_eq_true (by rw [z]; rfl))
      refine ⟨_, rfl, t, _, _, _, rfl, rfl, hT, s1 s, rfl, ?_⟩
      exact .inr ⟨_, rfl, _, _, rfl, rfl, (.inr (b01 _)), _, _, rfl, rfl, by show 2 ≤ sizeLine; decide, fun p hp => fin _ ⟨fun z => .inr (by have := V.int.inj (of_decide_eq_true z); omega), fun z => decide_eq_true (by rw [z.resolve_left c1]; rfl)⟩ p hp⟩
end
end GR

set_option Elab.async false
set_option linter.all false
set_option maxRecDepth 100000
set_option maxHeartbeats 4000000
namespace GR
open PySem PySem.Spec PyProof.Rows L2
open He (ga ma)
structure MkTx (K : PySem.W.Frag) : Prop where
  g : Mk K (ga K "Gauge") (fGI K)
  c : Mk K (ga K "CoarseGauge") (fCI K)
  l : Mk K (ga K "LateGauge") (fLI K)
  lc : Mk K (ga K "LateCoarseGauge") (fLCI K)
def ord3 {α : Type} (ws : List α) : List α := match ws with
  | [a, b, c] => [b, c, a]
  | _ => []
theorem ord3_rel {zs : List V} {ws : List Value} (h : Vals zs ws) : Vals (ord3 zs) (ord3 ws) := by
  match h with
  | .nil => exact .nil
  | .cons _ .nil => exact .nil
  | .cons _ (.cons _ .nil) => exact .nil
  | .cons a (.cons b (.cons c .nil)) => exact .cons b (.cons c (.cons a .nil))
  | .cons _ (.cons _ (.cons _ (.cons _ _))) => exact .nil
theorem made_same {H H' : Hp} {x dx : Addr} {o : HO} (hx : H x = none) (hdx : H dx = none) (s : SameBut [x] (upd (upd H dx (.own x)) x o) H') : Same H H' := fun b u e => by
  have n1 := ne_of_none e hx
  have n2 := ne_of_none e hdx
  refine s b u ?_ (by simpa using n1)
  rw [upd_ne n1, upd_ne n2]
  exact e
theorem GaugeAt.keep {K : PySem.W.Frag} {H : Hp} {a L : Addr} {s : GSpec} {l l' : List V} (h : GaugeAt K H a s) (hL : H L = some (.lst l)) : GaugeAt K (upd H L (.lst l')) a s := by
  obtain ⟨dx, h⟩ := h
  exact ⟨dx, by rw [upd_ne (ne_of h hL fun z => nomatch z)]; exact h⟩
section
variable {P : Program} {w : World} {K : PySem.W.Frag} {mg : Str → Option Value} {base : Heap} {fdC fdL fdLC : FuncData}
theorem scGg : FnScope ["_law_spec"] ["_law_spec"] (defScope sGauge) := ⟨rfl, rfl, rfl, by decide +kernel, rfl, by decide +kernel, by decide +kernel⟩
theorem d_gauge (G : GF K mg "_law_gauge" sGauge) (B : Bl mg) (T : GTx K mg) (M : MkTx K) (GI : FnR P w K mg base CX0 4 (fGI K) (spGI K 0))
    (CI : FnOk P w K mg base CX0 3 (fCI K) fdC ["self", "name", "radius", "step"] (spCI K)) (kbC : KBn K fdC ["self", "name", "radius", "step"] 3 ["step"] (fun us ws => us ++ ws) (fun vs zs => vs ++ zs))
    (LI : FnOk P w K mg base CX0 3 (fLI K) fdL ["self", "name", "radius", "late", "pace"] (spLI K 2)) (kbL : KBn K fdL ["self", "name", "radius", "late", "pace"] 3 ["late", "pace"] (fun us ws => us ++ ws) (fun vs zs => vs ++ zs))
    (LCI : FnOk P w K mg base CX0 4 (fLCI K) fdLC ["self", "name", "radius", "step", "late", "pace"] (spLCI K)) (kbLC : KBn K fdLC ["self", "name", "radius", "step", "late", "pace"] 3 ["pace", "step", "late"] (fun us ws => us ++ ord3 ws) (fun vs zs => vs ++ ord3 zs)) :
    GDef P w K mg base CX0 6 "_law_gauge" (spGauge K) := by
  refine G.ok scGg (fun vs H Q E h => ?_) (fun _ _ _ _ _ _ us hl => match us, hl with | [_], _ => rfl) (fun f cdv A outer s H vs Q E hr h => ?_)
  · obtain ⟨t, s, rfl, _⟩ := h
    rfl
  · obtain ⟨t, s, rfl, ht, W, q⟩ := h
    have hr4 : Room 4 _ := hr.mono (by decide)
    have gl0 : mg "Gauge" = some (.ref (ga K "Gauge")) := T.glo 0
    have gl1 : mg "CoarseGauge" = some (.ref (ga K "CoarseGauge")) := T.glo 1
    have gl2 : mg "LateGauge" = some (.ref (ga K "LateGauge")) := T.glo 2
    have gl3 : mg "LateCoarseGauge" = some (.ref (ga K "LateCoarseGauge")) := T.glo 3
    refine ⟨_,
      (pss_cons (ps_if (pt_cmpR op_eq (pe_ix ix_tup (pv 0) pe_int (fun _ _ => rfl)) pe_int (nomark _))
        (pss_one (ps_ret (pe_makeK M.c CI hr4 rfl gl1 kbC pass0 (pa_cons (pe_ix ix_tup (pv 0) pe_int (fun _ _ => rfl)) (pa_cons (pe_ix ix_tup (pv 0) pe_int (fun _ _ => rfl)) pa_nil)) (pk_cons (pe_ix ix_tup (pv 0) pe_int (fun _ _ => rfl)) pk_nil))))
        pss_nil)
      (pss_cons (ps_if (pt_cmpR op_eq (pe_ix ix_tup (pv 0) pe_int (fun _ _ => rfl)) pe_int (nomark _))
        (pss_one (ps_ret (pe_makeK M.l LI hr4 rfl gl2 kbL pass0 (pa_cons (pe_ix ix_tup (pv 0) pe_int (fun _ _ => rfl)) (pa_cons (pe_ix ix_tup (pv 0) pe_int (fun _ _ => rfl)) pa_nil)) (pk_cons (pe_ix ix_tup (pv 0) pe_int (fun _ _ => rfl)) (pk_cons (pe_ix ix_tup (pv 0) pe_int (fun _ _ => rfl)) pk_nil)))))
        pss_nil)
      (pss_cons (ps_if (pt_cmpR op_eq (pe_ix ix_tup (pv 0) pe_int (fun _ _ => rfl)) pe_int (nomark _))
        (pss_one (ps_ret (pe_makeK M.lc LCI hr rfl gl3 kbLC pass0 (pa_cons (pe_ix ix_tup (pv 0) pe_int (fun _ _ => rfl)) (pa_cons (pe_ix ix_tup (pv 0) pe_int (fun _ _ => rfl)) pa_nil)) (pk_cons (pe_ix ix_tup (pv 0) pe_int (fun _ _ => rfl)) (pk_cons (pe_ix ix_tup (pv 0) pe_int (fun _ _ => rfl)) (pk_cons (pe_ix ix_tup (pv 0) pe_int (fun _ _ => rfl)) pk_nil))))))
        pss_nil)
      (pss_one (ps_ret (StX.pe_makeR M.g GI hr rfl gl0 pass0 (pa_cons (pe_ix ix_tup (pv 0) pe_int (fun _ _ => rfl)) (pa_cons (pe_ix ix_tup (pv 0) pe_int (fun _ _ => rfl)) pa_nil))))))))
      , ?_⟩
    have hT : SqT K H t (spec6 s) := SqT.of ht
    have cs : ∀ {k : Nat}, decide (V.int (s.sort : Int) = V.int (k : Int)) = true → s.sort = k := fun {k} z => by
      have := V.int.inj (of_decide_eq_true z)
      omega
    have nc : ∀ {k : Nat}, ¬ decide (V.int (s.sort : Int) = V.int (k : Int)) = true → s.sort ≠ k := fun {k} z e => z (decide_eq_true (by rw [e]))
    refine ⟨_, rfl, t, _, _, _, rfl, rfl, hT, s1 s, rfl, _, rfl, ?_⟩
    refine ite2 (fun c1 => ?_) fun c1 => ?_
    · have c1 : s.sort = 1 := cs (k := 1) c1
      refine ⟨_, rfl, t, _, _, _, rfl, rfl, hT, s0 s, _, rfl, t, _, _, _, rfl, rfl, hT, s2 s, _, rfl, t, _, _, _, rfl, rfl, hT, s3 s, rfl, rfl, fun x dx hx hdx hne => ?_⟩
      refine ⟨x, dx, s.name, s.rad, s.grain, rfl, upd_same, W.valid, W.rad, W.grain, fun H' e' hH' => ⟨rfl, q H' x (made_same hx hdx e') ⟨dx, ?_⟩⟩⟩
      rw [hH']
      unfold fOf
      rw [c1]
      rfl
    · have c1 : s.sort ≠ 1 := nc (k := 1) c1
      refine ⟨_, rfl, t, _, _, _, rfl, rfl, hT, s1 s, rfl, _, rfl, ?_⟩
      refine ite2 (fun c2 => ?_) fun c2 => ?_
      · have c2 : s.sort = 2 := cs (k := 2) c2
        refine ⟨_, rfl, t, _, _, _, rfl, rfl, hT, s0 s, _, rfl, t, _, _, _, rfl, rfl, hT, s2 s, _, rfl, t, _, _, _, rfl, rfl, hT, s4 s, _, rfl, t, _, _, _, rfl, rfl, hT, s5 s, rfl, rfl, fun x dx hx hdx hne => ?_⟩
        refine ⟨x, dx, s.name, s.rad, s.late, s.drift, rfl, upd_same, W.valid, W.rad, W.late, W.drift, fun H' e' hH' => ⟨rfl, q H' x (made_same hx hdx e') ⟨dx, ?_⟩⟩⟩
        rw [hH']
        unfold fOf
        rw [c2]
        rfl
      · have c2 : s.sort ≠ 2 := nc (k := 2) c2
        refine ⟨_, rfl, t, _, _, _, rfl, rfl, hT, s1 s, rfl, _, rfl, ?_⟩
        refine ite2 (fun c3 => ?_) fun c3 => ?_
        · have c3 : s.sort = 3 := cs (k := 3) c3
          refine ⟨_, rfl, t, _, _, _, rfl, rfl, hT, s0 s, _, rfl, t, _, _, _, rfl, rfl, hT, s2 s, _, rfl, t, _, _, _, rfl, rfl, hT, s5 s, _, rfl, t, _, _, _, rfl, rfl, hT, s3 s, _, rfl, t, _, _, _, rfl, rfl, hT, s4 s, rfl, rfl, fun x dx hx hdx hne => ?_⟩
          refine ⟨x, dx, s.name, s.rad, s.grain, s.late, s.drift, rfl, upd_same, W.valid, W.rad, W.grain, W.late, W.drift, fun H' e' hH' => ⟨rfl, q H' x (made_same hx hdx e') ⟨dx, ?_⟩⟩⟩
          rw [hH']
          unfold fOf
          rw [c3]
          rfl
        · have c3 : s.sort ≠ 3 := nc (k := 3) c3
          have c0 : s.sort = 0 := by have := W.sort; omega
          refine ⟨_, rfl, t, _, _, _, rfl, rfl, hT, s0 s, _, rfl, t, _, _, _, rfl, rfl, hT, s2 s, fun x dx hx hdx hne => ?_⟩
          refine ⟨x, dx, s.name, s.rad, rfl, upd_same, W.valid, W.rad, fun H' e' hH' => ⟨rfl, q H' x (made_same hx hdx e') ⟨dx, ?_⟩⟩⟩
          rw [hH']
          unfold fOf
          rw [c0]
          rfl
theorem scGz : FnScope ["_law_specs_here", "_law_spec"] ["_law_specs_here"] (defScope sGauges) := ⟨rfl, rfl, rfl, by decide +kernel, rfl, by decide +kernel, by decide +kernel⟩
theorem d_gauges (G : GF K mg "_law_gauges" sGauges) (B : Bl mg) (D_law_gauge : GDef P w K mg base CX0 6 "_law_gauge" (spGauge K)) : GDef P w K mg base CX0 7 "_law_gauges" (spGauges K) := by
  refine G.ok scGz (fun vs H Q E h => ?_) (fun _ _ _ _ _ _ us hl => match us, hl with | [_], _ => rfl) (fun f cdv A outer s H vs Q E hr h => ?_)
  · obtain ⟨L, qs, rfl, _⟩ := h
    rfl
  · obtain ⟨L, qs, rfl, hL, hwf, hlen, q⟩ := h
    refine ⟨_,
      (pss_one (ps_ret (pe_lc (own := [(("_law_spec" : Str), 1)]) (g := gName 1) (tt := tYes) rfl scGz.nd (pi_list (pv 0)) (blkOk_by (own := [(("_law_spec" : Str), 1)]) (N := ["_law_specs_here", "_law_spec"]) (sc := defScope sGauges) (by decide +kernel)) (fun _ _ _ _ _ => pg_name (i := 1) scGz.nd rfl (Or.inl rfl)) (fun _ _ _ _ _ => pts_nil) (fun _ _ _ _ _ => (pe_callG D_law_gauge hr rfl pass0 (pa_cons (pv 1) pa_nil))))))
      , ?_⟩
    refine ⟨_, rfl, L, rfl, ⟨_, SqL.of hL.1⟩, fun D hD => ?_⟩
    refine lc_list (K := K) (a := L) (xs := qs.map fun q => V.ref q.2) (fun i H2 => ∃ gs : List GA, Same H H2 ∧ H2 D = some (.lst (gs.map fun g => V.ref g.2)) ∧ gs.map (·.1) = (qs.take i).map (·.1) ∧ ∀ g ∈ gs, GaugeAt K H2 g.2 g.1)
      ⟨[], same_upd hD, upd_same, rfl, (fun g h => by cases h)⟩ (fun i H2 _ ⟨_, s2, _⟩ => SqL.of (s2 _ _ hL.1)) ?_ ?_
    · rintro i y H2 hy ⟨gs, s2, hD2, hgs, hga⟩
      obtain ⟨x, hx, rfl⟩ := refs_at hy
      have hxm := List.mem_of_getElem? hx
      have etk : qs.take (i + 1) = qs.take i ++ [x] := by rw [List.take_succ, hx]; rfl
      refine ⟨rfl, _, rfl, x.2, x.1, rfl, s2 _ _ (hL.2 x hxm), hwf x hxm, fun H3 p s3 hp => ?_⟩
      have hD3 := s3 _ _ hD2
      have hl : gs.length ≤ 9 := by
        have := congrArg List.length hgs
        rw [List.length_map, List.length_map, List.length_take] at this
        omega
      refine ⟨_, hD3, by rw [List.length_map, sizeLine_eq]; omega, gs ++ [(x.1, p)], same_mut (s2.trans s3) hD, ?_, ?_, fun g hg => ?_⟩
      · rw [upd_same, List.map_append]
        rfl
      · rw [etk, List.map_append, List.map_append, hgs]
        rfl
      · rcases List.mem_append.mp hg with h | h
        · exact ((hga g h).same s3).keep hD3
        · obtain rfl : g = _ := by simpa using h
          exact hp.keep hD3
    · rintro H2 ⟨gs, s2, hD2, hgs, hga⟩
      rw [List.length_map, List.take_length] at hgs
      exact q H2 D gs s2 hD hD2 hgs hga
end
end GR

set_option Elab.async false
set_option linter.all false
set_option maxRecDepth 100000
/-! Sorted texts; lists of texts compared. -/
namespace GR
open PySem PySem.Spec PyProof.Rows L2
theorem rising_pw : ∀ (l : List Str) (p : Str), risingS p l = true → (p :: l).Pairwise (fun a b => a.cps.toList ≤ b.cps.toList)
  | [], p, _ => List.pairwise_singleton _ _
  | x :: r, p, h => by
    have h : (!ltCps x.cps.toList p.cps.toList && risingS x r) = true := h
    rw [Bool.and_eq_true, Bool.not_eq_true', ltCps_eq] at h
    have ih := rising_pw r x h.2
    have hpx : p.cps.toList ≤ x.cps.toList := of_decide_eq_false h.1
    refine List.pairwise_cons.mpr ⟨fun y hy => ?_, ih⟩
    rcases List.mem_cons.mp hy with e | hy
    · rw [e]; exact hpx
    · exact List.le_trans hpx ((List.pairwise_cons.mp ih).1 y hy)
theorem sorted_pw {l : List Str} (h : sortedS l = true) : l.Pairwise (fun a b => a.cps.toList ≤ b.cps.toList) := by
  cases l with
  | nil => exact List.Pairwise.nil
  | cons x r => exact rising_pw r x h
theorem str_ext {a b : Str} (h : a.cps.toList = b.cps.toList) : a = b := by
  obtain ⟨a⟩ := a
  obtain ⟨b⟩ := b
  congr
  exact Array.toList_inj.mp h
theorem sorted_uniq {xs ys zs : List Str} (h1 : ys.Perm xs) (h2 : sortedS ys = true) (g1 : zs.Perm xs) (g2 : sortedS zs = true) : ys = zs :=
  (h1.trans g1.symm).eq_of_pairwise (fun a b _ _ e1 e2 => str_ext (List.le_antisymm e1 e2)) (sorted_pw h2) (sorted_pw g2)
/-- a list of texts as data -/
def datS (ys : List Str) : PyData := .list (ys.map PyData.str)
theorem dpAll_strs {K : PySem.W.Frag} {H : Hp} : ∀ ys : List Str, DpAll K H (ys.map V.str) (ys.map PyData.str)
  | [] => .nil
  | y :: r => .cons (.str y) (dpAll_strs r)
theorem dp_strs {K : PySem.W.Frag} {H : Hp} {a : Addr} {ys : List Str} (h : SqL K H a (ys.map V.str)) : Dp K H (.ref a) (datS ys) := .lst h (dpAll_strs ys)
theorem canLay_strs : ∀ {ys : List Str}, (∀ y ∈ ys, PyData.strOk y = true) → PyData.canLayAll0 (ys.map PyData.str) = true
  | [], _ => by unfold PyData.canLayAll0; rfl
  | y :: r, h => by
    have a := h y List.mem_cons_self
    have b := canLay_strs fun z hz => h z (List.mem_cons_of_mem _ hz)
    show PyData.canLayAll0 (PyData.str y :: r.map PyData.str) = true
    unfold PyData.canLayAll0
    rw [b, Bool.and_true]
    unfold PyData.canLay0
    exact a
theorem depth_strs : ∀ ys : List Str, PyData.depthAll (ys.map PyData.str) = 0
  | [] => by unfold PyData.depthAll; rfl
  | y :: r => by
    show PyData.depthAll (PyData.str y :: r.map PyData.str) = 0
    unfold PyData.depthAll
    rw [depth_strs r]
    unfold PyData.depth
    rfl
theorem shaped_strs {ys : List Str} (h : ∀ y ∈ ys, PyData.strOk y = true) : SeqAt.shaped (datS ys) = true := by
  unfold SeqAt.shaped datS
  rw [Bool.and_eq_true]
  constructor
  · unfold PyData.canLay0
    exact canLay_strs h
  · apply decide_eq_true
    unfold PyData.depth
    rw [depth_strs]
    decide
theorem eqv_strs : ∀ ys : List Str, PyData.eqvAll (ys.map PyData.str) (ys.map PyData.str) = true
  | [] => by unfold PyData.eqvAll; rfl
  | y :: r => by
    show PyData.eqvAll (PyData.str y :: r.map PyData.str) (PyData.str y :: r.map PyData.str) = true
    unfold PyData.eqvAll
    rw [eqv_strs r, Bool.and_true]
    unfold PyData.eqv
    exact beq_self_eq_true y
theorem eqv_same (ys : List Str) : PyData.eqv (datS ys) (datS ys) = true := by
  unfold datS PyData.eqv
  exact eqv_strs ys
theorem letters_small : letters.cps.toList.all (fun c => decide (c < 0x110000)) = true := by decide +kernel
theorem valid_ok {x : Str} (h : Valid x) : PyData.strOk x = true := by
  unfold PyData.strOk
  rw [← Array.all_toList, List.all_eq_true]
  intro c hc
  exact List.all_eq_true.mp letters_small c (h.abc c hc)
end GR

set_option Elab.async false
set_option linter.all false
set_option maxRecDepth 100000
set_option maxHeartbeats 4000000
namespace GR
open PySem PySem.Spec PyProof.Rows L2
open He (ga ma)
theorem old_nn {s : GSpec} (W : Wf s) : 0 ≤ oldOf s := by
  unfold oldOf
  split
  · exact Int.mul_nonneg W.late W.drift
  · exact Int.le_refl _
theorem sb_nn {s : GSpec} (W : Wf s) : 0 ≤ sbOf s := by
  have := old_nn W
  have := W.rad
  unfold sbOf
  omega
theorem sa_nn {s : GSpec} (W : Wf s) : 0 ≤ saOf s := by
  have := old_nn W
  have := W.rad
  have := W.grain
  unfold saOf
  split <;> omega
def FairTo (qs : List GA) (lot : List Str) (X : Int) (f : Str → Int) : Prop := ∀ q ∈ qs, q.1.name ∉ lot → f q.1.name - sbOf q.1 ≤ X ∧ X ≤ f q.1.name + saOf q.1
def spFar (K : PySem.W.Frag) : Sp := fun vs H Q _ => ∃ (Kp D : Addr) (ks ms : List Str) (f : Str → Int), vs = [.ref Kp, .ref D] ∧ SqL K H Kp (ks.map V.str) ∧ 0 < ks.length ∧ ks.length ≤ 9 ∧ H D = some (.dK (kvF ms f)) ∧ (∀ x ∈ ks, x ∈ ms) ∧
  ∀ H' t b d m, Same H H' → H t = none → H' t = some (.tup [.str b, .int d, .int m]) → GM.FarIs ks f b d m → Q (.ref t) H'
def spFair (K : PySem.W.Frag) : Sp := fun vs H Q _ => ∃ (S lt D : Addr) (qs : List GA) (lot : List Str) (X : Int) (f : Str → Int), vs = [.ref S, .ref lt, .int X, .ref D] ∧ SpecsAt H S qs ∧ (∀ q ∈ qs, Wf q.1) ∧ qs.length ≤ 9 ∧ SqL K H lt (lot.map V.str) ∧ H D = some (.dK (kvF (gnames qs) f)) ∧
  FairTo qs lot X f ∧ ∀ H', Same H H' → Q (.bl true) H'
section
variable {P : Program} {w : World} {K : PySem.W.Frag} {mg : Str → Option Value} {base : Heap}
theorem scFa : FnScope ["_law_kept", "_law_readings", "_law_middle", "_law_word_here", "_law_best"] ["_law_kept", "_law_readings"] (defScope sFarthest) := ⟨rfl, rfl, rfl, by decide +kernel, rfl, by decide +kernel, by decide +kernel⟩
theorem d_far (G : GF K mg "_law_farthest" sFarthest) (B : Bl mg) : GDef P w K mg base CX0 1 "_law_farthest" (spFar K) := by
  refine G.ok scFa (fun vs H Q E h => ?_) (fun _ _ _ _ _ _ us hl => match us, hl with | [_, _], _ => rfl) (fun f cdv A outer s H vs Q E hr h => ?_)
  · obtain ⟨Kp, D, ks, ms, f, rfl, _⟩ := h
    rfl
  · obtain ⟨Kp, D, ks, ms, f, rfl, hK, hpos, hlen, hD, hsub, q⟩ := h
    refine ⟨_,
      (pss_cons (ps_set (i := 2) scFa.nd rfl (Or.inl rfl) (pe_ix ix_list (pe_callB cr_sorted (by rfl) B.sorted (by decide +kernel) (pa_cons (pe_lc (own := [(("_law_word_here" : Str), 3)]) (g := gName 3) (tt := tYes) rfl scFa.nd (pi_list (pv 0)) (blkOk_by (own := [(("_law_word_here" : Str), 3)]) (N := ["_law_kept", "_law_readings", "_law_middle", "_law_word_here", "_law_best"]) (sc := defScope sFarthest) (by decide +kernel)) (fun _ _ _ _ _ => pg_name (i := 3) scFa.nd rfl (Or.inl rfl)) (fun _ _ _ _ _ => pts_nil) (fun _ _ _ _ _ => (pe_dget (hu_of hr) (pv 1) (pv 3) (fun _ _ => rfl)))) pa_nil)) (pe_op op_fdiv (pe_op op_sub (pe_callB call_len_seq (by rfl) B.len (by decide +kernel) (pa_cons (pv 0) pa_nil)) pe_int) pe_int) (fun _ _ => rfl)))
      (pss_cons (ps_set (i := 4) scFa.nd rfl (Or.inl rfl) (pe_ix ix_list (pv 0) pe_int (fun _ _ => rfl)))
      (pss_cons (ps_for PassesOwn.never rfl (pi_list (pv 0)) (pg_name (i := 3) scFa.nd rfl (Or.inl rfl))
        (pss_one (ps_if (pt_cmpR op_gt (pe_callB call_abs (by rfl) B.abs (by decide +kernel) (pa_cons (pe_op op_sub (pe_dget (hu_of hr) (pv 1) (pv 3) (fun _ _ => rfl)) (pv 2)) pa_nil)) (pe_callB call_abs (by rfl) B.abs (by decide +kernel) (pa_cons (pe_op op_sub (pe_dget (hu_of hr) (pv 1) (pv 4) (fun _ _ => rfl)) (pv 2)) pa_nil)) (nomark _))
          (pss_one (ps_set (i := 4) scFa.nd rfl (Or.inl rfl) (pv 3)))
          pss_nil)))
      (pss_one (ps_ret (pe_tup (pa_cons (pv 4) (pa_cons (pe_callB call_abs (by rfl) B.abs (by decide +kernel) (pa_cons (pe_op op_sub (pe_dget (hu_of hr) (pv 1) (pv 4) (fun _ _ => rfl)) (pv 2)) pa_nil)) (pa_cons (pv 2) pa_nil)))))))))
      , ?_⟩
    have get : ∀ {x : Str} {H2 : Hp}, x ∈ ks → Same H H2 → DGet H2 D (.str x) (some (.int (f x))) := fun {x H2} hx s2 => .inl ⟨_, Sum.inr x, .inl (s2 _ _ hD), rfl, (valV_kvF (hsub x hx)).symm⟩
    refine ⟨_, rfl, Kp, rfl, ⟨_, hK⟩, fun M hM => ?_⟩
    refine lc_list (K := K) (a := Kp) (xs := ks.map V.str) (fun i H2 => Same H H2 ∧ H2 M = some (.lst (((ks.take i).map f).map V.int))) ⟨same_upd hM, upd_same⟩ (fun i H2 _ ⟨s2, _⟩ => sqL_same hK s2) ?_ ?_
    · rintro i y H2 hy ⟨s2, hM2⟩
      obtain ⟨x, hx, rfl⟩ := strs_at hy
      have etk : ks.take (i + 1) = ks.take i ++ [x] := by rw [List.take_succ, hx]; rfl
      refine ⟨rfl, _, rfl, _, rfl, D, _, rfl, get (List.mem_of_getElem? hx) s2, ?_⟩
      refine ⟨_, hM2, ?_, same_mut s2 hM, ?_⟩
      · rw [List.length_map, List.length_map, List.length_take, sizeLine_eq]
        omega
      · rw [upd_same, etk, List.map_append, List.map_append]
        rfl
    · rintro H2 ⟨s2, hM2⟩
      rw [List.length_map, List.take_length] at hM2
      refine ⟨M, ks.map f, rfl, SqL.of hM2, by rw [List.length_map]; omega, fun vs qv hperm hsort hqv => ?_⟩
      have hvl : vs.length = ks.length := by rw [hperm.length_eq, List.length_map]
      have hkk : (ks.length - 1) / 2 < vs.length := by omega
      obtain ⟨v, hv⟩ : ∃ v, vs[(ks.length - 1) / 2]? = some v := ⟨_, List.getElem?_eq_getElem hkk⟩
      have hidx : (((ks.map V.str).length : Int) - 1) / 2 = (((ks.length - 1) / 2 : Nat) : Int) := by
        rw [List.length_map]
        omega
      have hat : atI (vs.map V.int) ((((ks.map V.str).length : Int) - 1) / 2) = some (V.int v) := by
        rw [hidx]
        exact atI_nat (by rw [List.getElem?_map, hv]; rfl)
      have hmed := GM.sorted_med hperm hsort (by omega) hv
      have s3 : Same H (upd H2 qv (.lst (vs.map V.int))) := same_mut s2 (s2.free hqv)
      refine ⟨_, rfl, Kp, _, rfl, .inl (sqL_same hK s3), _, _, rfl, rfl, _, _, rfl, rfl, ⟨by decide, by decide⟩, qv, _, _, _, rfl, rfl, SqL.of upd_same, hat, ?_⟩
      obtain ⟨b0, hb0⟩ : ∃ b0, ks[0]? = some b0 := ⟨_, List.getElem?_eq_getElem hpos⟩
      refine ⟨_, rfl, Kp, _, _, _, rfl, rfl, sqL_same hK s3, (show atI (ks.map V.str) ((0 : Nat) : Int) = some (.str b0) from atI_nat (by rw [List.getElem?_map, hb0]; rfl)), ?_⟩
      refine ⟨_, rfl, Kp, rfl, ⟨_, sqL_same hK s3⟩, ?_⟩
      refine for_list (K := K) (a := Kp) (xs := ks.map V.str) (fun i σ H2 => ∃ o3 b at_, σ = [some (.ref Kp), some (.ref D), some (.int v), o3, some (.str b)] ∧ Same H H2 ∧ ks[at_]? = some b ∧ (at_ < i ∨ at_ = 0) ∧ (∀ j, j < i → GM.iabs (GM.rOf ks f j - v) ≤ GM.iabs (f b - v)) ∧ (∀ j, j < at_ → GM.iabs (GM.rOf ks f j - v) < GM.iabs (f b - v)))
        ⟨_, b0, 0, rfl, s3, hb0, .inr rfl, fun j hj => absurd hj (by omega), fun j hj => absurd hj (by omega)⟩ (fun i σ H2 _ ⟨_, _, _, _, s2, _⟩ => sqL_same hK s2) ?_ ?_
      · rintro i y σ H4 hy ⟨o3, b, at_, rfl, s4, hb, hlt, h1, h2⟩
        obtain ⟨x, hx, rfl⟩ := strs_at hy
        have hrx := GM.rOf_at (f := f) hx
        refine ⟨_, rfl, _, rfl, D, _, rfl, get (List.mem_of_getElem? hx) s4, _, rfl, _, _, rfl, rfl, _, rfl, _, rfl, _, rfl, D, _, rfl, get (List.mem_of_getElem? hb) s4, _, rfl, _, _, rfl, rfl, _, rfl, _, _, rfl, rfl, _, rfl, ?_⟩
        refine ite2 (fun c => ?_) fun c => ?_
        · have c : GM.iabs (f b - v) < GM.iabs (f x - v) := of_decide_eq_true c
          refine ⟨_, rfl, _, x, i, rfl, s4, hx, .inl (by omega), fun j hj => ?_, fun j hj => ?_⟩
          · by_cases hji : j = i
            · rw [hji, hrx]
              exact Int.le_refl _
            · have := h1 j (by omega)
              omega
          · have := h1 j hj
            omega
        · have c : ¬ GM.iabs (f b - v) < GM.iabs (f x - v) := fun z => c (decide_eq_true z)
          refine ⟨_, b, at_, rfl, s4, hb, hlt.elim (fun z => .inl (by omega)) .inr, fun j hj => ?_, h2⟩
          by_cases hji : j = i
          · rw [hji, hrx]
            omega
          · exact h1 j (by omega)
      · rintro σ H4 ⟨o3, b, at_, rfl, s4, hb, hlt, h1, h2⟩
        rw [List.length_map] at h1
        refine ⟨_, rfl, _, rfl, _, rfl, D, _, rfl, get (List.mem_of_getElem? hb) s4, _, rfl, _, _, rfl, rfl, _, rfl, _, rfl, by show 3 ≤ sizeLine; decide, fun t ht => ?_⟩
        refine q _ t b (GM.iabs (f b - v)) v (s4.trans (same_upd ht)) (s4.free ht) upd_same ⟨at_, hb, hmed, ⟨(List.getElem?_eq_some_iff.mp hb).1, fun j hj => ?_, fun j hj => ?_⟩, rfl⟩
        · rw [GM.rOf_at hb]
          exact h1 j hj
        · rw [GM.rOf_at hb]
          exact h2 j hj
end
end GR

set_option Elab.async false
set_option linter.all false
set_option maxRecDepth 100000
set_option maxHeartbeats 4000000
namespace GR
open PySem PySem.Spec PyProof.Rows L2
open He (ga ma)
theorem gn_valid {qs : List GA} (h : ∀ q ∈ qs, Wf q.1) : ∀ x ∈ gnames qs, Valid x := fun x hx => by
  obtain ⟨q, hq, rfl⟩ := List.mem_map.mp hx
  exact (h q hq).valid
theorem gn_at {qs : List GA} {i : Nat} {q : GA} (h : qs[i]? = some q) : gnames (qs.take (i + 1)) = gnames (qs.take i) ++ [q.1.name] := by
  have e : qs.take (i + 1) = qs.take i ++ [q] := by rw [List.take_succ, h]; rfl
  rw [e]
  unfold gnames
  rw [List.map_append]
  rfl
def spDrops (K : PySem.W.Frag) : Sp := fun vs H Q _ => ∃ (S kp lt t D : Addr) (qs : List GA) (ks lot : List Str) (x : Str) (lim X : Int) (g : Str → Int) (d m : Int), vs = [.ref S, .ref kp, .ref lt, .str x, .int lim, .ref t] ∧ SpecsAt H S qs ∧ (∀ q ∈ qs, Wf q.1) ∧ qs.length ≤ 9 ∧
  SqL K H kp (ks.map V.str) ∧ 0 < ks.length ∧ ks.length ≤ 9 ∧ (∀ x ∈ ks, x ∈ gnames qs) ∧ SqL K H lt (lot.map V.str) ∧ H t = some (.tup [.int X, .ref D]) ∧ H D = some (.dK (kvF (gnames qs) g)) ∧ FairTo qs lot X g ∧ GM.FarIs ks g x d m ∧ lim < d ∧ ∀ H', Same H H' → Q (.bl true) H'
section
variable {P : Program} {w : World} {K : PySem.W.Frag} {mg : Str → Option Value} {base : Heap}
theorem scFr : FnScope ["_law_specs_here", "_law_lot", "_law_spot_here", "_law_readings", "_law_word_here", "_law_spec", "_law_slacks_here", "_law_dial"] ["_law_specs_here", "_law_lot", "_law_spot_here", "_law_readings"] (defScope sFair) := ⟨rfl, rfl, rfl, by decide +kernel, rfl, by decide +kernel, by decide +kernel⟩
theorem d_fair (G : GF K mg "_law_fair" sFair) (B : Bl mg) (D_law_slacks : GDef P w K mg base CX0 1 "_law_slacks" spSlacks) (D_law_whole : GDef P w K mg base CX0 1 "_law_whole" spWhole) : GDef P w K mg base CX0 2 "_law_fair" (spFair K) := by
  refine G.ok scFr (fun vs H Q E h => ?_) (fun _ _ _ _ _ _ us hl => match us, hl with | [_, _, _, _], _ => rfl) (fun f cdv A outer s H vs Q E hr h => ?_)
  · obtain ⟨S, lt, D, qs, lot, X, f, rfl, _⟩ := h
    rfl
  · obtain ⟨S, lt, D, qs, lot, X, f, rfl, hS, hwf, hlen, hl, hD, hfair, q⟩ := h
    refine ⟨_,
      (pss_cons (ps_if (pt_cmpR (op_neD hr.units) (pe_callB cr_sortedS (by rfl) B.sorted (by decide +kernel) (pa_cons (pe_lock (pe_lc (own := [(("_law_word_here" : Str), 4)]) (g := gName 4) (tt := tYes) rfl scFr.nd (pi_keys (pv 3)) (blkOk_by (own := [(("_law_word_here" : Str), 4)]) (N := ["_law_specs_here", "_law_lot", "_law_spot_here", "_law_readings", "_law_word_here", "_law_spec", "_law_slacks_here", "_law_dial"]) (sc := defScope sFair) (by decide +kernel)) (fun _ _ _ _ _ => pg_name (i := 4) scFr.nd rfl (Or.inl rfl)) (fun _ _ _ _ _ => pts_nil) (fun _ _ _ _ _ => (pv 4)))) pa_nil)) (pe_callB cr_sortedS (by rfl) B.sorted (by decide +kernel) (pa_cons (pe_lc (own := [(("_law_spec" : Str), 5)]) (g := gName 5) (tt := tYes) rfl scFr.nd (pi_list (pv 0)) (blkOk_by (own := [(("_law_spec" : Str), 5)]) (N := ["_law_specs_here", "_law_lot", "_law_spot_here", "_law_readings", "_law_word_here", "_law_spec", "_law_slacks_here", "_law_dial"]) (sc := defScope sFair) (by decide +kernel)) (fun _ _ _ _ _ => pg_name (i := 5) scFr.nd rfl (Or.inl rfl)) (fun _ _ _ _ _ => pts_nil) (fun _ _ _ _ _ => (pe_ix (ix_tupK K) (pv 5) pe_int (fun _ _ => rfl)))) pa_nil)) (nomark _))
        (pss_one (ps_ret pe_bl))
        pss_nil)
      (pss_cons (ps_for PassesOwn.never rfl (pi_list (pv 0)) (pg_name (i := 5) scFr.nd rfl (Or.inl rfl))
        (pss_cons (ps_set (i := 6) scFr.nd rfl (Or.inl rfl) (pe_callG D_law_slacks hr rfl pass0 (pa_cons (pv 5) pa_nil)))
        (pss_cons (ps_set (i := 7) scFr.nd rfl (Or.inl rfl) (pe_dget (hu_of hr) (pv 3) (pe_ix ix_tup (pv 5) pe_int (fun _ _ => rfl)) (fun _ _ => rfl)))
        (pss_cons (ps_if (pt_not (pt_val (pe_callG D_law_whole hr rfl pass0 (pa_cons (pv 7) pa_nil))))
          (pss_one (ps_ret pe_bl))
          pss_nil)
        (pss_one (ps_if (PW.pt (pw_and (pt_cmpR op_notIn_seq (pe_ix ix_tup (pv 5) pe_int (fun _ _ => rfl)) (pv 1) (by rfl)) (pw_and1 (pt_not (pt_chain op_le op_le (pe_op op_sub (pv 7) (pe_ix ix_tup (pv 6) pe_int (fun _ _ => rfl))) (pv 2) (pe_op op_add (pv 7) (pe_ix ix_tup (pv 6) pe_int (fun _ _ => rfl))))))))
          (pss_one (ps_ret pe_bl))
          pss_nil))))))
      (pss_one (ps_ret pe_bl))))
      , ?_⟩
    have hgl : (gnames qs).length ≤ 9 := by unfold gnames; rw [List.length_map]; exact hlen
    refine ⟨D, _, hD, trivial, fun od => ?_⟩
    refine ⟨_, rfl, D, od, rfl, .inl ⟨_, upd_same, fun M hM => ?_⟩⟩
    have nDM : D ≠ M := fun z => by rw [← z, upd_same] at hM; cases hM
    have hM0 : H M = none := by rw [upd_ne nDM.symm] at hM; exact hM
    refine lc_it (n := (kvF (gnames qs) f).length) (walk_keys (o := od) (d := D) (kvs := kvF (gnames qs) f)) (fun i H2 => SameBut [D] H H2 ∧ H2 D = some (.frz od (.dK (kvF (gnames qs) f))) ∧ H2 M = some (.lst (((gnames qs).take i).map V.str)))
      ⟨but_new (but_upd (by simp)) hM0, by rw [upd_ne nDM, upd_same], upd_same⟩ (fun i H2 _ ⟨_, h, _⟩ => h) ?_ ?_
    · rintro i y H2 H3 hi ⟨s2, hD2, hM2⟩ ⟨rfl, k, v, hkv, rfl⟩
      obtain ⟨x, hx, rfl⟩ : ∃ x, (gnames qs)[i]? = some x ∧ k = Sum.inr x := by
        unfold kvF at hkv
        rw [List.getElem?_map] at hkv
        cases e : (gnames qs)[i]? with
        | none => rw [e] at hkv; cases hkv
        | some p => rw [e] at hkv; exact ⟨p, rfl, (Prod.mk.inj (Option.some.inj hkv)).1.symm⟩
      have etk : (gnames qs).take (i + 1) = (gnames qs).take i ++ [x] := by rw [List.take_succ, hx]; rfl
      refine ⟨rfl, _, rfl, _, hM2, ?_, but_new s2 hM0, by rw [upd_ne nDM]; exact hD2, ?_⟩
      · rw [List.length_map, List.length_take, sizeLine_eq]
        omega
      · rw [upd_same, etk, List.map_append]
        rfl
    · rintro H2 ⟨s2, hD2, hM2⟩
      rw [kvF_len, List.take_length] at hM2
      refine ⟨hD2, ?_⟩
      have e3 : Same H (upd H2 D (.dK (kvF (gnames qs) f))) := fun b o e => by
        by_cases hb : b = D
        · rw [hb, upd_same, ← hD, ← hb, e]
        · rw [upd_ne hb]
          exact s2 b o e (by simpa using hb)
      have hM3 : (upd H2 D (.dK (kvF (gnames qs) f))) M = some (.lst ((gnames qs).map V.str)) := by rw [upd_ne nDM.symm]; exact hM2
      generalize upd H2 D (.dK (kvF (gnames qs) f)) = H3 at e3 hM3
      refine ⟨M, gnames qs, rfl, SqL.of hM3, by omega, fun ys p hperm hsort hp => ?_⟩
      have e4 := e3.trans (same_upd (o := .lst (ys.map V.str)) hp)
      refine ⟨_, rfl, S, rfl, ⟨_, SqL.of (e4 _ _ hS.1)⟩, fun M2 hM2' => ?_⟩
      have hM20 := e4.free hM2'
      have hpM : p ≠ M2 := fun z => by rw [← z, upd_same] at hM2'; cases hM2'
      refine lc_list (K := K) (a := S) (xs := qs.map fun q => V.ref q.2) (fun i H4 => Same H H4 ∧ H4 p = some (.lst (ys.map V.str)) ∧ H4 M2 = some (.lst ((gnames (qs.take i)).map V.str))) ⟨same_mut e4 hM20, by rw [upd_ne hpM, upd_same], upd_same⟩ (fun i H4 _ ⟨s4, _⟩ => SqL.of (s4 _ _ hS.1)) ?_ ?_
      · rintro i y H4 hy ⟨s4, hp4, hM4⟩
        obtain ⟨x, hx, rfl⟩ := refs_at hy
        refine ⟨rfl, _, rfl, x.2, _, _, _, rfl, rfl, SqT.of (s4 _ _ (hS.2 x (List.mem_of_getElem? hx))), s0 x.1, ?_⟩
        refine ⟨_, hM4, ?_, same_mut s4 hM20, by rw [upd_ne hpM]; exact hp4, ?_⟩
        · rw [List.length_map]
          unfold gnames
          rw [List.length_map, List.length_take, sizeLine_eq]
          omega
        · rw [upd_same, gn_at hx, List.map_append]
          rfl
      · rintro H4 ⟨s4, hp4, hM4⟩
        rw [List.length_map, List.take_length] at hM4
        refine ⟨M2, gnames qs, rfl, SqL.of hM4, by omega, fun zs p2 hperm2 hsort2 hp2 => ?_⟩
        obtain rfl := sorted_uniq hperm hsort hperm2 hsort2
        have hok : ∀ y ∈ ys, PyData.strOk y = true := fun y hy => valid_ok (gn_valid hwf y (hperm.subset hy))
        have e5 := s4.trans (same_upd (o := .lst (ys.map V.str)) hp2)
        refine ⟨datS ys, datS ys, dp_strs (SqL.of (by rw [upd_ne (ne_of_none hp4 hp2)]; exact hp4)), dp_strs (SqL.of upd_same), shaped_strs hok, shaped_strs hok, false, by rw [eqv_same]; rfl, ?_⟩
        refine ⟨_, rfl, S, rfl, ⟨_, SqL.of (e5 _ _ hS.1)⟩, ?_⟩
        refine for_list (K := K) (a := S) (xs := qs.map fun q => V.ref q.2) (fun i σ H5 => ∃ o4 o5 o6 o7, σ = [some (.ref S), some (.ref lt), some (.int X), some (.ref D), o4, o5, o6, o7] ∧ Same H H5) ⟨_, _, _, _, rfl, e5⟩ (fun i σ H5 _ ⟨_, _, _, _, _, s5⟩ => SqL.of (s5 _ _ hS.1)) ?_ ?_
        · rintro i y σ H5 hy ⟨o4, o5, o6, o7, rfl, e6⟩
          obtain ⟨x, hx, rfl⟩ := refs_at hy
          have hxm := List.mem_of_getElem? hx
          have W := hwf x hxm
          have hnm : x.1.name ∈ gnames qs := List.mem_map.mpr ⟨x, hxm, rfl⟩
          refine ⟨_, rfl, x.2, x.1, rfl, e6 _ _ (hS.2 x hxm), W, fun T hT => ?_⟩
          have e7 := e6.trans (same_upd (o := .tup [.int (sbOf x.1), .int (saOf x.1)]) hT)
          have hsp := SqT.of (K := K) (e7 _ _ (hS.2 x hxm))
          have hTT : SqT K (upd H5 T (.tup [.int (sbOf x.1), .int (saOf x.1)])) T [.int (sbOf x.1), .int (saOf x.1)] := SqT.of upd_same
          refine ⟨_, rfl, _, rfl, x.2, _, _, _, rfl, rfl, hsp, s0 x.1, D, _, rfl, .inl ⟨_, Sum.inr x.1.name, .inl (e7 _ _ hD), rfl, (valV_kvF hnm).symm⟩, ?_⟩
          refine ⟨_, rfl, f x.1.name, rfl, _, rfl, ?_⟩
          refine ⟨_, rfl, x.2, _, _, _, rfl, rfl, hsp, s0 x.1, _, rfl, _, _, rfl, .inl (sqL_same hl e7), rfl, flat_strs _, !decide (x.1.name ∈ lot), by rw [inV_str]; cases decide (x.1.name ∈ lot) <;> rfl, ?_⟩
          refine ite2 (fun c1 => ?_) fun c1 => ?_
          · have hnl : x.1.name ∉ lot := by simpa using c1
            obtain ⟨f1, f2⟩ := hfair x hxm hnl
            refine ⟨_, rfl, _, rfl, T, _, _, _, rfl, rfl, hTT, at0, _, _, rfl, rfl, _, rfl, _, _, rfl, rfl, true, congrArg V.bl (decide_eq_true f1), ?_⟩
            exact ⟨_, rfl, _, rfl, T, _, _, _, rfl, rfl, hTT, at1, _, _, rfl, rfl, _, _, rfl, rfl, true, congrArg V.bl (decide_eq_true f2), _, _, _, _, rfl, e7⟩
          · exact ⟨_, _, _, _, rfl, e7⟩
        · rintro σ H5 ⟨o4, o5, o6, o7, rfl, e6⟩
          exact q H5 e6
theorem scDr : FnScope ["_law_specs_here", "_law_kept", "_law_lot", "_law_word_here", "_law_most", "_law_told", "_law_far"] ["_law_specs_here", "_law_kept", "_law_lot", "_law_word_here", "_law_most", "_law_told"] (defScope sDrops) := ⟨rfl, rfl, rfl, by decide +kernel, rfl, by decide +kernel, by decide +kernel⟩
theorem d_drops (G : GF K mg "_law_drops" sDrops) (B : Bl mg) (D_law_fair : GDef P w K mg base CX0 2 "_law_fair" (spFair K)) (D_law_farthest : GDef P w K mg base CX0 2 "_law_farthest" (spFar K)) : GDef P w K mg base CX0 3 "_law_drops" (spDrops K) := by
  refine G.ok scDr (fun vs H Q E h => ?_) (fun _ _ _ _ _ _ us hl => match us, hl with | [_, _, _, _, _, _], _ => rfl) (fun f cdv A outer s H vs Q E hr h => ?_)
  · obtain ⟨S, kp, lt, t, D, qs, ks, lot, x, lim, X, g, d, m, rfl, _⟩ := h
    rfl
  · obtain ⟨S, kp, lt, t, D, qs, ks, lot, x, lim, X, g, d, m, rfl, hS, hwf, hlen, hk, hkp, hkl, hks, hl, ht, hD, hfair, hfar, hlt, q⟩ := h
    refine ⟨_,
      (pss_cons (ps_if (PW.pt (pw_or (pt_not (pt_val (pe_callB call_isi (by rfl) B.isinstance (by decide +kernel) (pa_cons (pv 5) (pa_cons (pe_bltn (v := .ty "tuple") (by rfl) B.tuple (by decide +kernel) rfl) pa_nil))))) (pw_or1 (pt_not (pt_val (pe_callG D_law_fair hr rfl pass0 (pa_cons (pv 0) (pa_cons (pv 2) (pa_cons (pe_ix ix_tup (pv 5) pe_int (fun _ _ => rfl)) (pa_cons (pe_ix ix_tup (pv 5) pe_int (fun _ _ => rfl)) pa_nil))))))))))
        (pss_one (ps_ret pe_bl))
        pss_nil)
      (pss_cons (ps_set (i := 6) scDr.nd rfl (Or.inl rfl) (pe_callG D_law_farthest hr rfl pass0 (pa_cons (pv 1) (pa_cons (pe_ix ix_tup (pv 5) pe_int (fun _ _ => rfl)) pa_nil))))
      (pss_one (ps_ret (pe_and (pe_cmpR op_eq (pe_ix ix_tup (pv 6) pe_int (fun _ _ => rfl)) (pv 3) (nomark _)) (pe_one (pe_cmpR op_gt (pe_ix ix_tup (pv 6) pe_int (fun _ _ => rfl)) (pv 4) (nomark _))))))))
      , ?_⟩
    refine ⟨_, rfl, _, _, .type "tuple", .type "tuple", true, rfl, .ty _, .base (.tup ht), kit_ty (by decide +kernel), _, rfl, ?_⟩
    refine ⟨_, rfl, _, rfl, _, rfl, t, _, _, _, rfl, rfl, SqT.of ht, at0, _, rfl, t, _, _, _, rfl, rfl, SqT.of ht, at1, S, lt, D, qs, lot, X, g, rfl, hS, hwf, hlen, hl, hD, hfair, fun H1 e1 => ?_⟩
    refine ⟨_, rfl, ?_⟩
    refine ⟨_, rfl, _, rfl, t, _, _, _, rfl, rfl, SqT.of (e1 _ _ ht), at1, kp, D, ks, gnames qs, g, rfl, sqL_same hk e1, hkp, hkl, e1 _ _ hD, hks, fun H2 t2 b d' m' e2 _ ht2 hfar2 => ?_⟩
    obtain ⟨rfl, rfl, rfl⟩ := hfar2.uniq hfar
    refine ⟨_, rfl, t2, _, _, _, rfl, rfl, SqT.of ht2, (show atI [V.str b, V.int d', V.int m'] 0 = some (.str b) from rfl), _, rfl, rfl, _, rfl, ?_⟩
    refine ite2 (fun c => ?_) fun c => absurd (decide_eq_true rfl) c
    refine ⟨_, rfl, t2, _, _, _, rfl, rfl, SqT.of ht2, (show atI [V.str b, V.int d', V.int m'] 1 = some (.int d') from rfl), _, rfl, _, _, rfl, rfl, ?_⟩
    have e : decide (lim < d') = true := decide_eq_true hlt
    show Q (.bl (decide (lim < d'))) H2
    rw [e]
    exact q H2 (e1.trans e2)
end
end GR

set_option Elab.async false
set_option linter.all false
set_option maxRecDepth 100000
set_option maxHeartbeats 4000000
namespace GR
open PySem PySem.Spec PyProof.Rows L2
open He (ga ma)
def spSteep : Sp := fun vs H Q _ => ∃ (b C S lt : Addr) (qs : List GA) (lot : List Str) (X : Int), vs = [.ref b, .ref S, .ref lt, .int X] ∧ BoxAt H b C ∧ SpecsAt H S qs ∧ (∀ q ∈ qs, Wf q.1) ∧ (gnames qs).Nodup ∧ 0 < qs.length ∧ qs.length ≤ 9 ∧ H lt = some (.lst (lot.map V.str)) ∧ lt ≠ b ∧ S ≠ b ∧ (∀ x ∈ lot, x ∈ gnames qs) ∧
  ∀ H' D f, SameBut [b] H H' → BoxAt H' b C → H D = none → H' D = some (.dK (kvF (gnames qs) f)) → FairTo qs lot X f → Q (.ref D) H'
section
variable {P : Program} {w : World} {K : PySem.W.Frag} {mg : Str → Option Value} {base : Heap}
theorem scSt : FnScope ["_law_box_here", "_law_specs_here", "_law_lot", "_law_spot_here", "_law_readings", "_law_spec", "_law_slacks_here", "_law_others", "_law_word_here"] ["_law_box_here", "_law_specs_here", "_law_lot", "_law_spot_here"] (defScope sSteep) := ⟨rfl, rfl, rfl, by decide +kernel, rfl, by decide +kernel, by decide +kernel⟩
theorem d_steep (G : GF K mg "_law_steep" sSteep) (B : Bl mg) (D_law_take : GDef P w K mg base CX0 1 "_law_take" spTake) (D_law_slacks : GDef P w K mg base CX0 1 "_law_slacks" spSlacks) : GDef P w K mg base CX0 2 "_law_steep" spSteep := by
  refine G.ok scSt (fun vs H Q E h => ?_) (fun _ _ _ _ _ _ us hl => match us, hl with | [_, _, _, _], _ => rfl) (fun f cdv A outer s H vs Q E hr h => ?_)
  · obtain ⟨b, C, S, lt, qs, lot, X, rfl, _⟩ := h
    rfl
  · obtain ⟨b, C, S, lt, qs, lot, X, rfl, hb, hS, hwf, nd, hpos, hlen, hlt, nlb, nSb, hls, q⟩ := h
    refine ⟨_,
      (pss_cons (ps_set (i := 4) scSt.nd rfl (Or.inr rfl) pe_dnewK)
      (pss_cons (ps_for PassesOwn.never rfl (pi_list (pv 1)) (pg_name (i := 5) scSt.nd rfl (Or.inl rfl))
        (pss_cons (ps_set (i := 6) scSt.nd rfl (Or.inl rfl) (pe_callG D_law_slacks hr rfl pass0 (pa_cons (pv 5) pa_nil)))
        (pss_one (ps_dput (hu_of hr) (pv 4) (pe_ix ix_tup (pv 5) pe_int (fun _ _ => rfl)) (pe_ix ix_list (pe_lst (pa_cons (pe_op op_sub (pv 3) (pe_ix ix_tup (pv 6) pe_int (fun _ _ => rfl))) (pa_cons (pe_op op_add (pv 3) (pe_ix ix_tup (pv 6) pe_int (fun _ _ => rfl))) (pa_cons (pv 3) pa_nil)))) (pe_callG D_law_take hr rfl pass0 (pa_cons (pv 0) (pa_cons pe_int pa_nil))) (fun _ _ => rfl)) rfl))))
      (pss_cons (ps_setLc (i := 7) (own := [(("_law_spec" : Str), 5)]) (g := gName 5) (tt := tYes) rfl scSt.nd rfl rfl (sw_true rfl rfl rfl (by decide +kernel)) (pi_list (pv 1)) (blkOk_by (own := [(("_law_spec" : Str), 5)]) (N := ["_law_box_here", "_law_specs_here", "_law_lot", "_law_spot_here", "_law_readings", "_law_spec", "_law_slacks_here", "_law_others", "_law_word_here"]) (sc := defScope sSteep) (by decide +kernel)) (fun _ _ _ _ _ => pg_name (i := 5) scSt.nd rfl (Or.inl rfl)) (fun _ _ _ _ _ => pts_nil) (fun _ _ _ _ _ => (pe_dget (hu_of hr) (pv 4) (pe_ix (ix_tupK K) (pv 5) pe_int (fun _ _ => rfl)) (fun _ _ => rfl))))
      (pss_cons (ps_for PassesOwn.never rfl (pi_list (pv 2)) (pg_name (i := 8) scSt.nd rfl (Or.inl rfl))
        (pss_one (ps_dput (hu_of hr) (pv 4) (pv 8) (pe_ix ix_list (pv 7) (pe_callG D_law_take hr rfl pass0 (pa_cons (pv 0) (pa_cons (pe_callB call_len_seq (by rfl) B.len (by decide +kernel) (pa_cons (pv 7) pa_nil)) pa_nil))) (fun _ _ => rfl)) rfl)))
      (pss_one (ps_ret (pv 4)))))))
      , ?_⟩
    have hgl : (gnames qs).length ≤ 9 := by unfold gnames; rw [List.length_map]; exact hlen
    have hqb : ∀ x ∈ qs, x.2 ≠ b := fun x hx => by
      obtain ⟨cs, p, d, z, g1, _⟩ := hb
      exact ne_of (hS.2 x hx) g1 fun z => nomatch z
    intro D hD
    have nbD := box_ne hb hD
    have nCD := box_neC hb hD
    have s1 : SameBut [b] H (upd H D (.dK [])) := fun x o e _ => same_upd hD x o e
    refine ⟨_, rfl, S, rfl, ⟨_, SqL.of (s1 _ _ hS.1 (by simpa using nSb))⟩, ?_⟩
    refine for_list (K := K) (a := S) (xs := qs.map fun q => V.ref q.2) (fun i σ H2 => ∃ o5 o6 f, σ = [some (.ref b), some (.ref S), some (.ref lt), some (.int X), some (.ref D), o5, o6, none, none] ∧ SameBut [b] H H2 ∧ BoxAt H2 b C ∧ H2 D = some (.dK (kvF (gnames (qs.take i)) f)) ∧
      ∀ q ∈ qs.take i, f q.1.name - sbOf q.1 ≤ X ∧ X ≤ f q.1.name + saOf q.1)
      ⟨_, _, fun _ => 0, rfl, s1, hb.put nbD nCD, upd_same, (fun q h => by cases h)⟩ (fun i σ H2 _ ⟨_, _, _, _, s2, _⟩ => SqL.of (s2 _ _ hS.1 (by simpa using nSb))) ?_ ?_
    · rintro i y σ H2 hy ⟨o5, o6, f, rfl, s2, hb2, hD2, hf⟩
      obtain ⟨x, hx, rfl⟩ := refs_at hy
      have hxm := List.mem_of_getElem? hx
      have W := hwf x hxm
      have etk : qs.take (i + 1) = qs.take i ++ [x] := by rw [List.take_succ, hx]; rfl
      have hnew : x.1.name ∉ gnames (qs.take i) := by
        have nd2 := nd.sublist (show (gnames (qs.take (i + 1))).Sublist (gnames qs) from (List.take_sublist _ _).map _)
        rw [gn_at hx, List.nodup_append] at nd2
        exact fun hm => nd2.2.2 _ hm _ (by simp) rfl
      have hx2 : x.2 ∉ [b] := by simpa using hqb x hxm
      refine ⟨_, rfl, x.2, x.1, rfl, s2 _ _ (hS.2 x hxm) hx2, W, fun T hT => ?_⟩
      have s3 : SameBut [b] H (upd H2 T (.tup [.int (sbOf x.1), .int (saOf x.1)])) := but_new s2 (but_freeB s2 hb2 hT)
      have hb3 := hb2.same (same_upd (o := .tup [.int (sbOf x.1), .int (saOf x.1)]) hT)
      have hTT : SqT K (upd H2 T (.tup [.int (sbOf x.1), .int (saOf x.1)])) T [.int (sbOf x.1), .int (saOf x.1)] := SqT.of upd_same
      have hD3 : (upd H2 T (.tup [.int (sbOf x.1), .int (saOf x.1)])) D = some (.dK (kvF (gnames (qs.take i)) f)) := by rw [upd_ne (ne_of_none hD2 hT)]; exact hD2
      refine ⟨_, rfl, _, rfl, T, _, _, _, rfl, rfl, hTT, at1, _, _, rfl, rfl, _, rfl, _, rfl, T, _, _, _, rfl, rfl, hTT, at0, _, _, rfl, rfl, _, rfl, by show 3 ≤ sizeLine; decide, fun L hL => ?_⟩
      have nbL := box_ne hb3 hL
      have nDL : D ≠ L := ne_of_none hD3 hL
      have hL0 := but_freeB s3 hb3 hL
      refine ⟨_, rfl, b, C, 3, rfl, hb3.same (same_upd hL), by decide, by decide, fun H4 r e4 hb4 hr0 hr1 => ?_⟩
      have hL4 : H4 L = some (.lst (([X - saOf x.1, X + sbOf x.1, X] : List Int).map V.int)) := e4 _ _ upd_same (by simpa using nbL.symm)
      obtain ⟨v, hvm, hat⟩ := atInts (ns := [X - saOf x.1, X + sbOf x.1, X]) hr0 (by simpa using hr1)
      have hv : v - sbOf x.1 ≤ X ∧ X ≤ v + saOf x.1 := by
        have h1 := sb_nn W
        have h2 := sa_nn W
        have : v = X - saOf x.1 ∨ v = X + sbOf x.1 ∨ v = X := by simpa using hvm
        omega
      have s4 : SameBut [b] H H4 := fun z o e n => e4 z o (but_new s3 hL0 z o e n) n
      have hD4 : H4 D = some (.dK (kvF (gnames (qs.take i)) f)) := e4 _ _ (by rw [upd_ne nDL]; exact hD3) (by simpa using nbD.symm)
      refine ⟨L, _, _, _, rfl, rfl, SqL.of hL4, hat, _, rfl, _, rfl, x.2, _, _, _, rfl, rfl, SqT.of (s4 _ _ (hS.2 x hxm) hx2), s0 x.1, ?_⟩
      have hgt : (gnames (qs.take i)).length ≤ 9 := by
        unfold gnames
        rw [List.length_map, List.length_take]
        omega
      refine ⟨D, _, rfl, .inl ⟨_, Sum.inr x.1.name, hD4, rfl, by rw [kvF_len, sizeLine_eq]; omega, rfl⟩, ?_⟩
      refine ⟨_, _, fun y => if y = x.1.name then v else f y, rfl, but_new s4 hD, hb4.put nbD nCD, ?_, fun p hp => ?_⟩
      · rw [upd_same, gn_at hx, ← putK_kvF_new (f := fun y => if y = x.1.name then v else f y) hnew, kvF_congr (f := f) (g := fun y => if y = x.1.name then v else f y) (fun y hy => by
          show f y = if y = x.1.name then v else f y
          rw [if_neg (fun e => hnew (by rw [← e]; exact hy))])]
        show _ = some (HO.dK (putK _ _ (.int (if x.1.name = x.1.name then v else f x.1.name))))
        rw [if_pos rfl]
      · rw [etk] at hp
        rcases List.mem_append.mp hp with h | h
        · have : p.1.name ≠ x.1.name := fun e => hnew (by rw [← e]; exact List.mem_map.mpr ⟨p, h, rfl⟩)
          show (if p.1.name = x.1.name then v else f p.1.name) - _ ≤ X ∧ X ≤ (if p.1.name = x.1.name then v else f p.1.name) + _
          rw [if_neg this]
          exact hf p h
        · obtain rfl : p = x := by simpa using h
          show (if p.1.name = p.1.name then v else f p.1.name) - _ ≤ X ∧ X ≤ (if p.1.name = p.1.name then v else f p.1.name) + _
          rw [if_pos rfl]
          exact hv
    · rintro σ H2 ⟨o5, o6, f, rfl, s2, hb2, hD2, hf⟩
      rw [List.length_map, List.take_length] at hD2 hf
      refine ⟨_, rfl, S, rfl, ⟨_, SqL.of (s2 _ _ hS.1 (by simpa using nSb))⟩, fun M hM => ?_⟩
      have nbM := box_ne hb2 hM
      have hM0 := but_freeB s2 hb2 hM
      refine lc_list (K := K) (a := S) (xs := qs.map fun q => V.ref q.2) (fun i H3 => Same H2 H3 ∧ H3 M = some (.lst (((qs.take i).map fun q => f q.1.name).map V.int))) ⟨same_upd hM, upd_same⟩ (fun i H3 _ ⟨s3, _⟩ => SqL.of (s3 _ _ (s2 _ _ hS.1 (by simpa using nSb)))) ?_ ?_
      · rintro i y H3 hy ⟨s3, hM3⟩
        obtain ⟨x, hx, rfl⟩ := refs_at hy
        have hxm := List.mem_of_getElem? hx
        have etk : qs.take (i + 1) = qs.take i ++ [x] := by rw [List.take_succ, hx]; rfl
        have hnm : x.1.name ∈ gnames qs := List.mem_map.mpr ⟨x, hxm, rfl⟩
        refine ⟨rfl, _, rfl, _, rfl, x.2, _, _, _, rfl, rfl, SqT.of (s3 _ _ (s2 _ _ (hS.2 x hxm) (by simpa using hqb x hxm))), s0 x.1, D, _, rfl, .inl ⟨_, Sum.inr x.1.name, .inl (s3 _ _ hD2), rfl, (valV_kvF hnm).symm⟩, ?_⟩
        refine ⟨_, hM3, ?_, same_mut s3 hM, ?_⟩
        · rw [List.length_map, List.length_map, List.length_take, sizeLine_eq]
          omega
        · rw [upd_same, etk, List.map_append, List.map_append]
          rfl
      · rintro H3 ⟨s3, hM3⟩
        rw [List.length_map, List.take_length] at hM3
        have s03 : SameBut [b] H H3 := fun z o e n => s3 _ _ (s2 z o e n)
        have hb3 := hb2.same s3
        refine ⟨_, rfl, lt, rfl, ⟨_, SqL.of (s03 _ _ hlt (by simpa using nlb))⟩, ?_⟩
        refine for_list (K := K) (a := lt) (xs := lot.map V.str) (fun i σ H4 => ∃ o8 f2, σ = [some (.ref b), some (.ref S), some (.ref lt), some (.int X), some (.ref D), o5, o6, some (.ref M), o8] ∧ SameBut [b] H H4 ∧ BoxAt H4 b C ∧ H4 D = some (.dK (kvF (gnames qs) f2)) ∧ H4 M = some (.lst ((qs.map fun q => f q.1.name).map V.int)) ∧ FairTo qs lot X f2)
          ⟨_, f, rfl, s03, hb3, s3 _ _ hD2, hM3, fun p hp _ => hf p hp⟩ (fun i σ H4 _ ⟨_, _, _, s4, _⟩ => SqL.of (s4 _ _ hlt (by simpa using nlb))) ?_ ?_
        · rintro i y σ H4 hy ⟨o8, f2, rfl, s4, hb4, hD4, hM4, hf2⟩
          obtain ⟨x, hx, rfl⟩ := strs_at hy
          have hxl := List.mem_of_getElem? hx
          refine ⟨_, rfl, _, rfl, _, rfl, M, _, rfl, .inl (SqL.of hM4), b, C, _, rfl, hb4, ?_, ?_, fun H5 r e5 hb5 hr0 hr1 => ?_⟩
          · rw [List.length_map, List.length_map]
            omega
          · rw [List.length_map, List.length_map]
            omega
          · have hM5 := e5 _ _ hM4 (by simpa using nbM.symm)
            have hD5 := e5 _ _ hD4 (by simpa using nbD.symm)
            obtain ⟨v, _, hat⟩ := atInts (ns := qs.map fun q => f q.1.name) hr0 (by simpa using hr1)
            have s5 := but_trans s4 e5
            have nMD : M ≠ D := ne_of hM5 hD5 fun z => nomatch z
            refine ⟨M, _, _, _, rfl, rfl, SqL.of hM5, hat, _, rfl, _, rfl, D, _, rfl, .inl ⟨_, Sum.inr x, hD5, rfl, by rw [kvF_len, sizeLine_eq]; omega, rfl⟩, ?_⟩
            refine ⟨_, fun y => if y = x then v else f2 y, rfl, but_new s5 hD, hb5.put nbD nCD, by rw [upd_same, putK_kvF (hls x hxl)], by rw [upd_ne nMD]; exact hM5, fun p hp hnl => ?_⟩
            have : p.1.name ≠ x := fun e => hnl (by rw [e]; exact hxl)
            show (if p.1.name = x then v else f2 p.1.name) - _ ≤ X ∧ X ≤ (if p.1.name = x then v else f2 p.1.name) + _
            rw [if_neg this]
            exact hf2 p hp hnl
        · rintro σ H4 ⟨o8, f2, rfl, s4, hb4, hD4, hM4, hf2⟩
          exact ⟨_, rfl, q H4 D f2 s4 hb4 hD hD4 hf2⟩
end
end GR

set_option Elab.async false
set_option linter.all false
set_option maxRecDepth 100000
/-! What the law asks, plain: a case that drops the name; no case beyond its reach. -/
namespace GR
open PySem
open GM
theorem isMed_congr {r r' : Nat → Int} {m : Nat} {k v : Int} (h : ∀ j, j < m → r j = r' j) (i : IsMed r m k v) : IsMed r' m k v := by
  have e1 : cnt (below r v) m = cnt (below r' v) m := cnt_congr fun j hj => by unfold below; rw [h j hj]
  have e2 : cnt (upto r v) m = cnt (upto r' v) m := cnt_congr fun j hj => by unfold upto; rw [h j hj]
  unfold IsMed at i ⊢
  rw [← e1, ← e2]
  exact i
theorem firstFar_congr {r r' : Nat → Int} {m at_ : Nat} {v : Int} (h : ∀ j, j < m → r j = r' j) (i : FirstFar r m v at_) : FirstFar r' m v at_ := by
  obtain ⟨h1, h2, h3⟩ := i
  refine ⟨h1, fun j hj => ?_, fun j hj => ?_⟩
  · rw [← h j hj, ← h at_ h1]
    exact h2 j hj
  · rw [← h j (by omega), ← h at_ h1]
    exact h3 j hj
theorem fairTo_congr {qs gs : List GA} {lot : List Str} {X : Int} {f : Str → Int} (e : gs.map (·.1) = qs.map (·.1)) (h : FairTo gs lot X f) : FairTo qs lot X f := fun q hq hl => by
  have : q.1 ∈ gs.map (·.1) := by rw [e]; exact List.mem_map.mpr ⟨q, hq, rfl⟩
  obtain ⟨p, hp, ep⟩ := List.mem_map.mp this
  have := h p hp (by rw [ep]; exact hl)
  rw [ep] at this
  exact this
section
variable {gs : List GA} {lot ns : List Str} {n : Nat} {x : Str}
theorem good_ds (nd : (gnames gs).Nodup) (hwf : ∀ p ∈ gs, Wf p.1) : ∀ d ∈ ns.map (gdOf gs lot), GoodG d := fun d hd => by
  obtain ⟨y, hy, rfl⟩ := List.mem_map.mp hd
  unfold gdOf
  split
  · trivial
  · cases e : gs.find? fun p => decide (p.1.name = y) with
    | none => trivial
    | some p =>
      have := hwf p (List.mem_of_find?_eq_some e)
      exact ⟨sb_nn this, sa_nn this⟩
theorem gd_at {j : Nat} {y : Str} (h : ns[j]? = some y) : gd (ns.map (gdOf gs lot)) j = gdOf gs lot y := by
  unfold gd
  rw [List.getD, List.getElem?_map, h]
  rfl
theorem gd_name (nd : (gnames gs).Nodup) {q : GA} (hq : q ∈ gs) (hl : q.1.name ∉ lot) : gdOf gs lot q.1.name = some (sbOf q.1, saOf q.1) := by
  unfold gdOf
  rw [if_neg hl, find_of nd hq]
  rfl
theorem law_drop (nd : (gnames gs).Nodup) (hwf : ∀ p ∈ gs, Wf p.1) (hnd : ns.Nodup) (hx : ns[n]? = some x) (hxg : x ∈ gnames gs) (hxl : x ∉ lot) {lim X : Int} {g : Str → Int} (hlim : 0 ≤ lim)
    (hlow : ∀ d, reachOf gs ns lot n = some d → lim < d) (hc : CaseIs gs ns lot n lim X g) : FairTo gs lot X g ∧ ∃ d m, FarIs ns g x d m ∧ lim < d := by
  have hnl : n < ns.length := (List.getElem?_eq_some_iff.mp hx).1
  have good := good_ds (ns := ns) (lot := lot) nd hwf
  obtain ⟨c1, c2, c3⟩ := hc
  unfold reachOf at hlow
  unfold bstOf at c1 c2
  generalize hb : bestTop (ns.map (gdOf gs lot)) n = bt at hlow c1 c2
  obtain ⟨d, b, sg, o⟩ := bt
  have hcond : b = false ∨ d ≠ 0 := by
    cases b with
    | false => exact .inl rfl
    | true =>
      right
      have := hlow d rfl
      omega
  obtain ⟨l, rfl, hsg, hd, F, hbey⟩ := bestTop_down hb hcond
  generalize hl' : lvOf (d, b, sg, some l) lim = l' at c1 c2
  have c1 : X = sg * l' := c1
  have c2 : ∀ (j : Nat) y, ns[j]? = some y → g y = caseR (ns.map (gdOf gs lot)) n sg l' j := c2
  have hF' : Feas ((ns.map (gdOf gs lot)).map (spanOf sg)) (placeOf (ns.map (gdOf gs lot)).length sg) n l' ∧ lim < rch ((ns.map (gdOf gs lot)).map (spanOf sg)) n l' := by
    cases b with
    | true =>
      have e : l' = l := hl'.symm
      subst e
      have := hlow d rfl
      exact ⟨F, by rw [← hd]; exact this⟩
    | false =>
      have e : l' = l + (lim + 1) := hl'.symm
      have eb := hbey rfl
      have hbp : 1 ≤ beyond ((ns.map (gdOf gs lot)).map (spanOf sg)) := by
        have := sumW_nn ((ns.map (gdOf gs lot)).map (spanOf sg))
        unfold beyond
        omega
      have hh := (good_map (sign := sg) good n).2
      refine ⟨feas_far (good_map good) (x := l) (by omega) (by omega) F, ?_⟩
      unfold rch
      omega
  have hat : n < (ns.map (gdOf gs lot)).length := by rw [List.length_map]; exact hnl
  obtain ⟨hfair, hmed, hff, habs⟩ := case_down good hat hsg hF'.1
  have hr : ∀ j, j < (ns.map (gdOf gs lot)).length → caseR (ns.map (gdOf gs lot)) n sg l' j = rOf ns g j := fun j hj => by
    rw [List.length_map] at hj
    rw [rOf_at (List.getElem?_eq_getElem hj)]
    exact (c2 j _ (List.getElem?_eq_getElem hj)).symm
  constructor
  · intro q hq hql
    by_cases hm : q.1.name ∈ ns
    · obtain ⟨j, hj, ej⟩ := List.mem_iff_getElem.mp hm
      have hjs : ns[j]? = some q.1.name := by rw [List.getElem?_eq_getElem hj, ej]
      have := hfair j (sbOf q.1) (saOf q.1) (by rw [List.length_map]; exact hj) (by rw [gd_at hjs, gd_name nd hq hql])
      rw [← c2 j _ hjs, ← c1] at this
      exact this
    · rw [c3 _ hm]
      have := sb_nn (hwf q hq)
      have := sa_nn (hwf q hq)
      omega
  · have hm2 := isMed_congr hr hmed
    have hf2 := firstFar_congr hr hff
    rw [List.length_map] at hm2 hf2
    refine ⟨_, 0, ⟨n, hx, hm2, hf2, rfl⟩, ?_⟩
    have e : g x = caseR (ns.map (gdOf gs lot)) n sg l' n := c2 n x hx
    rw [e, habs]
    exact hF'.2
theorem law_up (nd : (gnames gs).Nodup) (hwf : ∀ p ∈ gs, Wf p.1) (hnd : ns.Nodup) (hx : ns[n]? = some x) (hxg : x ∈ gnames gs) (hxl : x ∉ lot) (hsub : ∀ y ∈ ns, y ∈ gnames gs) {X d m dd : Int} {f : Str → Int}
    (hr : reachOf gs ns lot n = some dd) (hf : FairTo gs lot X f) (hfar : FarIs ns f x d m) : d ≤ dd := by
  have hnl : n < ns.length := (List.getElem?_eq_some_iff.mp hx).1
  have good := good_ds (ns := ns) (lot := lot) nd hwf
  obtain ⟨at_, h1, h2, h3, h4⟩ := hfar
  have hat : at_ = n := (List.getElem?_inj h3.1 hnd).mp (by rw [h1, hx])
  subst hat
  unfold reachOf at hr
  generalize hb : bestTop (ns.map (gdOf gs lot)) at_ = bt at hr
  obtain ⟨d', b, sg, o⟩ := bt
  cases b with
  | false => cases hr
  | true =>
    have e : d' = dd := Option.some.inj hr
    subst e
    obtain ⟨p, hp, hpx, hgd⟩ := gd_hon nd hxg hxl
    have hfair : Fair (ns.map (gdOf gs lot)) (rOf ns f) X := fun j sb sa hj hg => by
      rw [List.length_map] at hj
      have hjs : ns[j]? = some ns[j] := List.getElem?_eq_getElem hj
      rw [gd_at hjs] at hg
      have hnl : ns[j] ∉ lot := fun hm => by
        unfold gdOf at hg
        rw [if_pos hm] at hg
        cases hg
      obtain ⟨q, hq, hqn⟩ := List.mem_map.mp (hsub _ (List.getElem_mem hj))
      rw [← hqn, gd_name nd hq (by rw [hqn]; exact hnl)] at hg
      have e := Option.some.inj hg
      have := hf q hq (by rw [hqn]; exact hnl)
      rw [rOf_at hjs, ← hqn, ← (Prod.mk.inj e).1, ← (Prod.mk.inj e).2]
      exact this
    have := case_up good (by rw [List.length_map]; exact hnl) (by rw [gd_at hx, hgd]) hfair (by rw [List.length_map]; exact h2) (by rw [List.length_map]; exact h3) hb
    rw [rOf_at hx] at this
    omega
end
end GR

set_option Elab.async false
set_option linter.all false
set_option maxRecDepth 100000
set_option maxHeartbeats 8000000
namespace GR
open PySem PySem.Spec PyProof.Rows L2
open He (ga ma)
def spLaw (K : PySem.W.Frag) : Sp := fun vs H Q _ => ∃ (a : Addr) (cs : List Int), vs = [.ref a] ∧ SqL K H a (cs.map V.int) ∧ ∀ H', Q (.bl true) H'
theorem dec_s {a b : Str} : decide (V.str a = V.str b) = decide (a = b) := by
  rw [decide_eq_decide]
  constructor
  · intro h; exact V.str.inj h
  · intro h; rw [h]
theorem box_lst {H : Hp} {b C : Addr} (h : BoxAt H b C) : ∃ l, H b = some (.lst l) := by
  obtain ⟨cs, p, d, z, g1, _⟩ := h
  exact ⟨_, g1⟩
theorem SpecsAt.butB {H H' : Hp} {b C S : Addr} {qs : List GA} (h : SpecsAt H S qs) (e : SameBut [b] H H') (hb : BoxAt H b C) (n : S ≠ b) : SpecsAt H' S qs := by
  obtain ⟨l, hl⟩ := box_lst hb
  refine ⟨e _ _ h.1 (by simpa using n), fun q hq => e _ _ (h.2 q hq) ?_⟩
  simpa using ne_of (h.2 q hq) hl (fun z => nomatch z)
theorem GaugeAt.butB {K : PySem.W.Frag} {H H' : Hp} {b C p : Addr} {s : GSpec} (h : GaugeAt K H p s) (e : SameBut [b] H H') (hb : BoxAt H b C) : GaugeAt K H' p s := by
  obtain ⟨l, hl⟩ := box_lst hb
  obtain ⟨dx, h⟩ := h
  exact ⟨dx, e _ _ h (by simpa using ne_of h hl (fun z => nomatch z))⟩
theorem RackAt.butB {K : PySem.W.Frag} {H H' : Hp} {b C r : Addr} {gs : List GA} (h : RackAt K H r gs) (e : SameBut [b] H H') (hb : BoxAt H b C) : RackAt K H' r gs := by
  obtain ⟨l, hl⟩ := box_lst hb
  obtain ⟨dx, D, G, h1, h2⟩ := h.at_
  exact ⟨⟨dx, D, G, e _ _ h1 (by simpa using ne_of h1 hl (fun z => nomatch z)), e _ _ h2 (by simpa using ne_of h2 hl (fun z => nomatch z))⟩, h.nd, h.len, fun p hp => (h.gat p hp).butB e hb, h.wf⟩
theorem cut_take (ws : List Str) {r : Int} (h : 0 ≤ r) : cutV (ws.map V.str) none (some r) = (ws.take (min r.toNat ws.length)).map V.str := by
  unfold cutV
  have e : r = ((r.toNat : Nat) : Int) := by omega
  rw [HT.sIx_none, e, HT.sIx_nat, List.drop_zero, Nat.sub_zero, List.length_map, List.map_take]
  rw [Int.toNat_natCast]
theorem cut_drop (ws : List Str) {r : Int} (h : 0 ≤ r) : cutV (ws.map V.str) (some r) none = (ws.drop (min r.toNat ws.length)).map V.str := by
  unfold cutV
  have e : r = ((r.toNat : Nat) : Int) := by omega
  rw [HT.sIx_none, e, HT.sIx_nat, List.length_map, List.take_of_length_le (by rw [List.length_drop, List.length_map]; omega), List.map_drop]
  rw [Int.toNat_natCast]
theorem atStrs {ns : List Str} {r : Int} (h0 : 0 ≤ r) (h1 : r < ns.length) : ∃ (i : Nat) (x : Str), ns[i]? = some x ∧ atI (ns.map V.str) r = some (V.str x) := by
  have hl : r.toNat < ns.length := by omega
  exact ⟨r.toNat, ns[r.toNat], List.getElem?_eq_getElem hl, atI_int h0 (by rw [List.getElem?_map, List.getElem?_eq_getElem hl]; rfl)⟩
theorem gIfT {i : Nat} {v : V} {tt : TT} {a b : TS} {D : Ends} {σ : L2.St} {H : Hp} {rt : VK} {bk ct : L2.St → Hp → Prop} (h : ∀ R : Bool → Hp → Prop, R true H → tt (σ.set i (some v)) H R) (k : a D (σ.set i (some v)) H) :
    gName i v σ H (Ends.nx { nx := tIfS tt a b D, rt := rt, bk := bk, ct := ct }) :=
  h (fun c H1 => if c = true then a D (σ.set i (some v)) H1 else b D (σ.set i (some v)) H1) (by
    show (if true = true then _ else _)
    rw [if_pos rfl]
    exact k)
theorem gIfF {i : Nat} {v : V} {tt : TT} {a b : TS} {D : Ends} {σ : L2.St} {H : Hp} {rt : VK} {bk ct : L2.St → Hp → Prop} (P2 : Hp → Prop) (h : ∀ R : Bool → Hp → Prop, (∀ H', P2 H' → R false H') → tt (σ.set i (some v)) H R) (k : ∀ H', P2 H' → b D (σ.set i (some v)) H') :
    gName i v σ H (Ends.nx { nx := tIfS tt a b D, rt := rt, bk := bk, ct := ct }) :=
  h (fun c H1 => if c = true then a D (σ.set i (some v)) H1 else b D (σ.set i (some v)) H1) (fun H' p => by
    show (if false = true then _ else _)
    rw [if_neg Bool.false_ne_true]
    exact k H' p)
theorem KpAt.butB {K : PySem.W.Frag} {H H' : Hp} {b C a dx O G : Addr} {ns gone : List Str} (h : KpAt K H a dx O G ns gone) (e : SameBut [b] H H') (hb : BoxAt H b C) (nO : O ≠ b) (nG : G ≠ b) : KpAt K H' a dx O G ns gone := by
  obtain ⟨l, hl⟩ := box_lst hb
  exact ⟨e _ _ h.at_ (by simpa using ne_of h.at_ hl (fun z => nomatch z)), e _ _ h.ord (by simpa using nO), e _ _ h.gon (by simpa using nG)⟩
theorem lkN {O G : Addr} {m : Str} (h1 : decide (m = ("bound" : Str)) = false) (h2 : decide (m = ("order" : Str)) = false) (h3 : decide (m = ("gone" : Str)) = false) : (fKp O G).lookup m = none := by
  unfold fKp
  rw [look_cons, if_neg (ne_st _ _ h1), look_cons, if_neg (ne_st _ _ h2), look_cons, if_neg (ne_st _ _ h3)]
  rfl
theorem reach_nn {gs : List GA} {ns lot : List Str} {n : Nat} {d : Int} (h : reachOf gs ns lot n = some d) : 0 ≤ d := by
  unfold reachOf at h
  have := GM.bestTop_nn (ds := ns.map (gdOf gs lot)) (at_ := n)
  split at h
  · rw [← Option.some.inj h]
    exact this
  · cases h
theorem rep_str {d : Int} {gone : List Str} {y : Str} : gone.map V.str ++ (List.replicate (Int.toNat (if decide (0 < d) = true then 1 else 0)) [V.str y]).flatten = (goneOf gone y d).map V.str := by
  unfold goneOf
  by_cases h : 0 < d
  · rw [if_pos (decide_eq_true h), if_pos h, List.map_append]
    rfl
  · rw [if_neg (fun z => h (of_decide_eq_true z)), if_neg h]
    show gone.map V.str ++ [] = _
    rw [List.append_nil]
structure LTx2 (P : Program) (w : World) (K : PySem.W.Frag) (mg : Str → Option Value) (base : Heap) : Prop where
  rack : mg "Rack" = some (.ref (ga K "Rack"))
  of_ : ∃ mc p g, ClX.CRead K (ga K "Rack") mc ∧ ClX.CMet K (ga K "Rack") mc "of" p g ∧ FnR P w K mg base CX0 8 g (spRackOf K)
  keep : mg "Keeper" = some (.ref (ga K "Keeper"))
  mkK : ∃ g, Mk K (ga K "Keeper") g ∧ FnR P w K mg base CX0 7 g (spKpI K)
  kept : MDef P w K mg base CX0 8 (ga K "Keeper") "kept" (spKept K)
  drp : MDef P w K mg base CX0 8 (ga K "Keeper") "dropped" (spDropped K)
  tak : MDef P w K mg base CX0 8 (ga K "Keeper") "take" (spKpTake K)
section
variable {P : Program} {w : World} {K : PySem.W.Frag} {mg : Str → Option Value} {base : Heap} {f : Addr} {fd : FuncData}
theorem scLw : FnScope ["_law_script", "_law_box_here", "_law_words_here", "_law_specs_here", "_law_rack", "_law_lot", "_law_away", "_law_kept", "_law_word_here", "_law_honest", "_law_reach", "_law_limits", "_law_most", "_law_told", "_law_keeper", "_law_turn", "_law_spot_here", "_law_readings", "_law_far", "_law_every", "_law_gone"] ["_law_script"] (defScope sLaw) := ⟨rfl, rfl, rfl, by decide +kernel, rfl, by decide +kernel, by decide +kernel⟩
theorem f_law (F : Fun K "law" "law" sLaw f fd) (B : Bl mg) (T : LTx2 P w K mg base)
    (D_law_box : GDef P w K mg base CX0 8 "_law_box" (spBox K)) (D_law_take : GDef P w K mg base CX0 8 "_law_take" spTake) (D_law_words : GDef P w K mg base CX0 8 "_law_words" spWords) (D_law_specs : GDef P w K mg base CX0 8 "_law_specs" spSpecs)
    (D_law_gauges : GDef P w K mg base CX0 8 "_law_gauges" (spGauges K)) (Dhonest_reach : GDef P w K mg base CX0 8 "honest_reach" (spHonest K)) (D_law_case : GDef P w K mg base CX0 8 "_law_case" (spCase K)) (D_law_drops : GDef P w K mg base CX0 8 "_law_drops" (spDrops K))
    (D_law_spot : GDef P w K mg base CX0 8 "_law_spot" spSpot) (D_law_steep : GDef P w K mg base CX0 8 "_law_steep" spSteep) (D_law_farthest : GDef P w K mg base CX0 8 "_law_farthest" (spFar K)) : FnOk P w K mg base CX0 9 f fd ["_law_script"] (spLaw K) := by
  obtain ⟨mcR, pR, gR, hRead, hMet, FOf⟩ := T.of_
  obtain ⟨gK, MkK, FK⟩ := T.mkK
  have Tk := T.kept
  have Td := T.drp
  have Tt := T.tak
  refine F.ok scLw (fun vs H Q E h => ?_) (fun cdv A outer s H vs Q E hr h => ?_)
  · obtain ⟨a, cs, rfl, _⟩ := h
    rfl
  · obtain ⟨a, cs, rfl, ha, q⟩ := h
    refine ⟨_,
      (pss_cons (ps_set (i := 1) scLw.nd rfl (Or.inl rfl) (pe_callG D_law_box hr rfl pass0 (pa_cons (pv 0) (pa_cons pe_int pa_nil))))
      (pss_cons (ps_set (i := 2) scLw.nd rfl (Or.inl rfl) (pe_callG D_law_words hr rfl pass0 (pa_cons (pv 1) (pa_cons (pe_op op_add pe_int (pe_callG D_law_take hr rfl pass0 (pa_cons (pv 1) (pa_cons pe_int pa_nil)))) pa_nil))))
      (pss_cons (ps_set (i := 3) scLw.nd rfl (Or.inl rfl) (pe_callG D_law_specs hr rfl pass0 (pa_cons (pv 1) (pa_cons (pv 2) pa_nil))))
      (pss_cons (ps_set (i := 4) scLw.nd rfl (Or.inl rfl) (ClX.pe_cmeth (pe_glob (v := .ref (ga K "Rack")) rfl T.rack rfl) hRead hMet FOf hr pass0 (pa_cons (pe_callG D_law_gauges hr rfl pass0 (pa_cons (pv 3) pa_nil)) (pa_cons (pe_tup (pa_cons (pe_callTy call_tuple_of (by rfl) B.tuple (by decide +kernel) (pa_cons (pe_slice sl_list (pv 2) po_none (po_some (pe_callG D_law_take hr rfl pass0 (pa_cons (pv 1) (pa_cons pe_int pa_nil))))) pa_nil)) pa_nil)) pa_nil))))
      (pss_cons (ps_set (i := 5) scLw.nd rfl (Or.inr rfl) (pe_slice sl_list (pv 2) (po_some (pe_op op_sub (pe_callB call_len_seq (by rfl) B.len (by decide +kernel) (pa_cons (pv 2) pa_nil)) (pe_callG D_law_take hr rfl pass0 (pa_cons (pv 1) (pa_cons pe_int pa_nil))))) po_none))
      (pss_cons (ps_set (i := 6) scLw.nd rfl (Or.inr rfl) (pe_ix ix_list (pv 2) (pe_callG D_law_take hr rfl pass0 (pa_cons (pv 1) (pa_cons (pe_callB call_len_seq (by rfl) B.len (by decide +kernel) (pa_cons (pv 2) pa_nil)) pa_nil))) (fun _ _ => rfl)))
      (pss_cons (ps_setLc (i := 7) (own := [(("_law_word_here" : Str), 8)]) (g := gName 8) rfl scLw.nd rfl rfl (sw_true rfl rfl rfl (by decide +kernel)) (pi_list (pv 2)) (blkOk_by (own := [(("_law_word_here" : Str), 8)]) (N := ["_law_script", "_law_box_here", "_law_words_here", "_law_specs_here", "_law_rack", "_law_lot", "_law_away", "_law_kept", "_law_word_here", "_law_honest", "_law_reach", "_law_limits", "_law_most", "_law_told", "_law_keeper", "_law_turn", "_law_spot_here", "_law_readings", "_law_far", "_law_every", "_law_gone"]) (sc := defScope sLaw) (by decide +kernel)) (fun _ _ _ _ _ => pg_name (i := 8) scLw.nd rfl (Or.inl rfl)) (fun _ _ _ _ _ => pts_one (pt_cmpR op_ne (pv 8) (pv 6) (nomark _))) (fun _ _ _ _ _ => (pv 8)))
      (pss_cons (ps_setLc (i := 9) (own := [(("_law_word_here" : Str), 8)]) (g := gName 8) rfl scLw.nd rfl rfl (sw_true rfl rfl rfl (by decide +kernel)) (pi_list (pv 7)) (blkOk_by (own := [(("_law_word_here" : Str), 8)]) (N := ["_law_script", "_law_box_here", "_law_words_here", "_law_specs_here", "_law_rack", "_law_lot", "_law_away", "_law_kept", "_law_word_here", "_law_honest", "_law_reach", "_law_limits", "_law_most", "_law_told", "_law_keeper", "_law_turn", "_law_spot_here", "_law_readings", "_law_far", "_law_every", "_law_gone"]) (sc := defScope sLaw) (by decide +kernel)) (fun _ _ _ _ _ => pg_name (i := 8) scLw.nd rfl (Or.inl rfl)) (fun _ _ _ _ _ => pts_one (pt_cmpR (op_notInK K) (pv 8) (pv 5) (by rfl))) (fun _ _ _ _ _ => (pv 8)))
      (pss_cons (ps_set (i := 8) scLw.nd rfl (Or.inl rfl) (pe_ix ix_list (pv 9) (pe_callG D_law_take hr rfl pass0 (pa_cons (pv 1) (pa_cons (pe_callB call_len_seq (by rfl) B.len (by decide +kernel) (pa_cons (pv 9) pa_nil)) pa_nil))) (fun _ _ => rfl)))
      (pss_cons (ps_set (i := 10) scLw.nd rfl (Or.inl rfl) (pe_callG Dhonest_reach hr rfl pass0 (pa_cons (pv 4) (pa_cons (pe_revL (pv 7)) (pa_cons (pv 5) (pa_cons (pv 8) pa_nil))))))
      (pss_cons (ps_set (i := 11) scLw.nd rfl (Or.inl rfl) (pe_lst (pa_cons pe_int (pa_cons (pe_op op_pow pe_int pe_int) pa_nil))))
      (pss_cons (ps_if (pt_cmpR op_notN (pv 10) pe_non (nomark _))
        (pss_one (ps_set (i := 11) scLw.nd rfl (Or.inl rfl) (pe_op op_cat (pe_lst (pa_cons (pv 10) (pa_cons (pe_op op_add (pv 10) pe_int) pa_nil))) (pe_op op_rep (pe_lst (pa_cons (pe_op op_sub (pv 10) pe_int) pa_nil)) (pe_callTy call_int1 (by rfl) B.int (by decide +kernel) (pa_cons (pe_cmpR op_gt (pv 10) pe_int (nomark _)) pa_nil))))))
        pss_nil)
      (pss_cons (ps_for PassesOwn.never rfl (pi_list (pv 11)) (pg_name (i := 12) scLw.nd rfl (Or.inl rfl))
        (pss_cons (ps_set (i := 13) scLw.nd rfl (Or.inl rfl) (pe_callG D_law_case hr rfl pass0 (pa_cons (pv 4) (pa_cons (pe_revL (pv 7)) (pa_cons (pe_callTy call_list_of (by rfl) B.list (by decide +kernel) (pa_cons (pv 5) pa_nil)) (pa_cons (pv 8) (pa_cons (pv 12) pa_nil)))))))
        (pss_one (ps_if (PW.pt (pw_or (pt_cmpR op_isN (pv 10) pe_non (nomark _)) (pw_or1 (pt_cmpR op_lt (pv 12) (pv 10) (nomark _)))))
          (pss_one (ps_if (pt_not (pt_val (pe_callG D_law_drops hr rfl pass0 (pa_cons (pv 3) (pa_cons (pv 7) (pa_cons (pv 5) (pa_cons (pv 8) (pa_cons (pv 12) (pa_cons (pv 13) pa_nil)))))))))
            (pss_one (ps_ret pe_bl))
            pss_nil))
          (pss_one (ps_if (pt_cmpR (op_neD hr.units) (pv 13) (pe_lst (pa_cons (pv 8) pa_nil)) (nomark _))
            (pss_one (ps_ret pe_bl))
            pss_nil))))))
      (pss_cons (ps_set (i := 14) scLw.nd rfl (Or.inl rfl) (StX.pe_makeR MkK FK hr rfl T.keep pass0 (pa_cons (pv 4) (pa_cons pe_int pa_nil))))
      (pss_cons (ps_for PassesOwn.never rfl (pi_range1 rfl B.range (pa_cons pe_int pa_nil)) (pg_name (i := 15) scLw.nd rfl (Or.inl rfl))
        (pss_cons (ps_set (i := 16) scLw.nd rfl (Or.inl rfl) (pe_callG D_law_spot hr rfl pass0 (pa_cons (pv 1) pa_nil)))
        (pss_cons (ps_set (i := 17) scLw.nd rfl (Or.inl rfl) (pe_callG D_law_steep hr rfl pass0 (pa_cons (pv 1) (pa_cons (pv 3) (pa_cons (pv 5) (pa_cons (pv 16) pa_nil))))))
        (pss_cons (ps_set (i := 18) scLw.nd rfl (Or.inl rfl) (pe_callG D_law_farthest hr rfl pass0 (pa_cons (pv 7) (pa_cons (pv 17) pa_nil))))
        (pss_cons (ps_if (PW.pt (pw_and (pt_cmpR op_eq (pe_ix ix_tup (pv 18) pe_int (fun _ _ => rfl)) (pv 8) (nomark _)) (pw_and (pt_cmpR op_notN (pv 10) pe_non (nomark _)) (pw_and1 (pt_cmpR op_gt (pe_ix ix_tup (pv 18) pe_int (fun _ _ => rfl)) (pv 10) (nomark _))))))
          (pss_one (ps_ret pe_bl))
          pss_nil)
        (pss_cons (ps_set (i := 19) scLw.nd rfl (Or.inl rfl) (pe_callG D_law_farthest hr rfl pass0 (pa_cons (pe_methR0 (pv 14) Tk hr pass0) (pa_cons (pv 17) pa_nil))))
        (pss_cons (ps_set (i := 20) scLw.nd rfl (Or.inl rfl) (pe_op op_cat (pe_methR0 (pv 14) Td hr pass0) (pe_op op_rep (pe_lst (pa_cons (pe_ix ix_tup (pv 19) pe_int (fun _ _ => rfl)) pa_nil)) (pe_callTy call_int1 (by rfl) B.int (by decide +kernel) (pa_cons (pe_cmpR op_gt (pe_ix ix_tup (pv 19) pe_int (fun _ _ => rfl)) pe_int (nomark _)) pa_nil)))))
        (pss_one (ps_if (PW.pt (pw_or (pt_cmpR op_ne (pe_methR (pv 14) Tt hr pass0 (pa_cons (pv 17) pa_nil)) (pe_ix ix_tup (pv 19) pe_int (fun _ _ => rfl)) (nomark _)) (pw_or1 (pt_cmpR (op_neD hr.units) (pe_methR0 (pv 14) Td hr pass0) (pv 20) (nomark _)))))
          (pss_one (ps_ret pe_bl))
          pss_nil)))))))))
      (pss_one (ps_ret pe_bl)))))))))))))))))
      , ?_⟩
    refine ⟨_, rfl, a, cs, 178, rfl, ha, by decide, by decide, fun H1 b C e1 hb0 hC0 box1 => ?_⟩
    refine ⟨_, rfl, _, rfl, b, C, 3, rfl, box1, by decide, by decide, fun H2 r2 e2 box2 hr20 hr21 => ⟨_, _, rfl, rfl, ?_⟩⟩
    refine ⟨b, C, (7 + r2).toNat, by rw [Int.toNat_of_nonneg (by omega)], box2, by omega, fun H3 W ws e3 box3 hW hW3 hwl hwn hwv => ?_⟩
    have hws7 : 7 ≤ ws.length ∧ ws.length ≤ 9 := by omega
    have nWb : W ≠ b := (box_ne box2 hW).symm
    refine ⟨_, rfl, _, rfl, b, C, W, ws, rfl, box3, hW3, nWb.symm, hws7.2, hwv, fun H4 S qs e4 box4 hS hSp hwf hnm => ?_⟩
    have nSb : S ≠ b := (box_ne box3 hS).symm
    have hql : qs.length = ws.length := by rw [← hnm]; unfold gnames; rw [List.length_map]
    have hW4 := e4 _ _ hW3 (by simpa using nWb)
    -- the rack
    refine ⟨rfl, _, rfl, S, qs, rfl, hSp, hwf, by omega, fun H5 Gl gs e5 hGl hGl5 hgs hga => ?_⟩
    have hgn : gnames gs = ws := by
      rw [← hnm]
      unfold gnames
      have : ∀ l : List GA, l.map (fun p => p.1.name) = (l.map (·.1)).map fun s => s.name := fun l => by rw [List.map_map]; rfl
      rw [this, this, hgs]
    have hgwf : ∀ p ∈ gs, Wf p.1 := fun p hp => by
      have : p.1 ∈ qs.map (·.1) := by rw [← hgs]; exact List.mem_map.mpr ⟨p, hp, rfl⟩
      obtain ⟨q', hq', e⟩ := List.mem_map.mp this
      rw [← e]
      exact hwf q' hq'
    have hgnd : (gnames gs).Nodup := by rw [hgn]; exact hwn
    have hgl : gs.length ≤ 9 := by
      have : (gnames gs).length = gs.length := by unfold gnames; rw [List.length_map]
      rw [hgn] at this
      omega
    have box5 := box4.same e5
    refine ⟨_, rfl, _, rfl, b, C, 5, rfl, box5, by decide, by decide, fun H6 r6 e6 box6 hr60 hr61 => ?_⟩
    have hW6 := e6 _ _ (e5 _ _ hW4) (by simpa using nWb)
    have nGlb : Gl ≠ b := (box_ne box4 hGl).symm
    have hSp6 : SpecsAt H6 S qs := (hSp.same e5).butB e6 box5 nSb
    refine ⟨r6, rfl, W, _, rfl, SqL.of hW6, fun L hL => ?_⟩
    rw [cut_take ws hr60]
    generalize min r6.toNat ws.length = k
    refine ⟨L, _, rfl, .inl ⟨SqL.of upd_same, fun T1 hT1 => ?_⟩⟩
    refine ⟨by show 1 ≤ sizeLine; decide, fun T2 hT2 => ?_⟩
    have n12 : T1 ≠ T2 := fun z => by rw [← z, upd_same] at hT2; cases hT2
    have e9 : Same H6 (upd (upd (upd H6 L (.lst ((ws.take k).map V.str))) T1 (.tup ((ws.take k).map V.str))) T2 (.tup [.ref T1])) := ((same_upd hL).trans (same_upd hT1)).trans (same_upd hT2)
    refine ⟨Gl, T2, T1, gs, ws.take k, rfl, SqL.of (e9 _ _ (e6 _ _ hGl5 (by simpa using nGlb))), SqT.of upd_same, SqT.of (by rw [upd_ne n12, upd_same]), hwn.sublist (List.take_sublist _ _), fun x hx => by rw [hgn]; exact List.mem_of_mem_take hx, hgnd, hgl,
      fun p hp => ((hga p hp).butB e6 box5).same e9, hgwf, fun H10 rk e10 hR => ?_⟩
    have e610 := e9.trans e10
    have box10 := box6.same e610
    have hW10 := e610 _ _ hW6
    have hSp10 := hSp6.same e610
    clear e9 hT2 hT1 hL
    -- the lot
    refine ⟨_, rfl, _, rfl, W, _, rfl, .inl (SqL.of hW10), _, rfl, b, C, 5, rfl, box10, by decide, by decide, fun H11 r11 e11 box11 hr110 hr111 => ⟨_, _, rfl, rfl, _, rfl, W, _, rfl, SqL.of (e11 _ _ hW10 (by simpa using nWb)), fun lt hlt => ?_⟩⟩
    rw [cut_drop ws (by rw [List.length_map]; omega)]
    generalize hk2 : min ((((ws.map V.str).length : Int) - r11).toNat) ws.length = k2
    have hk2' : ws.length - 4 ≤ k2 := by
      rw [← hk2, List.length_map]
      omega
    generalize hlot : ws.drop k2 = lot
    have hlot4 : lot.length ≤ 4 := by rw [← hlot, List.length_drop]; omega
    have hlsub : ∀ x ∈ lot, x ∈ ws := fun x hx => by rw [← hlot] at hx; exact List.mem_of_mem_drop hx
    have nlb : lt ≠ b := (box_ne box11 hlt).symm
    have e12 : SameBut [b] H10 (upd H11 lt (.lst (lot.map V.str))) := fun z o e n => same_upd hlt _ _ (e11 z o e n)
    have hlt12 : (upd H11 lt (.lst (lot.map V.str))) lt = some (.lst (lot.map V.str)) := upd_same
    have box12 := box11.same (same_upd (o := .lst (lot.map V.str)) hlt)
    generalize upd H11 lt (.lst (lot.map V.str)) = H12 at e12 hlt12 box12
    have hW12 := e12 _ _ hW10 (by simpa using nWb)
    have hSp12 := hSp10.butB e12 box10 nSb
    have hR12 := hR.butB e12 box10
    -- away
    refine ⟨_, rfl, _, rfl, _, rfl, W, _, rfl, .inl (SqL.of hW12), b, C, _, rfl, box12, by rw [List.length_map]; omega, by rw [List.length_map]; omega, fun H13 r13 e13 box13 hr130 hr131 => ?_⟩
    have hW13 := e13 _ _ hW12 (by simpa using nWb)
    have hlt13 := e13 _ _ hlt12 (by simpa using nlb)
    have hSp13 := hSp12.butB e13 box12 nSb
    have hR13 := hR12.butB e13 box12
    obtain ⟨ia, aw, haw, hat13⟩ := atStrs (ns := ws) hr130 (by rw [List.length_map] at hr131; exact hr131)
    have hawm := List.mem_of_getElem? haw
    refine ⟨W, _, _, _, rfl, rfl, SqL.of hW13, hat13, ?_⟩
    -- kept
    refine ⟨_, rfl, W, rfl, ⟨_, SqL.of hW13⟩, fun Kp hKp => ?_⟩
    have nKb : Kp ≠ b := (box_ne box13 hKp).symm
    refine lc_list (K := K) (a := W) (xs := ws.map V.str) (fun i H2 => Same H13 H2 ∧ H2 Kp = some (.lst (((ws.take i).filter fun x => !decide (x = aw)).map V.str))) ⟨same_upd hKp, upd_same⟩ (fun i H2 _ ⟨s2, _⟩ => SqL.of (s2 _ _ hW13)) ?_ ?_
    · rintro i y H2 hy ⟨s2, hK2⟩
      obtain ⟨x, hx, rfl⟩ := strs_at hy
      have etk : ws.take (i + 1) = ws.take i ++ [x] := by rw [List.take_succ, hx]; rfl
      refine ⟨rfl, _, rfl, _, rfl, rfl, !decide (x = aw), by rw [dec_s], ?_⟩
      refine ite2 (fun c1 => ?_) fun c1 => ?_
      · refine ⟨_, rfl, _, hK2, ?_, same_mut s2 hKp, ?_⟩
        · rw [List.length_map, sizeLine_eq]
          have := List.length_filter_le (fun x => !decide (x = aw)) (ws.take i)
          rw [List.length_take] at this
          omega
        · rw [upd_same, etk, List.filter_append, List.filter_cons, if_pos c1, List.map_append]
          rfl
      · refine ⟨s2, ?_⟩
        rw [hK2, etk, List.filter_append, List.filter_cons, if_neg c1]
        simp
    · rintro H14 ⟨e14, hK14⟩
      rw [List.length_map, List.take_length] at hK14
      generalize hns : (ws.filter fun x => !decide (x = aw)) = ns at hK14
      have hnsub : ∀ x ∈ ns, x ∈ ws := fun x hx => by rw [← hns] at hx; exact (List.mem_filter.mp hx).1
      have hnnd : ns.Nodup := by rw [← hns]; exact hwn.sublist List.filter_sublist
      have hnl : ns.length ≤ 9 := by
        have := List.length_filter_le (fun x => !decide (x = aw)) ws
        rw [hns] at this
        omega
      have hn6 : 6 ≤ ns.length := by
        have := hwn.length_le_of_subset (l₂ := aw :: ns) fun x hx => by
          by_cases e : x = aw
          · rw [e]; exact List.mem_cons_self
          · refine List.mem_cons_of_mem _ ?_
            rw [← hns]
            exact List.mem_filter.mpr ⟨hx, by simp [e]⟩
        rw [List.length_cons] at this
        omega
      have box14 := box13.same e14
      have hlt14 := e14 _ _ hlt13
      have hSp14 := hSp13.same e14
      have hR14 := hR13.same e14
      -- honest
      refine ⟨_, rfl, Kp, rfl, ⟨_, SqL.of hK14⟩, fun Ho hHo => ?_⟩
      have nHb : Ho ≠ b := (box_ne box14 hHo).symm
      refine lc_list (K := K) (a := Kp) (xs := ns.map V.str) (fun i H2 => Same H14 H2 ∧ H2 Ho = some (.lst (((ns.take i).filter fun x => !decide (x ∈ lot)).map V.str))) ⟨same_upd hHo, upd_same⟩ (fun i H2 _ ⟨s2, _⟩ => SqL.of (s2 _ _ hK14)) ?_ ?_
      · rintro i y H2 hy ⟨s2, hH2⟩
        obtain ⟨x, hx, rfl⟩ := strs_at hy
        have etk : ns.take (i + 1) = ns.take i ++ [x] := by rw [List.take_succ, hx]; rfl
        refine ⟨rfl, _, rfl, _, rfl, _, _, rfl, .inl (SqL.of (s2 _ _ hlt14)), rfl, flat_strs _, !decide (x ∈ lot), by rw [inV_str]; cases decide (x ∈ lot) <;> rfl, ?_⟩
        refine ite2 (fun c1 => ?_) fun c1 => ?_
        · refine ⟨_, rfl, _, hH2, ?_, same_mut s2 hHo, ?_⟩
          · rw [List.length_map, sizeLine_eq]
            have := List.length_filter_le (fun x => !decide (x ∈ lot)) (ns.take i)
            rw [List.length_take] at this
            omega
          · rw [upd_same, etk, List.filter_append, List.filter_cons, if_pos c1, List.map_append]
            rfl
        · refine ⟨s2, ?_⟩
          rw [hH2, etk, List.filter_append, List.filter_cons, if_neg c1]
          simp
      · rintro H15 ⟨e15, hH15⟩
        rw [List.length_map, List.take_length] at hH15
        generalize hhs : (ns.filter fun x => !decide (x ∈ lot)) = hs at hH15
        have hspos : 0 < hs.length := by
          by_cases h0 : 0 < hs.length
          · exact h0
          · exfalso
            have he : hs = [] := List.length_eq_zero_iff.mp (by omega)
            have := hnnd.length_le_of_subset (l₂ := lot) fun x hx => by
              by_cases hxl : x ∈ lot
              · exact hxl
              · exfalso
                have : x ∈ hs := by rw [← hhs]; exact List.mem_filter.mpr ⟨hx, by simp [hxl]⟩
                rw [he] at this
                cases this
            omega
        have hsl9 : hs.length ≤ 9 := by
          have := List.length_filter_le (fun x => !decide (x ∈ lot)) ns
          rw [hhs] at this
          omega
        have box15 := box14.same e15
        -- the name
        refine ⟨_, rfl, _, rfl, _, rfl, Ho, _, rfl, .inl (SqL.of hH15), b, C, _, rfl, box15, by rw [List.length_map]; omega, by rw [List.length_map]; omega, fun H16 r16 e16 box16 hr160 hr161 => ?_⟩
        obtain ⟨ix, x, hx0, hat16⟩ := atStrs (ns := hs) hr160 (by rw [List.length_map] at hr161; exact hr161)
        have hxm : x ∈ ns ∧ x ∉ lot := by
          have := List.mem_of_getElem? hx0
          rw [← hhs] at this
          exact ⟨(List.mem_filter.mp this).1, by simpa using (List.mem_filter.mp this).2⟩
        refine ⟨Ho, _, _, _, rfl, rfl, SqL.of (e16 _ _ hH15 (by simpa using nHb)), hat16, ?_⟩
        have hlt16 := e16 _ _ (e15 _ _ hlt14) (by simpa using nlb)
        have hK16 := e16 _ _ (e15 _ _ hK14) (by simpa using nKb)
        have hSp16 := (hSp14.same e15).butB e16 box15 nSb
        have hR16 := (hR14.same e15).butB e16 box15
        obtain ⟨n, hn⟩ : ∃ n, ns[n]? = some x := by
          obtain ⟨n, hn, e⟩ := List.mem_iff_getElem.mp hxm.1
          exact ⟨n, by rw [List.getElem?_eq_getElem hn, e]⟩
        have hfil : ((gnames gs).filter fun y => decide (y ∈ ns.reverse)) = ns := by
          rw [hgn]
          conv => rhs; rw [← hns]
          apply List.filter_congr
          intro y hy
          rw [Bool.eq_iff_iff]
          simp only [decide_eq_true_eq, List.mem_reverse, Bool.not_eq_true', decide_eq_false_iff_not]
          rw [← hns, List.mem_filter]
          simp [hy]
        have hxg : x ∈ gnames gs := by rw [hgn]; exact hnsub x hxm.1
        have eRv : (ns.map V.str).reverse = ns.reverse.map V.str := List.map_reverse.symm
        -- the reach
        refine ⟨_, rfl, _, rfl, Kp, _, rfl, SqL.of hK16, fun Rv hRv => ?_⟩
        rw [eRv]
        have e17 : Same H16 (upd H16 Rv (.lst (ns.reverse.map V.str))) := same_upd hRv
        refine ⟨_, rfl, _, rfl, rk, Rv, lt, gs, ns.reverse, lot, x, n, rfl, hR16.same e17, SqL.of upd_same, SqL.of (e17 _ _ hlt16), by rw [hfil]; exact hn, hxm.2, fun H18 e18' => ?_⟩
        rw [hfil]
        have e18 := e17.trans e18'
        generalize hro : reachOf gs ns lot n = ro
        have hron : ∀ d, ro = some d → 0 ≤ d := fun d h => reach_nn (hro.trans h)
        -- the limits
        refine ⟨_, _, rfl, rfl, ⟨by decide, by decide, by decide⟩, by show 2 ≤ sizeLine; decide, fun Lm0 hLm0 => ?_⟩
        refine gmIf (fun σ' H' => ∃ (Lm : Addr) (lims : List Int), σ' = [some (.ref a), some (.ref b), some (.ref W), some (.ref S), some (.ref rk), some (.ref lt), some (.str aw), some (.ref Kp), some (.str x), some (.ref Ho), some (optV ro), some (.ref Lm), none, none, none, none, none, none, none, none, none] ∧
          Same H18 H' ∧ H' Lm = some (.lst (lims.map V.int)) ∧ lims.length ≤ 3 ∧ ∀ l ∈ lims, 0 ≤ l) (fun N hN => ?_) ?_
        · cases ro with
          | none =>
            refine ⟨_, rfl, rfl, _, rfl, hN _ _ ⟨Lm0, [0, 10 ^ (12 : Int).toNat], rfl, same_upd hLm0, upd_same, by decide, fun l hl => ?_⟩⟩
            have : l = 0 ∨ l = 10 ^ (12 : Int).toNat := by simpa using hl
            rcases this with h | h
            · omega
            · rw [h]; decide
          | some d =>
            have hd0 := hron d rfl
            refine ⟨_, rfl, rfl, _, rfl, ?_⟩
            refine ⟨_, rfl, _, rfl, _, _, rfl, rfl, by show 2 ≤ sizeLine; decide, fun A1 hA1 => ?_⟩
            have f1 : Same H18 (upd (upd H18 Lm0 (.lst [.int 0, .int (10 ^ (12 : Int).toNat)])) A1 (.lst [.int d, .int (d + 5)])) := (same_upd hLm0).trans (same_upd hA1)
            refine ⟨_, rfl, _, _, rfl, rfl, by show 1 ≤ sizeLine; decide, fun A2 hA2 => ?_⟩
            have n12 : A1 ≠ A2 := fun z => by rw [← z, upd_same] at hA2; cases hA2
            refine ⟨_, rfl, _, _, rfl, rfl, .inr ⟨_, rfl, ?_⟩⟩
            refine ⟨A2, _, _, rfl, rfl, upd_same, ?_, ?_, ?_, fun A3 hA3 => ?_⟩
            · by_cases h : 0 < d
              · rw [if_pos (decide_eq_true h)]; decide
              · rw [if_neg (fun z => h (of_decide_eq_true z))]; decide
            · by_cases h : 0 < d
              · rw [if_pos (decide_eq_true h)]; decide
              · rw [if_neg (fun z => h (of_decide_eq_true z))]; decide
            · by_cases h : 0 < d
              · rw [if_pos (decide_eq_true h)]; show 1 * 1 ≤ sizeLine; decide
              · rw [if_neg (fun z => h (of_decide_eq_true z))]; show 1 * 0 ≤ sizeLine; decide
            · have n13 : A1 ≠ A3 := fun z => by rw [← z, upd_ne n12, upd_same] at hA3; cases hA3
              refine ⟨A1, A3, [.int d, .int (d + 5)], _, rfl, rfl, by rw [upd_ne n13, upd_ne n12]; exact upd_same, upd_same, ?_, fun A4 hA4 => ?_⟩
              · by_cases h : 0 < d
                · rw [if_pos (decide_eq_true h)]; show 2 + 1 ≤ sizeLine; decide
                · rw [if_neg (fun z => h (of_decide_eq_true z))]; show 2 + 0 ≤ sizeLine; decide
              · refine hN _ _ ⟨A4, [d, d + 5] ++ (if 0 < d then [d - 1] else []), rfl, ((f1.trans (same_upd hA2)).trans (same_upd hA3)).trans (same_upd hA4), ?_, ?_, fun l hl => ?_⟩
                · rw [upd_same, List.map_append]
                  by_cases h : 0 < d
                  · rw [if_pos (decide_eq_true h), if_pos h]
                    rfl
                  · rw [if_neg (fun z => h (of_decide_eq_true z)), if_neg h]
                    rfl
                · by_cases h : 0 < d
                  · rw [if_pos h]; exact Nat.le_refl 3
                  · rw [if_neg h]; exact Nat.le_succ 2
                · by_cases h : 0 < d
                  · rw [if_pos h] at hl
                    have : l = d ∨ l = d + 5 ∨ l = d - 1 := by simpa using hl
                    omega
                  · rw [if_neg h] at hl
                    have : l = d ∨ l = d + 5 := by simpa using hl
                    omega
        · rintro σ' H19 ⟨Lm, lims, rfl, e19', hLm, hll, hl0⟩
          have e19 := e18.trans e19'
          refine ⟨_, rfl, Lm, rfl, ⟨_, SqL.of hLm⟩, ?_⟩
          refine for_list (K := K) (a := Lm) (xs := lims.map V.int) (fun i σ H2 => ∃ o12 o13, σ = [some (.ref a), some (.ref b), some (.ref W), some (.ref S), some (.ref rk), some (.ref lt), some (.str aw), some (.ref Kp), some (.str x), some (.ref Ho), some (optV ro), some (.ref Lm), o12, o13, none, none, none, none, none, none, none] ∧ Same H19 H2)
            ⟨_, _, rfl, Same.refl _⟩ (fun i σ H2 _ ⟨_, _, _, s2⟩ => SqL.of (s2 _ _ hLm)) ?_ ?_
          · rintro i y σ H20 hy ⟨o12, o13, rfl, e20'⟩
            obtain ⟨lim, hlim, rfl⟩ : ∃ c, lims[i]? = some c ∧ y = .int c := by
              rw [List.getElem?_map] at hy
              cases e : lims[i]? with
              | none => rw [e] at hy; cases hy
              | some p => rw [e] at hy; exact ⟨p, rfl, (Option.some.inj hy).symm⟩
            have hlim0 := hl0 lim (List.mem_of_getElem? hlim)
            have e20 := e19.trans e20'
            refine ⟨_, rfl, _, rfl, Kp, _, rfl, SqL.of (e20 _ _ hK16), fun Rv2 hRv2 => ?_⟩
            rw [eRv]
            have e21 := e20.trans (same_upd (o := .lst (ns.reverse.map V.str)) hRv2)
            refine ⟨_, rfl, lt, _, rfl, .inl (SqL.of (e21 _ _ hlt16)), fun L2 hL2 => ?_⟩
            have n2 : Rv2 ≠ L2 := fun z => by rw [← z, upd_same] at hL2; cases hL2
            have e22 := e21.trans (same_upd (o := .lst (lot.map V.str)) hL2)
            refine ⟨_, rfl, _, rfl, rk, Rv2, L2, gs, ns.reverse, ns, lot, x, n, lim, rfl, hR16.same e22, SqL.of (by rw [upd_ne n2, upd_same]), SqL.of upd_same, hfil, hn, hxm.2, hlim0, fun d hd hdl H23 p e23' hp => ?_, fun hlow H23 t D X g e23' ht hD hc => ?_⟩
            · have e23 := e22.trans e23'
              have e193 : Same H19 H23 := ((e20'.trans (same_upd hRv2)).trans (same_upd hL2)).trans e23'
              have hd : ro = some d := hro.symm.trans hd
              subst hd
              refine ⟨_, rfl, rfl, _, rfl, _, rfl, _, rfl, _, _, rfl, rfl, false, congrArg V.bl (decide_eq_false (by omega)), ?_⟩
              refine ⟨_, rfl, _, rfl, by show 1 ≤ sizeLine; decide, fun L3 hL3 => ?_⟩
              have hxv : ∀ y ∈ ([x] : List Str), PyData.strOk y = true := fun y hy => by
                have : y = x := by simpa using hy
                rw [this]
                exact valid_ok (hwv x (hnsub x hxm.1))
              refine ⟨datS [x], datS [x], dp_strs (SqL.of (by rw [upd_ne (ne_of_none hp hL3)]; exact hp)), dp_strs (SqL.of upd_same), shaped_strs hxv, shaped_strs hxv, false, by rw [eqv_same]; rfl, ?_⟩
              exact ⟨_, _, rfl, e193.trans (same_upd hL3)⟩
            · have e23 := e22.trans e23'
              have e193 : Same H19 H23 := ((e20'.trans (same_upd hRv2)).trans (same_upd hL2)).trans e23'
              obtain ⟨hfair, d, m, hfar, hdl⟩ := law_drop hgnd hgwf hnnd hn hxg hxm.2 hlim0 hlow hc
              refine gIfT (fun R hR0 => ?_) ?_
              · cases ro with
                | none => exact ⟨_, rfl, rfl, _, rfl, hR0⟩
                | some d' =>
                  have := hlow d' hro
                  exact ⟨_, rfl, rfl, _, rfl, _, rfl, _, rfl, _, _, rfl, rfl, true, congrArg V.bl (decide_eq_true this), hR0⟩
              · refine ⟨_, rfl, _, rfl, _, rfl, _, rfl, _, rfl, _, rfl, S, Kp, lt, t, D, qs, ns, lot, x, lim, X, g, d, m, rfl, hSp16.same e23, hwf, by omega, SqL.of (e23 _ _ hK16), by omega, hnl, fun y hy => by rw [hnm]; exact hnsub y hy, SqL.of (e23 _ _ hlt16), ht, by rw [hnm, ← hgn]; exact hD, fairTo_congr hgs hfair, hfar, hdl, fun H24 e24 => ?_⟩
                exact ⟨_, rfl, _, _, rfl, e193.trans e24⟩
          · rintro σ H20 ⟨o12, o13, rfl, e20'⟩
            have e20 := e19.trans e20'
            have box20 := box16.same e20
            have hlt20 := e20 _ _ hlt16
            have hK20 := e20 _ _ hK16
            have hSp20 := hSp16.same e20
            have hR20 := hR16.same e20
            clear e18' e19' e20' e17 e18 e19 hRv hLm0 hLm hl0 hll
            -- the keeper
            refine ⟨_, rfl, fun kA dxA hk1 hk2 hkne => ?_⟩
            have ek : Same H20 (upd (upd H20 dxA (.own kA)) kA (.ins (ga K "Keeper") dxA [])) := same_mut (same_upd hk2) hk1
            refine ⟨kA, dxA, rk, gs, rfl, upd_same, hR20.same ek, fun H21 O G e21' hO' hG' hKp21 => ⟨rfl, ?_⟩⟩
            rw [hgn] at hKp21
            have e21 : Same H20 H21 := made_same hk1 hk2 e21'
            have hO : H20 O = none := ek.free hO'
            have hG : H20 G = none := ek.free hG'
            have nOb : O ≠ b := (box_ne box20 hO).symm
            have nGb : G ≠ b := (box_ne box20 hG).symm
            have nGC : C ≠ G := box_neC box20 hG
            have nOG : O ≠ G := ne_of hKp21.ord hKp21.gon fun z => by
              have := congrArg List.length (HO.lst.inj z)
              rw [List.length_map, List.length_map] at this
              have e0 : ([] : List Str).length = 0 := rfl
              omega
            have box21 := box20.same e21
            refine ⟨4, rfl, by decide, by decide, ?_⟩
            refine for_it (n := 4) (walk_range (lo := 0) (n := 4)) (fun j σ H' => ∃ o15 o16 o17 o18 o19 o20 gone, σ = [some (.ref a), some (.ref b), some (.ref W), some (.ref S), some (.ref rk), some (.ref lt), some (.str aw), some (.ref Kp), some (.str x), some (.ref Ho), some (optV ro), some (.ref Lm), o12, o13, some (.ref kA), o15, o16, o17, o18, o19, o20] ∧
              SameBut [b] H20 H' ∧ BoxAt H' b C ∧ KpAt K H' kA dxA O G ws gone ∧ gone.length ≤ j ∧ ∀ y ∈ gone, Valid y)
              ⟨_, _, _, _, _, _, [], rfl, fun z o e _ => e21 z o e, box21, hKp21, Nat.le_refl _, fun y hy => by cases hy⟩ (fun _ _ _ _ _ => trivial) ?_ ?_
            · rintro j y σ H22 H23 hj ⟨o15, o16, o17, o18, o19, o20, gone, rfl, e22, box22, hKp22, hgl', hgv⟩ ⟨rfl, rfl⟩
              have hgn4 : gone.length ≤ 3 := by omega
              refine ⟨_, rfl, b, C, rfl, box22, fun H24 X e24 box24 => ?_⟩
              have e204 := but_trans e22 e24
              have hKp24 := hKp22.butB e24 box22 nOb nGb
              refine ⟨_, rfl, _, rfl, _, rfl, _, rfl, b, C, S, lt, qs, lot, X, rfl, box24, hSp20.butB e204 box20 nSb, hwf, by rw [hnm]; exact hwn, by omega, by omega, e204 _ _ hlt20 (by simpa using nlb), nlb, nSb, fun y hy => by rw [hnm]; exact hlsub y hy, fun H25 D f e25 box25 hD hD25 hfair => ?_⟩
              have e205 := but_trans e204 e25
              have hKp25 := hKp24.butB e25 box24 nOb nGb
              rw [hnm] at hD25
              have hK25 := e205 _ _ hK20 (by simpa using nKb)
              refine ⟨_, rfl, _, rfl, Kp, D, ns, ws, f, rfl, SqL.of hK25, by omega, hnl, hD25, hnsub, fun H26 t1 b1 d1 m1 e26 _ ht1 hfar1 => ?_⟩
              refine gIf_false (fun R hR0 => ?_) ?_
              · refine ⟨_, rfl, t1, _, _, _, rfl, rfl, SqT.of ht1, (show atI [V.str b1, V.int d1, V.int m1] 0 = some (.str b1) from rfl), _, rfl, rfl, decide (b1 = x), by rw [dec_s], ?_⟩
                refine ite2 (fun c1 => ?_) fun c1 => hR0
                have c1 : b1 = x := of_decide_eq_true c1
                cases ro with
                | none => exact ⟨_, rfl, rfl, _, rfl, hR0⟩
                | some dd =>
                  rw [c1] at hfar1
                  have := law_up hgnd hgwf hnnd hn hxg hxm.2 (fun y hy => by rw [hgn]; exact hnsub y hy) hro (fairTo_congr hgs.symm hfair) hfar1
                  exact ⟨_, rfl, rfl, _, rfl, _, rfl, t1, _, _, _, rfl, rfl, SqT.of ht1, (show atI [V.str b1, V.int d1, V.int m1] 1 = some (.int d1) from rfl), _, rfl, _, _, rfl, rfl, false, congrArg V.bl (decide_eq_false (by omega)), hR0⟩
              · have hKp26 := hKp25.same e26
                have hkp : 0 < (keptOf ws gone).length := by
                  by_cases h0 : 0 < (keptOf ws gone).length
                  · exact h0
                  · exfalso
                    have he : keptOf ws gone = [] := List.length_eq_zero_iff.mp (by omega)
                    have := hwn.length_le_of_subset (l₂ := gone) fun z hz => by
                      by_cases hzg : z ∈ gone
                      · exact hzg
                      · exfalso
                        have : z ∈ keptOf ws gone := List.mem_filter.mpr ⟨hz, by simp [hzg]⟩
                        rw [he] at this
                        cases this
                    omega
                have hkl : (keptOf ws gone).length ≤ 9 := Nat.le_trans (List.length_filter_le _ _) hws7.2
                have hks : ∀ z ∈ keptOf ws gone, z ∈ ws := fun z hz => (List.mem_filter.mp hz).1
                refine ⟨_, rfl, kA, dxA, _, rfl, hKp26.at_, lkN (by decide +kernel) (by decide +kernel) (by decide +kernel), kA, dxA, O, G, ws, gone, rfl, hKp26, hws7.2, fun H27 p e27 hp hp27 => ?_⟩
                have hD27 := e27 _ _ (e26 _ _ hD25)
                refine ⟨_, rfl, p, D, keptOf ws gone, ws, f, rfl, SqL.of hp27, hkp, hkl, hD27, hks, fun H28 t2 b2 d2 m2 e28 _ ht2 hfar2 => ?_⟩
                have hKp28 := (hKp26.same e27).same e28
                have hD28 := e28 _ _ hD27
                -- what is gone then
                refine ⟨_, rfl, kA, dxA, _, rfl, hKp28.at_, lkN (by decide +kernel) (by decide +kernel) (by decide +kernel), kA, dxA, O, G, ws, gone, rfl, hKp28, fun P1 hP1 => ?_⟩
                have g1 : Same H28 (upd H28 P1 (.lst (gone.map V.str))) := same_upd hP1
                refine ⟨_, rfl, t2, _, _, _, rfl, rfl, SqT.of (g1 _ _ ht2), (show atI [V.str b2, V.int d2, V.int m2] 0 = some (.str b2) from rfl), by show 1 ≤ sizeLine; decide, fun A1 hA1 => ?_⟩
                have nPA : P1 ≠ A1 := fun z => by rw [← z, upd_same] at hA1; cases hA1
                have g2 := g1.trans (same_upd (o := .lst [V.str b2]) hA1)
                refine ⟨_, rfl, t2, _, _, _, rfl, rfl, SqT.of (g2 _ _ ht2), (show atI [V.str b2, V.int d2, V.int m2] 1 = some (.int d2) from rfl), _, _, rfl, rfl, .inr ⟨_, rfl, ?_⟩⟩
                refine ⟨A1, _, _, rfl, rfl, upd_same, ?_, ?_, ?_, fun A2 hA2 => ?_⟩
                · by_cases h : 0 < d2
                  · rw [if_pos (decide_eq_true h)]; decide
                  · rw [if_neg (fun z => h (of_decide_eq_true z))]; decide
                · by_cases h : 0 < d2
                  · rw [if_pos (decide_eq_true h)]; decide
                  · rw [if_neg (fun z => h (of_decide_eq_true z))]; decide
                · by_cases h : 0 < d2
                  · rw [if_pos (decide_eq_true h)]; show 1 * 1 ≤ sizeLine; decide
                  · rw [if_neg (fun z => h (of_decide_eq_true z))]; show 1 * 0 ≤ sizeLine; decide
                · have nPA2 : P1 ≠ A2 := fun z => by rw [← z, upd_ne nPA, upd_same] at hA2; cases hA2
                  have hrl : (List.replicate (Int.toNat (if decide (0 < d2) = true then 1 else 0)) [V.str b2]).flatten.length ≤ 1 := by
                    by_cases h : 0 < d2
                    · rw [if_pos (decide_eq_true h)]; exact Nat.le_refl 1
                    · rw [if_neg (fun z => h (of_decide_eq_true z))]; exact Nat.zero_le 1
                  have g3 := g2.trans (same_upd (o := .lst (List.replicate (Int.toNat (if decide (0 < d2) = true then 1 else 0)) [V.str b2]).flatten) hA2)
                  refine ⟨P1, A2, gone.map V.str, _, rfl, rfl, by rw [upd_ne nPA2, upd_ne nPA]; exact upd_same, upd_same, by rw [List.length_map, sizeLine_eq]; omega, fun Gn hGn => ?_⟩
                  have g4 := g3.trans (same_upd (o := .lst (gone.map V.str ++ (List.replicate (Int.toNat (if decide (0 < d2) = true then 1 else 0)) [V.str b2]).flatten)) hGn)
                  have hGn29 : (upd (upd (upd (upd H28 P1 (.lst (gone.map V.str))) A1 (.lst [V.str b2])) A2 (.lst (List.replicate (Int.toNat (if decide (0 < d2) = true then 1 else 0)) [V.str b2]).flatten)) Gn (.lst (gone.map V.str ++ (List.replicate (Int.toNat (if decide (0 < d2) = true then 1 else 0)) [V.str b2]).flatten))) Gn = some (.lst ((goneOf gone b2 d2).map V.str)) := by rw [upd_same, rep_str]
                  have nGnG : Gn ≠ G := fun z => by rw [z, g3 _ _ hKp28.gon] at hGn; cases hGn
                  have e2028 : SameBut [b] H20 H28 := fun z o e n => e28 _ _ (e27 _ _ (e26 _ _ (e205 z o e n)))
                  have box28 := ((box25.same e26).same e27).same e28
                  generalize upd (upd (upd (upd H28 P1 (.lst (gone.map V.str))) A1 (.lst [V.str b2])) A2 (.lst (List.replicate (Int.toNat (if decide (0 < d2) = true then 1 else 0)) [V.str b2]).flatten)) Gn (.lst (gone.map V.str ++ (List.replicate (Int.toNat (if decide (0 < d2) = true then 1 else 0)) [V.str b2]).flatten)) = H29 at g4 hGn29
                  have hKp29 := hKp28.same g4
                  have hgv2 : ∀ z ∈ goneOf gone b2 d2, Valid z := fun z hz => by
                    unfold goneOf at hz
                    by_cases h : 0 < d2
                    · rw [if_pos h] at hz
                      rcases List.mem_append.mp hz with h1 | h1
                      · exact hgv z h1
                      · have : z = b2 := by simpa using h1
                        rw [this]
                        exact hwv b2 (hks b2 hfar2.mem)
                    · rw [if_neg h] at hz
                      exact hgv z hz
                  have hok2 : ∀ z ∈ goneOf gone b2 d2, PyData.strOk z = true := fun z hz => valid_ok (hgv2 z hz)
                  refine gIfF (fun H' => SameBut [b] H20 H' ∧ BoxAt H' b C ∧ KpAt K H' kA dxA O G ws (goneOf gone b2 d2)) (fun R hR0 => ?_) ?_
                  · refine ⟨_, rfl, kA, dxA, _, rfl, hKp29.at_, lkN (by decide +kernel) (by decide +kernel) (by decide +kernel), _, rfl, kA, dxA, O, G, D, ws, gone, ws, f, b2, d2, m2, rfl, hKp29, hws7.2, by omega, g4 _ _ hD28, fun z hz => hz, nOG, hfar2, fun H30 e30 hKp30 => ?_⟩
                    have ht30 := e30 _ _ (g4 _ _ ht2) (by simpa using ne_of (g4 _ _ ht2) hKp29.gon (fun z => nomatch z))
                    refine ⟨_, rfl, t2, _, _, _, rfl, rfl, SqT.of ht30, (show atI [V.str b2, V.int d2, V.int m2] 2 = some (.int m2) from rfl), rfl, false, by rw [decide_eq_true rfl]; rfl, ?_⟩
                    refine ⟨_, rfl, kA, dxA, _, rfl, hKp30.at_, lkN (by decide +kernel) (by decide +kernel) (by decide +kernel), kA, dxA, O, G, ws, goneOf gone b2 d2, rfl, hKp30, fun P2 hP2 => ?_⟩
                    have hGn30 := e30 _ _ hGn29 (by simpa using nGnG)
                    refine ⟨_, rfl, datS (goneOf gone b2 d2), datS (goneOf gone b2 d2), dp_strs (SqL.of upd_same), dp_strs (SqL.of (by rw [upd_ne (ne_of_none hGn30 hP2)]; exact hGn30)), shaped_strs hok2, shaped_strs hok2, false, by rw [eqv_same]; rfl, ?_⟩
                    refine hR0 _ ⟨fun z o e n => ?_, ?_, hKp30.same (same_upd hP2)⟩
                    · have hz1 : H29 z = some o := g4 _ _ (e2028 z o e n)
                      have hz2 := e30 z o hz1 (by simpa using ne_of_none e hG)
                      rw [upd_ne (ne_of_none hz2 hP2)]
                      exact hz2
                    · obtain ⟨cs', p', d', z', k1, k2, k3⟩ := box28.same g4
                      have k1' := e30 _ _ k1 (by simpa using nGb.symm)
                      have k2' := e30 _ _ k2 (by simpa using nGC)
                      exact BoxAt.same ⟨cs', p', d', z', k1', k2', k3⟩ (same_upd hP2)
                  · rintro H31 ⟨e31, box31, hKp31⟩
                    refine ⟨_, _, _, _, _, _, goneOf gone b2 d2, rfl, e31, box31, hKp31, ?_, hgv2⟩
                    unfold goneOf
                    by_cases h : 0 < d2
                    · rw [if_pos h, List.length_append]
                      show gone.length + 1 ≤ j + 1
                      omega
                    · rw [if_neg h]
                      omega
            · rintro σ H22 ⟨o15, o16, o17, o18, o19, o20, gone, rfl, _⟩
              exact q H22
end
end GR

set_option Elab.async false
set_option linter.all false
set_option maxRecDepth 100000
set_option maxHeartbeats 4000000
/-! What the head tells: defs by paths, closures, classes. -/
namespace GR
open PySem PySem.Spec PyProof.Rows L2
open He (ga ma ba eqO eqO_ok)
/-! ### own exceptions -/
def oexB (K : PySem.W.Frag) (C : Addr) : Bool := (match K.lookup C with
  | some ⟨.type t, _, .cls cd, sl⟩ => decide (t = "type") && (match cd.mro, sl.toList with
    | .ref C' :: bm, [_, _, _, _, some (.builtin n), _] => decide (C' = C) && (decide (n = "ValueError.__new__") && (!cd.hasDel && (cd.hasDict && PySem.HandSPX.refsVE bm)))
    | _, _ => false)
  | _ => false) && (eqO (PySem.W.findIn K (.ref C) "__setattr__") (some (some (.builtin "object.__setattr__"))) && (decide (PySem.W.subIn K (.ref C) (.type "BaseException") = some true) && (decide (PySem.W.typeIn K (.ref C) = some (.type "type")) && PySem.W.keepIn K (.ref C))))
theorem oexB_ok {K : PySem.W.Frag} {C : Addr} (h : oexB K C = true) : OexC K C := by
  obtain ⟨h1, h⟩ := ba h
  obtain ⟨h2, h⟩ := ba h
  obtain ⟨h3, h⟩ := ba h
  obtain ⟨h4, h5⟩ := ba h
  refine ⟨?_, eqO_ok h2, of_decide_eq_true h3, of_decide_eq_true h4, h5⟩
  cases e : K.lookup C with
  | none => rw [e] at h1; cases h1
  | some o =>
    rw [e] at h1
    obtain ⟨oc, od, dt, sl⟩ := o
    cases oc with
    | type t =>
      cases dt with
      | cls cd =>
        obtain ⟨ht, h6⟩ := ba h1
        have ht2 : t = "type" := of_decide_eq_true ht
        subst ht2
        obtain ⟨nm, bs, mro, ns, qn, hd, sn, sub, ab, col, del⟩ := cd
        obtain ⟨l⟩ := sl
        match mro, l, h6 with
        | .ref C' :: bm, [k0, k1, k2, k3, some (.builtin n), k5], h6 =>
          obtain ⟨g1, h7⟩ := ba h6
          obtain ⟨g2, h8⟩ := ba h7
          obtain ⟨g3, h9⟩ := ba h8
          obtain ⟨g4, g5⟩ := ba h9
          have g1 : C' = C := of_decide_eq_true g1
          have g2 : n = "ValueError.__new__" := of_decide_eq_true g2
          have g3 : del = false := by simpa using g3
          have g4 : hd = true := g4
          subst g1 g2 g3 g4
          exact ⟨_, _, _, _, _, _, _, _, _, _, _, _, _, _, _, rfl, g5⟩
      | _ => cases h1
    | _ => cases dt <;> cases h1
/-! ### a def by a path -/
structure DfP where
  at_ : PySem.W.Frag → Addr
  name : Str
  qual : Str
  st : Stmt
  dfl : List He.Dv := []
  kwd : List (Str × He.Dv) := []
  clo : Option Str := none
abbrev FnQ : Type := Option (Str × Str × Arguments × FuncBody × Scope × Addr × Addr)
def fnQ (K : PySem.W.Frag) (a : Addr) : FnQ := match K.lookup a with
  | some ⟨_, _, .func fd, _⟩ => some (fd.name, fd.qualname, fd.params, fd.body, fd.scope, fd.globals, fd.builtins)
  | _ => none
def DfP.val (d : DfP) : FnQ := some (d.name, d.qual, defArgs d.st, .stmts (defBody d.st), defScope d.st, mainGlobals, builtinsNs)
def fileB (K : PySem.W.Frag) (file : Str) : Value → Bool
  | .ref cda => (match K.lookup cda with
    | some ⟨_, _, .fields vs, _⟩ => (match (vs[2]? : Option Value) with
      | some (.str f _) => file == f
      | _ => false)
    | _ => false)
  | _ => false
theorem fileB_ok {K : PySem.W.Frag} {file : Str} {cdv : Value} (m4 : fileB K file cdv = true) : ∃ (cda : Addr) (ccl : Value) (cdd : Option Addr) (vs : Array Value) (ccs : Array (Option Value)) (f : Str) (tf : Tok), cdv = .ref cda ∧ K.lookup cda = some ⟨ccl, cdd, .fields vs, ccs⟩ ∧ vs[2]? = some (.str f tf) ∧ (file == f) = true := by
  cases cdv with
  | ref cda =>
    unfold fileB at m4
    cases q2 : K.lookup cda with
    | none => simp only [q2] at m4; cases m4
    | some o2 =>
      obtain ⟨oc2, od2, dt2, osl2⟩ := o2
      simp only [q2] at m4
      cases dt2 with
      | fields vs =>
        cases q3 : vs[2]? with
        | none => simp only [q3] at m4; cases m4
        | some v =>
          simp only [q3] at m4
          cases v with
          | str f tf => exact ⟨cda, _, _, vs, _, f, tf, rfl, q2, q3, m4⟩
          | _ => cases m4
      | _ => cases m4
  | _ => cases m4
def cloB (K : PySem.W.Frag) (file : Str) (fd : FuncData) (D : Addr) : Bool := (match fd.closure with
  | [(x, cc)] => decide (x = ("__class__" : Str)) && (match K.lookup cc with
    | some ⟨_, _, .cell (some (.ref D')), _⟩ => decide (D' = D)
    | _ => false)
  | _ => false) && ((PySem.W.clsIn K D).isSome && ((match fd.defaults with
  | .none => true
  | _ => false) && fileB K file fd.code))
def DfP.dvs (K : PySem.W.Frag) (d : DfP) : List V := d.dfl.map (He.Dv.v K)
def DfP.kws (K : PySem.W.Frag) (d : DfP) : List (Str × V) := d.kwd.map fun q => (q.1, q.2.v K)
def DfP.ok (file : Str) (K : PySem.W.Frag) (d : DfP) : Bool := PySem.W.keepIn K (.ref (d.at_ K)) && (match K.lookup (d.at_ K) with
  | some ⟨_, _, .func fd, _⟩ => PySem.W.codeIn K fd.code d.qual && (match d.clo with
    | none => fd.closure.isEmpty && (He.dflB K fd.defaults (d.dvs K) && He.kwdB K fd.kwdefaults (d.kws K))
    | some D => cloB K file fd (ga K D))
  | _ => false)
theorem DfP.funD {K : PySem.W.Frag} {file : Str} {d : DfP} (e : fnQ K (d.at_ K) = d.val) (c : d.ok file K = true) (hc : d.clo = none) : ∃ fd, FunD K d.name d.qual (defArgs d.st) (defBody d.st) (defScope d.st) (d.dvs K) (d.kws K) (d.at_ K) fd := by
  obtain ⟨kp, c2⟩ := ba c
  unfold fnQ at e
  cases q : K.lookup (d.at_ K) with
  | none => rw [q] at c2; cases c2
  | some o =>
    obtain ⟨oc, od, dt, osl⟩ := o
    rw [q] at c2 e
    cases dt with
    | func fd =>
      obtain ⟨n1, n2, n3, n4, n5, n6, n7, n8, n9, n10, n11, n12, n13, n14, n15⟩ := fd
      have e2 : (some (n1, n2, n3, n4, n5, n6, n15) : FnQ) = some (d.name, d.qual, defArgs d.st, .stmts (defBody d.st), defScope d.st, mainGlobals, builtinsNs) := e
      simp only [Option.some.injEq, Prod.mk.injEq] at e2
      obtain ⟨h1, h2, h3, h4, h5, h6, h8⟩ := e2
      subst h1 h2 h3 h4 h5 h6 h8
      obtain ⟨k1, k2⟩ := ba c2
      rw [hc] at k2
      obtain ⟨k0, k3⟩ := ba k2
      obtain ⟨k4, k5⟩ := ba k3
      have k0 : n7 = [] := List.isEmpty_iff.mp k0
      subst k0
      exact ⟨_, ⟨oc, od, n8, n9, n10, n11, n12, n13, n14, osl, rfl, q, k1, He.dflB_ok k4, He.kwdB_ok k5⟩, kp⟩
    | _ => cases c2
theorem fun_of {K : PySem.W.Frag} {x q : Str} {st : Stmt} {f : Addr} {fd : FuncData} (F : FunD K x q (defArgs st) (defBody st) (defScope st) [] [] f fd) : Fun K x q st f fd := by
  obtain ⟨oc, od, dV, kV, doc, pm, an, cdv, ct, osl, rfl, lk, hcd, hD, hK⟩ := F.ex
  rcases hD with ⟨_, rfl⟩ | ⟨e, _⟩
  · exact ⟨⟨oc, od, kV, doc, pm, an, cdv, ct, osl, rfl, lk, hcd⟩, F.kp⟩
  · exact absurd rfl e
theorem DfP.funS {P : Program} {K : PySem.W.Frag} {d : DfP} {D : Str} (e : fnQ K (d.at_ K) = d.val) (c : d.ok P.main.file K = true) (hc : d.clo = some D) : ∃ cc fd, FunS P K d.name d.qual d.st (d.at_ K) cc (ga K D) fd := by
  obtain ⟨kp, c2⟩ := ba c
  unfold fnQ at e
  cases q : K.lookup (d.at_ K) with
  | none => rw [q] at c2; cases c2
  | some o =>
    obtain ⟨oc, od, dt, osl⟩ := o
    rw [q] at c2 e
    cases dt with
    | func fd =>
      obtain ⟨n1, n2, n3, n4, n5, n6, n7, n8, n9, n10, n11, n12, n13, n14, n15⟩ := fd
      have e2 : (some (n1, n2, n3, n4, n5, n6, n15) : FnQ) = some (d.name, d.qual, defArgs d.st, .stmts (defBody d.st), defScope d.st, mainGlobals, builtinsNs) := e
      simp only [Option.some.injEq, Prod.mk.injEq] at e2
      obtain ⟨h1, h2, h3, h4, h5, h6, h8⟩ := e2
      subst h1 h2 h3 h4 h5 h6 h8
      obtain ⟨k1, k2⟩ := ba c2
      rw [hc] at k2
      obtain ⟨m1, k2⟩ := ba k2
      obtain ⟨m2, k2⟩ := ba k2
      obtain ⟨m3, m4⟩ := ba k2
      match n7, m1 with
      | [(x, cc)], m1 =>
        obtain ⟨x1, x2⟩ := ba m1
        have x1 : x = ("__class__" : Str) := of_decide_eq_true x1
        subst x1
        have m3' : n8 = .none := by
          cases n8 with
          | none => rfl
          | _ => cases m3
        subst m3'
        refine ⟨cc, _, ⟨⟨oc, od, n9, n10, n11, n12, n13, n14, osl, rfl, q, k1, ?_⟩, ?_, ?_, kp⟩⟩
        · exact fileB_ok m4
        · cases q2 : K.lookup cc with
          | none => rw [q2] at x2; cases x2
          | some o2 =>
            obtain ⟨oc2, od2, dt2, osl2⟩ := o2
            rw [q2] at x2
            cases dt2 with
            | cell v =>
              cases v with
              | none => cases x2
              | some v =>
                cases v with
                | ref D' =>
                  have x2 : D' = ga K D := of_decide_eq_true x2
                  exact ⟨oc2, od2, osl2, by rw [x2]⟩
                | _ => cases x2
            | _ => cases x2
        · exact Option.isSome_iff_exists.mp m2
    | _ => cases c2
/-! ### the Hook -/
abbrev AlP : Type := Bool × List FnQ
structure Ask where
  fa : List He.Fa
  fn : List DfP
  ex : PySem.W.Frag → Bool
  file : Str
  names : List Str
def obsP (q : Ask) (K : PySem.W.Frag) : AlP := ((q.fa.all fun f => f.ok K) && ((q.fn.all fun d => d.ok q.file K) && q.ex K), q.fn.map fun d => fnQ K (d.at_ K))
def valP (q : Ask) : AlP := (true, q.fn.map DfP.val)
def SaysP (q : Ask) (K : PySem.W.Frag) : Prop := obsP q K = valP q
def refsF (fd : FuncData) : List Addr := He.refV fd.code ++ (He.refV fd.defaults ++ (He.refV fd.kwdefaults ++ fd.closure.map (·.2)))
def refs2 (o : Obj) : List Addr := match o.data with
  | .func fd => refsF fd
  | .cls cd => cd.ns :: cd.mro.flatMap He.refV
  | _ => []
def refs3 (o : Obj) : List Addr := match o.data with
  | .dict es _ => es.toList.flatMap fun e => He.refV e.val
  | .cls cd => [cd.ns]
  | _ => []
def refs4 (o : Obj) : List Addr := match o.data with
  | .func fd => refsF fd
  | .fields vs => vs.toList.flatMap He.refV
  | _ => []
def refs5 (o : Obj) : List Addr := match o.data with
  | .func fd => refsF fd
  | _ => []
def lev (g : Addr → Option Obj) (r : Obj → List Addr) (as : List Addr) : List Addr := as.flatMap fun a => match g a with
  | some o => r o
  | none => []
def as5 (g : Addr → Option Obj) (a1 : List Addr) : List Addr := lev g refs5 (lev g refs4 (lev g refs3 (lev g refs2 a1)))
def as4 (g : Addr → Option Obj) (a1 : List Addr) : List Addr := lev g refs4 (lev g refs3 (lev g refs2 a1))
def asL (names : List Str) (g : Addr → Option Obj) : List Addr :=
  (fun a1 => mainGlobals :: PySem.cStatics :: (a1 ++ (lev g refs2 a1 ++ (lev g refs3 (lev g refs2 a1) ++ (as4 g a1 ++ as5 g a1))))) (names.map (ga (He.frG g [mainGlobals])))
def obsPG (q : Ask) (g : Addr → Option Obj) : AlP := obsP q (He.frG g (asL q.names g))
def hookP (q : Ask) : PySem.W.Hook where
  α := AlP
  obs := fun s => obsPG q s.heap.get?
  val := fun _ => valP q
  says := fun _ h => ∃ K : PySem.W.Frag, K.In h ∧ SaysP q K
  of := fun _ _ e => ⟨_, He.frG_in, e⟩
  keeps := fun _ _ _ ⟨K, hK, c⟩ k => ⟨K, PySem.W.Frag.In.keeps hK k, c⟩
theorem obsPG_eq {q : Ask} {g : Addr → Option Obj} {s : Shared} (h : ∀ a, g a = s.heap.get? a) : obsPG q g = (hookP q).obs s := by
  have e : g = s.heap.get? := funext h
  rw [e] <;> rfl
section
variable {q : Ask} {K : PySem.W.Frag}
theorem SaysP.b (c : SaysP q K) : (q.fa.all fun f => f.ok K) = true ∧ (q.fn.all fun d => d.ok q.file K) = true ∧ q.ex K = true := by
  have c1 := ba (show ((q.fa.all fun f => f.ok K) && ((q.fn.all fun d => d.ok q.file K) && q.ex K)) = true from congrArg (fun z : AlP => z.1) c)
  exact ⟨c1.1, ba c1.2⟩
theorem SaysP.fact (c : SaysP q K) {f : He.Fa} (h : f ∈ q.fa) : f.ok K = true := List.all_eq_true.mp c.b.1 f h
theorem SaysP.def_ (c : SaysP q K) (i : Nat) {d : DfP} (h : q.fn[i]? = some d := by rfl) : fnQ K (d.at_ K) = d.val ∧ d.ok q.file K = true := by
  have e : q.fn.map (fun d => fnQ K (d.at_ K)) = q.fn.map DfP.val := congrArg (fun z : AlP => z.2) c
  have e2 : (q.fn.map fun d => fnQ K (d.at_ K))[i]? = (q.fn.map DfP.val)[i]? := by rw [e]
  rw [List.getElem?_map, List.getElem?_map, h] at e2
  exact ⟨Option.some.inj e2, List.all_eq_true.mp c.b.2.1 d (List.mem_of_getElem? h)⟩
end
end GR

set_option Elab.async false
set_option linter.all false
set_option maxRecDepth 100000
set_option maxHeartbeats 8000000
/-! All facts that the head tells, all defs together. -/
namespace GR
open PySem PySem.Spec PyProof.Rows L2
open He (ga ma ba eqO eqO_ok)
abbrev pg : Program := PySem.Challenge.pw_gaugemiss_k78_whole_many_kept
/-! ### facts of my own, as Bools -/
def supB (K : PySem.W.Frag) (C D m : Str) (g : Addr) : Bool := eqO (PySem.W.ks_superIn K (ga K C) (ga K D) m) (some (some (.ref g))) && (decide (PySem.W.mroIn K (ga K C) (.ref (ga K D)) = some true) && (decide (PySem.W.typeIn K (.ref g) = some (.type "function")) && PySem.W.fnIn K g))
theorem supB_ok {K : PySem.W.Frag} {C D m : Str} {g : Addr} (h : supB K C D m g = true) : SupAt K C D m g := by
  obtain ⟨h1, h⟩ := ba h
  obtain ⟨h2, h⟩ := ba h
  obtain ⟨h3, h4⟩ := ba h
  exact ⟨eqO_ok h1, of_decide_eq_true h2, of_decide_eq_true h3, h4⟩
def rdB (K : PySem.W.Frag) (C : Str) : Bool := PySem.W.readsIn K (ga K C) (.type "type") && eqO (PySem.W.specialIn K (.ref (ga K C)) "__getattribute__") (some (some (.builtin "type.__getattribute__")))
theorem rdB_ok {K : PySem.W.Frag} {C : Str} (h : rdB K C = true) : ClX.CRead K (ga K C) (.type "type") := ⟨(ba h).1, eqO_ok (ba h).2⟩
def clsfnB (K : PySem.W.Frag) (C m : Str) : Bool := rdB K C && ((match PySem.W.findCls K (.ref (ga K C)) (.type "type") m with
  | some (.val (.ref g)) => decide (g = ma K (ga K C) m)
  | _ => false) && PySem.W.keepIn K (.ref (ma K (ga K C) m)))
theorem clsfnB_ok {K : PySem.W.Frag} {C m : Str} (h : clsfnB K C m = true) : ClsFn K (ga K C) (.type "type") m (ma K (ga K C) m) := by
  obtain ⟨h1, h⟩ := ba h
  obtain ⟨h2, h3⟩ := ba h
  refine ⟨rdB_ok h1, ?_, h3⟩
  split at h2
  · rename_i g e
    rw [e, show g = ma K (ga K C) m from of_decide_eq_true h2]
  · cases h2
def cvalB (K : PySem.W.Frag) (C f : Str) (v : V) : Bool := match PySem.W.findCls K (.ref (ga K C)) (.type "type") f with
  | some (.val u) => He.relB v u
  | _ => false
theorem cvalB_ok {K : PySem.W.Frag} {C f : Str} {v : V} (h : cvalB K C f v = true) : ∃ u, ClX.CVal K (ga K C) (.type "type") f v u := by
  unfold cvalB at h
  split at h
  · rename_i u e
    exact ⟨u, e, He.relB_ok h⟩
  · cases h
/-- the def behind Rack.of -/
def pOf (K : PySem.W.Frag) : Addr := match PySem.W.findCls K (.ref (ga K "Rack")) (.type "type") "of" with
  | some (.get _ (.ref p) _ _) => (match PySem.W.recIn K p "classmethod" with
    | some (.ref g :: _) => g
    | _ => 0)
  | _ => 0
def cmetB (K : PySem.W.Frag) : Bool := (match PySem.W.findCls K (.ref (ga K "Rack")) (.type "type") "of" with
  | some (.get (.builtin i) (.ref p) .none (.ref C)) => decide (i = "classmethod.__get__") && (decide (C = ga K "Rack") && (match PySem.W.recIn K p "classmethod" with
    | some (.ref g :: _) => decide (g = pOf K)
    | _ => false))
  | _ => false) && PySem.W.fnIn K (pOf K)
theorem cmetB_ok {K : PySem.W.Frag} (h : cmetB K = true) : ∃ p, ClX.CMet K (ga K "Rack") (.type "type") "of" p (pOf K) := by
  obtain ⟨h1, h2⟩ := ba h
  split at h1
  · rename_i i p C e
    obtain ⟨a1, h1⟩ := ba h1
    obtain ⟨a2, a3⟩ := ba h1
    have a1 : i = "classmethod.__get__" := of_decide_eq_true a1
    have a2 : C = ga K "Rack" := of_decide_eq_true a2
    subst a1 a2
    split at a3
    · rename_i g r e2
      have a3 : g = pOf K := of_decide_eq_true a3
      exact ⟨p, e, ⟨r, by rw [e2, a3]⟩, h2⟩
    · cases a3
  · cases h1
/-- the setter behind Keeper.limit -/
def pSet (K : PySem.W.Frag) : Addr := match PySem.W.takerIn K (ga K "Keeper") "limit" with
  | some (some (.ref p)) => (match PySem.W.recIn K p "property" with
    | some (_ :: .ref g :: _) => g
    | _ => 0)
  | _ => 0
def psetB (K : PySem.W.Frag) : Bool := (match PySem.W.takerIn K (ga K "Keeper") "limit" with
  | some (some (.ref p)) => decide (PySem.W.typeIn K (.ref p) = some (.type "property")) && (match PySem.W.recIn K p "property" with
    | some (_ :: .ref g :: _) => decide (g = pSet K)
    | _ => false)
  | _ => false) && (eqO (PySem.W.findIn K (.ref (ga K "Keeper")) "__setattr__") (some (some (.builtin "object.__setattr__"))) && PySem.W.plainOver K (ga K "Keeper"))
theorem psetB_ok {K : PySem.W.Frag} (h : psetB K = true) : ∃ p, PSetOf K (ga K "Keeper") "limit" p (pSet K) := by
  obtain ⟨h1, h⟩ := ba h
  obtain ⟨h2, h3⟩ := ba h
  split at h1
  · rename_i p e
    obtain ⟨a1, a3⟩ := ba h1
    split at a3
    · rename_i a g r e2
      have a3 : g = pSet K := of_decide_eq_true a3
      exact ⟨p, eqO_ok h2, h3, e, of_decide_eq_true a1, ⟨a, r, by rw [e2, a3]⟩⟩
    · cases a3
  · cases h1
/-- the default of Rack.__init__'s keyword -/
def pTog (K : PySem.W.Frag) : Addr := match K.lookup (ma K (ga K "Rack") "__init__") with
  | some ⟨_, _, .func fd, _⟩ => (match fd.kwdefaults with
    | .ref D => (match PySem.W.nsIn K D "together" with
      | some (some (.ref a)) => a
      | _ => 0)
    | _ => 0)
  | _ => 0
def pTog2 (K : PySem.W.Frag) : Addr := match K.lookup (pOf K) with
  | some ⟨_, _, .func fd, _⟩ => (match fd.defaults with
    | .ref T => (match K.lookup T with
      | some ⟨_, _, .seq its _, _⟩ => (match its.toList with
        | .ref a :: _ => a
        | _ => 0)
      | _ => 0)
    | _ => 0)
  | _ => 0
/-! ### the defs -/
def mth (C m q : Str) (st : Stmt) (clo : Option Str := none) : DfP := { at_ := fun K => ma K (ga K C) m, name := m, qual := q, st := st, clo := clo }
def glb (x : Str) (st : Stmt) : DfP := { at_ := fun K => ga K x, name := x, qual := x, st := st }
def fnL : List DfP := [
  mth "NoCase" "__init__" "NoCase.__init__" sNoCaseI (some "NoCase"), mth "Keeper" "__init__" "Keeper.__init__" sKeepI, { at_ := pSet, name := "limit", qual := "Keeper.limit", st := sKeepSet }, mth "Keeper" "kept" "Keeper.kept" sKept, mth "Keeper" "dropped" "Keeper.dropped" sDropped, mth "Keeper" "take" "Keeper.take" sTakeK,
  glb "in_order" sInOrder, glb "span_list" sSpanList, glb "offset" sOffset, glb "feasible" sFeasible, glb "top_level" sTopLevel, glb "best_top" sBestTop, glb "honest_reach" sHonest, glb "drop_case" sDropCase,
  mth "Gauge" "__init__" "Gauge.__init__" sGaugeI, mth "Gauge" "slack_below" "Gauge.slack_below" sGaugeB, mth "Gauge" "slack_above" "Gauge.slack_above" sGaugeA,
  mth "CoarseGauge" "__init__" "CoarseGauge.__init__" sCoarseI (some "CoarseGauge"), mth "CoarseGauge" "slack_above" "CoarseGauge.slack_above" sCoarseA (some "CoarseGauge"),
  mth "LateGauge" "__init__" "LateGauge.__init__" sLateI, mth "LateGauge" "slack_below" "LateGauge.slack_below" sLateB (some "LateGauge"), mth "LateGauge" "slack_above" "LateGauge.slack_above" sLateA (some "LateGauge"),
  mth "LateCoarseGauge" "__init__" "LateCoarseGauge.__init__" sLaCoI, glb "valid_name" sValid,
  { at_ := fun K => ma K (ga K "Rack") "__init__", name := "__init__", qual := "Rack.__init__", st := sRackI, kwd := [("together", .adr pTog)] }, { at_ := pOf, name := "of", qual := "Rack.of", st := sRackOf, dfl := [.adr pTog2] }, mth "Rack" "names" "Rack.names" sNames, mth "Rack" "gauge" "Rack.gauge" sRackG,
  glb "_law_box" sBox, glb "_law_take" sTake, glb "_law_whole" sWhole, glb "_law_word" sWord, glb "_law_words" sWords, glb "_law_specs" sSpecs, glb "_law_slacks" sSlacks, glb "_law_gauge" sGauge, glb "_law_gauges" sGauges, glb "_law_farthest" sFarthest, glb "_law_fair" sFair, glb "_law_spot" sSpot, glb "_law_case" sCase, glb "_law_drops" sDrops, glb "_law_steep" sSteep, glb "law" sLaw]
def four : List Str := ["Gauge", "CoarseGauge", "LateGauge", "LateCoarseGauge"]
def five : List Str := ["name", "radius", "step", "late", "pace"]
def gloL : List Str := (["NoCase", "Keeper", "Rack", "WORDS", "in_order", "span_list", "offset", "feasible", "top_level", "best_top", "honest_reach", "drop_case", "valid_name"] : List Str) ++ (["_law_box", "_law_take", "_law_whole", "_law_word", "_law_words", "_law_specs", "_law_slacks", "_law_gauge", "_law_gauges", "_law_farthest", "_law_fair", "_law_spot", "_law_case", "_law_drops", "_law_steep", "law"] : List Str) ++ four
def freeL : List Str := ["len", "int", "bool", "str", "isinstance", "sorted", "abs", "max", "sum", "all", "enumerate", "range", "tuple", "list", "super"]
def faL : List He.Fa := gloL.map .glo ++ (freeL.map .free ++ ([.str "LETTERS" letters, .exm "NoCase" "NoCase" true, .noat "NoCase" "lot", .cls "Rack", .noat "Rack" "gauges", .noat "Rack" "groups", .meth "Rack" "names", .meth "Rack" "gauge", .mkr "Rack", .cls "Keeper", .noat "Keeper" "bound", .noat "Keeper" "order", .noat "Keeper" "gone", .meth "Keeper" "kept", .meth "Keeper" "dropped", .meth "Keeper" "take", .mkr "Keeper"] ++
  (four.map .cls ++ (four.map .mkr ++ (four.map (fun c => .meth c "slack_below") ++ (four.map (fun c => .meth c "slack_above") ++ four.flatMap fun c => five.map fun f => .noat c f))))))
def exB (K : PySem.W.Frag) : Bool :=
  oexB K (ga K "NoCase") && (xfB K (ga K "NoCase") && (eqO (PySem.W.ks_superIn K (ga K "NoCase") (ga K "NoCase") "__init__") (some (some (.builtin "ValueError.__init__"))) && (decide (PySem.W.mroIn K (ga K "NoCase") (.ref (ga K "NoCase")) = some true) && (decide (PySem.W.subIn K (.ref (ga K "NoCase")) (.type "ValueError") = some true) &&
  (eqO (PySem.W.findIn K (.ref (ga K "NoCase")) "__init__") (some (some (.ref (ma K (ga K "NoCase") "__init__")))) && (decide (PySem.W.typeIn K (.ref (ma K (ga K "NoCase") "__init__")) = some (.type "function")) && (eqO (PySem.W.nsIn K PySem.cStatics "thirdparty.any") (some none) &&
  (supB K "CoarseGauge" "CoarseGauge" "__init__" (fGI K) && (supB K "CoarseGauge" "CoarseGauge" "slack_above" (fGA K) && (supB K "LateCoarseGauge" "CoarseGauge" "slack_above" (fGA K) && (supB K "LateGauge" "LateGauge" "slack_below" (fGB K) && (supB K "LateCoarseGauge" "LateGauge" "slack_below" (fGB K) &&
  (supB K "LateGauge" "LateGauge" "slack_above" (fGA K) && (supB K "LateCoarseGauge" "LateGauge" "slack_above" (fCA K) && (clsfnB K "Gauge" "__init__" && (clsfnB K "LateGauge" "__init__" && (rdB K "Rack" && (cvalB K "Gauge" "LONGEST" (.int 12) && (cmetB K && (psetB K &&
  (He.tupB K "WORDS" [.str "rank", .str "trim", .str "weigh", .str "together"] && (decide (ma K (ga K "CoarseGauge") "slack_below" = fGB K) && (decide (ma K (ga K "LateCoarseGauge") "slack_below" = fLB K) && decide (ma K (ga K "LateCoarseGauge") "slack_above" = fLA K))))))))))))))))))))))))
def ask : Ask := { fa := faL, fn := fnL, ex := exB, file := pg.main.file, names := gloL }
end GR

set_option Elab.async false
set_option linter.all false
set_option maxRecDepth 100000
set_option maxHeartbeats 8000000
namespace GR
open PySem PySem.Spec PyProof.Rows L2
open He (ga ma ba eqO eqO_ok)
section
variable {K : PySem.W.Frag} {h : Heap} {mg : Str → Option Value}
theorem mem_fa1 {x : Str} (hx : x ∈ gloL) : He.Fa.glo x ∈ faL := List.mem_append_left _ (List.mem_map.mpr ⟨x, hx, rfl⟩)
theorem mem_fa2 {x : Str} (hx : x ∈ freeL) : He.Fa.free x ∈ faL := List.mem_append_right _ (List.mem_append_left _ (List.mem_map.mpr ⟨x, hx, rfl⟩))
theorem mem_fa4 {x : Str} (hx : x ∈ four) : He.Fa.cls x ∈ faL := List.mem_append_right _ (List.mem_append_right _ (List.mem_append_right _ (List.mem_append_left _ (List.mem_map.mpr ⟨x, hx, rfl⟩))))
theorem mem_fa5 {x : Str} (hx : x ∈ four) : He.Fa.mkr x ∈ faL := List.mem_append_right _ (List.mem_append_right _ (List.mem_append_right _ (List.mem_append_right _ (List.mem_append_left _ (List.mem_map.mpr ⟨x, hx, rfl⟩)))))
theorem mem_fa6 {x : Str} (hx : x ∈ four) : He.Fa.meth x "slack_below" ∈ faL := List.mem_append_right _ (List.mem_append_right _ (List.mem_append_right _ (List.mem_append_right _ (List.mem_append_right _ (List.mem_append_left _ (List.mem_map.mpr ⟨x, hx, rfl⟩))))))
theorem mem_fa7 {x : Str} (hx : x ∈ four) : He.Fa.meth x "slack_above" ∈ faL := List.mem_append_right _ (List.mem_append_right _ (List.mem_append_right _ (List.mem_append_right _ (List.mem_append_right _ (List.mem_append_right _ (List.mem_append_left _ (List.mem_map.mpr ⟨x, hx, rfl⟩)))))))
theorem mem_fa8 {x f : Str} (hx : x ∈ four) (hf : f ∈ five) : He.Fa.noat x f ∈ faL := List.mem_append_right _ (List.mem_append_right _ (List.mem_append_right _ (List.mem_append_right _ (List.mem_append_right _ (List.mem_append_right _ (List.mem_append_right _ (List.mem_flatMap.mpr ⟨x, hx, List.mem_map.mpr ⟨f, hf, rfl⟩⟩)))))))
theorem mem_fa3 {i : Nat} {f : He.Fa} (hf : ([He.Fa.str "LETTERS" letters, .exm "NoCase" "NoCase" true, .noat "NoCase" "lot", .cls "Rack", .noat "Rack" "gauges", .noat "Rack" "groups", .meth "Rack" "names", .meth "Rack" "gauge", .mkr "Rack", .cls "Keeper", .noat "Keeper" "bound", .noat "Keeper" "order", .noat "Keeper" "gone", .meth "Keeper" "kept", .meth "Keeper" "dropped", .meth "Keeper" "take", .mkr "Keeper"] : List He.Fa)[i]? = some f) : f ∈ faL :=
  List.mem_append_right _ (List.mem_append_right _ (List.mem_append_left _ (List.mem_of_getElem? hf)))
theorem cn_four (i : Nat) : cn i ∈ four := by
  unfold cn
  split
  · exact List.mem_cons_of_mem _ List.mem_cons_self
  · exact List.mem_cons_of_mem _ (List.mem_cons_of_mem _ List.mem_cons_self)
  · exact List.mem_cons_of_mem _ (List.mem_cons_of_mem _ (List.mem_cons_of_mem _ List.mem_cons_self))
  · exact List.mem_cons_self
theorem cn_glo (i : Nat) : cn i ∈ gloL := List.mem_append_right _ (cn_four i)
/-- facts that need no run of a def -/
structure Told (K : PySem.W.Frag) (mg : Str → Option Value) : Prop where
  B : Bl mg
  T : GTx K mg
  V : VTx K mg
  S : STx K
  L : LTx K
  M : MkTx K
  N : NTx K mg (ma K (ga K "NoCase") "__init__")
  R : KTx K
  P : PTx K (pSet K)
  glo : ∀ x ∈ gloL, mg x = some (.ref (ga K x))
  sb : ∀ x ∈ four, Meth K (ga K x) "slack_below" (ma K (ga K x) "slack_below")
  sa : ∀ x ∈ four, Meth K (ga K x) "slack_above" (ma K (ga K x) "slack_above")
  e1 : ma K (ga K "CoarseGauge") "slack_below" = fGB K
  e2 : ma K (ga K "LateCoarseGauge") "slack_below" = fLB K
  e3 : ma K (ga K "LateCoarseGauge") "slack_above" = fLA K
  rd : ClX.CRead K (ga K "Rack") (.type "type")
  cm : ∃ p, ClX.CMet K (ga K "Rack") (.type "type") "of" p (pOf K)
  mkR : Mk K (ga K "Rack") (ma K (ga K "Rack") "__init__")
  mkK : Mk K (ga K "Keeper") (ma K (ga K "Keeper") "__init__")
  rn : Meth K (ga K "Rack") "names" (ma K (ga K "Rack") "names")
  rg : Meth K (ga K "Rack") "gauge" (ma K (ga K "Rack") "gauge")
  kk : Meth K (ga K "Keeper") "kept" (ma K (ga K "Keeper") "kept")
  kd : Meth K (ga K "Keeper") "dropped" (ma K (ga K "Keeper") "dropped")
  kt : Meth K (ga K "Keeper") "take" (ma K (ga K "Keeper") "take")
theorem told3 (c : SaysP ask K) {i : Nat} {f : He.Fa} (h : ([He.Fa.str "LETTERS" letters, .exm "NoCase" "NoCase" true, .noat "NoCase" "lot", .cls "Rack", .noat "Rack" "gauges", .noat "Rack" "groups", .meth "Rack" "names", .meth "Rack" "gauge", .mkr "Rack", .cls "Keeper", .noat "Keeper" "bound", .noat "Keeper" "order", .noat "Keeper" "gone", .meth "Keeper" "kept", .meth "Keeper" "dropped", .meth "Keeper" "take", .mkr "Keeper"] : List He.Fa)[i]? = some f) : f.ok K = true := c.fact (mem_fa3 h)
theorem told_R (c : SaysP ask K) : KTx K := by
  refine ⟨He.cls_ok (told3 c (i := 3) rfl), fun f hf => ?_⟩
  rcases List.mem_cons.mp hf with h | hf
  · rw [h]; exact He.noat_ok (told3 c (i := 4) rfl)
  · rcases List.mem_cons.mp hf with h | hf
    · rw [h]; exact He.noat_ok (told3 c (i := 5) rfl)
    · cases hf
theorem told_P (c : SaysP ask K) (z6 : psetB K = true) : PTx K (pSet K) := by
  refine ⟨He.cls_ok (told3 c (i := 9) rfl), fun f hf => ?_, psetB_ok z6⟩
  rcases List.mem_cons.mp hf with h | hf
  · rw [h]; exact He.noat_ok (told3 c (i := 10) rfl)
  · rcases List.mem_cons.mp hf with h | hf
    · rw [h]; exact He.noat_ok (told3 c (i := 11) rfl)
    · rcases List.mem_cons.mp hf with h | hf
      · rw [h]; exact He.noat_ok (told3 c (i := 12) rfl)
      · cases hf
theorem told (X : K.In h) (G : h.Ns mainGlobals mg) (c : SaysP ask K) : Told K mg := by
  have fr : ∀ x ∈ freeL, mg x = none := fun x hx => He.free_ok X G (c.fact (mem_fa2 hx))
  have gl : ∀ x ∈ gloL, mg x = some (.ref (ga K x)) := fun x hx => He.glo_ok X G (c.fact (mem_fa1 hx))
  have ex := c.b.2.2
  obtain ⟨x1, ex⟩ := ba ex
  obtain ⟨x2, ex⟩ := ba ex
  obtain ⟨x3, ex⟩ := ba ex
  obtain ⟨x4, ex⟩ := ba ex
  obtain ⟨x5, ex⟩ := ba ex
  obtain ⟨x6, ex⟩ := ba ex
  obtain ⟨x7, ex⟩ := ba ex
  obtain ⟨x8, ex⟩ := ba ex
  obtain ⟨y1, ex⟩ := ba ex
  obtain ⟨y2, ex⟩ := ba ex
  obtain ⟨y3, ex⟩ := ba ex
  obtain ⟨y4, ex⟩ := ba ex
  obtain ⟨y5, ex⟩ := ba ex
  obtain ⟨y6, ex⟩ := ba ex
  obtain ⟨y7, ex⟩ := ba ex
  obtain ⟨z1, ex⟩ := ba ex
  obtain ⟨z2, ex⟩ := ba ex
  obtain ⟨z3, ex⟩ := ba ex
  obtain ⟨z4, ex⟩ := ba ex
  obtain ⟨z5, ex⟩ := ba ex
  obtain ⟨z6, ex⟩ := ba ex
  obtain ⟨w1, ex⟩ := ba ex
  obtain ⟨w2, ex⟩ := ba ex
  obtain ⟨w3, w4⟩ := ba ex
  have ops := eqO_ok x8
  have f3 : ∀ {i : Nat} {f : He.Fa}, ([He.Fa.str "LETTERS" letters, .exm "NoCase" "NoCase" true, .noat "NoCase" "lot", .cls "Rack", .noat "Rack" "gauges", .noat "Rack" "groups", .meth "Rack" "names", .meth "Rack" "gauge", .mkr "Rack", .cls "Keeper", .noat "Keeper" "bound", .noat "Keeper" "order", .noat "Keeper" "gone", .meth "Keeper" "kept", .meth "Keeper" "dropped", .meth "Keeper" "take", .mkr "Keeper"] : List He.Fa)[i]? = some f → f.ok K = true := fun h => c.fact (mem_fa3 h)
  have frx : ∀ i x, freeL[i]? = some x → mg x = none := fun i x h => fr x (List.mem_of_getElem? h)
  have hT : GTx K mg := ⟨fun i => He.cls_ok (c.fact (mem_fa4 (cn_four i))), fun i f hf => He.noat_ok (c.fact (mem_fa8 (cn_four i) hf)), fun i => gl _ (cn_glo i), ops⟩
  have hV : VTx K mg := by
    obtain ⟨u, hu⟩ := cvalB_ok z4
    obtain ⟨t, ht⟩ := He.str_ok X G (f3 (i := 0) rfl)
    refine ⟨⟨_, (clsfnB_ok z1).rd, u, hu⟩, gl "Gauge" (cn_glo 0), ⟨_, ht, ⟨t, rfl⟩⟩, gl "WORDS" (List.mem_append_left _ (List.mem_append_left _ (List.mem_of_getElem? (i := 3) rfl))), fun H => He.tupB_ok w1 H⟩
  have hS : STx K := ⟨supB_ok y1, supB_ok y2, supB_ok y3, supB_ok y4, supB_ok y5, supB_ok y6, supB_ok y7⟩
  have hL : LTx K := ⟨⟨_, clsfnB_ok z1⟩, ⟨_, clsfnB_ok z2⟩⟩
  have hM : MkTx K := ⟨He.mkr_ok (c.fact (mem_fa5 (cn_four 0))), He.mkr_ok (c.fact (mem_fa5 (cn_four 1))), He.mkr_ok (c.fact (mem_fa5 (cn_four 2))), He.mkr_ok (c.fact (mem_fa5 (cn_four 3)))⟩
  have hN : NTx K mg (ma K (ga K "NoCase") "__init__") := ⟨gl "NoCase" (List.mem_append_left _ (List.mem_append_left _ (List.mem_of_getElem? (i := 0) rfl))), oexB_ok x1, xfB_ok x2, He.noat_ok (f3 (i := 2) rfl), eqO_ok x3, of_decide_eq_true x4, of_decide_eq_true x5, eqO_ok x6, of_decide_eq_true x7, He.exm_ok (f3 (i := 1) rfl), ops⟩
  exact { B := ⟨frx 0 _ rfl, frx 1 _ rfl, frx 2 _ rfl, frx 3 _ rfl, frx 4 _ rfl, frx 5 _ rfl, frx 6 _ rfl, frx 7 _ rfl, frx 8 _ rfl, frx 9 _ rfl, frx 10 _ rfl, frx 11 _ rfl, frx 12 _ rfl, frx 13 _ rfl, frx 14 _ rfl⟩, T := hT, V := hV, S := hS, L := hL, M := hM, N := hN, R := (told_R c), P := (told_P c z6), glo := gl, sb := (fun x hx => He.meth_ok (c.fact (mem_fa6 hx))), sa := (fun x hx => He.meth_ok (c.fact (mem_fa7 hx))), e1 := of_decide_eq_true w2, e2 := of_decide_eq_true w3, e3 := of_decide_eq_true w4, rd := rdB_ok z3, cm := cmetB_ok z5, mkR := He.mkr_ok (f3 (i := 8) rfl), mkK := He.mkr_ok (f3 (i := 16) rfl), rn := He.meth_ok (f3 (i := 6) rfl), rg := He.meth_ok (f3 (i := 7) rfl), kk := He.meth_ok (f3 (i := 13) rfl), kd := He.meth_ok (f3 (i := 14) rfl), kt := He.meth_ok (f3 (i := 15) rfl) }
end
end GR

set_option Elab.async false
set_option linter.all false
set_option maxRecDepth 100000
set_option maxHeartbeats 8000000
namespace GR
open PySem PySem.Spec PyProof.Rows L2
open He (ga ma ba eqO eqO_ok)
section
variable {K : PySem.W.Frag} {mg : Str → Option Value} {w : World} {base : Heap}
theorem gfun (c : SaysP ask K) (i : Nat) {d : DfP} (h : fnL[i]? = some d) (h1 : d.clo = none) (h2 : d.dfl = []) (h3 : d.kwd = []) : ∃ fd, Fun K d.name d.qual d.st (d.at_ K) fd := by
  obtain ⟨e, k⟩ := c.def_ i (d := d) h
  obtain ⟨fd, F⟩ := DfP.funD e k h1
  have e1 : d.dvs K = [] := by unfold DfP.dvs; rw [h2]; rfl
  have e2 : d.kws K = [] := by unfold DfP.kws; rw [h3]; rfl
  rw [e1, e2] at F
  exact ⟨fd, fun_of F⟩
theorem gGF (c : SaysP ask K) (t : Told K mg) (i : Nat) {x : Str} {st : Stmt} (h : fnL[i]? = some (glb x st)) (hx : x ∈ gloL) : GF K mg x st := by
  obtain ⟨fd, F⟩ := gfun c i h rfl rfl rfl
  exact ⟨_, fd, F, t.glo x hx⟩
theorem gfunS (c : SaysP ask K) (i : Nat) {d : DfP} {D : Str} (h : fnL[i]? = some d) (h1 : d.clo = some D) : ∃ cc fd, FunS pg K d.name d.qual d.st (d.at_ K) cc (ga K D) fd := by
  obtain ⟨e, k⟩ := c.def_ i (d := d) h
  exact DfP.funS (P := pg) e k h1
theorem inG {i : Nat} {x : Str} (h : gloL[i]? = some x) : x ∈ gloL := List.mem_of_getElem? h
theorem four_at (i : Nat) (hi : i < 4) : cn i ∈ four := cn_four i
theorem law_ok (t : Told K mg) (c : SaysP ask K) {fd : FuncData} (FL : Fun K "law" "law" sLaw (ga K "law") fd) : FnOk pg w K mg base CX0 9 (ga K "law") fd ["_law_script"] (spLaw K) := by
  have htop : (pg.main.scope.names.lookup ("super" : Str)).isSome = false := by decide +kernel
  have B := t.B
  have T := t.T
  have S := t.S
  have L := t.L
  -- the gauges
  have dV : GDef pg w K mg base CX0 1 "valid_name" spValid := d_valid (gGF c t 23 rfl (inG (i := 12) rfl)) B t.V
  obtain ⟨_, F14⟩ := gfun c 14 rfl rfl rfl rfl
  obtain ⟨_, F15⟩ := gfun c 15 rfl rfl rfl rfl
  obtain ⟨_, F16⟩ := gfun c 16 rfl rfl rfl rfl
  obtain ⟨_, fdC, F17⟩ := gfunS c 17 rfl rfl
  obtain ⟨_, _, F18⟩ := gfunS c 18 rfl rfl
  obtain ⟨fdL, F19⟩ := gfun c 19 rfl rfl rfl rfl
  obtain ⟨_, _, F20⟩ := gfunS c 20 rfl rfl
  obtain ⟨_, _, F21⟩ := gfunS c 21 rfl rfl
  obtain ⟨fdLC, F22⟩ := gfun c 22 rfl rfl rfl rfl
  have GI : ∀ i, FnR pg w K mg base CX0 2 (fGI K) (spGI K i) := fun i => f_gi F14 T dV i
  have GB : ∀ i, FnR pg w K mg base CX0 1 (fGB K) (spRad K i) := fun i => f_gb F15 T i
  have GA : ∀ i, FnR pg w K mg base CX0 1 (fGA K) (spRad K i) := fun i => f_ga F16 T i
  have CI : FnOk pg w K mg base CX0 3 (fCI K) fdC ["self", "name", "radius", "step"] (spCI K) := f_ci F17 T S B htop (GI 1)
  have CA : ∀ i, (i = 1 ∨ i = 3) → FnR pg w K mg base CX0 2 (fCA K) (spCA K i) := fun i hi => f_ca F18 T S B htop GA i hi
  have LI : ∀ i, FnOk pg w K mg base CX0 3 (fLI K) fdL ["self", "name", "radius", "late", "pace"] (spLI K i) := fun i => f_li F19 T L i (GI i)
  have LB : ∀ i, (i = 2 ∨ i = 3) → FnR pg w K mg base CX0 2 (fLB K) (spSB K i) := fun i hi => f_lb F20 T S B htop GB i hi
  have LA2 : FnR pg w K mg base CX0 2 (fLA K) (spSA K 2) := f_la2 F21 T S B htop GA
  have LA3 : FnR pg w K mg base CX0 3 (fLA K) (spSA K 3) := f_la3 F21 T S B htop (CA 3 (.inr rfl))
  have LCI : FnOk pg w K mg base CX0 4 (fLCI K) fdLC ["self", "name", "radius", "step", "late", "pace"] (spLCI K) := f_lci F22 T L F19 (LI 3)
  have kbC : KBn K fdC ["self", "name", "radius", "step"] 3 ["step"] (fun us ws => us ++ ws) (fun vs zs => vs ++ zs) := kbn_ofS F17 3 ["step"] (fun us ws => us ++ ws) (fun a b => a.append b)
    (fun _ _ _ _ _ _ us ws h1 h2 => match us, h1, ws, h2 with | [_, _, _], _, [_], _ => rfl)
  have kbL : KBn K fdL ["self", "name", "radius", "late", "pace"] 3 ["late", "pace"] (fun us ws => us ++ ws) (fun vs zs => vs ++ zs) := kbn_of F19 3 ["late", "pace"] (fun us ws => us ++ ws) (fun a b => a.append b)
    (fun _ _ _ _ _ _ us ws h1 h2 => match us, h1, ws, h2 with | [_, _, _], _, [_, _], _ => rfl)
  have kbLC : KBn K fdLC ["self", "name", "radius", "step", "late", "pace"] 3 ["pace", "step", "late"] (fun us ws => us ++ ord3 ws) (fun vs zs => vs ++ ord3 zs) := kbn_of F22 3 ["pace", "step", "late"] (fun us ws => us ++ ord3 ws) (fun a b => a.append (ord3_rel b))
    (fun _ _ _ _ _ _ us ws h1 h2 => match us, h1, ws, h2 with | [_, _, _], _, [_, _, _], _ => rfl)
  have hm : ∀ x ∈ four, x = "Gauge" ∨ x = "CoarseGauge" ∨ x = "LateGauge" ∨ x = "LateCoarseGauge" := fun x hx => by
    rcases List.mem_cons.mp hx with h | hx
    · exact .inl h
    · rcases List.mem_cons.mp hx with h | hx
      · exact .inr (.inl h)
      · rcases List.mem_cons.mp hx with h | hx
        · exact .inr (.inr (.inl h))
        · rcases List.mem_cons.mp hx with h | hx
          · exact .inr (.inr (.inr h))
          · cases hx
  have SK : Slk pg w K mg base := by
    refine ⟨fun C sp ⟨i, hi, h1, h2⟩ => ?_, fun C sp ⟨i, hi, h1, h2⟩ => ?_⟩
    · subst h1 h2
      refine ⟨T.cls i, _, t.sb _ (cn_four i), ?_⟩
      match i, hi with
      | 0, _ => exact (sb_rad 0 (.inl rfl) (GB 0)).mono (by decide)
      | 1, _ =>
        have e : ma K (ga K (cn 1)) "slack_below" = fGB K := t.e1
        rw [e]
        exact (sb_rad 1 (.inr rfl) (GB 1)).mono (by decide)
      | 2, _ => exact (LB 2 (.inl rfl)).mono (by decide)
      | 3, _ =>
        have e : ma K (ga K (cn 3)) "slack_below" = fLB K := t.e2
        rw [e]
        exact (LB 3 (.inr rfl)).mono (by decide)
    · subst h1 h2
      refine ⟨T.cls i, _, t.sa _ (cn_four i), ?_⟩
      match i, hi with
      | 0, _ => exact (sa_rad (GA 0)).mono (by decide)
      | 1, _ => exact (sa_ca (CA 1 (.inl rfl))).mono (by decide)
      | 2, _ => exact LA2.mono (by decide)
      | 3, _ =>
        have e : ma K (ga K (cn 3)) "slack_above" = fLA K := t.e3
        rw [e]
        exact LA3
  -- the rack
  obtain ⟨e24, k24⟩ := c.def_ 24 rfl
  obtain ⟨_, F24⟩ := DfP.funD e24 k24 rfl
  obtain ⟨e25, k25⟩ := c.def_ 25 rfl
  obtain ⟨_, F25⟩ := DfP.funD e25 k25 rfl
  obtain ⟨_, F26⟩ := gfun c 26 rfl rfl rfl rfl
  obtain ⟨_, F27⟩ := gfun c 27 rfl rfl rfl rfl
  have RI := f_rackI (P := pg) (w := w) (mg := mg) (base := base) F24 T t.R
  have RO : FnR pg w K mg base CX0 4 (pOf K) (spRackOf K) := f_of F25 t.mkR RI
  have Nm : MDef pg w K mg base CX0 1 (ga K "Rack") "names" (spNames K) := ⟨t.R.cls, _, t.rn, f_names F26 B t.R⟩
  have Gm : MDef pg w K mg base CX0 1 (ga K "Rack") "gauge" (spRackG K) := ⟨t.R.cls, _, t.rg, f_rackG F27 t.R⟩
  -- dropping
  have dIO : GDef pg w K mg base CX0 2 "in_order" (spInOrder K) := d_inOrder (gGF c t 6 rfl (inG (i := 4) rfl)) Nm
  have dSL : GDef pg w K mg base CX0 4 "span_list" (spSpan K) := d_span (gGF c t 7 rfl (inG (i := 5) rfl)) (Gm.mono (by decide)) SK
  have dOf : GDef pg w K mg base CX0 1 "offset" (spOffset K) := d_offset (gGF c t 8 rfl (inG (i := 6) rfl))
  have dFe : GDef pg w K mg base CX0 2 "feasible" (spFeasible K) := d_feasible (gGF c t 9 rfl (inG (i := 7) rfl)) B dOf
  have dTo : GDef pg w K mg base CX0 3 "top_level" (spTop K) := d_top (gGF c t 10 rfl (inG (i := 8) rfl)) B dFe
  have dBe : GDef pg w K mg base CX0 5 "best_top" (spBest K) := d_best (gGF c t 11 rfl (inG (i := 9) rfl)) B dSL (dTo.mono (by decide))
  have dHo : GDef pg w K mg base CX0 6 "honest_reach" (spHonest K) := d_honest (gGF c t 12 rfl (inG (i := 10) rfl)) B (dIO.mono (by decide)) dBe
  obtain ⟨ccN, fdN, F0⟩ := gfunS c 0 rfl rfl
  have NI : FnOk pg w K mg base CX0 2 (ma K (ga K "NoCase") "__init__") fdN ["self", "lot"] (spNoCase (ga K "NoCase") K) := f_noCase F0 t.N B htop
  have bN : Binds K fdN ["self", "lot"] [] := bindsS F0 fun _ _ _ _ _ _ us hl => match us, hl with | [_, _], _ => rfl
  have dDr : GDef pg w K mg base (L2.CX pg w) 7 "drop_case" (spDrop K) := d_drop (ccN := ccN) (gGF c t 13 rfl (inG (i := 11) rfl)) B t.N NI bN (dIO.mono (by decide)) dHo (dBe.mono (by decide)) (dSL.mono (by decide)) (dOf.mono (by decide)) (Nm.mono (by decide))
  -- the keeper
  obtain ⟨_, F1⟩ := gfun c 1 rfl rfl rfl rfl
  obtain ⟨_, F2⟩ := gfun c 2 rfl rfl rfl rfl
  obtain ⟨_, F3⟩ := gfun c 3 rfl rfl rfl rfl
  obtain ⟨_, F4⟩ := gfun c 4 rfl rfl rfl rfl
  obtain ⟨_, F5⟩ := gfun c 5 rfl rfl rfl rfl
  have KS : FnR pg w K mg base CX0 1 (pSet K) (spKpSet K) := f_kpSet F2 t.P
  have KI : FnR pg w K mg base CX0 4 (ma K (ga K "Keeper") "__init__") (spKpI K) := f_kpI F1 t.P KS (Nm.mono (by decide))
  have Kk : MDef pg w K mg base CX0 1 (ga K "Keeper") "kept" (spKept K) := ⟨t.P.cls, _, t.kk, f_kept F3 t.P⟩
  have Kd : MDef pg w K mg base CX0 1 (ga K "Keeper") "dropped" (spDropped K) := ⟨t.P.cls, _, t.kd, f_dropped F4 B t.P⟩
  have Kt : MDef pg w K mg base CX0 3 (ga K "Keeper") "take" (spKpTake K) := ⟨t.P.cls, _, t.kt, f_kpTake F5 B t.P (Kk.mono (by decide))⟩
  -- the law's own
  have lBx : GDef pg w K mg base CX0 1 "_law_box" (spBox K) := d_box (gGF c t 28 rfl (inG (i := 13) rfl)) B
  have lTk : GDef pg w K mg base CX0 1 "_law_take" spTake := d_take (gGF c t 29 rfl (inG (i := 14) rfl)) B
  have lWh : GDef pg w K mg base CX0 1 "_law_whole" spWhole := d_whole (gGF c t 30 rfl (inG (i := 15) rfl)) B
  have lWd : GDef pg w K mg base CX0 1 "_law_word" spWord := d_word (gGF c t 31 rfl (inG (i := 16) rfl)) B
  have lWs : GDef pg w K mg base CX0 2 "_law_words" spWords := d_words (gGF c t 32 rfl (inG (i := 17) rfl)) B lTk lWd
  have lSs : GDef pg w K mg base CX0 2 "_law_specs" spSpecs := d_specs (gGF c t 33 rfl (inG (i := 18) rfl)) B lTk
  have lSk : GDef pg w K mg base CX0 1 "_law_slacks" spSlacks := d_slacks (gGF c t 34 rfl (inG (i := 19) rfl)) B
  have lGg : GDef pg w K mg base CX0 6 "_law_gauge" (spGauge K) := d_gauge (gGF c t 35 rfl (inG (i := 20) rfl)) B T t.M ((GI 0).mono (by decide)) CI kbC (LI 2) kbL LCI kbLC
  have lGz : GDef pg w K mg base CX0 7 "_law_gauges" (spGauges K) := d_gauges (gGF c t 36 rfl (inG (i := 21) rfl)) B lGg
  have lFa : GDef pg w K mg base CX0 1 "_law_farthest" (spFar K) := d_far (gGF c t 37 rfl (inG (i := 22) rfl)) B
  have lFr : GDef pg w K mg base CX0 2 "_law_fair" (spFair K) := d_fair (gGF c t 38 rfl (inG (i := 23) rfl)) B lSk lWh
  have lSp : GDef pg w K mg base CX0 2 "_law_spot" spSpot := d_spot (gGF c t 39 rfl (inG (i := 24) rfl)) B lTk
  have lCs : GDef pg w K mg base CX0 8 "_law_case" (spCase K) := d_case (gGF c t 40 rfl (inG (i := 25) rfl)) t.N dDr
  have lDr : GDef pg w K mg base CX0 3 "_law_drops" (spDrops K) := d_drops (gGF c t 41 rfl (inG (i := 26) rfl)) B lFr (lFa.mono (by decide))
  have lSt : GDef pg w K mg base CX0 2 "_law_steep" spSteep := d_steep (gGF c t 42 rfl (inG (i := 27) rfl)) B lTk lSk
  obtain ⟨p, hcm⟩ := t.cm
  have LT : LTx2 pg w K mg base := ⟨t.glo "Rack" (inG (i := 2) rfl), ⟨_, p, _, t.rd, hcm, RO.mono (by decide)⟩, t.glo "Keeper" (inG (i := 1) rfl), ⟨_, t.mkK, KI.mono (by decide)⟩, Kk.mono (by decide), Kd.mono (by decide), Kt.mono (by decide)⟩
  exact f_law FL B LT (lBx.mono (by decide)) (lTk.mono (by decide)) (lWs.mono (by decide)) (lSs.mono (by decide)) (lGz.mono (by decide)) (dHo.mono (by decide)) lCs (lDr.mono (by decide)) (lSp.mono (by decide)) (lSt.mono (by decide)) (lFa.mono (by decide))
end
end GR

set_option Elab.async false
set_option linter.all false
set_option maxRecDepth 100000
set_option maxHeartbeats 0
namespace GR
open PySem PySem.Spec PyProof.Rows L2
abbrev R : PySem.W.OpenRow := PySem.W.OpenLaw.row PySem.Challenge.rw_gaugemiss_k78_whole_many_kept
abbrev hkA : PySem.W.Hook := hookP ask
def obA (s : PySem.W.SharedT) : AlP := obsPG ask (HandSHeadRun.getT s)
theorem obA_eq (s : PySem.W.SharedT) : obA s = hkA.obs s.abs := obsPG_eq (HandSHeadRun.getT_eq s)
def loose : List Str := (["__name__", "_wall", "GaugeError", "BadStretch", "NoLevel", "Apart", "BadGauge", "DuplicateGauge", "UnknownGauge", "MissingReading", "BadLimit", "NoCase", "Keeper", "in_order", "span_list", "offset", "feasible", "top_level", "best_top", "honest_reach", "drop_case", "Stretch", "merged"] : List Str) ++ (["Levels", "LETTERS", "WORDS", "Gauge", "CoarseGauge", "LateGauge", "LateCoarseGauge", "valid_name", "Rack", "_law_box", "_law_take", "_law_whole", "_law_word", "_law_words", "_law_specs", "_law_slacks", "_law_gauge", "_law_gauges"] : List Str) ++ (["_law_farthest", "_law_fair", "_law_spot", "_law_case", "_law_drops", "_law_steep"] : List Str)
theorem run (w : World) : HandSHeadRun.RunEq R (PySem.W.view R.prog [51]) hkA obA 20000 loose w := by
  intro os
  kernel_rfl
end GR
open PySem PySem.W PySem.Calls PyProof.Rows
theorem PySem.Challenge.cw_gaugemiss_k78_whole_many_kept_holds : PySem.Challenge.rw_gaugemiss_k78_whole_many_kept.Holds := by
  w_on; o_law
  refine HandSHeadRun.head_any (r := OpenLaw.row PySem.Challenge.rw_gaugemiss_k78_whole_many_kept) (q := view (OpenLaw.row PySem.Challenge.rw_gaugemiss_k78_whole_many_kept).prog [51]) (H := GR.hkA) (ob := GR.obA) (M := 20000) (loose := GR.loose) (d := HandSHeadRun.topDef (OpenLaw.row PySem.Challenge.rw_gaugemiss_k78_whole_many_kept).prog 51) (kwd := []) GR.obA_eq
    (by kernel_rfl) (fun s => by kernel_rfl) GR.run (by kernel_rfl) (by kernel_rfl) (by kernel_rfl) (by rfl) (by first | assumption | decide +kernel) (by decide +kernel) ⟨rfl, rfl, rfl, rfl, rfl, by decide +kernel⟩ ?hw ?hc
  case hw => w_witness2
  case hc =>
    refine L2.walk_ofE (l := PySem.Challenge.rw_gaugemiss_k78_whole_many_kept) (n := 63) (k := 9) (x := "_law_script") (CX := L2.CX0) rfl (by decide) (by kernel_rfl) ⟨rfl, by decide, by decide⟩ ?F (fun _ _ _ _ z => z)
    intro w mg fa h Y G hmg0
    obtain ⟨K, KX, c⟩ := Y
    have hmg : mg ("law" : PySem.Str) = some (.ref fa) := by
      have e : (HandSHeadRun.topDef (OpenLaw.row PySem.Challenge.rw_gaugemiss_k78_whole_many_kept).prog 51).name = ("law" : PySem.Str) := by kernel_rfl
      rw [← e]
      exact hmg0
    have t := GR.told KX G c
    have hl := t.glo "law" (GR.inG (i := 28) rfl)
    obtain ⟨fd, FL⟩ := GR.gfun c 43 (d := GR.glb "law" GR.sLaw) rfl rfl rfl rfl
    have efa : fa = He.ga K "law" := by
      rw [hmg] at hl
      cases hl
      rfl
    subst efa
    have hb : ∀ (s : Shared) (u : Value), BindsTo s fd ⟨[u], []⟩ [("_law_script", u)] := fun s u => by
      obtain ⟨oc, od, kV, doc, pm, an, cdv, ct, osl, e, _, _⟩ := FL.ex
      rw [e]
      exact .of_eq rfl
    exact ⟨K, fd, GR.spLaw K, KX, hb, fun H a ns hl _ hS => ⟨a, ns, rfl, hS, fun _ => rfl⟩, fun base _ _ => GR.law_ok t c FL⟩
#print axioms PySem.Challenge.cw_gaugemiss_k78_whole_many_kept_holds
