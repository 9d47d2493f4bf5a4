import PyProof.Rows.All
import Wide.All
import OpenK.AllK
import Wide.FinOn
import HandS.ForMost
import HandS.ForExc
import HandS.Conv
import HandS.Zip
import HandS.RevRange
import HandS.TupAny
import HandS.IsInst
import HandS.More
import HandS.ExcInit
import HandS.ExcField
import HandS.FStr
import HandS.SortOrd
import HandS.SortRule
import HandS.Evl
import KE.KDictPairs
import KE.DataMinMax
import PySem.Challenge.RW_ballastbook_k32_whole_sightings_in_any_o
set_option Elab.async false
set_option linter.all false
set_option maxRecDepth 100000
set_option maxHeartbeats 400000
namespace Bal
structure S5 where
  (x y z s p : Int)
deriving DecidableEq
def S5.l (t : S5) : List Int := [t.x, t.y, t.z, t.s, t.p]
structure Hill where
  (x y top : Int)
structure Wind where
  (first level dx dy : Int)
structure Shut where
  (x1 y1 x2 y2 low high first last : Int)
structure Sky where
  (hills : List Hill) (cool : List Int) (winds : List Wind) (shuts : List Shut)
structure Sg where
  (w x1 y1 x2 y2 low high : Int) (seen : Bool)
inductive O3 where
  | up | level | down
deriving DecidableEq
inductive Why where
  | ok | hill | shut | sacks | puffs | high | low
deriving DecidableEq

/-! ### the program's functions -/
def insideB (x1 y1 x2 y2 low high x y h : Int) : Bool :=
  if x < x1 ∨ x > x2 then false else if y < y1 ∨ y > y2 then false else decide (low ≤ h) && decide (h ≤ high)
def groundStep (x y : Int) (f : Int) (h : Hill) : Int := if h.x = x ∧ h.y = y then (if h.top > f then h.top else f) else f
def groundAt (hills : List Hill) (x y : Int) : Int := hills.foldl (groundStep x y) 0
def windStep (hour height : Int) (a : Int × Int × Int) (w : Wind) : Int × Int × Int :=
  if w.level = height ∧ w.first ≤ hour ∧ w.first ≥ a.2.2 then (w.dx, w.dy, w.first) else a
def windAt (winds : List Wind) (hour height : Int) : Int × Int × Int := winds.foldl (windStep hour height) (0, 0, -1)
def shutOne (hour x y h : Int) (b : Shut) : Bool := decide (b.first ≤ hour) && (decide (hour ≤ b.last) && insideB b.x1 b.y1 b.x2 b.y2 b.low b.high x y h)
def shutAt (shuts : List Shut) (hour x y h : Int) : Bool := shuts.any (shutOne hour x y h)
def standing (sky : Sky) (hour : Int) (t : S5) : Why :=
  if t.z < groundAt sky.hills t.x t.y then .hill else if shutAt sky.shuts hour t.x t.y t.z = true then .shut else .ok
def heldBack (t : S5) : O3 → Why
  | .up => if t.s = 0 then .sacks else if t.z = 5 then .high else .ok
  | .level => .ok
  | .down => if t.p = 0 then .puffs else if t.z = 0 then .low else .ok
def height1 (z : Int) : O3 → Int
  | .up => z + 1
  | .level => z
  | .down => z - 1
def sacks1 (s : Int) : O3 → Int
  | .up => s - 1
  | _ => s
def puffs1 (p : Int) : O3 → Int
  | .down => p - 1
  | _ => p
def coolDown (cool : List Int) (hour h : Int) : Int := if cool.any (fun c => decide (c = hour)) = true then (if h - 1 > 0 then h - 1 else 0) else h
def ledTo (sky : Sky) (hour : Int) (t : S5) (o : O3) : S5 :=
  let h := coolDown sky.cool hour (height1 t.z o)
  let w := windAt sky.winds hour h
  ⟨t.x + w.1, t.y + w.2.1, h, sacks1 t.s o, puffs1 t.p o⟩
def whyNot (sky : Sky) (hour : Int) (t : S5) (o : O3) : Why :=
  if heldBack t o ≠ .ok then heldBack t o else standing sky (hour + 1) (ledTo sky hour t o)
def choices (sky : Sky) (hour : Int) (t : S5) : List O3 := [O3.up, O3.level, O3.down].filter fun o => decide (whyNot sky hour t o = .ok)
def nexts (sky : Sky) (hour : Int) (t : S5) : List S5 := (choices sky hour t).map (ledTo sky hour t)
def fitOne (hour : Int) (t : S5) (g : Sg) : Bool := !(decide (g.w = hour) && (insideB g.x1 g.y1 g.x2 g.y2 g.low g.high t.x t.y t.z != g.seen))
def fits (sgs : List Sg) (hour : Int) (t : S5) : Bool := sgs.all (fitOne hour t)

/-! ### sorted lists of states -/
def lexB : List Int → List Int → Bool
  | [], [] => false
  | [], _ :: _ => true
  | _ :: _, [] => false
  | x :: xs, y :: ys => if x = y then lexB xs ys else decide (x < y)
theorem lexB_anti : ∀ {a b : List Int}, lexB a b = false → lexB b a = false → a = b
  | [], [], _, _ => rfl
  | [], _ :: _, h, _ => by simp [lexB] at h
  | _ :: _, [], _, h => by simp [lexB] at h
  | x :: xs, y :: ys, h1, h2 => by
    unfold lexB at h1 h2
    by_cases e : x = y
    · subst e
      rw [if_pos rfl] at h1 h2
      rw [lexB_anti h1 h2]
    · rw [if_neg e] at h1
      rw [if_neg (Ne.symm e)] at h2
      have a := of_decide_eq_false h1
      have b := of_decide_eq_false h2
      omega
theorem S5.l_inj {a b : S5} (h : a.l = b.l) : a = b := by
  cases a; cases b
  simp only [S5.l, List.cons.injEq] at h
  obtain ⟨h1, h2, h3, h4, h5, _⟩ := h
  subst h1; subst h2; subst h3; subst h4; subst h5; rfl
structure Srt (L : List S5) : Prop where
  ord : L.Pairwise fun a b => lexB b.l a.l = false
  nd : L.Nodup
theorem Srt.nil : Srt [] := ⟨List.Pairwise.nil, List.Pairwise.nil⟩
theorem Srt.one (t : S5) : Srt [t] := ⟨List.pairwise_singleton _ _, List.pairwise_singleton _ _⟩
theorem Srt.filter {L : List S5} (h : Srt L) (f : S5 → Bool) : Srt (L.filter f) := ⟨h.ord.filter _, h.nd.filter _⟩
theorem srt_uniq : ∀ {L M : List S5}, Srt L → Srt M → (∀ t, t ∈ L ↔ t ∈ M) → L = M
  | [], [], _, _, _ => rfl
  | [], y :: m, _, _, h => absurd ((h y).mpr (List.mem_cons_self ..)) (by simp)
  | x :: l, [], _, _, h => absurd ((h x).mp (List.mem_cons_self ..)) (by simp)
  | x :: l, y :: m, hl, hm, h => by
    have h1 : lexB x.l y.l = false ∨ x = y := by
      rcases List.mem_cons.mp ((h x).mp (List.mem_cons_self ..)) with e | hx
      · exact .inr e
      · exact .inl ((List.pairwise_cons.mp hm.ord).1 x hx)
    have h2 : lexB y.l x.l = false ∨ x = y := by
      rcases List.mem_cons.mp ((h y).mpr (List.mem_cons_self ..)) with e | hy
      · exact .inr e.symm
      · exact .inl ((List.pairwise_cons.mp hl.ord).1 y hy)
    have e : x = y := by
      rcases h1 with h1 | h1
      · rcases h2 with h2 | h2
        · exact S5.l_inj (lexB_anti h1 h2)
        · exact h2
      · exact h1
    subst e
    have ln := List.pairwise_cons.mp hl.nd
    have mn := List.pairwise_cons.mp hm.nd
    rw [srt_uniq ⟨(List.pairwise_cons.mp hl.ord).2, ln.2⟩ ⟨(List.pairwise_cons.mp hm.ord).2, mn.2⟩ fun t => ⟨fun ht => ?_, fun ht => ?_⟩]
    · rcases List.mem_cons.mp ((h t).mp (List.mem_cons_of_mem _ ht)) with e | q
      · exact absurd e.symm (ln.1 t ht)
      · exact q
    · rcases List.mem_cons.mp ((h t).mpr (List.mem_cons_of_mem _ ht)) with e | q
      · exact absurd e.symm (mn.1 t ht)
      · exact q

/-! ### flights -/
section
variable (nx : Nat → S5 → S5 → Prop) (fit : Nat → S5 → Prop) (st : S5)
/-- forward: the states behind k orders, all fitting -/
def Reach : Nat → S5 → Prop
  | 0, t => t = st ∧ fit 0 t
  | k + 1, t => (∃ u, Reach k u ∧ nx k u t) ∧ fit (k + 1) t
/-- from k on, m orders more -/
def Suff : Nat → Nat → S5 → Prop
  | 0, _, _ => True
  | m + 1, k, t => ∃ u, nx k t u ∧ fit (k + 1) u ∧ Suff m (k + 1) u
/-- what is told of hour k, of n hours -/
def Live (n k : Nat) (t : S5) : Prop := Reach nx fit st k t ∧ Suff nx fit (n - k) k t
structure Flt (n : Nat) (f : Nat → S5) : Prop where
  start : f 0 = st
  step : ∀ i, i < n → nx i (f i) (f (i + 1))
  ok : ∀ i, i ≤ n → fit i (f i)
end
section
variable {nx : Nat → S5 → S5 → Prop} {fit : Nat → S5 → Prop} {st : S5}
def put (f : Nat → S5) (k : Nat) (t : S5) : Nat → S5 := fun i => if i = k + 1 then t else f i
theorem put_old {f : Nat → S5} {k i : Nat} {t : S5} (h : i ≤ k) : put f k t i = f i := if_neg (by omega)
theorem put_new {f : Nat → S5} {k : Nat} {t : S5} : put f k t (k + 1) = t := if_pos rfl
theorem flt_put {k : Nat} {t u : S5} {f : Nat → S5} (F : Flt nx fit st k f) (e : f k = u) (hn : nx k u t) (hf : fit (k + 1) t) : Flt nx fit st (k + 1) (put f k t) := by
  refine ⟨?_, fun i hi => ?_, fun i hi => ?_⟩
  · rw [put_old (Nat.zero_le _)]; exact F.start
  · by_cases c : i = k
    · subst c
      rw [put_old (Nat.le_refl _), put_new, e]; exact hn
    · rw [put_old (by omega), put_old (by omega)]; exact F.step i (by omega)
  · by_cases c : i = k + 1
    · subst c
      rw [put_new]; exact hf
    · rw [put_old (by omega)]; exact F.ok i (by omega)
theorem reach_flt : ∀ {k : Nat} {t : S5}, Reach nx fit st k t → ∃ f, Flt nx fit st k f ∧ f k = t
  | 0, t, ⟨e, h⟩ => ⟨fun _ => st, ⟨rfl, fun i h => absurd h (Nat.not_lt_zero i), fun i hi => by
      have : i = 0 := by omega
      subst this
      rw [← e]; exact h⟩, e.symm⟩
  | k + 1, t, ⟨⟨u, hu, hn⟩, hf⟩ => by
    obtain ⟨f, F, e⟩ := reach_flt hu
    exact ⟨put f k t, flt_put F e hn hf, put_new⟩
theorem flt_reach {n : Nat} {f : Nat → S5} (F : Flt nx fit st n f) : ∀ k, k ≤ n → Reach nx fit st k (f k)
  | 0, _ => ⟨F.start, F.ok 0 (Nat.zero_le _)⟩
  | k + 1, h => ⟨⟨f k, flt_reach F k (by omega), F.step k (by omega)⟩, F.ok (k + 1) h⟩
theorem flt_suff {n : Nat} {f : Nat → S5} (F : Flt nx fit st n f) : ∀ m k, k + m = n → Suff nx fit m k (f k)
  | 0, _, _ => trivial
  | m + 1, k, h => ⟨f (k + 1), F.step k (by omega), F.ok (k + 1) (by omega), flt_suff F m (k + 1) (by omega)⟩
theorem suff_flt : ∀ {m k : Nat} {t : S5} {f : Nat → S5}, Flt nx fit st k f → f k = t → Suff nx fit m k t → ∃ g, Flt nx fit st (k + m) g ∧ ∀ i, i ≤ k → g i = f i
  | 0, k, t, f, F, e, _ => ⟨f, F, fun _ _ => rfl⟩
  | m + 1, k, t, f, F, e, ⟨u, hn, hf, hs⟩ => by
    obtain ⟨g, K, eg⟩ := suff_flt (m := m) (flt_put F e hn hf) put_new hs
    refine ⟨g, ?_, fun i hi => ?_⟩
    · have : k + (m + 1) = k + 1 + m := by omega
      rw [this]; exact K
    · rw [eg i (by omega), put_old hi]
theorem live_iff {n k : Nat} (hk : k ≤ n) {t : S5} : Live nx fit st n k t ↔ ∃ f, Flt nx fit st n f ∧ f k = t := by
  constructor
  · rintro ⟨h1, h2⟩
    obtain ⟨f, F, e⟩ := reach_flt h1
    obtain ⟨g, G, e2⟩ := suff_flt F e h2
    have : k + (n - k) = n := by omega
    rw [this] at G
    exact ⟨g, G, by rw [e2 k (Nat.le_refl _), e]⟩
  · rintro ⟨f, F, rfl⟩
    exact ⟨flt_reach F k hk, flt_suff F (n - k) k (by omega)⟩
theorem live_last {n : Nat} {t : S5} : Live nx fit st n n t ↔ Reach nx fit st n t := by
  unfold Live
  rw [Nat.sub_self]
  exact ⟨fun h => h.1, fun h => ⟨h, trivial⟩⟩
/-- one turn of the way back -/
theorem live_back {n k : Nat} (hk : k < n) {t : S5} : Live nx fit st n k t ↔ Reach nx fit st k t ∧ ∃ u, nx k t u ∧ Live nx fit st n (k + 1) u := by
  unfold Live
  have e : n - k = (n - (k + 1)) + 1 := by omega
  rw [e]
  constructor
  · rintro ⟨h1, u, h2, h3, h4⟩
    exact ⟨h1, u, h2, ⟨⟨t, h1, h2⟩, h3⟩, h4⟩
  · rintro ⟨h1, u, h2, h3, h4⟩
    exact ⟨h1, u, h2, h3.2, h4⟩
end
theorem flt_congr {nx : Nat → S5 → S5 → Prop} {fit fit' : Nat → S5 → Prop} {st : S5} {n : Nat} {f : Nat → S5} (h : ∀ i t, i ≤ n → fit i t → fit' i t) (F : Flt nx fit st n f) : Flt nx fit' st n f :=
  ⟨F.start, F.step, fun i hi => h i _ hi (F.ok i hi)⟩
theorem reach_congr {nx : Nat → S5 → S5 → Prop} {fit fit' : Nat → S5 → Prop} {st : S5} (h : ∀ i t, fit i t ↔ fit' i t) : ∀ {k : Nat} {t : S5}, Reach nx fit st k t ↔ Reach nx fit' st k t
  | 0, t => by unfold Reach; rw [h]
  | k + 1, t => by
    unfold Reach
    rw [h]
    constructor
    · rintro ⟨⟨u, a, b⟩, c⟩
      exact ⟨⟨u, (reach_congr h).mp a, b⟩, c⟩
    · rintro ⟨⟨u, a, b⟩, c⟩
      exact ⟨⟨u, (reach_congr h).mpr a, b⟩, c⟩

/-! ### what `possible` answers -/
/-- the rows: one for each hour, rising, just the live ones -/
structure Rows (nx : Nat → S5 → S5 → Prop) (fit : Nat → S5 → Prop) (st : S5) (n : Nat) (R : List (List S5)) : Prop where
  len : R.length = n + 1
  row : ∀ k, k ≤ n → ∃ L, R[k]? = some L ∧ Srt L ∧ ∀ t, t ∈ L ↔ Live nx fit st n k t
  some : ∃ f, Flt nx fit st n f
/-- refused with the k-th hour: none fits up to it, and some fit up to each one ahead -/
structure Refused (nx : Nat → S5 → S5 → Prop) (fit : Nat → S5 → Prop) (st : S5) (n k : Nat) : Prop where
  le : k ≤ n
  none : ∀ t, ¬ Reach nx fit st k t
  ahead : ∀ i, i < k → ∃ t, Reach nx fit st i t
section
variable {nx : Nat → S5 → S5 → Prop} {fit fit' fitT fitF : Nat → S5 → Prop} {st : S5} {n k k' : Nat} {R R' : List (List S5)}
theorem Refused.no (h : Refused nx fit st n k) : ¬ ∃ f, Flt nx fit st n f := fun ⟨f, F⟩ => h.none _ (flt_reach F k h.le)
theorem Rows.uniq (h : Rows nx fit st n R) (h' : Rows nx fit' st n R') (e : ∀ i t, fit i t ↔ fit' i t) : R = R' := by
  refine List.ext_getElem? fun i => ?_
  by_cases hi : i ≤ n
  · obtain ⟨L, e1, s1, m1⟩ := h.row i hi
    obtain ⟨M, e2, s2, m2⟩ := h'.row i hi
    rw [e1, e2, srt_uniq s1 s2 fun t => ?_]
    rw [m1, m2, live_iff hi, live_iff hi]
    exact ⟨fun ⟨f, F, z⟩ => ⟨f, flt_congr (fun i t _ => (e i t).mp) F, z⟩, fun ⟨f, F, z⟩ => ⟨f, flt_congr (fun i t _ => (e i t).mpr) F, z⟩⟩
  · rw [List.getElem?_eq_none (by rw [h.len]; omega), List.getElem?_eq_none (by rw [h'.len]; omega)]
theorem Refused.uniq (h : Refused nx fit st n k) (h' : Refused nx fit' st n k') (e : ∀ i t, fit i t ↔ fit' i t) : k = k' := by
  rcases Nat.lt_trichotomy k k' with c | c | c
  · obtain ⟨t, ht⟩ := h'.ahead k c
    exact absurd ((reach_congr e).mpr ht) (h.none t)
  · exact c
  · obtain ⟨t, ht⟩ := h.ahead k' c
    exact absurd ((reach_congr e).mp ht) (h'.none t)
theorem not_both (h : Rows nx fit st n R) (h' : Refused nx fit' st n k) (e : ∀ i t, fit i t ↔ fit' i t) : False := by
  obtain ⟨f, F⟩ := h.some
  exact h'.no ⟨f, flt_congr (fun i t _ => (e i t).mp) F⟩
/-! one more sighting, of some hour -/
variable {j : Nat} {b : S5 → Prop}
theorem part_of (hT : ∀ i t, fitT i t → fit i t) (h : Refused nx fit st n k) : ¬ ∃ f, Flt nx fitT st n f := fun ⟨f, F⟩ => h.no ⟨f, flt_congr (fun i t _ => hT i t) F⟩
theorem flt_split (hT : ∀ i t, fit i t → (i = j → b t) → fitT i t) (hF : ∀ i t, fit i t → (i = j → ¬ b t) → fitF i t) {f : Nat → S5} (F : Flt nx fit st n f) : Flt nx fitT st n f ∨ Flt nx fitF st n f := by
  rcases Classical.em (b (f j)) with c | c
  · exact .inl ⟨F.start, F.step, fun i hi => hT i _ (F.ok i hi) fun e => by rw [e]; exact c⟩
  · exact .inr ⟨F.start, F.step, fun i hi => hF i _ (F.ok i hi) fun e => by rw [e]; exact c⟩
end
end Bal
open PySem PySem.Spec PyProof.Rows L2 Bal
namespace Bal
open PySem PySem.Spec PyProof.Rows L2
/-! ### the text by places -/
def topS (i : Nat) : Stmt := PySem.Challenge.pw_ballastbook_k32_whole_sightings_in_any_o.main.body.getD i (.Pass ⟨0, 0, 0, 0⟩)

/-! ### readings, a step at a time -/
section
variable {K : PySem.W.Frag} {σ : L2.St} {H : Hp} {D : Ends} {Q : VK} {ta tb te tx : TE} {t u : TT} {tu tw : TS} {g : TG} {v x y : V}
theorem w_seq (h : tu { D with nx := tw D } σ H) : tSeq tu tw D σ H := h
theorem w_asg (h : te σ H fun x H1 => g x σ H1 D.nx) : tAsg te g D σ H := h
theorem w_name {i : Nat} {R : L2.St → Hp → Prop} {σ' : L2.St} (e : σ.set i (some v) = σ') (h : R σ' H) : gName i v σ H R := by
  show R (σ.set i (some v)) H
  rw [e]; exact h
theorem w_ret (h : te σ H D.rt) : tRet te D σ H := h
theorem w_drop (h : te σ H fun _ H1 => D.nx σ H1) : tDrop te D σ H := h
theorem w_ifs (h : t σ H fun b H1 => if b = true then tu D σ H1 else tw D σ H1) : tIfS t tu tw D σ H := h
theorem w_next (h : D.nx σ H) : tNext D σ H := h
theorem w_var {i : Nat} (e : σ[i]? = some (some v)) (h : Q v H) : tVar i σ H Q := ⟨v, e, h⟩
theorem w_c (h : Q v H) : tC v σ H Q := h
theorem w_op {r : R2} (h : ta σ H fun x H1 => tb σ H1 fun y H2 => r x y H2 Q) : tOp r ta tb σ H Q := h
theorem w_un {r : V → Hp → VK → Prop} (h : ta σ H fun x H1 => r x H1 Q) : tUn r ta σ H Q := h
theorem w_test {R : Bool → Hp → Prop} (h : te σ H fun x H' => ∃ k, x = .bl k ∧ R k H') : tTest te σ H R := h
theorem w_tB {R : Bool → Hp → Prop} (h : te σ H fun x H' => ∃ k, x = .bl k ∧ R k H') : tB te σ H R := h
theorem w_bl {k : Bool} {R : Bool → Hp → Prop} (h : R k H) : ∃ k', V.bl k = .bl k' ∧ R k' H := ⟨k, rfl, h⟩
theorem w_blV {k : Bool} {R : Bool → Prop} (h : R k) : ∃ k', V.bl k = .bl k' ∧ R k' := ⟨k, rfl, h⟩
theorem w_and {R : Bool → Hp → Prop} (h : t σ H fun c H1 => if c = true then u σ H1 R else R false H1) : tAnd t u σ H R := h
theorem w_or {R : Bool → Hp → Prop} (h : t σ H fun c H1 => if c = true then R true H1 else u σ H1 R) : tOr t u σ H R := h
theorem w_not {R : Bool → Hp → Prop} (h : t σ H fun c H1 => R (!c) H1) : tNot t σ H R := h
theorem w_andV (h : ta σ H fun x H1 => ∃ c, x = .bl c ∧ if c = true then tb σ H1 Q else Q (.bl false) H1) : tAndV ta tb σ H Q := h
theorem w_orV (h : ta σ H fun x H1 => ∃ c, x = .bl c ∧ if c = true then Q (.bl true) H1 else tb σ H1 Q) : tOrV ta tb σ H Q := h
theorem w_notV (h : ta σ H fun x H1 => ∃ c, x = .bl c ∧ Q (.bl (!c)) H1) : tNotV ta σ H Q := h
theorem w_rI0 {f : Int → Int → V} {i j : Int} (h : Q (f i j) H) : rI0 f (.int i) (.int j) H Q := ⟨i, j, rfl, rfl, h⟩
theorem w_rI {C : Int → Int → Prop} {f : Int → Int → V} {i j : Int} (c : C i j) (h : Q (f i j) H) : rI C f (.int i) (.int j) H Q := ⟨i, j, rfl, rfl, c, h⟩
theorem w_rU {f : Int → V} {i : Int} (h : Q (f i) H) : rU f (.int i) H Q := ⟨i, rfl, h⟩
theorem w_eqI {i j : Int} (h : Q (.bl (decide (i = j))) H) : rEq (.int i) (.int j) H Q := ⟨rfl, by
  have e : decide (V.int i = V.int j) = decide (i = j) := decide_eq_decide.mpr ⟨fun z => V.int.inj z, fun z => by rw [z]⟩
  rw [e]; exact h⟩
theorem w_neI {i j : Int} (h : Q (.bl (!decide (i = j))) H) : rNe (.int i) (.int j) H Q := ⟨rfl, by
  have e : decide (V.int i = V.int j) = decide (i = j) := decide_eq_decide.mpr ⟨fun z => V.int.inj z, fun z => by rw [z]⟩
  rw [e]; exact h⟩
theorem w_eqB {i j : Bool} (h : Q (.bl (i == j)) H) : rEq (.bl i) (.bl j) H Q := ⟨rfl, by
  have e : decide (V.bl i = V.bl j) = (i == j) := by cases i <;> cases j <;> rfl
  rw [e]; exact h⟩
theorem w_neB {i j : Bool} (h : Q (.bl (i != j)) H) : rNe (.bl i) (.bl j) H Q := ⟨rfl, by
  have e : (!decide (V.bl i = V.bl j)) = (i != j) := by cases i <;> cases j <;> rfl
  rw [e]; exact h⟩
theorem w_eqS {i j : Str} (h : Q (.bl (decide (i = j))) H) : rEq (.str i) (.str j) H Q := ⟨rfl, by
  have e : decide (V.str i = V.str j) = decide (i = j) := decide_eq_decide.mpr ⟨fun z => V.str.inj z, fun z => by rw [z]⟩
  rw [e]; exact h⟩
theorem w_neS {i j : Str} (h : Q (.bl (!decide (i = j))) H) : rNe (.str i) (.str j) H Q := ⟨rfl, by
  have e : decide (V.str i = V.str j) = decide (i = j) := decide_eq_decide.mpr ⟨fun z => V.str.inj z, fun z => by rw [z]⟩
  rw [e]; exact h⟩
theorem w_dput {td ty tv : TE} (h : tv σ H fun v H1 => td σ H1 fun x H2 => ty σ H2 fun y H3 => ∃ a H4, x = .ref a ∧ DPut H3 a y v H4 ∧ D.nx σ H4) : sDPut td ty tv D σ H := h
theorem w_bm {T : String} {r : V → List V → Hp → VK → Prop} {to : TE} {t : TA} (h : to σ H fun x H1 => tyV K T x H1 ∧ t σ H1 fun xs H2 => r x xs H2 Q) : tBM K T r to t σ H Q := h
theorem w_din {ty td : TE} (h : ty σ H fun y H1 => td σ H1 fun x H2 => ∃ a o, x = .ref a ∧ DGet H2 a y o ∧ Q (.bl o.isSome) H2) : tDIn ty td σ H Q := h
theorem w_nil {R : List V → Hp → Prop} (h : R [] H) : tNil σ H R := h
theorem w_cons {ta : TE} {tr : TA} {R : List V → Hp → Prop} (h : ta σ H fun x H1 => tr σ H1 fun xs H2 => R (x :: xs) H2) : tCons ta tr σ H R := h
theorem w_call {sp : Sp} {E : XK} {ta : TA} (h : ta σ H fun vs H1 => sp vs H1 Q E) : tCall sp [] E ta σ H Q := by
  show ta σ H fun vs H1 => sp (vs ++ []) H1 Q E
  have e : (fun vs H1 => sp (vs ++ []) H1 Q E) = fun vs H1 => sp vs H1 Q E := by
    funext vs H1
    rw [List.append_nil]
  rw [e]; exact h
theorem w_cb {r : List V → Hp → VK → Prop} {ta : TA} (h : ta σ H fun vs H1 => r vs H1 Q) : tCB r ta σ H Q := h
/-- a new tuple, a new list: what follows -/
def MkT (Q : VK) (xs : List V) (H : Hp) : Prop := xs.length ≤ sizeLine ∧ ∀ p, H p = none → Q (.ref p) (upd H p (.tup xs))
def MkL (Q : VK) (xs : List V) (H : Hp) : Prop := xs.length ≤ sizeLine ∧ ∀ p, H p = none → Q (.ref p) (upd H p (.lst xs))
theorem w_tup {ta : TA} (h : ta σ H fun xs H1 => MkT Q xs H1) : tTup ta σ H Q := h
theorem w_lst {ta : TA} (h : ta σ H fun xs H1 => MkL Q xs H1) : tLst ta σ H Q := h
theorem Same.at {H H' : Hp} {a : Addr} {o : HO} (s : Same H H') (h : H a = some o) : H' a = some o := s a o h
theorem w_ite {p A B : Prop} [Decidable p] (h1 : p → A) (h2 : ¬ p → B) : if decide p = true then A else B := by
  by_cases h : p
  · rw [if_pos (decide_eq_true h)]
    exact h1 h
  · rw [if_neg (by rw [decide_eq_false h]; exact Bool.false_ne_true)]
    exact h2 h
theorem w_iteB {b : Bool} {A B : Prop} (h1 : b = true → A) (h2 : b = false → B) : if b = true then A else B := by
  cases b with
  | true => rw [if_pos rfl]; exact h1 rfl
  | false => rw [if_neg Bool.false_ne_true]; exact h2 rfl
theorem w_ntT {A B : Prop} (h : A) : if (!false) = true then A else B := h
theorem w_ntF {A B : Prop} (h : B) : if (!true) = true then A else B := by
  rw [if_neg (by decide)]; exact h
theorem w_iteN {p A B : Prop} [Decidable p] (h1 : ¬ p → A) (h2 : p → B) : if (!decide p) = true then A else B := by
  by_cases h : p
  · rw [decide_eq_true h]; exact w_ntF (h2 h)
  · rw [decide_eq_false h]; exact w_ntT (h1 h)
theorem same_new {H : Hp} {p : Addr} {o : HO} (h : H p = none) : Same H (upd H p o) := fun b x e => by
  rw [upd_ne (ne_of_none e h)]
  exact e
/-- a new object: the heap behind it is a new letter -/
theorem w_dnewT (h : ∀ (p : Addr) (H2 : Hp), Same H H2 → H p = none → H2 p = some (.dT []) → Q (.ref p) H2) : tDNewT σ H Q := fun p hp => h p _ (same_new hp) hp upd_same
theorem w_mkT {xs : List V} (hl : xs.length ≤ 1000) (h : ∀ (p : Addr) (H2 : Hp), Same H H2 → H p = none → H2 p = some (.tup xs) → Q (.ref p) H2) : MkT Q xs H :=
  ⟨Nat.le_of_lt (small1000 hl), fun p hp => h p _ (same_new hp) hp upd_same⟩
theorem w_mkL {xs : List V} (hl : xs.length ≤ 1000) (h : ∀ (p : Addr) (H2 : Hp), Same H H2 → H p = none → H2 p = some (.lst xs) → Q (.ref p) H2) : MkL Q xs H :=
  ⟨Nat.le_of_lt (small1000 hl), fun p hp => h p _ (same_new hp) hp upd_same⟩
theorem w_ixT {p : Addr} {xs : List V} {i : Int} (hp : H p = some (.tup xs)) (e : atI xs i = some v) (h : Q v H) : rIxT K (.ref p) (.int i) H Q := ⟨p, xs, i, v, rfl, rfl, .inl (.inl hp), e, h⟩
theorem w_ixL {p : Addr} {xs : List V} {i : Int} (hp : H p = some (.lst xs)) (e : atI xs i = some v) (h : Q v H) : rIxL K (.ref p) (.int i) H Q := ⟨p, xs, i, v, rfl, rfl, .inl (.inl hp), e, h⟩
theorem w_gtup {n : Nat} {t : TGs} {p : Addr} {xs : List V} {R : L2.St → Hp → Prop} (hp : H p = some (.tup xs)) (hl : xs.length = n) (h : t xs σ H R) : gTup K n t (.ref p) σ H R := ⟨p, xs, rfl, .inl (.inl hp), hl, h⟩
theorem w_gcons {t : TG} {u : TGs} {v : V} {r : List V} {R : L2.St → Hp → Prop} (h : t v σ H fun σ' H' => u r σ' H' R) : gCons t u (v :: r) σ H R := ⟨v, r, rfl, h⟩
theorem w_gnil {R : L2.St → Hp → Prop} (h : R σ H) : gNil [] σ H R := ⟨rfl, h⟩
theorem w_max2 {i j : Int} (h : Q (.int (if j > i then j else i)) H) : ∃ a b, [V.int i, V.int j] = [.int a, .int b] ∧ Q (.int (if b > a then b else a)) H := ⟨i, j, rfl, h⟩
end

/-! ### data in the heap -/
/-- at v: a tuple, the code of x -/
def TupOf {α : Type} (enc : α → List V) (H : Hp) (v : V) (x : α) : Prop := ∃ a, v = .ref a ∧ H a = some (.tup (enc x))
/-- at p: a list of such tuples -/
def ListOf {α : Type} (enc : α → List V) (H : Hp) (p : Addr) (xs : List α) : Prop := ∃ vs, H p = some (.lst vs) ∧ Paired (TupOf enc H) vs xs
def S5.v (t : S5) : List V := [.int t.x, .int t.y, .int t.z, .int t.s, .int t.p]
def Hill.v (h : Hill) : List V := [.int h.x, .int h.y, .int h.top]
def Wind.v (w : Wind) : List V := [.int w.first, .int w.level, .int w.dx, .int w.dy]
def Shut.v (s : Shut) : List V := [.int s.x1, .int s.y1, .int s.x2, .int s.y2, .int s.low, .int s.high, .int s.first, .int s.last]
def Sg.v (g : Sg) : List V := [.int g.w, .int g.x1, .int g.y1, .int g.x2, .int g.y2, .int g.low, .int g.high, .bl g.seen]
structure SkyAt (H : Hp) (a : Addr) (sky : Sky) : Prop where
  ex : ∃ h c w s, H a = some (.tup [.ref h, .ref c, .ref w, .ref s]) ∧ ListOf Hill.v H h sky.hills ∧ H c = some (.lst (sky.cool.map V.int)) ∧ ListOf Wind.v H w sky.winds ∧ ListOf Shut.v H s sky.shuts
section
variable {α : Type} {enc : α → List V} {H H' : Hp} {v : V} {x : α} {xs : List α} {p : Addr}
theorem TupOf.up (s : Same H H') (h : TupOf enc H v x) : TupOf enc H' v x := by
  obtain ⟨a, e, h⟩ := h
  exact ⟨a, e, s _ _ h⟩
theorem paired_up (s : Same H H') : ∀ {vs : List V} {xs : List α}, Paired (TupOf enc H) vs xs → Paired (TupOf enc H') vs xs
  | _, _, .nil => .nil
  | _, _, .cons h r => .cons (h.up s) (paired_up s r)
theorem ListOf.up (s : Same H H') (h : ListOf enc H p xs) : ListOf enc H' p xs := by
  obtain ⟨vs, e, h⟩ := h
  exact ⟨vs, s _ _ e, paired_up s h⟩
theorem SkyAt.up {sky : Sky} (s : Same H H') (h : SkyAt H p sky) : SkyAt H' p sky := by
  obtain ⟨hh, c, w, sh, e, h1, h2, h3, h4⟩ := h.ex
  exact ⟨hh, c, w, sh, s _ _ e, h1.up s, s _ _ h2, h3.up s, h4.up s⟩
/-- an object that H does not know may change -/
theorem same_mut {H0 : Hp} {o : HO} (s : Same H0 H) (h : H0 p = none) : Same H0 (upd H p o) := fun b x e => by
  rw [upd_ne (ne_of_none e h)]
  exact s _ _ e
theorem TupOf.upd {o : List V} {q : Addr} {new : HO} (h : TupOf enc H v x) (hq : H q = some (.lst o)) : TupOf enc (upd H q new) v x := by
  obtain ⟨a, e, h⟩ := h
  refine ⟨a, e, ?_⟩
  rw [upd_ne (ne_of h hq (by intro z; cases z))]
  exact h
theorem paired_upd {o : List V} {q : Addr} {new : HO} (hq : H q = some (.lst o)) : ∀ {vs : List V} {xs : List α}, Paired (TupOf enc H) vs xs → Paired (TupOf enc (upd H q new)) vs xs
  | _, _, .nil => .nil
  | _, _, .cons h r => .cons (h.upd hq) (paired_upd hq r)
theorem ListOf.upd {o : List V} {q : Addr} {new : HO} (h : ListOf enc H p xs) (hq : H q = some (.lst o)) (ne : p ≠ q) : ListOf enc (L2.upd H q new) p xs := by
  obtain ⟨vs, e, h⟩ := h
  refine ⟨vs, ?_, paired_upd hq h⟩
  rw [upd_ne ne]
  exact e
end
theorem same_upd_ne {H : Hp} {p b : Addr} {o u : HO} (h : H b = some u) (ne : b ≠ p) : upd H p o b = some u := by rw [upd_ne ne]; exact h
section
variable {α β : Type} {R : α → β → Prop}
theorem paired_len : ∀ {l : List α} {m : List β}, Paired R l m → l.length = m.length
  | _, _, .nil => rfl
  | _, _, .cons _ r => by rw [List.length_cons, List.length_cons, paired_len r]
theorem paired_at : ∀ {l : List α} {m : List β} {i : Nat} {a : α}, Paired R l m → l[i]? = some a → ∃ b, m[i]? = some b ∧ R a b
  | _, _, _, _, .nil, e => by simp at e
  | _, _, 0, _, .cons h _, e => by
    simp only [List.getElem?_cons_zero, Option.some.injEq] at e
    subst e
    exact ⟨_, by simp, h⟩
  | _, _, i + 1, _, .cons _ r, e => by
    obtain ⟨b, e2, h⟩ := paired_at (i := i) r (by simpa using e)
    exact ⟨b, by simpa using e2, h⟩
theorem paired_at' : ∀ {l : List α} {m : List β} {i : Nat} {b : β}, Paired R l m → m[i]? = some b → ∃ a, l[i]? = some a ∧ R a b
  | _, _, _, _, .nil, e => by simp at e
  | _, _, 0, _, .cons h _, e => by
    simp only [List.getElem?_cons_zero, Option.some.injEq] at e
    subst e
    exact ⟨_, by simp, h⟩
  | _, _, i + 1, _, .cons _ r, e => by
    obtain ⟨b, e2, h⟩ := paired_at' (i := i) r (by simpa using e)
    exact ⟨b, by simpa using e2, h⟩
theorem paired_snoc : ∀ {l : List α} {m : List β} {a : α} {b : β}, Paired R l m → R a b → Paired R (l ++ [a]) (m ++ [b])
  | _, _, _, _, .nil, h => .cons h .nil
  | _, _, _, _, .cons h r, k => .cons h (paired_snoc r k)
theorem paired_app : ∀ {l : List α} {m : List β} {l' : List α} {m' : List β}, Paired R l m → Paired R l' m' → Paired R (l ++ l') (m ++ m')
  | _, _, _, _, .nil, h => h
  | _, _, _, _, .cons h r, k => .cons h (paired_app r k)
theorem paired_take : ∀ {l : List α} {m : List β} (n : Nat), Paired R l m → Paired R (l.take n) (m.take n)
  | _, _, 0, _ => .nil
  | _, _, _ + 1, .nil => .nil
  | _, _, n + 1, .cons h r => .cons h (paired_take n r)
theorem paired_drop : ∀ {l : List α} {m : List β} (n : Nat), Paired R l m → Paired R (l.drop n) (m.drop n)
  | _, _, 0, r => r
  | _, _, _ + 1, .nil => .nil
  | _, _, n + 1, .cons _ r => paired_drop n r
theorem paired_set : ∀ {l : List α} {m : List β} {a : α} {b : β} (i : Nat), Paired R l m → R a b → Paired R (l.set i a) (m.set i b)
  | _, _, _, _, _, .nil, _ => .nil
  | _, _, _, _, 0, .cons _ r, k => .cons k r
  | _, _, _, _, i + 1, .cons h r, k => .cons h (paired_set i r k)
theorem drop_at {l : List α} {i : Nat} {a : α} (h : l[i]? = some a) : l.drop i = a :: l.drop (i + 1) := by
  obtain ⟨hi, e⟩ := List.getElem?_eq_some_iff.mp h
  rw [List.drop_eq_getElem_cons hi, e]
end

/-! ### loops over lists of tuples: by what is left -/
/-- what a for over the list at p asks, the list known -/
def ForGo (K : PySem.W.Frag) (g : TG) (tb : TS) (D : Ends) (σ : L2.St) (H1 : Hp) (a : Addr) : Prop := ∃ W : Nat → Nat → L2.St → Hp → Prop, (∃ m, W 0 m σ H1) ∧ ∀ i m σ H, W i m σ H →
  ((Itl K a).stop i H ∧ D.nx σ H) ∨ ((Itl K a).go i H ∧ ∃ N : L2.St → Hp → Prop, (∀ σ' H', N σ' H' → ∃ m', m' < m ∧ W (i + 1) m' σ' H') ∧ ∀ x H', (Itl K a).yld i H x H' → g x σ H' fun σ2 H2 => tb { D with nx := N, ct := N, bk := D.nx } σ2 H2)
section
variable {K : PySem.W.Frag} {g : TG} {tb : TS} {D : Ends} {σ : L2.St} {H : Hp} {tl : TE} {p : Addr}
theorem w_for (h : tl σ H fun x H1 => ∃ a vs, x = .ref a ∧ H1 a = some (.lst vs) ∧ ForGo K g tb D σ H1 a) (mono : ∀ Q Q' : VK, (∀ x H1, Q x H1 → Q' x H1) → tl σ H Q → tl σ H Q') : tFor (iList K tl) g tb D σ H :=
  mono _ _ (fun x H1 ⟨a, vs, e, hl, q⟩ => ⟨a, e, ⟨vs, .inl (.inl hl)⟩, q⟩) h
theorem w_forD (h : tl σ H fun x H1 => ∃ a, x = .ref a ∧ (∃ xs, SqL K H1 a xs) ∧ ForGo K g tb D σ H1 a) : tFor (iList K tl) g tb D σ H := h
theorem w_forV {j : Nat} {vs : List V} (e : σ[j]? = some (some (.ref p))) (hl : H p = some (.lst vs)) (q : ForGo K g tb D σ H p) : tFor (iList K (tVar j)) g tb D σ H := ⟨_, e, p, rfl, ⟨vs, .inl (.inl hl)⟩, q⟩
theorem forgo_V {vs : List V} (Pv : List V → L2.St → Hp → Prop) (h0 : Pv vs σ H) (hl : ∀ r σ' H', Pv r σ' H' → SqL K H' p vs)
    (hs : ∀ x r σ' H', Pv (x :: r) σ' H' → g x σ' H' fun σ2 H2 => tb { D with nx := Pv r, ct := Pv r, bk := D.nx } σ2 H2) (hd : ∀ σ' H', Pv [] σ' H' → D.nx σ' H') : ForGo K g tb D σ H p :=
  for_list (xs := vs) (fun i => Pv (vs.drop i)) h0 (fun i σ' H' _ q => hl _ σ' H' q) (fun i x σ' H' hi q => hs x _ σ' H' (by rw [drop_at hi] at q; exact q)) fun σ' H' q => hd σ' H' (by rw [List.drop_length] at q; exact q)
/-- the items are tuples; the list stands in H, and the heap grows -/
theorem forgo_T {α : Type} {enc : α → List V} {xs : List α} {H0 : Hp} (hx : ListOf enc H0 p xs) (Pv : List α → L2.St → Hp → Prop) (h0 : Pv xs σ H) (hl : ∀ r σ' H', Pv r σ' H' → Same H0 H')
    (hs : ∀ x r a σ' H', Pv (x :: r) σ' H' → H' a = some (.tup (enc x)) → g (.ref a) σ' H' fun σ2 H2 => tb { D with nx := Pv r, ct := Pv r, bk := D.nx } σ2 H2) (hd : ∀ σ' H', Pv [] σ' H' → D.nx σ' H') : ForGo K g tb D σ H p := by
  obtain ⟨vs, hv, hp⟩ := hx
  refine for_list (xs := vs) (fun i => Pv (xs.drop i)) h0 (fun i σ' H' _ q => .inl (.inl (hl _ _ _ q _ _ hv))) (fun i x σ' H' hi q => ?_) fun σ' H' q => hd σ' H' ?_
  · obtain ⟨y, hy, a, rfl, ha⟩ := paired_at hp hi
    exact hs y _ a σ' H' (by rw [drop_at hy] at q; exact q) (hl _ _ _ q _ _ ha)
  · rw [paired_len hp, List.drop_length] at q
    exact q
end

/-! ### loops over ranges -/
def ForI (J : It) (g : TG) (tb : TS) (D : Ends) (σ : L2.St) (H1 : Hp) : Prop := ∃ W : Nat → Nat → L2.St → Hp → Prop, (∃ m, W 0 m σ H1) ∧ ∀ i m σ H, W i m σ H →
  (J.stop i H ∧ D.nx σ H) ∨ (J.go i H ∧ ∃ N : L2.St → Hp → Prop, (∀ σ' H', N σ' H' → ∃ m', m' < m ∧ W (i + 1) m' σ' H') ∧ ∀ x H', J.yld i H x H' → g x σ H' fun σ2 H2 => tb { D with nx := N, ct := N, bk := D.nx } σ2 H2)
section
variable {g : TG} {tb : TS} {D : Ends} {σ : L2.St} {H : Hp}
theorem w_forR1 {ta : TA} (h : ta σ H fun vs H1 => ∃ j : Int, vs = [.int j] ∧ -(2 ^ 62) ≤ j ∧ j < 2 ^ 62 ∧ ForI (Itr 0 j.toNat) g tb D σ H1) : tFor (iRng1 ta) g tb D σ H := h
theorem w_forR2 {ta : TA} (h : ta σ H fun vs H1 => ∃ i j : Int, vs = [.int i, .int j] ∧ (-(2 ^ 62) ≤ i ∧ i < 2 ^ 62 ∧ -(2 ^ 62) ≤ j ∧ j < 2 ^ 62) ∧ ForI (Itr i (j - i).toNat) g tb D σ H1) : tFor (iRng2 ta) g tb D σ H := h
theorem w_forRev {ta : TE} (h : ta σ H fun x H1 => ∃ n : Int, x = .int n ∧ -(2 ^ 62) ≤ n ∧ n < 2 ^ 62 ∧ ForI (Itc ((n.toNat : Int) - 1) (-1) n.toNat) g tb D σ H1) (mono : ∀ Q Q' : VK, (∀ x H1, Q x H1 → Q' x H1) → ta σ H Q → ta σ H Q') : tFor (iRevR (tRg1 ta)) g tb D σ H := by
  show ta σ H fun x H1 => ∃ n : Int, x = .int n ∧ (-(2 ^ 62) ≤ (0 : Int) ∧ (0 : Int) < 2 ^ 62 ∧ -(2 ^ 62) ≤ n ∧ n < 2 ^ 62 ∧ ForI (Itc (0 + (((n - 0).toNat : Nat) : Int) - 1) (-1) (n - 0).toNat) g tb D σ H1)
  refine mono _ _ (fun x H1 ⟨n, e, h1, h2, q⟩ => ⟨n, e, by decide, by decide, h1, h2, ?_⟩) h
  rw [Int.sub_zero, Int.zero_add]; exact q
theorem fori_R {lo : Int} {n : Nat} (Pv : Nat → L2.St → Hp → Prop) (h0 : Pv 0 σ H)
    (hs : ∀ i σ' H', i < n → Pv i σ' H' → g (.int (lo + i)) σ' H' fun σ2 H2 => tb { D with nx := Pv (i + 1), ct := Pv (i + 1), bk := D.nx } σ2 H2) (hd : ∀ σ' H', Pv n σ' H' → D.nx σ' H') : ForI (Itr lo n) g tb D σ H := for_range Pv h0 hs hd
theorem fori_C {lo c : Int} {n : Nat} (Pv : Nat → L2.St → Hp → Prop) (h0 : Pv 0 σ H)
    (hs : ∀ i σ' H', i < n → Pv i σ' H' → g (.int (lo + (i : Nat) * c)) σ' H' fun σ2 H2 => tb { D with nx := Pv (i + 1), ct := Pv (i + 1), bk := D.nx } σ2 H2) (hd : ∀ σ' H', Pv n σ' H' → D.nx σ' H') : ForI (Itc lo c n) g tb D σ H := for_rangeC Pv h0 hs hd
end

/-! ### the defs of the top -/
/-- a def of the top stands under its name -/
structure Df (K : PySem.W.Frag) (mg : Str → Option Value) (x : Str) (st : Stmt) : Prop where
  ex : ∃ f fd, Fun K x x st f fd ∧ mg x = some (.ref f)
/-- a def that keeps a promise, under its name -/
structure Cl (P : Program) (w : World) (K : PySem.W.Frag) (mg : Str → Option Value) (base : Heap) (k : Nat) (x : Str) (sp : Sp) : Prop where
  ex : ∃ f fd ps, FnOk P w K mg base CX0 k f fd ps sp ∧ mg x = some (.ref f) ∧ PySem.W.keepIn K (.ref f) = true ∧ Binds K fd ps []
section
variable {P : Program} {w : World} {K : PySem.W.Frag} {mg : Str → Option Value} {base : Heap}
theorem Cl.of {x : Str} {st : Stmt} {N ps : List Str} {k : Nat} {sp : Sp} (D : Df K mg x st) (S : FnScope N ps (defScope st))
    (hb : ∀ (kV doc pm : Value) (an : Option Addr) (cdv ct : Value) (us : List Value), us.length = ps.length → bindArgs (PySem.W.fnOf x x (defArgs st) (defBody st) (defScope st) .none kV doc pm an cdv ct) ⟨us, []⟩ = pure (ps.zip us))
    (len : ∀ vs H Q E, sp vs H Q E → vs.length = ps.length)
    (hbody : ∀ (f : Addr) (cdv : Value) (A : Around) (outer : List Env) (s : Shared) (H : Hp) (vs : List V) (Q : VK) (E : XK), Room k (A.deeper (envOfC x (defScope st) s.heap.objs.size f cdv)) → sp vs H Q E →
      ∃ t, PSs (cxOf CX0 P w K mg base N x (defScope st) f cdv A outer s H E).nox (defBody st) t ∧ t { nx := fun _ H' => Q .non H', rt := Q } (start N vs) H) : Cl P w K mg base (k + 1) x sp := by
  obtain ⟨f, fd, F, e⟩ := D.ex
  exact ⟨f, fd, ps, F.ok S len (fun cdv A outer s H vs Q E hr h => hbody f cdv A outer s H vs Q E hr h), e, F.kp, F.binds hb⟩
end
section
variable {X : Cx} {k j : Nat} {x : Str} {sp : Sp} {p pos : Pos} {e : Expr} {es : List Expr} {t : TA}
theorem pe_cl (c : Cl X.prog X.w X.K X.mg X.base k x sp) (hr : Room j X.A) (hk : k ≤ j) (hg : Gl X x) (ha : PA X (e :: es) t)
    (hdb : (x == ("__debug__" : Str)) = false := by decide) (he : starEach (e :: es) X.env = (false, eval e X.env) :: starEach es X.env := by rfl) (hpl : (backTo pos (starEach es X.env)).any (·.1) = false := by rfl) :
    PE X (.Call (.Name x p) (e :: es) [] pos) (tCall sp [] E0 t) := by
  obtain ⟨f, fd, ps, F, hm, kp, b⟩ := c.ex
  exact pe_call F (hr.mono hk) hg hm kp b .nil pass0 ha hdb he hpl
end
end Bal
namespace Bal
/-- the module's names that the defs use -/
structure Txt (K : PySem.W.Frag) (mg : Str → Option Value) : Prop where
  mTOP : ∃ t, mg "TOP" = some (.int 5 t)
  mORD : ∃ a, mg "ORDERS" = some (.ref a) ∧ ∀ H, SqT K H a [.str "up", .str "level", .str "down"]
  b_len : mg "len" = none
  b_max : mg "max" = none
  b_range : mg "range" = none
  b_sorted : mg "sorted" = none
  b_list : mg "list" = none
  b_dict : mg "dict" = none
  b_any : mg "any" = none
  b_all : mg "all" = none
  b_zip : mg "zip" = none
  b_reversed : mg "reversed" = none
  b_isinstance : mg "isinstance" = none
  b_tuple : mg "tuple" = none
  b_int : mg "int" = none
  b_bool : mg "bool" = none
/-- the words -/
def O3.w : O3 → Str
  | .up => "up"
  | .level => "level"
  | .down => "down"
def Why.w : Why → Str
  | .ok => ""
  | .hill => "hill"
  | .shut => "shut"
  | .sacks => "sacks"
  | .puffs => "puffs"
  | .high => "high"
  | .low => "low"
theorem why_ok (a : Why) : decide (a.w = ("" : Str)) = decide (a = .ok) := by cases a <;> decide +kernel
theorem ord_up (o : O3) : decide (o.w = ("up" : Str)) = decide (o = .up) := by cases o <;> decide +kernel
theorem ord_level (o : O3) : decide (o.w = ("level" : Str)) = decide (o = .level) := by cases o <;> decide +kernel
theorem ord_down (o : O3) : decide (o.w = ("down" : Str)) = decide (o = .down) := by cases o <;> decide +kernel
theorem iff_if {p q : Prop} [Decidable p] [Decidable q] {A B : Prop} (e : decide p = decide q) (h : if decide q = true then A else B) : if decide p = true then A else B := by
  rw [e]; exact h
end Bal
namespace Bal
/-! ### comprehensions: by what is left, what is made, and the heap without the new list -/
def rem (H : Hp) (D : Addr) : Hp := fun b => if b = D then none else H b
theorem rem_ne {H : Hp} {D b : Addr} (h : b ≠ D) : rem H D b = H b := if_neg h
theorem rem_upd {H : Hp} {D : Addr} {o : HO} : rem (upd H D o) D = rem H D := by
  funext b
  unfold rem
  by_cases h : b = D
  · rw [if_pos h, if_pos h]
  · rw [if_neg h, if_neg h, upd_ne h]
theorem same_rem {H H' : Hp} {D : Addr} (s : Same H H') : Same (rem H D) (rem H' D) := fun b o e => by
  unfold rem at e ⊢
  by_cases h : b = D
  · rw [if_pos h] at e; cases e
  · rw [if_neg h] at e ⊢; exact s b o e
theorem rem_same {H : Hp} {D : Addr} : Same (rem H D) H := fun b o e => by
  unfold rem at e
  by_cases h : b = D
  · rw [if_pos h] at e; cases e
  · rw [if_neg h] at e; exact e
theorem same_into {H H' : Hp} {D : Addr} (s : Same H H') (n : H D = none) : Same H (rem H' D) := fun b o e => by
  rw [rem_ne (ne_of_none e n)]
  exact s b o e
theorem rem_upd_none {H : Hp} {D : Addr} {o : HO} (n : H D = none) : rem (upd H D o) D = H := by
  funext b
  unfold rem
  by_cases h : b = D
  · rw [if_pos h, h, n]
  · rw [if_neg h, upd_ne h]
/-- the state of the walk: i items gone through, acc made at D -/
def LcInv (H0 : Hp) (R : List V → List V → Hp → Prop) (xs : List V) (D : Addr) (i : Nat) (H' : Hp) : Prop :=
  ∃ acc, H' D = some (.lst acc) ∧ acc.length ≤ i ∧ Same H0 (rem H' D) ∧ R (xs.drop i) acc (rem H' D)
section
variable {H0 H' H4 : Hp} {R : List V → List V → Hp → Prop} {xs acc : List V} {D : Addr} {i : Nat} {y : V}
theorem lc_put (hD : H' D = some (.lst acc)) (s : Same H' H4) (hl : acc.length ≤ i) (hi : i < 1000000) (hS : Same H0 (rem H' D)) (hR : R (xs.drop (i + 1)) (acc ++ [y]) (rem H4 D)) :
    ∃ acc, H4 D = some (.lst acc) ∧ acc.length < sizeLine ∧ LcInv H0 R xs D (i + 1) (upd H4 D (.lst (acc ++ [y]))) := by
  refine ⟨acc, s _ _ hD, by rw [sizeLine_eq]; omega, acc ++ [y], upd_same, by rw [List.length_append]; exact Nat.succ_le_succ hl, ?_, ?_⟩
  · rw [rem_upd]
    exact hS.trans (same_rem s)
  · rw [rem_upd]
    exact hR
theorem lc_skip (hD : H' D = some (.lst acc)) (s : Same H' H4) (hl : acc.length ≤ i) (hS : Same H0 (rem H' D)) (hR : R (xs.drop (i + 1)) acc (rem H4 D)) : LcInv H0 R xs D (i + 1) H4 :=
  ⟨acc, s _ _ hD, Nat.le_succ_of_le hl, hS.trans (same_rem s), hR⟩
end
section
variable {K : PySem.W.Frag} {g : TG} {tt : TT} {te : TE} {own : List Nat} {σ : L2.St} {H : Hp} {Q : VK} {a : Addr} {xs : List V} {tl : TE}
/-- what a comprehension over J asks, behind its source -/
def LcGo (J : It) (g : TG) (tt : TT) (te : TE) (vs : List Nat) (σ : L2.St) (Q : VK) (H1 : Hp) : Prop := ∀ D, H1 D = none → ∃ W : Nat → Nat → Hp → Prop, (∃ m, W 0 m (upd H1 D (.lst []))) ∧ ∀ i m H, W i m H →
  (J.stop i H ∧ Q (.ref D) H) ∨ (J.go i H ∧ ∃ Nx : Hp → Prop, (∀ H', Nx H' → ∃ m', m' < m ∧ W (i + 1) m' H') ∧ ∀ x H', J.yld i H x H' → g x (wipe σ vs) H' fun σ2 H2 => wipe σ2 vs = wipe σ vs ∧ tt σ2 H2 fun b H3 =>
    if b = true then te σ2 H3 fun y H4 => ∃ acc, H4 D = some (.lst acc) ∧ acc.length < sizeLine ∧ Nx (upd H4 D (.lst (acc ++ [y]))) else Nx H3)
theorem w_lcL (h : tl σ H fun x H1 => ∃ a, x = .ref a ∧ (∃ xs, SqL K H1 a xs) ∧ LcGo (Itl K a) g tt te own σ Q H1) : tLc (iList K tl) g tt te own σ H Q := h
theorem w_lcT (h : tl σ H fun x H1 => ∃ a, x = .ref a ∧ (∃ xs, SqT K H1 a xs) ∧ LcGo (Itt K a) g tt te own σ Q H1) : tLc (iTup K tl) g tt te own σ H Q := h
theorem w_lcR {ta : TA} (h : ta σ H fun vs H1 => ∃ j : Int, vs = [.int j] ∧ -(2 ^ 62) ≤ j ∧ j < 2 ^ 62 ∧ LcGo (Itr 0 j.toNat) g tt te own σ Q H1) : tLc (iRng1 ta) g tt te own σ H Q := h
/-- one turn -/
def LcTurn (g : TG) (tt : TT) (te : TE) (own : List Nat) (σ : L2.St) (D : Addr) (N : Hp → Prop) (x : V) (H' : Hp) : Prop := g x (wipe σ own) H' fun σ2 H2 => wipe σ2 own = wipe σ own ∧ tt σ2 H2 fun b H3 =>
  if b = true then te σ2 H3 fun y H4 => ∃ acc, H4 D = some (.lst acc) ∧ acc.length < sizeLine ∧ N (upd H4 D (.lst (acc ++ [y]))) else N H3
theorem lc_goL (hx : SqL K H a xs) (R : List V → List V → Hp → Prop) (h0 : R xs [] H)
    (hs : ∀ D i x acc H', xs[i]? = some x → H D = none → H' D = some (.lst acc) → acc.length ≤ i → Same H (rem H' D) → Same H H' → R (x :: xs.drop (i + 1)) acc (rem H' D) → LcTurn g tt te own σ D (LcInv H R xs D (i + 1)) x H')
    (hd : ∀ D H' acc, H D = none → Same H H' → H' D = some (.lst acc) → acc.length ≤ xs.length → R [] acc (rem H' D) → Q (.ref D) H') : LcGo (Itl K a) g tt te own σ Q H := by
  intro D hD
  refine lc_list (K := K) (a := a) (xs := xs) (LcInv H R xs D) ⟨[], upd_same, Nat.le_refl _, ?_, ?_⟩ (fun i H' _ ⟨acc, _, _, s, _⟩ => (s.trans rem_same).seq hx) (fun i x H' hi ⟨acc, h1, h2, s, hR⟩ => ?_) fun H' ⟨acc, h1, h2, s, hR⟩ => ?_
  · rw [rem_upd_none hD]; exact Same.refl _
  · rw [rem_upd_none hD]; exact h0
  · rw [drop_at hi] at hR
    exact hs D i x acc H' hi hD h1 h2 s (s.trans rem_same) hR
  · rw [List.drop_length] at hR
    exact hd D H' acc hD (s.trans rem_same) h1 h2 hR
theorem lc_goT (hx : SqT K H a xs) (R : List V → List V → Hp → Prop) (h0 : R xs [] H)
    (hs : ∀ D i x acc H', xs[i]? = some x → H D = none → H' D = some (.lst acc) → acc.length ≤ i → Same H (rem H' D) → Same H H' → R (x :: xs.drop (i + 1)) acc (rem H' D) → LcTurn g tt te own σ D (LcInv H R xs D (i + 1)) x H')
    (hd : ∀ D H' acc, H D = none → Same H H' → H' D = some (.lst acc) → acc.length ≤ xs.length → R [] acc (rem H' D) → Q (.ref D) H') : LcGo (Itt K a) g tt te own σ Q H := by
  intro D hD
  refine lc_tup (K := K) (a := a) (xs := xs) (LcInv H R xs D) ⟨[], upd_same, Nat.le_refl _, ?_, ?_⟩ (fun i H' _ ⟨acc, _, _, s, _⟩ => ?_) (fun i x H' hi ⟨acc, h1, h2, s, hR⟩ => ?_) fun H' ⟨acc, h1, h2, s, hR⟩ => ?_
  · rw [rem_upd_none hD]; exact Same.refl _
  · rw [rem_upd_none hD]; exact h0
  · have e := s.trans rem_same
    rcases hx with (h | ⟨o, h⟩) | h
    · exact .inl (.inl (e _ _ h))
    · exact .inl (.inr ⟨o, e _ _ h⟩)
    · exact .inr h
  · rw [drop_at hi] at hR
    exact hs D i x acc H' hi hD h1 h2 s (s.trans rem_same) hR
  · rw [List.drop_length] at hR
    exact hd D H' acc hD (s.trans rem_same) h1 h2 hR
/-- over range(n): the items are the ints -/
theorem lc_goR {n : Nat} (R : Nat → List V → Hp → Prop) (h0 : R 0 [] H)
    (hs : ∀ D i acc H', i < n → H D = none → H' D = some (.lst acc) → acc.length ≤ i → Same H (rem H' D) → Same H H' → R i acc (rem H' D) →
      LcTurn g tt te own σ D (fun H2 => ∃ acc, H2 D = some (.lst acc) ∧ acc.length ≤ i + 1 ∧ Same H (rem H2 D) ∧ R (i + 1) acc (rem H2 D)) (.int (i : Int)) H')
    (hd : ∀ D H' acc, H D = none → Same H H' → H' D = some (.lst acc) → acc.length ≤ n → R n acc (rem H' D) → Q (.ref D) H') : LcGo (Itr 0 n) g tt te own σ Q H := by
  intro D hD
  refine lc_range (lo := 0) (n := n) (fun i H2 => ∃ acc, H2 D = some (.lst acc) ∧ acc.length ≤ i ∧ Same H (rem H2 D) ∧ R i acc (rem H2 D)) ⟨[], upd_same, Nat.le_refl _, ?_, ?_⟩ (fun i H' hi ⟨acc, h1, h2, s, hR⟩ => ?_) fun H' ⟨acc, h1, h2, s, hR⟩ => ?_
  · rw [rem_upd_none hD]; exact Same.refl _
  · rw [rem_upd_none hD]; exact h0
  · rw [show (0 : Int) + (i : Int) = (i : Int) from Int.zero_add _]
    exact hs D i acc H' hi hD h1 h2 s (s.trans rem_same) hR
  · exact hd D H' acc hD (s.trans rem_same) h1 h2 hR
theorem w_turn {D : Addr} {N : Hp → Prop} {x : V} {H' : Hp} (h : g x (wipe σ own) H' fun σ2 H2 => wipe σ2 own = wipe σ own ∧ tt σ2 H2 fun b H3 =>
  if b = true then te σ2 H3 fun y H4 => ∃ acc, H4 D = some (.lst acc) ∧ acc.length < sizeLine ∧ N (upd H4 D (.lst (acc ++ [y]))) else N H3) : LcTurn g tt te own σ D N x H' := h
theorem w_yes {R : Bool → Hp → Prop} (h : R true H) : tYes σ H R := h
end
end Bal
local macro_rules | `(tactic| walk_at "at") => `(tactic| first | assumption | (refine Bal.Same.at (by assumption) ?_; walk_at "at"))
local macro_rules | `(tactic| walk_at "w1") => `(tactic| first
  | with_reducible refine Bal.w_seq ?_ | with_reducible refine Bal.w_asg ?_ | ((with_reducible refine Bal.w_name (σ' := ?v1) ?e1 ?_); (case e1 => ((try simp only [List.set_cons_succ, List.set_cons_zero]); rfl))) | with_reducible refine Bal.w_ret ?_ | with_reducible refine Bal.w_drop ?_
  | with_reducible refine Bal.w_ifs ?_ | with_reducible refine Bal.w_next ?_
  | ((with_reducible refine Bal.w_var (v := ?v1) ?e1 ?_); (case e1 => exact rfl))
  | with_reducible refine Bal.w_c ?_ | with_reducible refine Bal.w_op ?_ | with_reducible refine Bal.w_un ?_ | with_reducible refine Bal.w_test ?_ | with_reducible refine Bal.w_tB ?_
  | with_reducible refine Bal.w_bl ?_ | with_reducible refine Bal.w_blV ?_ | with_reducible refine Bal.w_and ?_ | with_reducible refine Bal.w_or ?_ | with_reducible refine Bal.w_not ?_
  | with_reducible refine Bal.w_andV ?_ | with_reducible refine Bal.w_orV ?_ | with_reducible refine Bal.w_notV ?_
  | with_reducible refine Bal.w_rI0 ?_ | with_reducible refine Bal.w_rU ?_
  | with_reducible refine Bal.w_eqI ?_ | with_reducible refine Bal.w_neI ?_ | with_reducible refine Bal.w_eqB ?_ | with_reducible refine Bal.w_neB ?_ | with_reducible refine Bal.w_eqS ?_ | with_reducible refine Bal.w_neS ?_
  | with_reducible refine Bal.w_nil ?_ | with_reducible refine Bal.w_cons ?_ | with_reducible refine Bal.w_call ?_ | with_reducible refine Bal.w_cb ?_
  | with_reducible refine Bal.w_tup ?_ | with_reducible refine Bal.w_lst ?_
  | ((with_reducible refine Bal.w_ixT (v := ?v1) (xs := ?v2) ?e1 ?e2 ?_); (case e1 => walk_at "at"); (case e2 => exact rfl))
  | ((with_reducible refine Bal.w_gtup (xs := ?v2) ?e1 ?e2 ?_); (case e1 => walk_at "at"); (case e2 => exact rfl))
  | with_reducible refine L2.iteT ?_ | with_reducible refine L2.iteF ?_
  | with_reducible refine Bal.w_bm ?_ | with_reducible refine Bal.w_din ?_ | with_reducible refine Bal.w_dput ?_ | with_reducible refine Bal.w_yes ?_ | with_reducible refine Bal.w_ntT ?_ | with_reducible refine Bal.w_ntF ?_
  | with_reducible refine Bal.w_gcons ?_ | with_reducible refine Bal.w_gnil ?_)
local macro_rules | `(tactic| walk_at "w") => `(tactic| repeat walk_at "w1")
local macro_rules | `(tactic| walk_at "s1") => `(tactic| first | walk_at "w1" | (refine Bal.w_ite (fun hI => ?_) (fun hI => ?_)))
local macro_rules | `(tactic| walk_at "ws") => `(tactic| repeat' walk_at "s1")
local macro_rules | `(tactic| walk_at "known") => `(tactic| first | (refine Bal.w_ite (fun _ => ?_) (fun z => (z (by first | trivial | rfl)).elim)) | (refine Bal.w_ite (fun z => absurd z (by decide)) (fun _ => ?_)))
namespace Bal
/-! ### sorted of tuples of ints, any length -/
section
variable {prog : Program} {w : World} {A : Around} {E : Value → Shared → Prop} {s : Shared}
def IntV (u : Value) (n : Int) : Prop := ∃ t, u = Value.int n t
/-- at v: a tuple of these ints -/
def IsInts (h : Heap) (v : Value) (ns : List Int) : Prop := ∃ a o its n, v = Value.ref a ∧ h.get? a = some o ∧ o.cls = .type "tuple" ∧ o.data = .seq its n ∧ Paired IntV its.toList ns
theorem IsInts.keeps {h h' : Heap} {v : Value} {ns : List Int} (p : IsInts h v ns) (k : ∀ b o, h.get? b = some o → o.cls = .type "tuple" → h'.get? b = some o) : IsInts h' v ns := by
  obtain ⟨a, o, its, n, e, ho, hc, hd⟩ := p
  exact ⟨a, o, its, n, e, k _ _ ho hc, hc, hd⟩
theorem lex_ints {R : Bool → Shared → Prop} : ∀ {us ws : List Value} {ns ms : List Int} (i : Nat), Paired IntV us ns → Paired IntV ws ms → ns.length = ms.length → R (lexB ns ms) s → PySem.W.KatLex prog w A true false R (us.zip ws) i s
  | _, _, _, _, i, .nil, .nil, _, h => PySem.W.kat_nil h
  | _, _, _, _, i, .nil, .cons _ _, hl, _ => absurd hl (by simp)
  | _, _, _, _, i, .cons _ _, .nil, hl, _ => absurd hl (by simp)
  | _, _, _, _, i, .cons (b := x) h1 r1, .cons (b := y) h2 r2, hl, h => by
    obtain ⟨t, rfl⟩ := h1
    obtain ⟨t', rfl⟩ := h2
    refine PySem.W.kat_cons (SeqAt.EqAt.int_int x t y t' prog w _ _ ?_)
    refine PySem.W.kat_go (fun e1 => ?_) (fun e1 => ?_)
    · have ex : x = y := by simpa using e1
      refine PySem.W.kat_yes (lex_ints (i + 1) r1 r2 (by simpa using hl) ?_)
      unfold lexB at h
      rw [if_pos ex] at h
      exact h
    · have ex : ¬ x = y := by simpa using e1
      unfold lexB at h
      rw [if_neg ex] at h
      refine PySem.W.kat_no ?_
      cases i with
      | zero => exact oneLt_int h
      | succ i => exact PySem.W.kat_one _ _ (PyProof.Rows.lt_int h)
theorem lexB_tr : ∀ {a b c : List Int}, a.length = b.length → b.length = c.length → lexB a b = false → lexB b c = false → lexB a c = false
  | [], [], [], _, _, _, _ => rfl
  | x :: a, y :: b, z :: c, h1, h2, e1, e2 => by
    unfold lexB at e1 e2 ⊢
    have l1 : a.length = b.length := by simpa using h1
    have l2 : b.length = c.length := by simpa using h2
    by_cases xy : x = y
    · subst xy
      rw [if_pos rfl] at e1
      by_cases yz : x = z
      · subst yz
        rw [if_pos rfl] at e2 ⊢
        exact lexB_tr l1 l2 e1 e2
      · rw [if_neg yz] at e2 ⊢
        exact e2
    · rw [if_neg xy] at e1
      have q1 := of_decide_eq_false e1
      by_cases yz : y = z
      · subst yz
        rw [if_neg xy]
        exact e1
      · rw [if_neg yz] at e2
        have q2 := of_decide_eq_false e2
        rw [if_neg (by omega)]
        exact decide_eq_false (by omega)
theorem lexB_asym : ∀ {a b : List Int}, lexB a b = true → lexB b a = false
  | [], [], h => by simp [lexB] at h
  | [], _ :: _, _ => rfl
  | _ :: _, [], h => by simp [lexB] at h
  | x :: a, y :: b, h => by
    unfold lexB at h ⊢
    by_cases xy : x = y
    · subst xy
      rw [if_pos rfl] at h ⊢
      exact lexB_asym h
    · rw [if_neg xy] at h
      rw [if_neg (Ne.symm xy)]
      have q := of_decide_eq_true h
      exact decide_eq_false (by omega)
theorem swo_ints {κ : Type} (k : κ → S5) : SrtO.Swo fun v u => lexB (k v).l (k u).l :=
  ⟨fun _ _ h => lexB_asym h, fun x y z h1 h2 => lexB_tr (by rfl) (by rfl) h2 h1⟩
theorem ints_cmp {vs : List Value} {k : Value → S5} (hp : ∀ v ∈ vs, IsInts s.heap v (k v).l) : SrtO.Cmp prog w A s (tuples' true) (fun p => p.1 ∈ vs) (SrtO.lt2 fun v u => lexB (k v).l (k u).l) := by
  intro p q hm hm'
  obtain ⟨a, o, its, n, e, ho, hc, hd, hi⟩ := hp _ hm
  obtain ⟨a', o', its', n', e', ho', hc', hd', hi'⟩ := hp _ hm'
  show wpAny (model prog w) A (keyLt' (tuples' true) p.1 q.1) (fun r s' => s' = s ∧ r = lexB (k p.1).l (k q.1).l) (fun _ _ => False) s
  have l1 : its.size = 5 := by
    have := paired_len hi
    rw [Array.length_toList] at this
    rw [this]; rfl
  have l2 : its'.size = 5 := by
    have := paired_len hi'
    rw [Array.length_toList] at this
    rw [this]; rfl
  generalize (k p.1).l = x, (k q.1).l = y at hi hi' l1 l2 ⊢
  rw [e, e']
  refine PySem.W.kat_lt ho hd ho' hd' ?_
  have e3 : decide (its.size < its'.size) = false := by rw [l1, l2]; rfl
  rw [e3]
  refine lex_ints 0 hi hi' ?_ ⟨rfl, rfl⟩
  rw [← paired_len hi, ← paired_len hi', Array.length_toList, Array.length_toList, l1, l2]
theorem ints_firsts {h : Heap} {k : Value → S5} : ∀ {vs : List Value}, (∀ v ∈ vs, IsInts h v (k v).l) → ∃ fs : List Value, PySem.W.KatTups h vs fs ∧ fs.length = vs.length ∧ ∀ f ∈ fs, ∃ x t, f = Value.int x t
  | [], _ => ⟨[], PySem.W.KatTups.nil, rfl, fun _ hm => by simp at hm⟩
  | v :: vs, hp => by
    obtain ⟨fs, h1, h2, h3⟩ := ints_firsts (vs := vs) fun v' hm => hp v' (List.mem_cons_of_mem _ hm)
    obtain ⟨a, o, its, n, e, ho, hc, hd, hi⟩ := hp v (List.mem_cons_self ..)
    subst e
    obtain ⟨u, hu, t, rfl⟩ := paired_at' (i := 0) hi (show (k (Value.ref a)).l[0]? = some (k (Value.ref a)).x from rfl)
    refine ⟨.int (k (Value.ref a)).x t :: fs, PySem.W.KatTups.cons ho hc hd (by rw [← Array.getElem?_toList]; exact hu) h1, by rw [List.length_cons, List.length_cons, h2], fun f hm => ?_⟩
    rcases List.mem_cons.mp hm with rfl | hm
    · exact ⟨_, t, rfl⟩
    · exact h3 f hm
theorem ints_sortable {a : Addr} {vs : List Value} {k : Value → S5} (h0 : 0 < vs.length) (hp : ∀ v ∈ vs, IsInts s.heap v (k v).l) (ha : ∀ o, s.heap.get? a = some o → o.cls ≠ .type "tuple") : SrtO.SortableO prog w A s a vs fun v u => lexB (k v).l (k u).l := by
  intro h' keep
  have hp' : ∀ v ∈ vs, IsInts h' v (k v).l := fun v hm => (hp v hm).keeps fun b o e c => keep b o (fun z => by subst z; exact ha o e c) e
  obtain ⟨fs, h1, h2, h3⟩ := ints_firsts hp'
  refine ⟨tuples' true, fun Q E hq => ?_, ints_cmp (s := { s with heap := h' }) hp'⟩
  refine PySem.W.kat_kind (T := .type "int") h1 (by omega) (fun f hm => ?_) (by rfl) ?_
  · obtain ⟨x, t, rfl⟩ := h3 f hm
    exact PySem.W.Looks.now
  · have e : (Value.type "int" != Value.type "tuple") = true := by first | decide +kernel | rfl | decide
    rw [e]
    exact hq
theorem sorted_intsO {l : Addr} {vs : List Value} {k : Value → S5} {Q : Value → Shared → Prop} (hl : s.heap.IsList l vs.toArray) (hz : vs.length ≤ sizeLine) (hp : ∀ v ∈ vs, IsInts s.heap v (k v).l)
    (h : ∀ (h' : Heap) (d : Addr) (out : List Value), SrtO.Srtd (fun v u => lexB (k v).l (k u).l) out → SrtO.Stb (fun v u => lexB (k v).l (k u).l) out vs → (∀ b o, s.heap.get? b = some o → h'.get? b = some o) → s.heap.objs.size ≤ d → (∃ n, h'.get? d = some (seqObj "list" out.toArray n)) → Q (.ref d) { s with heap := h' }) :
    wpAny (model prog w) A (call (.builtin "sorted") [.ref l]) Q E s := by
  refine SrtO.sorted_ord (swo_ints k) hl hz (fun h2 h₁ a ha kk => ?_) fun out hs hb => ?_
  · refine ints_sortable (s := { s with heap := h₁ }) (by omega) (fun v hm => (hp v hm).keeps fun b o e _ => (kk b o e).2) fun o e => ?_
    have e' : some o = some (seqObj "list" vs.toArray 0) := e.symm.trans ha
    cases e'
    intro c
    exact absurd (Value.type.inj c) (by decide)
  · exact h _ _ out hs hb (fun b o e => sortedAll_old e) (Nat.le_succ _) (sortedAll_at s.heap vs out.toArray)
end
/-! as a rule of the layer -/
theorem ints_of : ∀ {ns : List Int} {its : List Value}, Vals (ns.map V.int) its → Paired IntV its ns
  | [], _, .nil => .nil
  | n :: ns, _, .cons h r => by
    obtain ⟨t, e⟩ := h
    exact .cons ⟨t, e⟩ (ints_of r)
open Classical in
/-- which state stands at v -/
noncomputable def keyOf (H : Hp) (v : V) : S5 := if h : ∃ t, TupOf S5.v H v t then h.choose else ⟨0, 0, 0, 0, 0⟩
theorem S5.v_inj {a b : S5} (h : a.v = b.v) : a = b := by
  cases a; cases b
  simp only [S5.v, List.cons.injEq, V.int.injEq] at h
  obtain ⟨h1, h2, h3, h4, h5, _⟩ := h
  subst h1; subst h2; subst h3; subst h4; subst h5; rfl
theorem keyOf_eq {H : Hp} {v : V} {t : S5} (h : TupOf S5.v H v t) : keyOf H v = t := by
  have ex : ∃ t, TupOf S5.v H v t := ⟨t, h⟩
  unfold keyOf
  rw [dif_pos ex]
  obtain ⟨a, e, h1⟩ := ex.choose_spec
  obtain ⟨b, e2, h2⟩ := h
  rw [e] at e2
  cases e2
  rw [h1] at h2
  exact S5.v_inj (HO.tup.inj (Option.some.inj h2))
theorem paired_key {H : Hp} : ∀ {vs : List V} {L : List S5}, Paired (TupOf S5.v H) vs L → L = vs.map (keyOf H)
  | _, _, .nil => rfl
  | _, _, .cons h r => by rw [List.map_cons, keyOf_eq h, ← paired_key r]
theorem key_paired {H : Hp} : ∀ {vs : List V}, (∀ v ∈ vs, ∃ t, TupOf S5.v H v t) → Paired (TupOf S5.v H) vs (vs.map (keyOf H))
  | [], _ => .nil
  | v :: vs, h => by
    obtain ⟨t, ht⟩ := h v (List.mem_cons_self ..)
    refine .cons ?_ (key_paired fun u hu => h u (List.mem_cons_of_mem _ hu))
    show TupOf S5.v H v (keyOf H v)
    rw [keyOf_eq ht]; exact ht
theorem paired_mem {α β : Type} {R : α → β → Prop} : ∀ {l : List α} {m : List β} {a : α}, Paired R l m → a ∈ l → ∃ b, b ∈ m ∧ R a b
  | _, _, _, .nil, h => absurd h (by simp)
  | _, _, _, .cons h r, hm => by
    rcases List.mem_cons.mp hm with rfl | hm
    · exact ⟨_, List.mem_cons_self .., h⟩
    · obtain ⟨b, hb, k⟩ := paired_mem r hm
      exact ⟨b, List.mem_cons_of_mem _ hb, k⟩
/-- sorted(xs), a list of states of any length -/
def rSorted5 : List V → Hp → VK → Prop := fun vs H Q => ∃ (a : Addr) (L : List S5), vs = [V.ref a] ∧ ListOf S5.v H a L ∧
  ∀ (p : Addr) (M : List S5) (H2 : Hp), Same H H2 → H p = none → ListOf S5.v H2 p M → M.Perm L → M.Pairwise (fun x y => lexB y.l x.l = false) → Q (.ref p) H2
section
variable {X : Cx}
theorem cr_sorted5 : CallR X (.builtin "sorted") rSorted5 := by
  intro pins s σ H vs us Q I r h
  obtain ⟨a, L, rfl, ⟨xs, hx, hp⟩, q⟩ := h
  obtain ⟨its, rv, hl, hz⟩ := I.list (.inl (.inl hx))
  obtain ⟨u, rfl, ru⟩ := vals1 r
  obtain rfl : u = Value.ref a := ru
  obtain ⟨e1, e2⟩ := refs_back rv fun x m => by
    obtain ⟨t, _, b, e, _⟩ := paired_mem hp m
    exact ⟨b, e⟩
  refine sorted_intsO (k := fun u => keyOf H (backV u)) hl.isList (by rw [← rv.length]; exact hz) (fun v hv => ?_) fun h' d out h1 h2 kp hd hn => ?_
  · obtain ⟨t, rfl⟩ := e2 v hv
    have hm : V.ref t ∈ xs := by rw [e1]; exact List.mem_map.mpr ⟨_, hv, rfl⟩
    obtain ⟨y, _, hy⟩ := paired_mem hp hm
    show IsInts s.heap (Value.ref t) (keyOf H (V.ref t)).l
    rw [keyOf_eq hy]
    obtain ⟨t', e, ht⟩ := hy
    cases e
    obtain ⟨_, its2, r2, o, ho, hc, n, hd⟩ := I.hok _ _ ht
    refine ⟨t, o, its2.toArray, n, rfl, ho, hc, hd, ?_⟩
    exact ints_of (ns := y.l) r2
  · have h3 : ∀ u ∈ out, ∃ a, u = Value.ref a := fun u hu => e2 u (h2.perm.mem_iff.mp hu)
    obtain ⟨n, hn⟩ := hn
    have hfresh : H d = none := I.hok.fresh hd
    have hsz : (out.map backV).length ≤ sizeLine := by
      rw [List.length_map, h2.perm.length_eq, ← rv.length]
      exact hz
    have sm : Same H (upd H d (.lst (out.map backV))) := same_new hfresh
    have hall : ∀ v ∈ out.map backV, ∃ t, TupOf S5.v (upd H d (.lst (out.map backV))) v t := fun v hv => by
      obtain ⟨u, hu, rfl⟩ := List.mem_map.mp hv
      have hm : backV u ∈ xs := by rw [e1]; exact List.mem_map.mpr ⟨u, h2.perm.mem_iff.mp hu, rfl⟩
      obtain ⟨y, _, hy⟩ := paired_mem hp hm
      exact ⟨y, hy.up sm⟩
    have hM : (out.map backV).map (keyOf H) = (out.map backV).map (keyOf (upd H d (.lst (out.map backV)))) := by
      refine List.map_congr_left fun v hv => ?_
      obtain ⟨u, hu, rfl⟩ := List.mem_map.mp hv
      have hm : backV u ∈ xs := by rw [e1]; exact List.mem_map.mpr ⟨u, h2.perm.mem_iff.mp hu, rfl⟩
      obtain ⟨y, _, hy⟩ := paired_mem hp hm
      rw [keyOf_eq hy, keyOf_eq (hy.up sm)]
    refine ⟨.ref d, upd H d (.lst (out.map backV)), I.laid (t' := s.toks) kp hd ⟨hsz, out, n, vals_back h3, hn⟩, rfl, q d ((out.map backV).map (keyOf H)) _ sm hfresh ⟨_, upd_same, ?_⟩ ?_ ?_⟩
    · rw [hM]
      exact key_paired hall
    · rw [paired_key hp, e1]
      exact (h2.perm.map backV).map (keyOf H)
    · refine List.pairwise_map.mpr (List.pairwise_map.mpr ?_)
      exact h1
end
end Bal
namespace Bal
/-! ### max of a list of pairs of ints: some one of them -/
def Pr.v (p : Int × Int) : List V := [.int p.1, .int p.2]
def prD (p : Int × Int) : PyData := .tuple [.int p.1, .int p.2]
def rMaxP : List V → Hp → VK → Prop := fun vs H Q => ∃ (a : Addr) (ps : List (Int × Int)), vs = [V.ref a] ∧ ListOf Pr.v H a ps ∧ ps ≠ [] ∧ ∀ (t : Addr) (p : Int × Int), p ∈ ps → H t = some (.tup (Pr.v p)) → Q (.ref t) H
section
open PySem.W
variable {X : Cx} {pins : List (Addr × Obj)} {σ : L2.St} {H : Hp} {s : Shared}
theorem prs_data {K : PySem.W.Frag} : ∀ {vs : List V} {ps : List (Int × Int)}, Paired (TupOf Pr.v H) vs ps → DpAll K H vs (ps.map prD)
  | _, _, .nil => .nil
  | _, _, .cons (a := v) (b := p) h r => by
    obtain ⟨a, e, ha⟩ := h
    subst e
    exact .cons (.tup (.inl (.inl ha)) (.cons (.int _) (.cons (.int _) .nil))) (prs_data r)
theorem prs_alike (ps : List (Int × Int)) : AlikeAll (ps.map prD) := by
  refine ⟨fun x hx y hy => ?_, fun x hx => ?_⟩
  · obtain ⟨p, _, rfl⟩ := List.mem_map.mp hx
    obtain ⟨q, _, rfl⟩ := List.mem_map.mp hy
    simp [prD, alike, alikeAll]
  · obtain ⟨p, _, rfl⟩ := List.mem_map.mp hx
    intro z
    cases z
theorem prs_depth : ∀ ps : List (Int × Int), PyData.depthAll (ps.map prD) ≤ 8
  | [] => by simp [PyData.depthAll]
  | p :: ps => by
    have ih := prs_depth ps
    simp only [List.map_cons, PyData.depthAll, prD, PyData.depth] at ih ⊢
    omega
theorem cr_maxP (hc : X.calm = true) (hu : X.A.units + 64 < cLine) : CallR X (.builtin "max") rMaxP := by
  intro pins s σ H vs us Q I r h
  obtain ⟨a, ps, rfl, ⟨xs, hx, hp⟩, hne, q⟩ := h
  obtain ⟨its, rv, hl, hz⟩ := I.list (.inl (.inl hx))
  rw [Vals.ref1 r]
  obtain ⟨as, hr⟩ := Dp.readsAll I _ _ its (prs_data (K := X.K) hp) rv
  cases ps with
  | nil => exact absurd rfl hne
  | cons p ps =>
    have hd := prs_depth (p :: ps)
    refine max_list_data (I.ok.hd hc) hl.isList (x := prD p) (xs := ps.map prD) (as := as) (by simpa using hr) (prs_alike (p :: ps)) (by rw [List.map_cons] at hd; omega) fun i v h' tk bs hv _ kp => ?_
    have hv' : its[i]? = some v := by simpa using hv
    obtain ⟨x, hxi⟩ : ∃ x, xs[i]? = some x := by
      have hi : i < its.length := (List.getElem?_eq_some_iff.mp hv').1
      rw [← rv.length] at hi
      exact ⟨_, List.getElem?_eq_getElem hi⟩
    obtain ⟨u, hu', ru⟩ := Vals.get rv hxi
    rw [hv'] at hu'
    cases hu'
    obtain ⟨y, hy, t, e, ht⟩ := paired_at hp hxi
    subst e
    exact ⟨.ref t, H, I.kept (t' := tk) kp, ru, q t y (List.mem_of_getElem? hy) ht⟩
end
end Bal
namespace Bal
/-! ### dict(a list of pairs (state, True)) -/
def keyL (t : S5) : List Key := t.l.map Sum.inl
theorem keyL_inj {a b : S5} (h : keyL a = keyL b) : a = b := by
  cases a; cases b
  simp only [keyL, S5.l, List.map_cons, List.map_nil, List.cons.injEq, Sum.inl.injEq] at h
  obtain ⟨h1, h2, h3, h4, h5, _⟩ := h
  subst h1; subst h2; subst h3; subst h4; subst h5; rfl
theorem keyL_kV (t : S5) : (keyL t).map kV = t.v := rfl
/-- a dict whose keys are these states, each once -/
def dictL (L : List S5) : List (List Key × V) := L.map fun t => (keyL t, V.bl true)
def PairOf (H : Hp) (v : V) (t : S5) : Prop := ∃ p b, v = V.ref p ∧ H p = some (.tup [.ref b, .bl true]) ∧ H b = some (.tup t.v)
def rDictPT : List V → Hp → VK → Prop := fun vs H Q => ∃ (a : Addr) (ps : List V) (L : List S5), vs = [V.ref a] ∧ H a = some (.lst ps) ∧ Paired (PairOf H) ps L ∧
  ∀ (d : Addr) (M : List S5) (H2 : Hp), Same H H2 → H d = none → M.Nodup → (∀ t, t ∈ M ↔ t ∈ L) → M.length ≤ L.length → H2 d = some (.dT (dictL M)) → Q (.ref d) H2
/-- the triples: their keys are the states of M -/
structure TripL (xs : List (List Key × Addr × Value)) (M : List S5) : Prop where
  keys : xs.map (·.1) = M.map keyL
  nd : M.Nodup
  vals : ∀ x ∈ xs, x.2.2 = Value.bool true
theorem atKey_iff {xs : List (List Key × Addr × Value)} {M : List S5} (h : TripL xs M) (t : S5) : (atKey xs (keyL t)).isSome = true ↔ t ∈ M := by
  unfold atKey
  rw [Option.isSome_map, List.find?_isSome]
  constructor
  · rintro ⟨x, hx, e⟩
    have e' : x.1 = keyL t := of_decide_eq_true e
    have hm : keyL t ∈ M.map keyL := by
      rw [← h.keys, ← e']
      exact List.mem_map.mpr ⟨x, hx, rfl⟩
    obtain ⟨u, hu, e2⟩ := List.mem_map.mp hm
    rw [← keyL_inj e2]; exact hu
  · intro hm
    have hk : keyL t ∈ xs.map (·.1) := by
      rw [h.keys]
      exact List.mem_map.mpr ⟨t, hm, rfl⟩
    obtain ⟨x, hx, e⟩ := List.mem_map.mp hk
    exact ⟨x, hx, decide_eq_true e⟩
theorem TripL.put {xs : List (List Key × Addr × Value)} {M : List S5} (h : TripL xs M) (t : S5) (b : Addr) : ∃ M', TripL (storedH xs (keyL t) b (.bool true)) M' ∧ (∀ u, u ∈ M' ↔ u ∈ M ∨ u = t) ∧ M'.length ≤ M.length + 1 := by
  unfold storedH
  by_cases hm : t ∈ M
  · rw [if_pos ((atKey_iff h t).mpr hm)]
    refine ⟨M, ⟨?_, h.nd, fun x hx => ?_⟩, fun u => ⟨.inl, fun z => ?_⟩, Nat.le_succ _⟩
    · rw [List.map_map, ← h.keys]
      refine List.map_congr_left fun x _ => ?_
      show (putAt (keyL t) (.bool true) x).1 = x.1
      unfold putAt
      split <;> rfl
    · obtain ⟨y, hy, rfl⟩ := List.mem_map.mp hx
      unfold putAt
      split
      · rfl
      · exact h.vals y hy
    · rcases z with z | z
      · exact z
      · rw [z]; exact hm
  · rw [if_neg fun z => hm ((atKey_iff h t).mp z)]
    refine ⟨M ++ [t], ⟨?_, ?_, fun x hx => ?_⟩, fun u => ?_, by rw [List.length_append]; exact Nat.le_refl _⟩
    · rw [List.map_append, List.map_append, h.keys]; rfl
    · rw [List.nodup_append]
      refine ⟨h.nd, by simp, fun x hx y hy e => ?_⟩
      rw [List.mem_singleton] at hy
      rw [hy] at e
      rw [e] at hx
      exact hm hx
    · rcases List.mem_append.mp hx with hx | hx
      · exact h.vals x hx
      · rw [List.mem_singleton] at hx
        rw [hx]
    · rw [List.mem_append, List.mem_singleton]
theorem TripL.all : ∀ {L : List S5} {bs : List Addr} {xs : List (List Key × Addr × Value)} {M : List S5}, TripL xs M → bs.length = L.length →
    ∃ M', TripL (storedAllH xs ((L.zip bs).map fun p => (keyL p.1, p.2, Value.bool true))) M' ∧ (∀ u, u ∈ M' ↔ u ∈ M ∨ u ∈ L) ∧ M'.length ≤ M.length + L.length
  | [], _, xs, M, h, _ => ⟨M, by simpa [storedAllH] using h, fun u => by simp, by simp⟩
  | t :: L, [], _, _, _, e => absurd e (by simp)
  | t :: L, b :: bs, xs, M, h, e => by
    obtain ⟨M1, h1, m1, l1⟩ := h.put t b
    obtain ⟨M2, h2, m2, l2⟩ := TripL.all (L := L) (bs := bs) h1 (by simpa using e)
    refine ⟨M2, ?_, fun u => ?_, ?_⟩
    · rw [List.zip_cons_cons, List.map_cons]
      show TripL (storedAllH (storedH xs (keyL t) b (.bool true)) _) M2
      exact h2
    · rw [m2, m1, List.mem_cons, or_assoc]
    · rw [List.length_cons]
      omega
/-- the pairs, their keys' addresses -/
theorem pairs_split {H : Hp} : ∀ {ps : List V} {L : List S5}, Paired (PairOf H) ps L → ∃ (qs bs : List Addr), ps = qs.map V.ref ∧ bs.length = L.length ∧ qs.length = L.length ∧ Paired (fun b t => H b = some (.tup (S5.v t))) bs L ∧ Paired (fun q b => H q = some (.tup [.ref b, .bl true])) qs bs
  | _, _, .nil => ⟨[], [], rfl, rfl, rfl, .nil, .nil⟩
  | _, _, .cons h r => by
    obtain ⟨p, b, rfl, h1, h2⟩ := h
    obtain ⟨qs, bs, e1, e2, e3, p1, p2⟩ := pairs_split r
    exact ⟨p :: qs, b :: bs, by rw [e1]; rfl, by simp [e2], by simp [e3], .cons h2 p1, .cons h1 p2⟩
theorem tupleKey_of {P : Program} {w : World} {H : Hp} {h : Heap} (hok : HOk P w H h) {b : Addr} {t : S5} (hb : H b = some (.tup t.v)) : (tupleKind (mixKind P w)).is h (keyL t) b := by
  obtain ⟨_, its, rv, o, ho, hc, n, hd⟩ := hok _ _ hb
  refine ⟨o, its.toArray, n, ho, hc, hd, ?_⟩
  rw [List.toList_toArray]
  have key : ∀ {ns : List Int} {us : List Value}, Vals (ns.map V.int) us → ItemsAre (mixKind P w) (ns.map Sum.inl) us := by
    intro ns
    induction ns with
    | nil =>
      intro us r
      cases r
      exact .nil
    | cons n ns ih =>
      intro us r
      cases r with
      | cons h1 r =>
        obtain ⟨t, rfl⟩ := h1
        exact .cons (mixKind_int P w n t) (ih r)
  exact key (ns := t.l) rv
section
variable {X : Cx}
theorem call_dictPT (hc : X.calm = true) (hu : X.A.units + 64 < cLine) : CallR X (.type "dict") rDictPT := by
  intro pins s σ H vs us Q I r h
  obtain ⟨a, ps, L, rfl, ha, hp, q⟩ := h
  obtain ⟨u, rfl, rx⟩ := vals1 r
  cases rx
  obtain ⟨its, rv, pl, hz⟩ := I.list (.inl (.inl ha))
  obtain ⟨qs, bs, rfl, lb, lq, p1, p2⟩ := pairs_split hp
  have ei : its = qs.map Value.ref := refs_at rv
  subst ei
  obtain ⟨o, n, ho, hcl, hdc, hdat⟩ := pl
  -- the pairs as values
  have lqb : qs.length = bs.length := by rw [lq, lb]
  have P := PairArg.list (prog := X.prog) (w := X.w) a (qs.map Value.ref).toArray (fun j => qs.getD j 0) (bs.map fun b => (Value.ref b, Value.bool true))
  have hps : ∀ j k v, (bs.map fun b => (Value.ref b, Value.bool true))[j]? = some (k, v) → ∃ b, bs[j]? = some b ∧ k = Value.ref b ∧ v = Value.bool true := fun j k v e => by
    rw [List.getElem?_map] at e
    cases hb : bs[j]? with
    | none => rw [hb] at e; cases e
    | some b =>
      rw [hb] at e
      cases e
      exact ⟨b, hb, rfl, rfl⟩
  have ok : PlainSeq "list" s.heap a (qs.map Value.ref).toArray ∧ PairItems s.heap (qs.map Value.ref).toArray (fun j => qs.getD j 0) (bs.map fun b => (Value.ref b, Value.bool true)) := by
    refine ⟨⟨o, n, ho, hcl, hdc, hdat⟩, by simp [lqb], fun j k v e => ?_⟩
    obtain ⟨b, hb, rfl, rfl⟩ := hps j k v e
    obtain ⟨x, hx, hq⟩ := paired_at' p2 hb
    have ex : qs.getD j 0 = x := by rw [List.getD_eq_getElem?_getD, hx]; rfl
    refine ⟨by simp [hx], .inl ?_⟩
    obtain ⟨_, its2, r2, ob⟩ := I.hok _ _ hq
    obtain ⟨u1, u2, rfl, e1, e2⟩ := vals2 r2
    cases e1
    cases e2
    show s.heap.IsTuple (qs.getD j 0) _
    rw [ex]
    exact ob
  have hH : PairsHaveH (tupleKind (mixKind X.prog X.w)) (bs.map fun b => (Value.ref b, Value.bool true)).length (PairRel (bs.map fun b => (Value.ref b, Value.bool true))) ((L.zip bs).map fun p => (keyL p.1, p.2, Value.bool true)) := by
    refine ⟨by simp [lb], fun i key v e => ?_⟩
    obtain ⟨b, hb, rfl, rfl⟩ := hps i key v e
    obtain ⟨t, ht, _⟩ := paired_at p1 hb
    exact ⟨keyL t, b, by
      have hz2 : (L.zip bs)[i]? = some (t, b) := List.getElem?_zip_eq_some.mpr ⟨ht, hb⟩
      rw [List.getElem?_map, hz2]
      rfl, rfl⟩
  have kin : ∀ x ∈ (L.zip bs).map (fun p => (keyL p.1, p.2, Value.bool true)), ∃ t, x.1 = keyL t ∧ H x.2.1 = some (.tup (S5.v t)) := fun x hx => by
    obtain ⟨⟨t, b⟩, hm, rfl⟩ := List.mem_map.mp hx
    obtain ⟨i, hi⟩ := List.mem_iff_getElem?.mp hm
    obtain ⟨h1, h2⟩ := List.getElem?_zip_eq_some.mp hi
    obtain ⟨t', ht', hb⟩ := paired_at p1 h2
    rw [h1] at ht'
    cases ht'
    exact ⟨t, rfl, hb⟩
  obtain ⟨M, tl, hmem, hlen⟩ := TripL.all (L := L) (bs := bs) (xs := []) (M := []) ⟨rfl, List.nodup_nil, fun x hx => absurd hx (by simp)⟩ lb
  refine call_dict_pairsH (knd := tupleKind (mixKind X.prog X.w)) P (I.ok.hd hc) (by show X.A.units + 1 + 1 < cLine; omega) ok hH (fun h' hk x hx => ?_) (by rw [List.length_map, lb, ← lq]; simpa using hz) fun h' tk hd' k => ?_
  · obtain ⟨t, e1, e2⟩ := kin x hx
    rw [e1]
    have hx1 := tupleKey_of I.hok e2
    obtain ⟨ob, its, n, ho, hcl, hdat, hit⟩ := hx1
    exact ⟨ob, its, n, hk _ _ (Nat.ne_of_lt (Heap.lt_size ho)) (by simp) ho, hcl, hdat, hit⟩
  · have hfresh : H s.heap.objs.size = none := I.hok.fresh (Nat.le_refl _)
    have hm : (s.heap.objs.size == sysModules) = false := beq_eq_false_iff_ne.mpr (Nat.ne_of_gt I.big)
    have sm : Same H (upd H s.heap.objs.size (.dT (dictL M))) := same_new hfresh
    refine ⟨.ref s.heap.objs.size, upd H s.heap.objs.size (.dT (dictL M)), I.laid (t' := tk) (fun b o e => k b o (by simp) e) (Nat.le_refl _) ?_, rfl, q _ M _ sm hfresh tl.nd (fun t => by rw [hmem]; simp) (by simpa using hlen) upd_same⟩
    obtain ⟨ob, es, ep, h1, h2, h3, h4, h5, h6⟩ := hd'
    refine ⟨?_, hm, storedAllH [] ((L.zip bs).map fun p => (keyL p.1, p.2, Value.bool true)), ?_, ob, es, ep, h1, h2, h3, h4, h6⟩
    · have : (dictL M).length ≤ L.length := by
        unfold dictL
        rw [List.length_map]
        simpa using hlen
      rw [← lq] at this
      have hz' : qs.length ≤ sizeLine := by simpa using hz
      exact Nat.le_trans this hz'
    · have hk : ∀ x ∈ storedAllH [] ((L.zip bs).map fun p => (keyL p.1, p.2, Value.bool true)), ∃ t, x.1 = keyL t ∧ H x.2.1 = some (.tup (S5.v t)) :=
        storedAllH_keys (P := fun k b => ∃ t, k = keyL t ∧ H b = some (.tup (S5.v t))) (fun x hx => absurd hx (by simp)) kin
      have hv := tl.vals
      have hkeys := tl.keys
      generalize storedAllH [] ((L.zip bs).map fun p => (keyL p.1, p.2, Value.bool true)) = xs at hk hv hkeys
      have go : ∀ {xs : List (List Key × Addr × Value)} {M : List S5}, xs.map (·.1) = M.map keyL → (∀ x ∈ xs, x.2.2 = Value.bool true) → (∀ x ∈ xs, ∃ t, x.1 = keyL t ∧ H x.2.1 = some (.tup (S5.v t))) → ∀ H2, Same H H2 →
          Paired (fun (p : List Key × V) (q : List Key × Addr × Value) => p.1 = q.1 ∧ H2 q.2.1 = some (.tup (p.1.map kV)) ∧ RelV p.2 q.2.2) (dictL M) xs := by
        intro xs
        induction xs with
        | nil =>
          intro M e _ _ H2 _
          cases M with
          | nil => exact .nil
          | cons _ _ => cases e
        | cons x xs ih =>
          intro M e hv hk H2 s2
          cases M with
          | nil => cases e
          | cons t M =>
            rw [List.map_cons, List.map_cons, List.cons.injEq] at e
            obtain ⟨t', e1, e2⟩ := hk x (List.mem_cons_self ..)
            have et : t = t' := keyL_inj (e.1.symm.trans e1)
            subst et
            refine .cons ⟨e.1.symm, s2 _ _ e2, ?_⟩ (ih e.2 (fun y hy => hv y (List.mem_cons_of_mem _ hy)) (fun y hy => hk y (List.mem_cons_of_mem _ hy)) H2 s2)
            show x.2.2 = Value.bool true
            exact hv x (List.mem_cons_self ..)
      exact go hkeys hv hk _ sm
end
end Bal
namespace Bal
abbrev s_inside : Stmt := topS 2
abbrev nm_inside : List Str := ["box", "x", "y", "height", "x1", "y1", "x2", "y2", "low", "high"]
theorem sc_inside : FnScope nm_inside ["box", "x", "y", "height"] (defScope s_inside) := ⟨rfl, rfl, rfl, by decide +kernel, rfl, by decide +kernel, by decide +kernel⟩
-- slots: 0:box 1:x 2:y 3:height 4:x1 5:y1 6:x2 7:y2 8:low 9:high
/-- inside(box, x, y, height) -/
def sp_inside : Sp := fun vs H Q _ => ∃ (a : Addr) (x1 y1 x2 y2 low high x y h : Int), vs = [.ref a, .int x, .int y, .int h] ∧ H a = some (.tup [.int x1, .int y1, .int x2, .int y2, .int low, .int high]) ∧ Q (.bl (insideB x1 y1 x2 y2 low high x y h)) H
section
variable {P : Program} {w : World} {K : PySem.W.Frag} {mg : Str → Option Value} {base : Heap}
theorem cl_inside (D : Df K mg "inside" s_inside) (T : Txt K mg) : Cl P w K mg base 1 "inside" sp_inside := by
  refine Cl.of D sc_inside (fun _ _ _ _ _ _ us hl => match us, hl with | [_, _, _, _], _ => rfl) (fun vs H Q E h => ?_) (fun f cdv A outer s H vs Q E hr h => ?_)
  · obtain ⟨_, _, _, _, _, _, _, _, _, _, rfl, _⟩ := h
    rfl
  · obtain ⟨a, x1, y1, x2, y2, low, high, x, y, z, rfl, ha, q⟩ := h
    have nd := sc_inside.nd
    refine ⟨_, (pss_cons (ps_asg (pv 0) (pg_tup (by rfl) (pgs_cons (pg_name (i := 4) nd rfl (.inl rfl)) (pgs_cons (pg_name (i := 5) nd rfl (.inl rfl)) (pgs_cons (pg_name (i := 6) nd rfl (.inl rfl)) (pgs_cons (pg_name (i := 7) nd rfl (.inl rfl)) (pgs_cons (pg_name (i := 8) nd rfl (.inl rfl)) (pgs_cons (pg_name (i := 9) nd rfl (.inl rfl)) pgs_nil))))))))
      (pss_cons (ps_if (PW.pt (pw_or (pt_cmpR op_lt (pv 1) (pv 4) (nomark _)) (pw_or1 (pt_cmpR op_gt (pv 1) (pv 6) (nomark _))))) (pss_one (ps_ret pe_bl)) pss_nil)
      (pss_cons (ps_if (PW.pt (pw_or (pt_cmpR op_lt (pv 2) (pv 5) (nomark _)) (pw_or1 (pt_cmpR op_gt (pv 2) (pv 7) (nomark _))))) (pss_one (ps_ret pe_bl)) pss_nil)
      (pss_one (ps_ret (pe_and (pe_cmpR op_le (pv 8) (pv 3) (nomark _)) (pe_one (pe_cmpR op_le (pv 3) (pv 9) (nomark _))))))))), ?_⟩
    rw [show L2.start nm_inside [V.ref a, V.int x, V.int y, V.int z] = [some (V.ref a), some (V.int x), some (V.int y), some (V.int z), none, none, none, none, none, none] from rfl]
    walk_at "ws"
    all_goals (unfold insideB at q; simpa [*] using q)
end
end Bal
namespace Bal
abbrev s_ground_at : Stmt := topS 8
abbrev nm_ground_at : List Str := ["hills", "x", "y", "found", "hill_x", "hill_y", "top"]
theorem sc_ground_at : FnScope nm_ground_at ["hills", "x", "y"] (defScope s_ground_at) := ⟨rfl, rfl, rfl, by decide +kernel, rfl, by decide +kernel, by decide +kernel⟩
-- slots: 0:hills 1:x 2:y 3:found 4:hill_x 5:hill_y 6:top
/-- ground_at(hills, x, y) -/
def sp_ground_at : Sp := fun vs H Q _ => ∃ (p : Addr) (hills : List Hill) (x y : Int), vs = [.ref p, .int x, .int y] ∧ ListOf Hill.v H p hills ∧ Q (.int (groundAt hills x y)) H
section
variable {P : Program} {w : World} {K : PySem.W.Frag} {mg : Str → Option Value} {base : Heap}
theorem cl_ground_at (D : Df K mg "ground_at" s_ground_at) (T : Txt K mg) : Cl P w K mg base 1 "ground_at" sp_ground_at := by
  refine Cl.of D sc_ground_at (fun _ _ _ _ _ _ us hl => match us, hl with | [_, _, _], _ => rfl) (fun vs H Q E h => ?_) (fun f cdv A outer s H vs Q E hr h => ?_)
  · obtain ⟨_, _, _, _, rfl, _⟩ := h
    rfl
  · obtain ⟨p, hills, x, y, rfl, hl, q⟩ := h
    have nd := sc_ground_at.nd
    obtain ⟨vs, hv, _⟩ := id hl
    refine ⟨_, (pss_cons (ps_set (i := 3) nd rfl (.inl rfl) pe_int)
      (pss_cons (ps_for PassesOwn.never rfl (pi_list (pv 0)) (pg_tup (by rfl) (pgs_cons (pg_name (i := 4) nd rfl (.inl rfl)) (pgs_cons (pg_name (i := 5) nd rfl (.inl rfl)) (pgs_cons (pg_name (i := 6) nd rfl (.inl rfl)) pgs_nil)))) (pss_one (ps_if (PW.pt (pw_and (pt_cmpR op_eq (pv 4) (pv 1) (nomark _)) (pw_and1 (pt_cmpR op_eq (pv 5) (pv 2) (nomark _))))) (pss_one (ps_set (i := 3) nd rfl (.inl rfl) (pe_callB (call_max2 rfl) (by rfl) T.b_max (by decide +kernel) (pa_cons (pv 3) (pa_cons (pv 6) pa_nil))))) pss_nil)))
      (pss_one (ps_ret (pv 3))))), ?_⟩
    rw [show L2.start nm_ground_at [V.ref p, V.int x, V.int y] = [some (V.ref p), some (V.int x), some (V.int y), none, none, none, none] from rfl]
    walk_at "w"
    refine w_forV rfl hv (forgo_T hl (fun r σ' H' => H' = H ∧ ∃ f a b c, σ' = [some (.ref p), some (.int x), some (.int y), some (.int f), a, b, c] ∧ r.foldl (groundStep x y) f = groundAt hills x y)
      ⟨rfl, 0, none, none, none, rfl, rfl⟩ (fun r σ' H' ⟨e, _⟩ => by rw [e]; exact Same.refl _) ?_ ?_)
    · rintro h r a σ' H' ⟨rfl, f, _, _, _, rfl, e⟩ ha
      simp only [Hill.v] at ha
      rw [List.foldl_cons] at e
      walk_at "ws"
      · refine ⟨_, _, rfl, ?_⟩
        walk_at "w"
        refine ⟨rfl, _, _, _, _, rfl, ?_⟩
        rw [← e]
        congr 1
        unfold groundStep
        simp [*]
      · refine ⟨rfl, _, _, _, _, rfl, ?_⟩
        rw [← e]
        congr 1
        unfold groundStep
        simp [*]
      · refine ⟨rfl, _, _, _, _, rfl, ?_⟩
        rw [← e]
        congr 1
        unfold groundStep
        simp [*]
    · rintro σ' H' ⟨rfl, f, _, _, _, rfl, e⟩
      walk_at "w"
      rw [List.foldl_nil] at e
      rw [e]
      exact q
end
end Bal
namespace Bal
abbrev s_wind_at : Stmt := topS 13
abbrev nm_wind_at : List Str := ["winds", "hour", "height", "found", "latest", "first", "level", "dx", "dy"]
theorem sc_wind_at : FnScope nm_wind_at ["winds", "hour", "height"] (defScope s_wind_at) := ⟨rfl, rfl, rfl, by decide +kernel, rfl, by decide +kernel, by decide +kernel⟩
-- slots: 0:winds 1:hour 2:height 3:found 4:latest 5:first 6:level 7:dx 8:dy
/-- wind_at(winds, hour, height) -/
def sp_wind_at : Sp := fun vs H Q _ => ∃ (p : Addr) (winds : List Wind) (hour z : Int), vs = [.ref p, .int hour, .int z] ∧ ListOf Wind.v H p winds ∧ ∀ H' r, Same H H' → H' r = some (.tup [.int (windAt winds hour z).1, .int (windAt winds hour z).2.1]) → Q (.ref r) H'
section
variable {P : Program} {w : World} {K : PySem.W.Frag} {mg : Str → Option Value} {base : Heap}
theorem cl_wind_at (D : Df K mg "wind_at" s_wind_at) (T : Txt K mg) : Cl P w K mg base 1 "wind_at" sp_wind_at := by
  refine Cl.of D sc_wind_at (fun _ _ _ _ _ _ us hl => match us, hl with | [_, _, _], _ => rfl) (fun vs H Q E h => ?_) (fun f cdv A outer s H vs Q E hr h => ?_)
  · obtain ⟨_, _, _, _, rfl, _⟩ := h
    rfl
  · obtain ⟨p, winds, hour, z, rfl, hl, q⟩ := h
    have nd := sc_wind_at.nd
    refine ⟨_, (pss_cons (ps_set (i := 3) nd rfl (.inl rfl) (pe_tup (pa_cons pe_int (pa_cons pe_int pa_nil))))
      (pss_cons (ps_set (i := 4) nd rfl (.inl rfl) (pe_un un_neg pe_int))
      (pss_cons (ps_for PassesOwn.never rfl (pi_list (pv 0)) (pg_tup (by rfl) (pgs_cons (pg_name (i := 5) nd rfl (.inl rfl)) (pgs_cons (pg_name (i := 6) nd rfl (.inl rfl)) (pgs_cons (pg_name (i := 7) nd rfl (.inl rfl)) (pgs_cons (pg_name (i := 8) nd rfl (.inl rfl)) pgs_nil))))) (pss_one (ps_if (PW.pt (pw_and (pt_cmpR op_eq (pv 6) (pv 2) (nomark _)) (pw_and (pt_cmpR op_le (pv 5) (pv 1) (nomark _)) (pw_and1 (pt_cmpR op_ge (pv 5) (pv 4) (nomark _)))))) (pss_cons (ps_set (i := 3) nd rfl (.inl rfl) (pe_tup (pa_cons (pv 7) (pa_cons (pv 8) pa_nil))))
      (pss_one (ps_set (i := 4) nd rfl (.inl rfl) (pv 5)))) pss_nil)))
      (pss_one (ps_ret (pv 3)))))), ?_⟩
    rw [show L2.start nm_wind_at [V.ref p, V.int hour, V.int z] = [some (V.ref p), some (V.int hour), some (V.int z), none, none, none, none, none, none] from rfl]
    walk_at "w"
    refine w_mkT (by simp) fun t0 H0 s0 n0 h0 => ?_
    walk_at "w"
    have hl0 := hl.up s0
    obtain ⟨vs, hv, _⟩ := id hl0
    refine w_forV rfl hv (forgo_T hl0 (fun r σ' H' => Same H0 H' ∧ ∃ tt a1 a2 a3 a4, ∃ acc : Int × Int × Int, σ' = [some (.ref p), some (.int hour), some (.int z), some (.ref tt), some (.int acc.2.2), a1, a2, a3, a4] ∧ H' tt = some (.tup [.int acc.1, .int acc.2.1]) ∧ r.foldl (windStep hour z) acc = windAt winds hour z)
      ⟨Same.refl _, t0, none, none, none, none, (0, 0, -1), rfl, h0, rfl⟩ (fun r σ' H' ⟨e, _⟩ => e) ?_ ?_)
    · rintro b r a σ' H' ⟨sm, tt, _, _, _, _, acc, rfl, htt, e⟩ ha
      simp only [Wind.v] at ha
      rw [List.foldl_cons] at e
      walk_at "ws"
      · refine w_mkT (by simp) fun t2 H2 s2 n2 h2 => ?_
        walk_at "w"
        have e1 : windStep hour z acc b = (b.dx, b.dy, b.first) := by
          unfold windStep
          simp [*]
        rw [e1] at e
        exact ⟨sm.trans s2, t2, _, _, _, _, (b.dx, b.dy, b.first), rfl, h2, e⟩
      all_goals
        have e1 : windStep hour z acc b = acc := by
          unfold windStep
          simp [*]
        rw [e1] at e
        exact ⟨sm, tt, _, _, _, _, acc, rfl, htt, e⟩
    · rintro σ' H' ⟨sm, tt, _, _, _, _, acc, rfl, htt, e⟩
      walk_at "w"
      rw [List.foldl_nil] at e
      rw [e] at htt
      exact q _ tt (s0.trans sm) htt
end
end Bal
namespace Bal
abbrev s_held_back : Stmt := topS 16
abbrev nm_held_back : List Str := ["state", "order"]
theorem sc_held_back : FnScope nm_held_back ["state", "order"] (defScope s_held_back) := ⟨rfl, rfl, rfl, by decide +kernel, rfl, by decide +kernel, by decide +kernel⟩
-- slots: 0:state 1:order
/-- held_back(state, order) -/
def sp_held_back : Sp := fun vs H Q _ => ∃ (b : Addr) (t : S5) (o : O3), vs = [.ref b, .str o.w] ∧ H b = some (.tup t.v) ∧ Q (.str (heldBack t o).w) H
section
variable {P : Program} {w : World} {K : PySem.W.Frag} {mg : Str → Option Value} {base : Heap}
theorem cl_held_back (D : Df K mg "held_back" s_held_back) (T : Txt K mg) : Cl P w K mg base 1 "held_back" sp_held_back := by
  refine Cl.of D sc_held_back (fun _ _ _ _ _ _ us hl => match us, hl with | [_, _], _ => rfl) (fun vs H Q E h => ?_) (fun f cdv A outer s H vs Q E hr h => ?_)
  · obtain ⟨_, _, _, rfl, _⟩ := h
    rfl
  · obtain ⟨b, t, o, rfl, ht, q⟩ := h
    have nd := sc_held_back.nd
    obtain ⟨_, mT⟩ := T.mTOP
    simp only [S5.v] at ht
    refine ⟨_, (pss_cons (ps_if (PW.pt (pw_and (pt_cmpR op_eq (pv 1) pe_str (nomark _)) (pw_and1 (pt_cmpR op_eq (pe_ix ix_tup (pv 0) pe_int (fun _ _ => rfl)) pe_int (nomark _))))) (pss_one (ps_ret pe_str)) pss_nil)
      (pss_cons (ps_if (PW.pt (pw_and (pt_cmpR op_eq (pv 1) pe_str (nomark _)) (pw_and1 (pt_cmpR op_eq (pe_ix ix_tup (pv 0) pe_int (fun _ _ => rfl)) pe_int (nomark _))))) (pss_one (ps_ret pe_str)) pss_nil)
      (pss_cons (ps_if (PW.pt (pw_and (pt_cmpR op_eq (pv 1) pe_str (nomark _)) (pw_and1 (pt_cmpR op_eq (pe_ix ix_tup (pv 0) pe_int (fun _ _ => rfl)) (pe_glob (v := .int 5) rfl mT ⟨_, rfl⟩) (nomark _))))) (pss_one (ps_ret pe_str)) pss_nil)
      (pss_cons (ps_if (PW.pt (pw_and (pt_cmpR op_eq (pv 1) pe_str (nomark _)) (pw_and1 (pt_cmpR op_eq (pe_ix ix_tup (pv 0) pe_int (fun _ _ => rfl)) pe_int (nomark _))))) (pss_one (ps_ret pe_str)) pss_nil)
      (pss_one (ps_ret pe_str)))))), ?_⟩
    rw [show L2.start nm_held_back [V.ref b, V.str o.w] = [some (V.ref b), some (V.str o.w)] from rfl]
    walk_at "w"
    simp only [ord_up]
    cases o with
    | up =>
      refine w_ite (fun _ => ?_) (fun z => (z (by first | trivial | rfl)).elim)
      unfold heldBack at q
      walk_at "w"
      refine w_ite (fun h1 => ?_) (fun h1 => ?_)
      · walk_at "w"
        rw [if_pos h1] at q
        exact q
      · rw [if_neg h1] at q
        walk_at "w"
        simp only [ord_down]
        refine w_ite (fun z => absurd z (by decide)) (fun _ => ?_)
        walk_at "w"
        simp only [ord_up]
        refine w_ite (fun _ => ?_) (fun z => (z (by first | trivial | rfl)).elim)
        walk_at "w"
        refine w_ite (fun h1 => ?_) (fun h1 => ?_)
        · walk_at "w"
          rw [if_pos h1] at q
          exact q
        · rw [if_neg h1] at q
          walk_at "w"
          simp only [ord_down]
          refine w_ite (fun z => absurd z (by decide)) (fun _ => ?_)
          walk_at "w"
          exact q
    | level =>
      refine w_ite (fun z => absurd z (by decide)) (fun _ => ?_)
      walk_at "w"
      simp only [ord_down]
      refine w_ite (fun z => absurd z (by decide)) (fun _ => ?_)
      walk_at "w"
      simp only [ord_up]
      refine w_ite (fun z => absurd z (by decide)) (fun _ => ?_)
      walk_at "w"
      simp only [ord_down]
      refine w_ite (fun z => absurd z (by decide)) (fun _ => ?_)
      walk_at "w"
      exact q
    | down =>
      refine w_ite (fun z => absurd z (by decide)) (fun _ => ?_)
      walk_at "w"
      simp only [ord_down]
      refine w_ite (fun _ => ?_) (fun z => (z (by first | trivial | rfl)).elim)
      unfold heldBack at q
      walk_at "w"
      refine w_ite (fun h1 => ?_) (fun h1 => ?_)
      · walk_at "w"
        rw [if_pos h1] at q
        exact q
      · rw [if_neg h1] at q
        walk_at "w"
        simp only [ord_up]
        refine w_ite (fun z => absurd z (by decide)) (fun _ => ?_)
        walk_at "w"
        simp only [ord_down]
        refine w_ite (fun _ => ?_) (fun z => (z (by first | trivial | rfl)).elim)
        walk_at "w"
        refine w_ite (fun h1 => ?_) (fun h1 => ?_)
        · walk_at "w"
          rw [if_pos h1] at q
          exact q
        · rw [if_neg h1] at q
          walk_at "w"
          exact q
end
end Bal
namespace Bal
abbrev s_shut_at : Stmt := topS 10
abbrev nm_shut_at : List Str := ["shuts", "hour", "x", "y", "height", "x1", "y1", "x2", "y2", "low", "high", "first", "last"]
theorem sc_shut_at : FnScope nm_shut_at ["shuts", "hour", "x", "y", "height"] (defScope s_shut_at) := ⟨rfl, rfl, rfl, by decide +kernel, rfl, by decide +kernel, by decide +kernel⟩
-- slots: 0:shuts 1:hour 2:x 3:y 4:height 5:x1 6:y1 7:x2 8:y2 9:low 10:high 11:first 12:last
/-- shut_at(shuts, hour, x, y, height) -/
def sp_shut_at : Sp := fun vs H Q _ => ∃ (p : Addr) (shuts : List Shut) (hour x y z : Int), vs = [.ref p, .int hour, .int x, .int y, .int z] ∧ ListOf Shut.v H p shuts ∧ ∀ H', Same H H' → Q (.bl (shutAt shuts hour x y z)) H'
section
variable {P : Program} {w : World} {K : PySem.W.Frag} {mg : Str → Option Value} {base : Heap}
theorem cl_shut_at (D : Df K mg "shut_at" s_shut_at) (T : Txt K mg) (C_inside : Cl P w K mg base 1 "inside" sp_inside) : Cl P w K mg base 2 "shut_at" sp_shut_at := by
  refine Cl.of D sc_shut_at (fun _ _ _ _ _ _ us hl => match us, hl with | [_, _, _, _, _], _ => rfl) (fun vs H Q E h => ?_) (fun f cdv A outer s H vs Q E hr h => ?_)
  · obtain ⟨_, _, _, _, _, _, rfl, _⟩ := h
    rfl
  · obtain ⟨p, shuts, hour, x, y, z, rfl, hl, q⟩ := h
    have nd := sc_shut_at.nd
    obtain ⟨vs, hv, _⟩ := id hl
    refine ⟨_, (pss_cons (ps_for PassesOwn.never rfl (pi_list (pv 0)) (pg_tup (by rfl) (pgs_cons (pg_name (i := 5) nd rfl (.inl rfl)) (pgs_cons (pg_name (i := 6) nd rfl (.inl rfl)) (pgs_cons (pg_name (i := 7) nd rfl (.inl rfl)) (pgs_cons (pg_name (i := 8) nd rfl (.inl rfl)) (pgs_cons (pg_name (i := 9) nd rfl (.inl rfl)) (pgs_cons (pg_name (i := 10) nd rfl (.inl rfl)) (pgs_cons (pg_name (i := 11) nd rfl (.inl rfl)) (pgs_cons (pg_name (i := 12) nd rfl (.inl rfl)) pgs_nil))))))))) (pss_one (ps_if (PW.pt (pw_and (pt_cmpR op_le (pv 11) (pv 1) (nomark _)) (pw_and (pt_cmpR op_le (pv 1) (pv 12) (nomark _)) (pw_and1 (pt_val (pe_cl C_inside hr (by decide) (by rfl) (pa_cons (pe_tup (pa_cons (pv 5) (pa_cons (pv 6) (pa_cons (pv 7) (pa_cons (pv 8) (pa_cons (pv 9) (pa_cons (pv 10) pa_nil))))))) (pa_cons (pv 2) (pa_cons (pv 3) (pa_cons (pv 4) pa_nil)))))))))) (pss_one (ps_ret pe_bl)) pss_nil)))
      (pss_one (ps_ret pe_bl))), ?_⟩
    rw [show L2.start nm_shut_at [V.ref p, V.int hour, V.int x, V.int y, V.int z] = [some (V.ref p), some (V.int hour), some (V.int x), some (V.int y), some (V.int z), none, none, none, none, none, none, none, none] from rfl]
    walk_at "w"
    refine w_forV rfl hv (forgo_T hl (fun r σ' H' => Same H H' ∧ ∃ a1 a2 a3 a4 a5 a6 a7 a8, σ' = [some (.ref p), some (.int hour), some (.int x), some (.int y), some (.int z), a1, a2, a3, a4, a5, a6, a7, a8] ∧ r.any (shutOne hour x y z) = shutAt shuts hour x y z)
      ⟨Same.refl _, none, none, none, none, none, none, none, none, rfl, rfl⟩ (fun r σ' H' ⟨e, _⟩ => e) ?_ ?_)
    · rintro b r a σ' H' ⟨sm, _, _, _, _, _, _, _, _, rfl, e⟩ ha
      simp only [Shut.v] at ha
      rw [List.any_cons] at e
      walk_at "ws"
      · refine w_mkT (by simp) fun t H2 s2 n2 h2 => ?_
        walk_at "w"
        refine ⟨t, _, _, _, _, _, _, _, _, _, rfl, h2, ?_⟩
        walk_at "w"
        refine w_iteB (fun hI => ?_) (fun hI => ?_)
        · walk_at "w"
          have e1 : shutOne hour x y z b = true := by
            unfold shutOne
            simp [*]
          rw [e1, Bool.true_or] at e
          rw [e]
          exact q _ (sm.trans s2)
        · walk_at "w"
          have e1 : shutOne hour x y z b = false := by
            unfold shutOne
            simp [*]
          rw [e1, Bool.false_or] at e
          exact ⟨sm.trans s2, _, _, _, _, _, _, _, _, rfl, e⟩
      · have e1 : shutOne hour x y z b = false := by
          unfold shutOne
          simp [*]
        rw [e1, Bool.false_or] at e
        exact ⟨sm, _, _, _, _, _, _, _, _, rfl, e⟩
      · have e1 : shutOne hour x y z b = false := by
          unfold shutOne
          simp [*]
        rw [e1, Bool.false_or] at e
        exact ⟨sm, _, _, _, _, _, _, _, _, rfl, e⟩
    · rintro σ' H' ⟨sm, _, _, _, _, _, _, _, _, rfl, e⟩
      walk_at "w"
      rw [← e] at q
      exact q _ sm
end
end Bal
namespace Bal
abbrev s_led_to : Stmt := topS 17
abbrev nm_led_to : List Str := ["sky", "hour", "state", "order", "hills", "cool", "winds", "shuts", "x", "y", "height", "sacks", "puffs", "dx", "dy"]
theorem sc_led_to : FnScope nm_led_to ["sky", "hour", "state", "order"] (defScope s_led_to) := ⟨rfl, rfl, rfl, by decide +kernel, rfl, by decide +kernel, by decide +kernel⟩
-- slots: 0:sky 1:hour 2:state 3:order 4:hills 5:cool 6:winds 7:shuts 8:x 9:y 10:height 11:sacks 12:puffs 13:dx 14:dy
/-- led_to(sky, hour, state, order) -/
def sp_led_to : Sp := fun vs H Q _ => ∃ (a b : Addr) (sky : Sky) (hour : Int) (t : S5) (o : O3), vs = [.ref a, .int hour, .ref b, .str o.w] ∧ SkyAt H a sky ∧ H b = some (.tup t.v) ∧ ∀ H' r, Same H H' → H r = none → H' r = some (.tup (ledTo sky hour t o).v) → Q (.ref r) H'
theorem inV_int (n : Int) (l : List Int) : inV (.int n) (l.map V.int) = l.any fun c => decide (c = n) := by
  unfold inV
  rw [List.any_map]
  congr 1
theorem all_flat (l : List Int) : (l.map V.int).all flatV = true := by
  rw [List.all_map]
  exact List.all_eq_true.mpr fun _ _ => rfl
theorem w_inL {K : PySem.W.Frag} {H : Hp} {Q : VK} {p : Addr} {n : Int} {l : List Int} (hp : H p = some (.lst (l.map V.int))) (h : Q (.bl (l.any fun c => decide (c = n))) H) : rIn K false (.int n) (.ref p) H Q :=
  ⟨p, _, rfl, .inl (.inl (.inl hp)), rfl, all_flat l, by
    show Q (.bl (inV (.int n) (l.map V.int))) H
    rw [inV_int]; exact h⟩
section
variable {P : Program} {w : World} {K : PySem.W.Frag} {mg : Str → Option Value} {base : Heap}
theorem cl_led_to (D : Df K mg "led_to" s_led_to) (T : Txt K mg) (C_wind_at : Cl P w K mg base 1 "wind_at" sp_wind_at) : Cl P w K mg base 2 "led_to" sp_led_to := by
  refine Cl.of D sc_led_to (fun _ _ _ _ _ _ us hl => match us, hl with | [_, _, _, _], _ => rfl) (fun vs H Q E h => ?_) (fun f cdv A outer s H vs Q E hr h => ?_)
  · obtain ⟨_, _, _, _, _, _, rfl, _⟩ := h
    rfl
  · obtain ⟨a, b, sky, hour, t, o, rfl, hs, ht, q⟩ := h
    have nd := sc_led_to.nd
    obtain ⟨hh, hc, hw, hsh, ha, h1, h2, h3, h4⟩ := hs.ex
    simp only [S5.v] at ht
    refine ⟨_, (pss_cons (ps_asg (pv 0) (pg_tup (by rfl) (pgs_cons (pg_name (i := 4) nd rfl (.inl rfl)) (pgs_cons (pg_name (i := 5) nd rfl (.inl rfl)) (pgs_cons (pg_name (i := 6) nd rfl (.inl rfl)) (pgs_cons (pg_name (i := 7) nd rfl (.inl rfl)) pgs_nil))))))
      (pss_cons (ps_asg (pv 2) (pg_tup (by rfl) (pgs_cons (pg_name (i := 8) nd rfl (.inl rfl)) (pgs_cons (pg_name (i := 9) nd rfl (.inl rfl)) (pgs_cons (pg_name (i := 10) nd rfl (.inl rfl)) (pgs_cons (pg_name (i := 11) nd rfl (.inl rfl)) (pgs_cons (pg_name (i := 12) nd rfl (.inl rfl)) pgs_nil)))))))
      (pss_cons (ps_if (pt_cmpR op_eq (pv 3) pe_str (nomark _)) (pss_cons (ps_set (i := 10) nd rfl (.inl rfl) (pe_op op_add (pv 10) pe_int))
      (pss_one (ps_set (i := 11) nd rfl (.inl rfl) (pe_op op_sub (pv 11) pe_int)))) pss_nil)
      (pss_cons (ps_if (pt_cmpR op_eq (pv 3) pe_str (nomark _)) (pss_cons (ps_set (i := 10) nd rfl (.inl rfl) (pe_op op_sub (pv 10) pe_int))
      (pss_one (ps_set (i := 12) nd rfl (.inl rfl) (pe_op op_sub (pv 12) pe_int)))) pss_nil)
      (pss_cons (ps_if (pt_cmpR op_in_seq (pv 1) (pv 5) (by rfl)) (pss_one (ps_set (i := 10) nd rfl (.inl rfl) (pe_callB (call_max2 rfl) (by rfl) T.b_max (by decide +kernel) (pa_cons pe_int (pa_cons (pe_op op_sub (pv 10) pe_int) pa_nil))))) pss_nil)
      (pss_cons (ps_asg (pe_cl C_wind_at hr (by decide) (by rfl) (pa_cons (pv 6) (pa_cons (pv 1) (pa_cons (pv 10) pa_nil)))) (pg_tup (by rfl) (pgs_cons (pg_name (i := 13) nd rfl (.inl rfl)) (pgs_cons (pg_name (i := 14) nd rfl (.inl rfl)) pgs_nil))))
      (pss_one (ps_ret (pe_tup (pa_cons (pe_op op_add (pv 8) (pv 13)) (pa_cons (pe_op op_add (pv 9) (pv 14)) (pa_cons (pv 10) (pa_cons (pv 11) (pa_cons (pv 12) pa_nil)))))))))))))), ?_⟩
    rw [show L2.start nm_led_to [V.ref a, V.int hour, V.ref b, V.str o.w] = [some (V.ref a), some (V.int hour), some (V.ref b), some (V.str o.w), none, none, none, none, none, none, none, none, none, none, none] from rfl]
    cases o
    all_goals
      walk_at "w"
      simp only [ord_up]
      walk_at "known"
      walk_at "w"
      simp only [ord_down]
      walk_at "known"
      walk_at "w"
      refine w_inL h2 ?_
      walk_at "w"
      refine w_iteB (fun hJ => ?_) (fun hJ => ?_)
      · walk_at "w"
        refine ⟨_, _, rfl, ?_⟩
        walk_at "w"
        refine ⟨hw, sky.winds, _, _, rfl, h3, fun H2 r s2 hr2 => ?_⟩
        walk_at "w"
        refine w_mkT (by simp) fun t2 H3 s3 n3 h3' => ?_
        refine q _ t2 (s2.trans s3) ?_ ?_
        · exact s2.free n3
        · rw [h3']
          unfold ledTo coolDown
          rw [if_pos hJ]
          rfl
      · walk_at "w"
        refine ⟨hw, sky.winds, _, _, rfl, h3, fun H2 r s2 hr2 => ?_⟩
        walk_at "w"
        refine w_mkT (by simp) fun t2 H3 s3 n3 h3' => ?_
        refine q _ t2 (s2.trans s3) ?_ ?_
        · exact s2.free n3
        · rw [h3']
          unfold ledTo coolDown
          rw [if_neg (by rw [hJ]; exact Bool.false_ne_true)]
          rfl
end
end Bal
namespace Bal
abbrev s_standing : Stmt := topS 11
abbrev nm_standing : List Str := ["sky", "hour", "state", "hills", "cool", "winds", "shuts"]
theorem sc_standing : FnScope nm_standing ["sky", "hour", "state"] (defScope s_standing) := ⟨rfl, rfl, rfl, by decide +kernel, rfl, by decide +kernel, by decide +kernel⟩
-- slots: 0:sky 1:hour 2:state 3:hills 4:cool 5:winds 6:shuts
/-- standing(sky, hour, state) -/
def sp_standing : Sp := fun vs H Q _ => ∃ (a b : Addr) (sky : Sky) (hour : Int) (t : S5), vs = [.ref a, .int hour, .ref b] ∧ SkyAt H a sky ∧ H b = some (.tup t.v) ∧ ∀ H', Same H H' → Q (.str (standing sky hour t).w) H'
section
variable {P : Program} {w : World} {K : PySem.W.Frag} {mg : Str → Option Value} {base : Heap}
theorem cl_standing (D : Df K mg "standing" s_standing) (T : Txt K mg) (C_ground_at : Cl P w K mg base 1 "ground_at" sp_ground_at) (C_shut_at : Cl P w K mg base 2 "shut_at" sp_shut_at) : Cl P w K mg base 3 "standing" sp_standing := by
  refine Cl.of D sc_standing (fun _ _ _ _ _ _ us hl => match us, hl with | [_, _, _], _ => rfl) (fun vs H Q E h => ?_) (fun f cdv A outer s H vs Q E hr h => ?_)
  · obtain ⟨_, _, _, _, _, rfl, _⟩ := h
    rfl
  · obtain ⟨a, b, sky, hour, t, rfl, hs, ht, q⟩ := h
    have nd := sc_standing.nd
    obtain ⟨hh, hc, hw, hsh, ha, h1, h2, h3, h4⟩ := hs.ex
    simp only [S5.v] at ht
    refine ⟨_, (pss_cons (ps_asg (pv 0) (pg_tup (by rfl) (pgs_cons (pg_name (i := 3) nd rfl (.inl rfl)) (pgs_cons (pg_name (i := 4) nd rfl (.inl rfl)) (pgs_cons (pg_name (i := 5) nd rfl (.inl rfl)) (pgs_cons (pg_name (i := 6) nd rfl (.inl rfl)) pgs_nil))))))
      (pss_cons (ps_if (pt_cmpR op_lt (pe_ix ix_tup (pv 2) pe_int (fun _ _ => rfl)) (pe_cl C_ground_at hr (by decide) (by rfl) (pa_cons (pv 3) (pa_cons (pe_ix ix_tup (pv 2) pe_int (fun _ _ => rfl)) (pa_cons (pe_ix ix_tup (pv 2) pe_int (fun _ _ => rfl)) pa_nil)))) (nomark _)) (pss_one (ps_ret pe_str)) pss_nil)
      (pss_cons (ps_if (pt_val (pe_cl C_shut_at hr (by decide) (by rfl) (pa_cons (pv 6) (pa_cons (pv 1) (pa_cons (pe_ix ix_tup (pv 2) pe_int (fun _ _ => rfl)) (pa_cons (pe_ix ix_tup (pv 2) pe_int (fun _ _ => rfl)) (pa_cons (pe_ix ix_tup (pv 2) pe_int (fun _ _ => rfl)) pa_nil))))))) (pss_one (ps_ret pe_str)) pss_nil)
      (pss_one (ps_ret pe_str))))), ?_⟩
    rw [show L2.start nm_standing [V.ref a, V.int hour, V.ref b] = [some (V.ref a), some (V.int hour), some (V.ref b), none, none, none, none] from rfl]
    walk_at "w"
    refine ⟨hh, sky.hills, _, _, rfl, h1, ?_⟩
    walk_at "ws"
    · have e : standing sky hour t = .hill := if_pos (by assumption)
      rw [e] at q
      exact q _ (Same.refl _)
    · refine ⟨hsh, sky.shuts, _, _, _, _, rfl, h4, fun H2 s2 => ?_⟩
      walk_at "w"
      refine w_iteB (fun hJ => ?_) (fun hJ => ?_)
      · walk_at "w"
        have e : standing sky hour t = .shut := by
          unfold standing
          rw [if_neg (by assumption), if_pos hJ]
        rw [e] at q
        exact q _ s2
      · walk_at "w"
        have e : standing sky hour t = .ok := by
          unfold standing
          rw [if_neg (by assumption), if_neg (by rw [hJ]; exact Bool.false_ne_true)]
        rw [e] at q
        exact q _ s2
end
end Bal
namespace Bal
abbrev s_why_not : Stmt := topS 18
abbrev nm_why_not : List Str := ["sky", "hour", "state", "order", "found"]
theorem sc_why_not : FnScope nm_why_not ["sky", "hour", "state", "order"] (defScope s_why_not) := ⟨rfl, rfl, rfl, by decide +kernel, rfl, by decide +kernel, by decide +kernel⟩
-- slots: 0:sky 1:hour 2:state 3:order 4:found
abbrev s_next_state : Stmt := topS 19
abbrev nm_next_state : List Str := ["sky", "hour", "state", "order", "why"]
theorem sc_next_state : FnScope nm_next_state ["sky", "hour", "state", "order"] (defScope s_next_state) := ⟨rfl, rfl, rfl, by decide +kernel, rfl, by decide +kernel, by decide +kernel⟩
-- slots: 0:sky 1:hour 2:state 3:order 4:why
abbrev s_choices : Stmt := topS 20
abbrev nm_choices : List Str := ["sky", "hour", "state", "order"]
theorem sc_choices : FnScope nm_choices ["sky", "hour", "state"] (defScope s_choices) := ⟨rfl, rfl, rfl, by decide +kernel, rfl, by decide +kernel, by decide +kernel⟩
-- slots: 0:sky 1:hour 2:state 3:order
/-- why_not(sky, hour, state, order) -/
def sp_why_not : Sp := fun vs H Q _ => ∃ (a b : Addr) (sky : Sky) (hour : Int) (t : S5) (o : O3), vs = [.ref a, .int hour, .ref b, .str o.w] ∧ SkyAt H a sky ∧ H b = some (.tup t.v) ∧ ∀ H', Same H H' → Q (.str (whyNot sky hour t o).w) H'
/-- next_state(sky, hour, state, order), of an order that can be flown -/
def sp_next_state : Sp := fun vs H Q _ => ∃ (a b : Addr) (sky : Sky) (hour : Int) (t : S5) (o : O3), vs = [.ref a, .int hour, .ref b, .str o.w] ∧ SkyAt H a sky ∧ H b = some (.tup t.v) ∧ whyNot sky hour t o = .ok ∧
  ∀ H' r, Same H H' → H r = none → H' r = some (.tup (ledTo sky hour t o).v) → Q (.ref r) H'
def ordsV (l : List O3) : List V := l.map fun o => .str o.w
/-- choices(sky, hour, state) -/
def sp_choices : Sp := fun vs H Q _ => ∃ (a b : Addr) (sky : Sky) (hour : Int) (t : S5), vs = [.ref a, .int hour, .ref b] ∧ SkyAt H a sky ∧ H b = some (.tup t.v) ∧ ∀ H' r, Same H H' → H r = none → H' r = some (.lst (ordsV (choices sky hour t))) → Q (.ref r) H'
section
variable {P : Program} {w : World} {K : PySem.W.Frag} {mg : Str → Option Value} {base : Heap}
theorem cl_why_not (D : Df K mg "why_not" s_why_not) (T : Txt K mg) (C_held_back : Cl P w K mg base 1 "held_back" sp_held_back) (C_standing : Cl P w K mg base 3 "standing" sp_standing) (C_led_to : Cl P w K mg base 2 "led_to" sp_led_to) : Cl P w K mg base 4 "why_not" sp_why_not := by
  refine Cl.of D sc_why_not (fun _ _ _ _ _ _ us hl => match us, hl with | [_, _, _, _], _ => rfl) (fun vs H Q E h => ?_) (fun f cdv A outer s H vs Q E hr h => ?_)
  · obtain ⟨_, _, _, _, _, _, rfl, _⟩ := h
    rfl
  · obtain ⟨a, b, sky, hour, t, o, rfl, hs, ht, q⟩ := h
    have nd := sc_why_not.nd
    refine ⟨_, (pss_cons (ps_set (i := 4) nd rfl (.inl rfl) (pe_cl C_held_back hr (by decide) (by rfl) (pa_cons (pv 2) (pa_cons (pv 3) pa_nil))))
      (pss_cons (ps_if (pt_cmpR op_ne (pv 4) pe_str (nomark _)) (pss_one (ps_ret (pv 4))) pss_nil)
      (pss_one (ps_ret (pe_cl C_standing hr (by decide) (by rfl) (pa_cons (pv 0) (pa_cons (pe_op op_add (pv 1) pe_int) (pa_cons (pe_cl C_led_to hr (by decide) (by rfl) (pa_cons (pv 0) (pa_cons (pv 1) (pa_cons (pv 2) (pa_cons (pv 3) pa_nil))))) pa_nil)))))))), ?_⟩
    rw [show L2.start nm_why_not [V.ref a, V.int hour, V.ref b, V.str o.w] = [some (V.ref a), some (V.int hour), some (V.ref b), some (V.str o.w), none] from rfl]
    walk_at "w"
    refine ⟨b, t, o, rfl, ht, ?_⟩
    walk_at "w"
    rw [why_ok]
    unfold whyNot at q
    by_cases e : heldBack t o = .ok
    · rw [if_neg (by rw [e]; decide)] at q
      rw [decide_eq_true e]
      walk_at "w"
      refine ⟨a, b, sky, hour, t, o, rfl, hs, ht, fun H2 r s2 n2 h2 => ?_⟩
      walk_at "w"
      exact ⟨a, r, sky, _, _, rfl, hs.up s2, h2, fun H3 s3 => q _ (s2.trans s3)⟩
    · rw [if_pos e] at q
      rw [decide_eq_false e]
      walk_at "w"
      exact q _ (Same.refl _)
theorem cl_next_state (D : Df K mg "next_state" s_next_state) (T : Txt K mg) (C_why_not : Cl P w K mg base 4 "why_not" sp_why_not) (C_led_to : Cl P w K mg base 2 "led_to" sp_led_to) : Cl P w K mg base 5 "next_state" sp_next_state := by
  refine Cl.of D sc_next_state (fun _ _ _ _ _ _ us hl => match us, hl with | [_, _, _, _], _ => rfl) (fun vs H Q E h => ?_) (fun f cdv A outer s H vs Q E hr h => ?_)
  · obtain ⟨_, _, _, _, _, _, rfl, _⟩ := h
    rfl
  · obtain ⟨a, b, sky, hour, t, o, rfl, hs, ht, hw, q⟩ := h
    have nd := sc_next_state.nd
    refine ⟨_, (pss_cons (ps_set (i := 4) nd rfl (.inl rfl) (pe_cl C_why_not hr (by decide) (by rfl) (pa_cons (pv 0) (pa_cons (pv 1) (pa_cons (pv 2) (pa_cons (pv 3) pa_nil))))))
      (pss_cons (ps_if (pt_cmpR op_ne (pv 4) pe_str (nomark _)) (pss_one ps_never) pss_nil)
      (pss_one (ps_ret (pe_cl C_led_to hr (by decide) (by rfl) (pa_cons (pv 0) (pa_cons (pv 1) (pa_cons (pv 2) (pa_cons (pv 3) pa_nil))))))))), ?_⟩
    rw [show L2.start nm_next_state [V.ref a, V.int hour, V.ref b, V.str o.w] = [some (V.ref a), some (V.int hour), some (V.ref b), some (V.str o.w), none] from rfl]
    walk_at "w"
    refine ⟨a, b, sky, hour, t, o, rfl, hs, ht, fun H2 s2 => ?_⟩
    walk_at "w"
    rw [why_ok, decide_eq_true hw]
    walk_at "w"
    exact ⟨a, b, sky, hour, t, o, rfl, hs.up s2, s2 _ _ ht, fun H3 r s3 n3 h3 => q _ r (s2.trans s3) (s2.free n3) h3⟩
theorem cl_choices (D : Df K mg "choices" s_choices) (T : Txt K mg) (C_why_not : Cl P w K mg base 4 "why_not" sp_why_not) : Cl P w K mg base 5 "choices" sp_choices := by
  refine Cl.of D sc_choices (fun _ _ _ _ _ _ us hl => match us, hl with | [_, _, _], _ => rfl) (fun vs H Q E h => ?_) (fun f cdv A outer s H vs Q E hr h => ?_)
  · obtain ⟨_, _, _, _, _, rfl, _⟩ := h
    rfl
  · obtain ⟨a, b, sky, hour, t, rfl, hs, ht, q⟩ := h
    have nd := sc_choices.nd
    obtain ⟨oa, mO, hO⟩ := T.mORD
    refine ⟨_, (pss_one (ps_ret (pe_lc (own := [("order", 3)]) (g := gName 3) (by rfl) nd (pi_tup (pe_glob (v := .ref oa) rfl mO rfl)) (blkOk_by (N := nm_choices) (sc := defScope s_choices) (by decide +kernel)) (fun _ _ _ _ _ => (pg_name (i := 3) nd rfl (.inl rfl))) (fun _ _ _ _ _ => (pts_one (pt_cmpR op_eq (pe_cl C_why_not hr (by decide) (by rfl) (pa_cons (pv 0) (pa_cons (pv 1) (pa_cons (pv 2) (pa_cons (pv 3) pa_nil))))) pe_str (nomark _)))) (fun _ _ _ _ _ => (pv 3))))), ?_⟩
    rw [show L2.start nm_choices [V.ref a, V.int hour, V.ref b] = [some (V.ref a), some (V.int hour), some (V.ref b), none] from rfl]
    walk_at "w"
    refine w_lcT ?_
    walk_at "w"
    refine ⟨oa, rfl, ⟨_, hO H⟩, lc_goT (hO H) (fun r acc _ => ∃ ors : List O3, r = ordsV ors ∧ acc ++ ordsV (ors.filter fun o => decide (whyNot sky hour t o = .ok)) = ordsV (choices sky hour t)) ⟨[.up, .level, .down], rfl, rfl⟩ ?_ ?_⟩
    · rintro D' i x acc H' hi nD hD hl hS hS' ⟨ors, e1, e2⟩
      cases ors with
      | nil => cases e1
      | cons o ors =>
        rw [ordsV, List.map_cons, List.cons.injEq] at e1
        obtain ⟨rfl, e1⟩ := e1
        refine w_turn ?_
        walk_at "w"
        refine ⟨rfl, ?_⟩
        walk_at "w"
        refine ⟨a, b, sky, hour, t, o, rfl, hs.up hS', hS' _ _ ht, fun H2 s2 => ?_⟩
        walk_at "w"
        rw [why_ok]
        have hi3 : i < 3 := (List.getElem?_eq_some_iff.mp hi).1
        by_cases e : whyNot sky hour t o = .ok
        · rw [decide_eq_true e]
          walk_at "w"
          refine lc_put hD s2 hl (by omega) hS ⟨ors, e1, ?_⟩
          rw [← e2]
          simp [ordsV, List.filter_cons, e]
        · rw [decide_eq_false e]
          walk_at "w"
          refine lc_skip hD s2 hl hS ⟨ors, e1, ?_⟩
          rw [← e2]
          simp [ordsV, List.filter_cons, e]
    · rintro D' H' acc nD hS hD hl ⟨ors, e1, e2⟩
      cases ors with
      | nil =>
        rw [List.filter_nil] at e2
        simp only [ordsV, List.map_nil, List.append_nil] at e2
        rw [e2] at hD
        exact q _ D' hS nD hD
      | cons o ors => cases e1
end
end Bal
namespace Bal
abbrev s_behind : Stmt := topS 22
abbrev nm_behind : List Str := ["sky", "hour", "some", "found", "state", "order"]
theorem sc_behind : FnScope nm_behind ["sky", "hour", "some"] (defScope s_behind) := ⟨rfl, rfl, rfl, by decide +kernel, rfl, by decide +kernel, by decide +kernel⟩
-- slots: 0:sky 1:hour 2:some 3:found 4:state 5:order
/-- behind(sky, hour, some) -/
def sp_behind : Sp := fun vs H Q _ => ∃ (a p : Addr) (sky : Sky) (hour : Int) (L : List S5), vs = [.ref a, .int hour, .ref p] ∧ SkyAt H a sky ∧ ListOf S5.v H p L ∧ L.length ≤ 100000 ∧
  ∀ H' r M, Same H H' → H r = none → ListOf S5.v H' r M → Srt M → (∀ t, t ∈ M ↔ ∃ u, u ∈ L ∧ t ∈ nexts sky hour u) → M.length ≤ 3 * L.length → Q (.ref r) H'
open Classical in
theorem dict_put {M : List S5} (t : S5) (nd : M.Nodup) : ∃ M', putK (dictL M) (keyL t) (.bl true) = dictL M' ∧ M'.Nodup ∧ (∀ u, u ∈ M' ↔ u ∈ M ∨ u = t) ∧ M'.length ≤ M.length + 1 := by
  unfold putK
  have hany : ((dictL M).any fun kv => decide (kv.1 = keyL t)) = true ↔ t ∈ M := by
    rw [List.any_eq_true]
    constructor
    · rintro ⟨x, hx, e⟩
      obtain ⟨u, hu, rfl⟩ := List.mem_map.mp hx
      rw [← keyL_inj (of_decide_eq_true e)]; exact hu
    · intro h
      exact ⟨(keyL t, .bl true), List.mem_map.mpr ⟨t, h, rfl⟩, decide_eq_true rfl⟩
  by_cases hm : t ∈ M
  · rw [if_pos (hany.mpr hm)]
    refine ⟨M, ?_, nd, fun u => ⟨.inl, fun z => ?_⟩, Nat.le_succ _⟩
    · unfold dictL
      rw [List.map_map]
      refine List.map_congr_left fun u _ => ?_
      show (if keyL u = keyL t then (keyL u, V.bl true) else (keyL u, V.bl true)) = _
      split <;> rfl
    · rcases z with z | z
      · exact z
      · rw [z]; exact hm
  · rw [if_neg fun z => hm (hany.mp z)]
    refine ⟨M ++ [t], ?_, ?_, fun u => ?_, by rw [List.length_append]; exact Nat.le_refl _⟩
    · unfold dictL
      rw [List.map_append]; rfl
    · rw [List.nodup_append]
      refine ⟨nd, by simp, fun x hx y hy e => ?_⟩
      rw [List.mem_singleton] at hy
      rw [hy] at e
      rw [e] at hx
      exact hm hx
    · rw [List.mem_append, List.mem_singleton]
theorem keys_list {H : Hp} : ∀ {M : List S5} {bs : List Addr}, IsKeys H (dictL M) bs → Paired (TupOf S5.v H) (bs.map V.ref) M
  | [], [], _ => .nil
  | [], _ :: _, h => by cases h
  | _ :: _, [], h => by cases h
  | t :: M, b :: bs, h => by
    cases h with
    | cons h1 r => exact .cons ⟨b, rfl, h1⟩ (keys_list r)
theorem choices_len (sky : Sky) (hour : Int) (t : S5) : (choices sky hour t).length ≤ 3 := by
  unfold choices
  exact Nat.le_trans (List.length_filter_le _ _) (by decide)
section
variable {P : Program} {w : World} {K : PySem.W.Frag} {mg : Str → Option Value} {base : Heap}
theorem cl_behind (D : Df K mg "behind" s_behind) (T : Txt K mg) (C_choices : Cl P w K mg base 5 "choices" sp_choices) (C_next_state : Cl P w K mg base 5 "next_state" sp_next_state) : Cl P w K mg base 6 "behind" sp_behind := by
  refine Cl.of D sc_behind (fun _ _ _ _ _ _ us hl => match us, hl with | [_, _, _], _ => rfl) (fun vs H Q E h => ?_) (fun f cdv A outer s H vs Q E hr h => ?_)
  · obtain ⟨_, _, _, _, _, rfl, _⟩ := h
    rfl
  · obtain ⟨a, p, sky, hour, L, rfl, hs, hL, hlen, q⟩ := h
    have nd := sc_behind.nd
    have hu := hu_of hr
    obtain ⟨vs, hv, _⟩ := id hL
    refine ⟨_, (pss_cons (ps_set (i := 3) nd rfl (.inl rfl) pe_dnewT)
      (pss_cons (ps_for PassesOwn.never rfl (pi_list (pv 2)) (pg_name (i := 4) nd rfl (.inl rfl)) (pss_one (ps_for PassesOwn.never rfl (pi_list (pe_cl C_choices hr (by decide) (by rfl) (pa_cons (pv 0) (pa_cons (pv 1) (pa_cons (pv 4) pa_nil))))) (pg_name (i := 5) nd rfl (.inl rfl)) (pss_one (ps_dput hu (pv 3) (pe_cl C_next_state hr (by decide) (by rfl) (pa_cons (pv 0) (pa_cons (pv 1) (pa_cons (pv 4) (pa_cons (pv 5) pa_nil))))) pe_bl rfl)))))
      (pss_one (ps_ret (pe_callB cr_sorted5 (by rfl) T.b_sorted (by decide +kernel) (pa_cons (pe_callTy (call_list_dT rfl) (by rfl) T.b_list (by decide +kernel) (pa_cons (pv 3) pa_nil)) pa_nil)))))), ?_⟩
    rw [show L2.start nm_behind [V.ref a, V.int hour, V.ref p] = [some (V.ref a), some (V.int hour), some (V.ref p), none, none, none] from rfl]
    walk_at "w"
    refine w_dnewT fun d H1 s1 n1 h1 => ?_
    walk_at "w"
    refine w_forV rfl (s1 _ _ hv) (forgo_T hL (fun r σ' H' => Same H H' ∧ ∃ (M done : List S5) (y4 y5 : Option V), σ' = [some (.ref a), some (.int hour), some (.ref p), some (.ref d), y4, y5] ∧ H' d = some (.dT (dictL M)) ∧ M.Nodup ∧
        L = done ++ r ∧ (∀ t, t ∈ M ↔ ∃ u, u ∈ done ∧ t ∈ nexts sky hour u) ∧ M.length ≤ 3 * done.length)
      ⟨s1, [], [], none, none, rfl, h1, List.nodup_nil, rfl, by simp, by simp⟩ (fun r σ' H' z => z.1) ?_ ?_)
    · rintro u r b σ' H' ⟨sm, M, done, _, _, rfl, hd, ndM, eL, hm, hln⟩ hb
      walk_at "w"
      refine w_forD ?_
      walk_at "w"
      refine ⟨a, b, sky, hour, u, rfl, hs.up sm, hb, fun H2 c s2 n2 h2 => ?_⟩
      have hdl : done.length + (r.length + 1) = L.length := by rw [eL]; simp
      have hcl := choices_len sky hour u
      refine ⟨c, rfl, ⟨_, .inl (.inl h2)⟩, forgo_V (vs := ordsV (choices sky hour u)) (fun ro σ2 H3 => Same H H3 ∧ H3 b = some (.tup u.v) ∧ H3 c = some (.lst (ordsV (choices sky hour u))) ∧ ∃ (M : List S5) (odone ors : List O3) (y5 : Option V),
          σ2 = [some (.ref a), some (.int hour), some (.ref p), some (.ref d), some (.ref b), y5] ∧ H3 d = some (.dT (dictL M)) ∧ M.Nodup ∧ ro = ordsV ors ∧ choices sky hour u = odone ++ ors ∧
          (∀ t, t ∈ M ↔ (∃ u, u ∈ done ∧ t ∈ nexts sky hour u) ∨ ∃ o, o ∈ odone ∧ t = ledTo sky hour u o) ∧ M.length ≤ 3 * done.length + odone.length)
        ⟨sm.trans s2, s2 _ _ hb, h2, M, [], choices sky hour u, _, rfl, s2 _ _ hd, ndM, rfl, rfl, fun t => by rw [hm]; simp, by simpa using hln⟩ (fun ro σ2 H3 z => .inl (.inl z.2.2.1)) ?_ ?_⟩
      · rintro x ro σ2 H3 ⟨sm3, hb3, hc3, M3, odone, ors, _, rfl, hd3, nd3, e1, e2, hm3, hl3⟩
        cases ors with
        | nil => cases e1
        | cons o ors =>
          rw [ordsV, List.map_cons, List.cons.injEq] at e1
          obtain ⟨rfl, e1⟩ := e1
          have how : whyNot sky hour u o = .ok := by
            have hmem : o ∈ choices sky hour u := by rw [e2]; simp
            unfold choices at hmem
            exact of_decide_eq_true (List.mem_filter.mp hmem).2
          walk_at "w"
          refine ⟨a, b, sky, hour, u, o, rfl, hs.up sm3, hb3, how, fun H4 k s4 n4 h4 => ?_⟩
          have hd4 := s4 _ _ hd3
          have hsz : (dictL M3).length < sizeLine := by
            unfold dictL
            rw [List.length_map, sizeLine_eq]
            have hol : odone.length + (ors.length + 1) = (choices sky hour u).length := by rw [e2]; simp
            omega
          obtain ⟨M4, e4, nd4, hm4, hl4⟩ := dict_put (ledTo sky hour u o) nd3
          refine ⟨d, _, rfl, DPut.t (k := keyL (ledTo sky hour u o)) hd4 h4 hsz, ?_⟩
          rw [e4]
          have nHd : H d = none := n1
          refine ⟨same_mut (sm3.trans s4) nHd, same_upd_ne (s4 _ _ hb3) (ne_of (s4 _ _ hb3) hd4 (by intro z; cases z)), same_upd_ne (s4 _ _ hc3) (ne_of (s4 _ _ hc3) hd4 (by intro z; cases z)),
            M4, odone ++ [o], ors, _, rfl, upd_same, nd4, e1, by rw [e2]; simp, fun t => ?_, ?_⟩
          · rw [hm4, hm3]
            constructor
            · rintro ((z | ⟨o', ho, e⟩) | e)
              · exact .inl z
              · exact .inr ⟨o', by simp [ho], e⟩
              · exact .inr ⟨o, by simp, e⟩
            · rintro (z | ⟨o', ho, e⟩)
              · exact .inl (.inl z)
              · rcases List.mem_append.mp ho with ho | ho
                · exact .inl (.inr ⟨o', ho, e⟩)
                · rw [List.mem_singleton] at ho
                  rw [ho] at e
                  exact .inr e
          · rw [List.length_append, List.length_singleton]
            omega
      · rintro σ2 H3 ⟨sm3, hb3, hc3, M3, odone, ors, _, rfl, hd3, nd3, e1, e2, hm3, hl3⟩
        have eo : ors = [] := by
          cases ors with
          | nil => rfl
          | cons o ors => cases e1
        subst eo
        rw [List.append_nil] at e2
        refine ⟨sm3, M3, done ++ [u], _, _, rfl, hd3, nd3, by rw [eL]; simp, fun t => ?_, ?_⟩
        · rw [hm3]
          constructor
          · rintro (⟨v, hv, e⟩ | ⟨o, ho, e⟩)
            · exact ⟨v, by simp [hv], e⟩
            · refine ⟨u, by simp, ?_⟩
              unfold nexts
              rw [e2]
              exact List.mem_map.mpr ⟨o, ho, e.symm⟩
          · rintro ⟨v, hv, e⟩
            rcases List.mem_append.mp hv with hv | hv
            · exact .inl ⟨v, hv, e⟩
            · rw [List.mem_singleton] at hv
              subst hv
              unfold nexts at e
              rw [e2] at e
              obtain ⟨o, ho, e⟩ := List.mem_map.mp e
              exact .inr ⟨o, ho, e.symm⟩
        · rw [List.length_append, List.length_singleton]
          have : odone.length ≤ 3 := by rw [← e2]; exact hcl
          omega
    · rintro σ' H' ⟨sm, M, done, _, _, rfl, hd, ndM, eL, hm, hln⟩
      rw [List.append_nil] at eL
      subst eL
      walk_at "w"
      refine ⟨d, _, rfl, .inl hd, fun l bs hl hk => ?_⟩
      walk_at "w"
      have hk2 : ListOf S5.v (upd H' l (.lst (bs.map V.ref))) l M := ⟨_, upd_same, paired_up (same_new hl) (keys_list hk)⟩
      refine ⟨l, M, rfl, hk2, fun r M2 H3 s3 n3 h3 hp ho => ?_⟩
      have sm2 : Same H (upd H' l (.lst (bs.map V.ref))) := sm.trans (same_new hl)
      refine q H3 r M2 (sm2.trans s3) (sm2.free n3) h3 ⟨ho, hp.symm.nodup ndM⟩ (fun t => ?_) ?_
      · rw [hp.mem_iff, hm]
      · rw [hp.length_eq]; exact hln
end
end Bal
namespace Bal
abbrev s_fits : Stmt := topS 24
abbrev nm_fits : List Str := ["sightings", "hour", "state", "when", "x1", "y1", "x2", "y2", "low", "high", "seen"]
theorem sc_fits : FnScope nm_fits ["sightings", "hour", "state"] (defScope s_fits) := ⟨rfl, rfl, rfl, by decide +kernel, rfl, by decide +kernel, by decide +kernel⟩
-- slots: 0:sightings 1:hour 2:state 3:when 4:x1 5:y1 6:x2 7:y2 8:low 9:high 10:seen
/-- fits(sightings, hour, state) -/
def sp_fits : Sp := fun vs H Q _ => ∃ (p b : Addr) (sgs : List Sg) (hour : Int) (t : S5), vs = [.ref p, .int hour, .ref b] ∧ ListOf Sg.v H p sgs ∧ H b = some (.tup t.v) ∧ ∀ H', Same H H' → Q (.bl (fits sgs hour t)) H'
section
variable {P : Program} {w : World} {K : PySem.W.Frag} {mg : Str → Option Value} {base : Heap}
theorem cl_fits (D : Df K mg "fits" s_fits) (T : Txt K mg) (C_inside : Cl P w K mg base 1 "inside" sp_inside) : Cl P w K mg base 2 "fits" sp_fits := by
  refine Cl.of D sc_fits (fun _ _ _ _ _ _ us hl => match us, hl with | [_, _, _], _ => rfl) (fun vs H Q E h => ?_) (fun f cdv A outer s H vs Q E hr h => ?_)
  · obtain ⟨_, _, _, _, _, rfl, _⟩ := h
    rfl
  · obtain ⟨p, b, sgs, hour, t, rfl, hl, ht, q⟩ := h
    have nd := sc_fits.nd
    obtain ⟨vs, hv, _⟩ := id hl
    refine ⟨_, (pss_cons (ps_for PassesOwn.never rfl (pi_list (pv 0)) (pg_tup (by rfl) (pgs_cons (pg_name (i := 3) nd rfl (.inl rfl)) (pgs_cons (pg_name (i := 4) nd rfl (.inl rfl)) (pgs_cons (pg_name (i := 5) nd rfl (.inl rfl)) (pgs_cons (pg_name (i := 6) nd rfl (.inl rfl)) (pgs_cons (pg_name (i := 7) nd rfl (.inl rfl)) (pgs_cons (pg_name (i := 8) nd rfl (.inl rfl)) (pgs_cons (pg_name (i := 9) nd rfl (.inl rfl)) (pgs_cons (pg_name (i := 10) nd rfl (.inl rfl)) pgs_nil))))))))) (pss_one (ps_if (PW.pt (pw_and (pt_cmpR op_eq (pv 3) (pv 1) (nomark _)) (pw_and1 (pt_cmpR op_ne (pe_cl C_inside hr (by decide) (by rfl) (pa_cons (pe_tup (pa_cons (pv 4) (pa_cons (pv 5) (pa_cons (pv 6) (pa_cons (pv 7) (pa_cons (pv 8) (pa_cons (pv 9) pa_nil))))))) (pa_cons (pe_ix ix_tup (pv 2) pe_int (fun _ _ => rfl)) (pa_cons (pe_ix ix_tup (pv 2) pe_int (fun _ _ => rfl)) (pa_cons (pe_ix ix_tup (pv 2) pe_int (fun _ _ => rfl)) pa_nil))))) (pv 10) (nomark _))))) (pss_one (ps_ret pe_bl)) pss_nil)))
      (pss_one (ps_ret pe_bl))), ?_⟩
    rw [show L2.start nm_fits [V.ref p, V.int hour, V.ref b] = [some (V.ref p), some (V.int hour), some (V.ref b), none, none, none, none, none, none, none, none] from rfl]
    walk_at "w"
    refine w_forV rfl hv (forgo_T hl (fun r σ' H' => Same H H' ∧ ∃ a1 a2 a3 a4 a5 a6 a7 a8, σ' = [some (.ref p), some (.int hour), some (.ref b), a1, a2, a3, a4, a5, a6, a7, a8] ∧ r.all (fitOne hour t) = fits sgs hour t)
      ⟨Same.refl _, none, none, none, none, none, none, none, none, rfl, rfl⟩ (fun r σ' H' ⟨e, _⟩ => e) ?_ ?_)
    · rintro g r a σ' H' ⟨sm, _, _, _, _, _, _, _, _, rfl, e⟩ ha
      simp only [Sg.v] at ha
      rw [List.all_cons] at e
      walk_at "ws"
      · refine w_mkT (by simp) fun c H2 s2 n2 h2 => ?_
        have ht2 : H2 b = some (.tup [.int t.x, .int t.y, .int t.z, .int t.s, .int t.p]) := s2 _ _ (sm _ _ ht)
        walk_at "w"
        refine ⟨c, _, _, _, _, _, _, _, _, _, rfl, h2, ?_⟩
        walk_at "w"
        refine w_iteB (fun hJ => ?_) (fun hJ => ?_)
        · walk_at "w"
          have e1 : fitOne hour t g = false := by
            unfold fitOne
            simp [*]
          rw [e1, Bool.false_and] at e
          rw [← e] at q
          exact q _ (sm.trans s2)
        · walk_at "w"
          have e1 : fitOne hour t g = true := by
            unfold fitOne
            simp [*]
          rw [e1, Bool.true_and] at e
          exact ⟨sm.trans s2, _, _, _, _, _, _, _, _, rfl, e⟩
      · have e1 : fitOne hour t g = true := by
          unfold fitOne
          simp [*]
        rw [e1, Bool.true_and] at e
        exact ⟨sm, _, _, _, _, _, _, _, _, rfl, e⟩
    · rintro σ' H' ⟨sm, _, _, _, _, _, _, _, _, rfl, e⟩
      walk_at "w"
      rw [← e] at q
      exact q _ sm
end
end Bal
namespace Bal
/-! ### what may raise -/
/-- a def that keeps a promise and may raise, under its name -/
structure ClX (P : Program) (w : World) (K : PySem.W.Frag) (mg : Str → Option Value) (base : Heap) (k : Nat) (x : Str) (sp : Sp) : Prop where
  ex : ∃ f fd ps, FnOk P w K mg base (L2.CX P w) k f fd ps sp ∧ mg x = some (.ref f) ∧ PySem.W.keepIn K (.ref f) = true ∧ Binds K fd ps []
section
variable {P : Program} {w : World} {K : PySem.W.Frag} {mg : Str → Option Value} {base : Heap}
theorem ClX.of {x : Str} {st : Stmt} {N ps : List Str} {k : Nat} {sp : Sp} (D : Df K mg x st) (S : FnScope N ps (defScope st))
    (hb : ∀ (kV doc pm : Value) (an : Option Addr) (cdv ct : Value) (us : List Value), us.length = ps.length → bindArgs (PySem.W.fnOf x x (defArgs st) (defBody st) (defScope st) .none kV doc pm an cdv ct) ⟨us, []⟩ = pure (ps.zip us))
    (len : ∀ vs H Q E, sp vs H Q E → vs.length = ps.length)
    (hbody : ∀ (f : Addr) (cdv : Value) (A : Around) (outer : List Env) (s : Shared) (H : Hp) (vs : List V) (Q : VK) (E : XK), Room k (A.deeper (envOfC x (defScope st) s.heap.objs.size f cdv)) → sp vs H Q E →
      ∃ t, PSs (cxOf (L2.CX P w) P w K mg base N x (defScope st) f cdv A outer s H E) (defBody st) t ∧ t { nx := fun _ H' => Q .non H', rt := Q } (start N vs) H) : ClX P w K mg base (k + 1) x sp := by
  obtain ⟨f, fd, F, e⟩ := D.ex
  exact ⟨f, fd, ps, F.okX S len (fun cdv A outer s H vs Q E hr h => hbody f cdv A outer s H vs Q E hr h), e, F.kp, F.binds hb⟩
end
section
variable {X : Cx} {k j : Nat} {x : Str} {sp : Sp} {p pos : Pos} {e : Expr} {es : List Expr} {t : TA} {E : XK}
theorem pe_clX (c : ClX X.prog X.w X.K X.mg X.base k x sp) (hr : Room j X.A) (hk : k ≤ j) (hx : Passes (L2.CX X.prog X.w) X E) (hg : Gl X x) (ha : PA X (e :: es) t)
    (hdb : (x == ("__debug__" : Str)) = false := by decide) (he : starEach (e :: es) X.env = (false, eval e X.env) :: starEach es X.env := by rfl) (hpl : (backTo pos (starEach es X.env)).any (·.1) = false := by rfl) :
    PE X (.Call (.Name x p) (e :: es) [] pos) (tCall sp [] E t) := by
  obtain ⟨f, fd, ps, F, hm, kp, b⟩ := c.ex
  exact pe_call F (hr.mono hk) hg hm kp b .nil hx ha hdb he hpl
end
/-! ### NothingFits -/
abbrev s_nfInit : Stmt := inClass (topS 6) 0
abbrev nm_nfInit : List Str := ["self", "hour"]
theorem sc_nfInit : FnScope nm_nfInit ["self", "hour"] (defScope s_nfInit) := ⟨rfl, rfl, rfl, by decide +kernel, rfl, by decide +kernel, by decide +kernel⟩
structure Nf (K : PySem.W.Frag) (mg : Str → Option Value) (C fI : Addr) (fd : FuncData) : Prop where
  oex : OexC K C
  xf : XfC K C
  gC : mg "NothingFits" = some (.ref C)
  iC : PySem.W.findIn K (.ref C) "__init__" = some (some (.ref fI))
  tI : PySem.W.typeIn K (.ref fI) = some (.type "function")
  nH : PySem.W.findIn K (.ref C) "hour" = some none
  nW : PySem.W.findIn K (.ref C) "word" = some none
  te : PySem.W.exmOne K (.ref C) (.ref C) = some true
  fn : Fun K "__init__" "NothingFits.__init__" s_nfInit fI fd
/-- __init__(self, hour), self at a -/
def sp_nfInit (C : Addr) : Sp := fun vs H Q _ => ∃ (a : Addr) (hour : Int), vs = [.ref a, .int hour] ∧ 0 ≤ hour ∧ hour ≤ 24 ∧ H a = some (exo a C none) ∧
  ∀ (d : Addr) (H' : Hp) (word : V), d ≠ a → H d = none → (∀ b o, b ≠ a → H b = some o → H' b = some o) → H' a = some (exo a C (some d)) → H' d = some (exd d [("word", word), ("hour", .int hour)]) → Q .non H'
theorem log_small {i : Int} (h0 : 0 ≤ i) (h1 : i ≤ 24) : i.natAbs.log2 < 1920 := by
  have e : i.natAbs ≤ 1000 := by omega
  by_cases z : i.natAbs = 0
  · rw [z]; decide
  · exact Nat.lt_of_lt_of_le ((Nat.log2_lt z).mpr (show i.natAbs < 2 ^ 10 by omega)) (by decide)
section
variable {P : Program} {w : World} {K : PySem.W.Frag} {mg : Str → Option Value} {base : Heap} {C fI : Addr} {fd : FuncData}
theorem ok_nfInit (N : Nf K mg C fI fd) : FnOk P w K mg base CX0 1 fI fd ["self", "hour"] (sp_nfInit C) := by
  refine N.fn.ok sc_nfInit (fun vs H Q E h => ?_) (fun cdv A outer s H vs Q E hr h => ?_)
  · obtain ⟨_, _, rfl, _⟩ := h
    rfl
  · obtain ⟨a, hour, rfl, h0, h1, ha, q⟩ := h
    refine ⟨_, pss_cons (ps_ost (pv 0) (pv 1)) (pss_one (ps_ost (pv 0) (pe_joined (.cons pe_str (.cons (pe_fmt (pv 1)) .nil))))), ?_⟩
    rw [show L2.start nm_nfInit [V.ref a, V.int hour] = [some (V.ref a), some (V.int hour)] from rfl]
    walk_at "w"
    refine ⟨_, rfl, _, rfl, a, C, rfl, N.oex, N.nH, .inl ⟨ha, fun d nd ne => ?_⟩⟩
    have hx : H d = none := nd
    refine ⟨_, rfl, by rw [sizeLine_eq]; decide, _, rfl, .inr ⟨hour, rfl, log_small h0 h1, _, rfl, ?_, ?_⟩⟩
    · rw [sizeLine_eq]
      have key : ∀ n : Fin 25, (Str.empty ++ Str.ofString "NothingFits " ++ Str.ofString (toString ((n.val : Nat) : Int))).length ≤ 16777216 := by decide +kernel
      obtain ⟨n, rfl⟩ : ∃ n : Nat, hour = (n : Int) := ⟨hour.toNat, by omega⟩
      exact key ⟨n, by omega⟩
    · refine ⟨_, rfl, a, C, rfl, N.oex, N.nW, .inr ⟨d, [("hour", .int hour)], upd_same, ?_, by simp, ?_⟩⟩
      · rw [upd_ne ne, upd_same]
      · refine q d _ _ ne hx (fun b o hb e => ?_) ?_ upd_same
        · have hbd : b ≠ d := ne_of_none e hx
          rw [upd_ne hbd, upd_ne hb, upd_ne hbd]
          exact e
        · rw [upd_ne (Ne.symm ne), upd_same]
end
abbrev s_fitting : Stmt := topS 25
abbrev nm_fitting : List Str := ["sightings", "hour", "some", "found", "state"]
theorem sc_fitting : FnScope nm_fitting ["sightings", "hour", "some"] (defScope s_fitting) := ⟨rfl, rfl, rfl, by decide +kernel, rfl, by decide +kernel, by decide +kernel⟩
-- slots: 0:sightings 1:hour 2:some 3:found 4:state
/-- fitting(sightings, hour, some) -/
def sp_fitting (C : Addr) : Sp := fun vs H Q E => ∃ (p l : Addr) (sgs : List Sg) (hour : Int) (L : List S5), vs = [.ref p, .int hour, .ref l] ∧ ListOf Sg.v H p sgs ∧ ListOf S5.v H l L ∧ L.length ≤ 500000 ∧ 0 ≤ hour ∧ hour ≤ 24 ∧
  (L.filter (fits sgs hour) ≠ [] → ∀ H' r, Same H H' → H r = none → ListOf S5.v H' r (L.filter (fits sgs hour)) → Q (.ref r) H') ∧
  (L.filter (fits sgs hour) = [] → ∀ (d : Addr) (fs : List (Str × V)) (H' : Hp), Same H H' → H' d = some (.xd fs) → fs.lookup ("hour" : Str) = some (.int hour) → E (.ref C) (some d) H')
section
variable {P : Program} {w : World} {K : PySem.W.Frag} {mg : Str → Option Value} {base : Heap} {C fI : Addr} {fd : FuncData}
theorem cl_fitting (D : Df K mg "fitting" s_fitting) (T : Txt K mg) (N : Nf K mg C fI fd) (bI : Binds K fd ["self", "hour"] []) (C_fits : Cl P w K mg base 2 "fits" sp_fits) : ClX P w K mg base 4 "fitting" (sp_fitting C) := by
  refine ClX.of D sc_fitting (fun _ _ _ _ _ _ us hl => match us, hl with | [_, _, _], _ => rfl) (fun vs H Q E h => ?_) (fun f cdv A outer s H vs Q E hr h => ?_)
  · obtain ⟨_, _, _, _, _, rfl, _⟩ := h
    rfl
  · obtain ⟨p, l, sgs, hour, L, rfl, hp, hL, hlen, h0, h1, q, qx⟩ := h
    have nd := sc_fitting.nd
    obtain ⟨vs, hv, hpv⟩ := id hL
    refine ⟨_, (pss_cons (ps_setLc (i := 3) (own := [("state", 4)]) (g := gName 4) (by rfl) nd rfl rfl (sw_true rfl rfl rfl (by decide +kernel)) (pi_list (pv 2)) (blkOk_by (N := nm_fitting) (sc := defScope s_fitting) (by decide +kernel)) (fun _ _ _ _ _ => (pg_name (i := 4) nd rfl (.inl rfl))) (fun _ _ _ _ _ => (pts_one (pt_val (pe_cl C_fits hr (by decide) (by rfl) (pa_cons (pv 0) (pa_cons (pv 1) (pa_cons (pv 4) pa_nil))))))) (fun _ _ _ _ _ => (pv 4)))
      (pss_cons (ps_if (pt_cmpR op_eq (pe_callB call_len_seq (by rfl) T.b_len PySem.boot_len (pa_cons (pv 3) pa_nil)) pe_int (nomark _)) (pss_one (ps_raise rfl (takes_of rfl rfl rfl rfl) (pmk_oex N.oex N.iC N.tI (ok_nfInit (P := P) (w := w) (base := base) N) (hr.mono (by decide)) bI .nil pass0 (by rfl) N.gC (pa_cons (pv 1) pa_nil)))) pss_nil)
      (pss_one (ps_ret (pv 3))))), ?_⟩
    rw [show L2.start nm_fitting [V.ref p, V.int hour, V.ref l] = [some (V.ref p), some (V.int hour), some (V.ref l), none, none] from rfl]
    walk_at "w"
    refine w_lcL ?_
    walk_at "w"
    refine ⟨l, rfl, ⟨_, .inl (.inl hv)⟩, lc_goL (K := K) (.inl (.inl hv)) (fun r acc G => ∃ done rs, L = done ++ rs ∧ Paired (TupOf S5.v H) r rs ∧ Paired (TupOf S5.v G) acc (done.filter (fits sgs hour))) ⟨[], L, rfl, hpv, .nil⟩ ?_ ?_⟩
    · rintro D' i x acc H' hi nD hD hl hS hS' ⟨done, rs, eL, hr1, hr2⟩
      cases hr1 with
      | @cons _ u _ rs hx hr1 =>
      obtain ⟨b, rfl, hb⟩ := hx
      have hil : i < 500000 := by
        have h3 := (List.getElem?_eq_some_iff.mp hi).1
        rw [paired_len hpv] at h3
        omega
      refine w_turn ?_
      walk_at "w"
      refine ⟨rfl, ?_⟩
      walk_at "w"
      refine ⟨p, b, sgs, hour, u, rfl, hp.up hS', hS' _ _ hb, fun H2 s2 => ?_⟩
      walk_at "w"
      refine w_iteB (fun hJ => ?_) (fun hJ => ?_)
      · walk_at "w"
        refine lc_put hD s2 hl (by omega) hS ⟨done ++ [u], rs, by rw [eL]; simp, hr1, ?_⟩
        rw [List.filter_append, List.filter_cons, if_pos hJ, List.filter_nil]
        exact paired_snoc (paired_up (same_rem s2) hr2) ⟨b, rfl, (hS.trans (same_rem s2)) _ _ hb⟩
      · refine lc_skip hD s2 hl hS ⟨done ++ [u], rs, by rw [eL]; simp, hr1, ?_⟩
        rw [List.filter_append, List.filter_cons, if_neg (by rw [hJ]; exact Bool.false_ne_true), List.filter_nil, List.append_nil]
        exact paired_up (same_rem s2) hr2
    · rintro D' H' acc nD hS hD hl ⟨done, rs, eL, hr1, hr2⟩
      cases hr1
      rw [List.append_nil] at eL
      subst eL
      have hacc : ListOf S5.v H' D' (L.filter (fits sgs hour)) := ⟨acc, hD, paired_up rem_same hr2⟩
      walk_at "w"
      refine ⟨D', acc, rfl, .inl (.inl (.inl hD)), ?_⟩
      walk_at "w"
      have hln := paired_len hr2
      refine w_ite (fun hz => ?_) (fun hz => ?_)
      · have hz2 : L.filter (fits sgs hour) = [] := List.eq_nil_of_length_eq_zero (by rw [← hln]; omega)
        show tMkO C (sp_nfInit C) [] (tCons (tVar 1) tNil) _ _ _
        refine ⟨_, rfl, by simp, fun a na => ?_⟩
        refine ⟨a, hour, rfl, h0, h1, upd_same, fun d H2 word ne nd2 keep h2 h3 => ⟨rfl, d, _, h2, h3, ?_, ?_⟩⟩
        · rw [upd_ne ne] at nd2
          exact nd2
        · refine qx hz2 d _ _ (fun b o e => ?_) upd_same ?_
          · have e1 := hS b o e
            have hba : b ≠ a := ne_of_none e1 na
            have hbd : b ≠ d := by
              rw [upd_ne ne] at nd2
              exact ne_of_none e1 nd2
            rw [upd_ne hbd, del_ne hba]
            exact keep b o hba (by rw [upd_ne hba]; exact e1)
          · have e2 : (("hour" : Str) == ("word" : Str)) = false := by decide +kernel
            simp [List.lookup, e2]
      · walk_at "w"
        exact q (fun z => hz (by rw [hln, z]; rfl)) H' D' hS nD hacc
end
end Bal
namespace Bal
abbrev s_going_on : Stmt := topS 26
abbrev nm_going_on : List Str := ["sky", "hour", "some", "later", "wanted", "state", "found", "order"]
theorem sc_going_on : FnScope nm_going_on ["sky", "hour", "some", "later"] (defScope s_going_on) := ⟨rfl, rfl, rfl, by decide +kernel, rfl, by decide +kernel, by decide +kernel⟩
-- slots: 0:sky 1:hour 2:some 3:later 4:wanted 5:state 6:found 7:order
/-- who goes on to one of M -/
def goesB (sky : Sky) (hour : Int) (M : List S5) (t : S5) : Bool := (choices sky hour t).any fun o => decide (ledTo sky hour t o ∈ M)
/-- going_on(sky, hour, some, later) -/
def sp_going_on : Sp := fun vs H Q _ => ∃ (a p r : Addr) (sky : Sky) (hour : Int) (L M : List S5), vs = [.ref a, .int hour, .ref p, .ref r] ∧ SkyAt H a sky ∧ ListOf S5.v H p L ∧ ListOf S5.v H r M ∧ L.length ≤ 500000 ∧ M.length ≤ 500000 ∧
  ∀ H' k, Same H H' → H k = none → ListOf S5.v H' k (L.filter (goesB sky hour M)) → Q (.ref k) H'
theorem dict_in {M : List S5} (t : S5) : (valV (dictL M) (keyL t)).isSome = decide (t ∈ M) := by
  unfold valV
  rw [Option.isSome_map]
  have h : ((dictL M).find? fun kv => decide (kv.1 = keyL t)).isSome = true ↔ t ∈ M := by
    rw [List.find?_isSome]
    constructor
    · rintro ⟨x, hx, e⟩
      obtain ⟨u, hu, rfl⟩ := List.mem_map.mp hx
      rw [← keyL_inj (of_decide_eq_true e)]; exact hu
    · intro h
      exact ⟨(keyL t, .bl true), List.mem_map.mpr ⟨t, h, rfl⟩, decide_eq_true rfl⟩
  by_cases hm : t ∈ M
  · rw [decide_eq_true hm]; exact h.mpr hm
  · rw [decide_eq_false hm]
    exact Bool.eq_false_iff.mpr fun z => hm (h.mp z)
section
variable {P : Program} {w : World} {K : PySem.W.Frag} {mg : Str → Option Value} {base : Heap}
theorem cl_going_on (D : Df K mg "going_on" s_going_on) (T : Txt K mg) (C_choices : Cl P w K mg base 5 "choices" sp_choices) (C_next_state : Cl P w K mg base 5 "next_state" sp_next_state) : Cl P w K mg base 6 "going_on" sp_going_on := by
  refine Cl.of D sc_going_on (fun _ _ _ _ _ _ us hl => match us, hl with | [_, _, _, _], _ => rfl) (fun vs H Q E h => ?_) (fun f cdv A outer s H vs Q E hr h => ?_)
  · obtain ⟨_, _, _, _, _, _, _, rfl, _⟩ := h
    rfl
  · obtain ⟨a, p, r, sky, hour, L, M, rfl, hs, hL, hM, lL, lM, q⟩ := h
    have nd := sc_going_on.nd
    have hu := hu_of hr
    obtain ⟨vsM, hvM, _⟩ := id hM
    obtain ⟨vsL, hvL, _⟩ := id hL
    refine ⟨_, (pss_cons (ps_set (i := 4) nd rfl (.inr rfl) pe_dnewT)
      (pss_cons (ps_for PassesOwn.never rfl (pi_list (pv 3)) (pg_name (i := 5) nd rfl (.inr rfl)) (pss_one (ps_dput hu (pv 4) (pv 5) pe_bl rfl)))
      (pss_cons (ps_set (i := 6) nd rfl (.inl rfl) (pe_lst pa_nil))
      (pss_cons (ps_for PassesOwn.never rfl (pi_list (pv 2)) (pg_name (i := 5) nd rfl (.inr rfl)) (pss_one (ps_if (pt_val (pe_callB (cr_any rfl) (by rfl) T.b_any (by decide +kernel) (pa_cons (pe_lc (own := [("order", 7)]) (g := gName 7) (by rfl) nd (pi_list (pe_cl C_choices hr (by decide) (by rfl) (pa_cons (pv 0) (pa_cons (pv 1) (pa_cons (pv 5) pa_nil))))) (blkOk_by (N := nm_going_on) (sc := defScope s_going_on) (by decide +kernel)) (fun _ _ _ _ _ => (pg_name (i := 7) nd rfl (.inl rfl))) (fun _ _ _ _ _ => pts_nil) (fun _ _ _ _ _ => (pe_cmp (pc_din hu (pe_cl C_next_state hr (by decide) (by rfl) (pa_cons (pv 0) (pa_cons (pv 1) (pa_cons (pv 5) (pa_cons (pv 7) pa_nil))))) (pv 4)) rfl))) pa_nil))) (pss_one (ps_expr (pe_bm PySem.F.plainAttrs_list PySem.F.slot_list_append PySem.F.type_list_append mt_append (pv 6) (pa_cons (pv 5) pa_nil)))) pss_nil)))
      (pss_one (ps_ret (pv 6))))))), ?_⟩
    rw [show L2.start nm_going_on [V.ref a, V.int hour, V.ref p, V.ref r] = [some (V.ref a), some (V.int hour), some (V.ref p), some (V.ref r), none, none, none, none] from rfl]
    walk_at "w"
    refine w_dnewT fun d H1 s1 n1 h1 => ?_
    walk_at "w"
    refine w_forV rfl (s1 _ _ hvM) (forgo_T hM (fun rs σ' H' => Same H H' ∧ ∃ (W done : List S5) (y5 : Option V), σ' = [some (.ref a), some (.int hour), some (.ref p), some (.ref r), some (.ref d), y5, none, none] ∧ H' d = some (.dT (dictL W)) ∧ W.Nodup ∧
        M = done ++ rs ∧ (∀ t, t ∈ W ↔ t ∈ done) ∧ W.length ≤ done.length)
      ⟨s1, [], [], none, rfl, h1, List.nodup_nil, rfl, by simp, by simp⟩ (fun r σ' H' z => z.1) ?_ ?_)
    · rintro u rs b σ' H' ⟨sm, W, done, _, rfl, hd, ndW, eM, hm, hln⟩ hb
      walk_at "w"
      have hdl : done.length + (rs.length + 1) = M.length := by rw [eM]; simp
      have hsz : (dictL W).length < sizeLine := by
        unfold dictL
        rw [List.length_map, sizeLine_eq]
        omega
      obtain ⟨W2, e2, nd2, hm2, hl2⟩ := dict_put u ndW
      refine ⟨d, _, rfl, DPut.t (k := keyL u) hd hb hsz, ?_⟩
      rw [e2]
      refine ⟨same_mut sm n1, W2, done ++ [u], _, rfl, upd_same, nd2, by rw [eM]; simp, fun t => ?_, by rw [List.length_append, List.length_singleton]; omega⟩
      rw [hm2, hm, List.mem_append, List.mem_singleton]
    · rintro σ' H' ⟨sm, W, done, _, rfl, hd, ndW, eM, hm, hln⟩
      rw [List.append_nil] at eM
      subst eM
      walk_at "w"
      refine w_mkL (by simp) fun l H2 s2 n2 h2 => ?_
      walk_at "w"
      have sm2 := sm.trans s2
      have nl : H l = none := sm.free n2
      refine w_forV rfl (sm2 _ _ hvL) (forgo_T hL (fun rs σ' H' => Same H H' ∧ H' d = some (.dT (dictL W)) ∧ ∃ (vs : List V) (done : List S5) (y5 : Option V), σ' = [some (.ref a), some (.int hour), some (.ref p), some (.ref r), some (.ref d), y5, some (.ref l), none] ∧ H' l = some (.lst vs) ∧
          Paired (TupOf S5.v H') vs (done.filter (goesB sky hour M)) ∧ L = done ++ rs)
        ⟨sm2, s2 _ _ hd, [], [], _, rfl, h2, .nil, rfl⟩ (fun r σ' H' z => z.1) ?_ ?_)
      · rintro u rs b σ' H' ⟨sm3, hd3, vs, done, _, rfl, hl3, hp3, eL⟩ hb
        walk_at "w"
        refine w_lcL ?_
        walk_at "w"
        refine ⟨a, b, sky, hour, u, rfl, hs.up sm3, hb, fun H4 c s4 n4 h4 => ?_⟩
        refine ⟨c, rfl, ⟨_, .inl (.inl h4)⟩, lc_goL (K := K) (.inl (.inl h4)) (fun ro acc _ => ∃ (odone ors : List O3), ro = ordsV ors ∧ choices sky hour u = odone ++ ors ∧ acc = (odone.map fun o => V.bl (decide (ledTo sky hour u o ∈ M))))
          ⟨[], _, rfl, rfl, rfl⟩ ?_ ?_⟩
        · rintro D' i x acc H5 hi nD hD hl hS hS' ⟨odone, ors, e1, e2, e3⟩
          cases ors with
          | nil => cases e1
          | cons o ors =>
            obtain ⟨rfl, e1x⟩ := List.cons.inj (show _ :: _ = V.str o.w :: ordsV ors from e1)
            have how : whyNot sky hour u o = .ok := by
              have hmem : o ∈ choices sky hour u := by rw [e2]; simp
              unfold choices at hmem
              exact of_decide_eq_true (List.mem_filter.mp hmem).2
            refine w_turn ?_
            walk_at "w"
            refine ⟨rfl, ?_⟩
            walk_at "w"
            refine ⟨a, b, sky, hour, u, o, rfl, hs.up (sm3.trans (s4.trans hS')), hS' _ _ (s4 _ _ hb), how, fun H6 k s6 n6 h6 => ?_⟩
            walk_at "w"
            have hi3 : i < 3 := by
              have hi2 := (List.getElem?_eq_some_iff.mp hi).1
              have hcl := choices_len sky hour u
              rw [ordsV, List.length_map] at hi2
              omega
            refine ⟨d, _, rfl, DGet.t (k := keyL (ledTo sky hour u o)) (s6 _ _ (hS' _ _ (s4 _ _ hd3))) h6, ?_⟩
            rw [dict_in]
            refine lc_put hD s6 hl (by omega) hS ⟨odone ++ [o], ors, e1x, by rw [e2]; simp, ?_⟩
            rw [e3, List.map_append]
            have ew : decide (ledTo sky hour u o ∈ W) = decide (ledTo sky hour u o ∈ M) := decide_eq_decide.mpr (hm _)
            rw [ew]; rfl
        · rintro D' H5 acc nD hS hD hl ⟨odone, ors, e1, e2, e3⟩
          have eo : ors = [] := by
            cases ors with
            | nil => rfl
            | cons o ors => cases e1
          subst eo
          rw [List.append_nil] at e2
          walk_at "w"
          refine ⟨D', (odone.map fun o => decide (ledTo sky hour u o ∈ M)), rfl, .inl (.inl ?_), ?_⟩
          · rw [hD, e3, List.map_map]; rfl
          have eg : (odone.map fun o => decide (ledTo sky hour u o ∈ M)).any id = goesB sky hour M u := by
            unfold goesB
            rw [e2, List.any_map]; rfl
          rw [eg]
          walk_at "w"
          have sm5 : Same H' H5 := s4.trans hS
          have hl5 := sm5 _ _ hl3
          have hdl : done.length + (rs.length + 1) = L.length := by rw [eL]; simp
          refine w_iteB (fun hJ => ?_) (fun hJ => ?_)
          · walk_at "w"
            refine ⟨.inl ⟨rfl, _, .inl (.inl hl5)⟩, ?_⟩
            walk_at "w"
            have hvl : vs.length < sizeLine := by
              rw [paired_len hp3, sizeLine_eq]
              have := List.length_filter_le (goesB sky hour M) done
              omega
            refine ⟨l, vs, _, rfl, rfl, hl5, hvl, ?_⟩
            refine ⟨same_mut (sm3.trans sm5) nl, same_upd_ne (sm5 _ _ hd3) (ne_of (sm5 _ _ hd3) hl5 (by intro z; cases z)), _, done ++ [u], _, rfl, upd_same, ?_, by rw [eL]; simp⟩
            rw [List.filter_append, List.filter_cons, if_pos hJ, List.filter_nil]
            exact paired_snoc (paired_upd hl5 (paired_up sm5 hp3)) (TupOf.upd ⟨b, rfl, sm5 _ _ hb⟩ hl5)
          · walk_at "w"
            refine ⟨sm3.trans sm5, sm5 _ _ hd3, vs, done ++ [u], _, rfl, hl5, ?_, by rw [eL]; simp⟩
            rw [List.filter_append, List.filter_cons, if_neg (by rw [hJ]; exact Bool.false_ne_true), List.filter_nil, List.append_nil]
            exact paired_up sm5 hp3
      · rintro σ' H' ⟨sm3, hd3, vs, done, _, rfl, hl3, hp3, eL⟩
        rw [List.append_nil] at eL
        subst eL
        walk_at "w"
        exact q _ l sm3 nl ⟨vs, hl3, hp3⟩
end
end Bal
namespace Bal
abbrev s_possible : Stmt := topS 27
abbrev nm_possible : List Str := ["sky", "hour", "state", "until", "sightings", "rows", "at"]
theorem sc_possible : FnScope nm_possible ["sky", "hour", "state", "until", "sightings"] (defScope s_possible) := ⟨rfl, rfl, rfl, by decide +kernel, rfl, by decide +kernel, by decide +kernel⟩
-- slots: 0:sky 1:hour 2:state 3:until 4:sightings 5:rows 6:at
def nxP (sky : Sky) (hour : Int) : Nat → S5 → S5 → Prop := fun k u t => t ∈ nexts sky (hour + k) u
def fitP (sgs : List Sg) (hour : Int) : Nat → S5 → Prop := fun k t => fits sgs (hour + k) t = true
/-- at v: a new list of these states -/
def RowP (G H : Hp) (v : V) (L : List S5) : Prop := ∃ q, v = V.ref q ∧ G q = none ∧ ListOf S5.v H q L
/-- at r: the list of the rows -/
def RowsAt (G H : Hp) (r : Addr) (R : List (List S5)) : Prop := ∃ vs, H r = some (.lst vs) ∧ Paired (RowP G H) vs R
def sp_possible (C : Addr) : Sp := fun vs H Q E => ∃ (a b p : Addr) (sky : Sky) (hour : Int) (st : S5) (n : Nat) (sgs : List Sg), vs = [.ref a, .int hour, .ref b, .int (hour + n), .ref p] ∧ SkyAt H a sky ∧ H b = some (.tup st.v) ∧ ListOf Sg.v H p sgs ∧
  0 ≤ hour ∧ n ≤ 8 ∧ hour + n ≤ 24 ∧
  (∀ R H' r, Same H H' → H r = none → RowsAt H H' r R → Rows (nxP sky hour) (fitP sgs hour) st n R → (∀ L, L ∈ R → L.length ≤ 6561) → Q (.ref r) H') ∧
  (∀ (k : Nat) (d : Addr) (fs : List (Str × V)) (H' : Hp), Refused (nxP sky hour) (fitP sgs hour) st n k → Same H H' → H' d = some (.xd fs) → fs.lookup ("hour" : Str) = some (.int (hour + k)) → E (.ref C) (some d) H')
theorem RowP.up {G H H' : Hp} {v : V} {L : List S5} (s : Same H H') (h : RowP G H v L) : RowP G H' v L := by
  obtain ⟨q, e, g, h⟩ := h
  exact ⟨q, e, g, h.up s⟩
theorem rowps_up {G H H' : Hp} (s : Same H H') : ∀ {vs : List V} {R : List (List S5)}, Paired (RowP G H) vs R → Paired (RowP G H') vs R
  | _, _, .nil => .nil
  | _, _, .cons h r => .cons (h.up s) (rowps_up s r)
theorem ListOf.rem {α : Type} {enc : α → List V} {H : Hp} {r l : Addr} {L : List α} {o : List V} (h : ListOf enc H r L) (hl : H l = some (.lst o)) (ne : r ≠ l) : ListOf enc (rem H l) r L := by
  obtain ⟨vs, e, hp⟩ := h
  refine ⟨vs, by rw [rem_ne ne]; exact e, ?_⟩
  have go : ∀ {vs : List V} {L : List α}, Paired (TupOf enc H) vs L → Paired (TupOf enc (Bal.rem H l)) vs L := by
    intro vs L hp
    induction hp with
    | nil => exact .nil
    | cons h r ih =>
      obtain ⟨a, e, h⟩ := h
      exact .cons ⟨a, e, by rw [rem_ne (ne_of h hl (by intro z; cases z))]; exact h⟩ ih
  exact go hp
/-- one row, told by a word of its states -/
structure RowOk (L : List S5) (P : S5 → Prop) (m : Nat) : Prop where
  srt : Srt L
  mem : ∀ t, t ∈ L ↔ P t
  len : L.length ≤ m
theorem ixN_nat {n j : Nat} (hj : j < n) : ixN n (j : Int) = some j := by
  unfold ixN
  rw [if_pos (by omega), if_pos (by omega)]
  simp
theorem atI_end {xs : List V} {i : Nat} {v : V} (hl : xs.length = i + 1) (h : xs[i]? = some v) : atI xs (-1) = some v := by
  unfold atI ixN
  rw [if_neg (by decide), if_pos (by omega)]
  show xs[(-1 + (xs.length : Int)).toNat]? = some v
  rw [show (-1 + (xs.length : Int)).toNat = i by omega]
  exact h
/-- the rows of the way forward -/
def FwOk (nx : Nat → S5 → S5 → Prop) (fit : Nat → S5 → Prop) (st : S5) (i : Nat) (F : List (List S5)) : Prop :=
  F.length = i + 1 ∧ ∀ k, k ≤ i → ∃ L, F[k]? = some L ∧ RowOk L (Reach nx fit st k) (3 ^ k) ∧ L ≠ []
/-- the rows while the way back stands at i -/
def BwOk (nx : Nat → S5 → S5 → Prop) (fit : Nat → S5 → Prop) (st : S5) (n i : Nat) (R : List (List S5)) : Prop :=
  R.length = n + 1 ∧ ∀ k, k ≤ n → ∃ L, R[k]? = some L ∧ RowOk L (fun t => (n ≤ k + i → Live nx fit st n k t) ∧ (¬ n ≤ k + i → Reach nx fit st k t)) 6561
theorem pow3 {k : Nat} (h : k ≤ 8) : 3 ^ k ≤ 6561 := Nat.le_trans (Nat.pow_le_pow_right (by decide) h) (by decide)
section
variable {P : Program} {w : World} {K : PySem.W.Frag} {mg : Str → Option Value} {base : Heap} {C : Addr}
theorem cl_possible (D : Df K mg "possible" s_possible) (T : Txt K mg) (X_fitting : ClX P w K mg base 4 "fitting" (sp_fitting C)) (C_behind : Cl P w K mg base 6 "behind" sp_behind) (C_going_on : Cl P w K mg base 6 "going_on" sp_going_on) : ClX P w K mg base 7 "possible" (sp_possible C) := by
  refine ClX.of D sc_possible (fun _ _ _ _ _ _ us hl => match us, hl with | [_, _, _, _, _], _ => rfl) (fun vs H Q E h => ?_) (fun f cdv A outer s H vs Q E hr h => ?_)
  · obtain ⟨_, _, _, _, _, _, _, _, rfl, _⟩ := h
    rfl
  · obtain ⟨a, b, p, sky, hour, st, n, sgs, rfl, hs, hb, hp, h0, hn, h24, q, qx⟩ := h
    have nd := sc_possible.nd
    refine ⟨_, (pss_cons (ps_set (i := 5) nd rfl (.inl rfl) (pe_lst (pa_cons (pe_clX X_fitting hr (by decide) (passes_call (takes_of rfl rfl rfl rfl) (fun _ _ _ _ h => h)) (by rfl) (pa_cons (pv 4) (pa_cons (pv 1) (pa_cons (pe_lst (pa_cons (pv 2) pa_nil)) pa_nil)))) pa_nil)))
      (pss_cons (ps_for (passes_of rfl) rfl (pi_range2 (by rfl) T.b_range (pa_cons (pv 1) (pa_cons (pv 3) pa_nil))) (pg_name (i := 6) nd rfl (.inl rfl)) (pss_one (ps_expr (pe_bm PySem.F.plainAttrs_list PySem.F.slot_list_append PySem.F.type_list_append mt_append (pv 5) (pa_cons (pe_clX X_fitting hr (by decide) (passes_call (takes_of rfl rfl rfl rfl) (fun _ _ _ _ h => h)) (by rfl) (pa_cons (pv 4) (pa_cons (pe_op op_add (pv 6) pe_int) (pa_cons (pe_cl C_behind hr (by decide) (by rfl) (pa_cons (pv 0) (pa_cons (pv 6) (pa_cons (pe_ix ix_list (pv 5) (pe_un un_neg pe_int) (fun _ _ => rfl)) pa_nil)))) pa_nil)))) pa_nil)))))
      (pss_cons (ps_for (passes_of rfl) rfl (pi_revR (by rfl) T.b_reversed (prg_1 (by rfl) T.b_range (pe_op op_sub (pe_callB call_len_seq (by rfl) T.b_len PySem.boot_len (pa_cons (pv 5) pa_nil)) pe_int))) (pg_name (i := 6) nd rfl (.inl rfl)) (pss_one (ps_asg (pe_cl C_going_on hr (by decide) (by rfl) (pa_cons (pv 0) (pa_cons (pe_op op_add (pv 1) (pv 6)) (pa_cons (pe_ix ix_list (pv 5) (pv 6) (fun _ _ => rfl)) (pa_cons (pe_ix ix_list (pv 5) (pe_op op_add (pv 6) pe_int) (fun _ _ => rfl)) pa_nil))))) (pg_sub (pv 5) (pv 6) set_list))))
      (pss_one (ps_ret (pv 5)))))), ?_⟩
    rw [show L2.start nm_possible [V.ref a, V.int hour, V.ref b, V.int (hour + (n : Int)), V.ref p] = [some (V.ref a), some (V.int hour), some (V.ref b), some (V.int (hour + (n : Int))), some (V.ref p), none, none] from rfl]
    walk_at "w"
    refine w_mkL (by simp) fun c0 H1 s1 n1 h1 => ?_
    walk_at "w"
    have hz0 : hour + ((0 : Nat) : Int) = hour := Int.add_zero _
    refine ⟨p, c0, sgs, hour, [st], rfl, hp.up s1, ⟨_, h1, .cons ⟨b, rfl, s1 _ _ hb⟩ .nil⟩, by simp, h0, by omega, fun hne H2 r s2 n2 h2 => ?_, fun he d fs H2 s2 hd hf => ?_⟩
    · have hfit : fits sgs hour st = true := by
        cases e : fits sgs hour st with
        | true => rfl
        | false =>
          exfalso
          apply hne
          rw [List.filter_cons, if_neg (by rw [e]; exact Bool.false_ne_true), List.filter_nil]
      rw [List.filter_cons, if_pos hfit, List.filter_nil] at h2
      walk_at "w"
      refine w_mkL (by simp) fun l H3 s3 n3 h3 => ?_
      walk_at "w"
      have sH2 : Same H H2 := s1.trans s2
      have sH3 : Same H H3 := sH2.trans s3
      have nl : H l = none := sH2.free n3
      have nr : H r = none := s1.free n2
      have hrl : r ≠ l := by
        obtain ⟨vr, hr2, _⟩ := id h2
        exact ne_of_none hr2 n3
      refine w_forR2 ?_
      walk_at "w"
      refine ⟨hour, hour + (n : Int), rfl, ⟨by omega, by omega, by omega, by omega⟩, ?_⟩
      rw [show (hour + (n : Int) - hour).toNat = n by omega]
      refine fori_R (fun i σ' H' => Same H (rem H' l) ∧ ∃ vs F y6, σ' = [some (V.ref a), some (V.int hour), some (V.ref b), some (V.int (hour + (n : Int))), some (V.ref p), some (V.ref l), y6] ∧ H' l = some (.lst vs) ∧ Paired (RowP H (rem H' l)) vs F ∧ FwOk (nxP sky hour) (fitP sgs hour) st i F)
        ⟨same_into sH3 nl, [.ref r], [[st]], none, rfl, h3, .cons ⟨r, rfl, nr, (h2.up s3).rem h3 hrl⟩ .nil, rfl, fun k hk => ?_⟩ ?_ ?_
      · have e : k = 0 := by omega
        subst e
        refine ⟨[st], rfl, ⟨Srt.one st, fun t => ?_, by simp⟩, by simp⟩
        rw [List.mem_singleton]
        refine ⟨fun e => ⟨e, ?_⟩, fun e => e.1⟩
        show fits sgs (hour + ((0 : Nat) : Int)) t = true
        rw [hz0, e]
        exact hfit
      · rintro i σ' H' hi ⟨sm, vs, F, _, rfl, hl, hpr, fl, fw⟩
        have sm' : Same H H' := sm.trans rem_same
        obtain ⟨L, eL, okL, neL⟩ := fw i (Nat.le_refl _)
        obtain ⟨v, ev, q1, rfl, nq1, hq1⟩ := paired_at' hpr eL
        have lvs : vs.length = i + 1 := by rw [paired_len hpr, fl]
        have l3 := okL.len
        have p3 : 3 ^ i ≤ 6561 := pow3 (by omega)
        walk_at "w"
        refine ⟨.inl ⟨rfl, _, .inl (.inl hl)⟩, ?_⟩
        walk_at "w"
        refine w_ixL hl (atI_end lvs ev) ?_
        walk_at "w"
        refine ⟨a, q1, sky, hour + (i : Int), L, rfl, hs.up sm', hq1.up rem_same, by omega, fun H4 r4 M s4 n4 h4 srt4 mem4 len4 => ?_⟩
        walk_at "w"
        have e1 : hour + ((i + 1 : Nat) : Int) = hour + (i : Int) + 1 := by omega
        have hmem : ∀ t, t ∈ M.filter (fits sgs (hour + (i : Int) + 1)) ↔ Reach (nxP sky hour) (fitP sgs hour) st (i + 1) t := fun t => by
          rw [List.mem_filter, mem4]
          unfold Reach fitP nxP
          rw [e1]
          constructor
          · rintro ⟨⟨u, hu, ht⟩, hf⟩
            exact ⟨⟨u, (okL.mem u).mp hu, ht⟩, hf⟩
          · rintro ⟨⟨u, hu, ht⟩, hf⟩
            exact ⟨⟨u, (okL.mem u).mpr hu, ht⟩, hf⟩
        refine ⟨p, r4, sgs, hour + (i : Int) + 1, M, rfl, hp.up (sm'.trans s4), h4, by omega, by omega, by omega, fun hne5 H5 r5 s5 n5 h5 => ?_, fun he5 d fs H5 s5 hd hf => ?_⟩
        · walk_at "w"
          have hl5 := s5 _ _ (s4 _ _ hl)
          have s45 : Same H' H5 := s4.trans s5
          have n5' : H' r5 = none := s4.free n5
          refine ⟨l, vs, _, rfl, rfl, hl5, by rw [lvs, sizeLine_eq]; omega, ?_⟩
          have hne' : r5 ≠ l := fun z => by
            rw [z, hl] at n5'
            cases n5'
          refine ⟨?_, vs ++ [.ref r5], F ++ [M.filter (fits sgs (hour + (i : Int) + 1))], _, rfl, upd_same, ?_, ?_, fun k hk => ?_⟩
          · rw [rem_upd]
            exact sm.trans (same_rem s45)
          · rw [rem_upd]
            exact paired_snoc (rowps_up (same_rem s45) hpr) ⟨r5, rfl, sm'.free n5', h5.rem hl5 hne'⟩
          · rw [List.length_append, fl]; rfl
          · by_cases hki : k ≤ i
            · obtain ⟨L', e', ok', ne'⟩ := fw k hki
              exact ⟨L', by rw [List.getElem?_append_left (by omega)]; exact e', ok', ne'⟩
            · have ek : k = i + 1 := by omega
              subst ek
              refine ⟨M.filter (fits sgs (hour + (i : Int) + 1)), ?_, ⟨srt4.filter _, hmem, ?_⟩, hne5⟩
              · rw [List.getElem?_append_right (by omega), fl, Nat.sub_self]; rfl
              · have := List.length_filter_le (fits sgs (hour + (i : Int) + 1)) M
                rw [Nat.pow_succ]
                omega
        · refine qx (i + 1) d fs H5 ⟨by omega, fun t ht => ?_, fun k hk => ?_⟩ ((sm'.trans s4).trans s5) hd ?_
          · have := (hmem t).mpr ht
            rw [he5] at this
            exact absurd this (by simp)
          · obtain ⟨L', e', ok', ne'⟩ := fw k (by omega)
            obtain ⟨t, ht⟩ := List.exists_mem_of_ne_nil _ ne'
            exact ⟨t, (ok'.mem t).mp ht⟩
          · rw [e1]; exact hf
      · rintro σ' H' ⟨sm, vs, F, _, rfl, hl, hpr, fl, fw⟩
        obtain ⟨Ln, eLn, okLn, neLn⟩ := fw n (Nat.le_refl _)
        obtain ⟨tn, htn⟩ := List.exists_mem_of_ne_nil _ neLn
        obtain ⟨fl0, FL, _⟩ := reach_flt ((okLn.mem tn).mp htn)
        have lvs : vs.length = n + 1 := by rw [paired_len hpr, fl]
        walk_at "w"
        refine w_forRev ?_ (fun Q Q' hQ ⟨v, e, p, ys, e1, e2, i, j, e3, e4, q⟩ => ⟨v, e, p, ys, e1, e2, i, j, e3, e4, hQ _ _ q⟩)
        walk_at "w"
        refine ⟨l, vs, rfl, .inl (.inl (.inl hl)), ?_⟩
        walk_at "w"
        have en : ((vs.length : Nat) : Int) - 1 = (n : Int) := by omega
        rw [en]
        refine ⟨(n : Int), rfl, by omega, by omega, ?_⟩
        rw [Int.toNat_natCast]
        refine fori_C (fun i σ' H' => Same H (rem H' l) ∧ ∃ vs R y6, σ' = [some (V.ref a), some (V.int hour), some (V.ref b), some (V.int (hour + (n : Int))), some (V.ref p), some (V.ref l), y6] ∧ H' l = some (.lst vs) ∧ Paired (RowP H (rem H' l)) vs R ∧ BwOk (nxP sky hour) (fitP sgs hour) st n i R)
          ⟨sm, vs, F, _, rfl, hl, hpr, fl, fun k hk => ?_⟩ ?_ ?_
        · obtain ⟨L', e', ok', ne'⟩ := fw k hk
          refine ⟨L', e', ok'.srt, fun t => ?_, Nat.le_trans ok'.len (pow3 (by omega))⟩
          rw [ok'.mem]
          by_cases hkn : n ≤ k + 0
          · have ek : k = n := by omega
            subst ek
            exact ⟨fun h => ⟨fun _ => live_last.mpr h, fun z => absurd hkn z⟩, fun h => live_last.mp (h.1 hkn)⟩
          · exact ⟨fun h => ⟨fun z => absurd z hkn, fun _ => h⟩, fun h => h.2 hkn⟩
        · rintro i σ2 H2' hi ⟨sm2, vs2, R, _, rfl, hl2, hpr2, rl, bw⟩
          have sm2' : Same H H2' := sm2.trans rem_same
          obtain ⟨k, ek⟩ : ∃ k : Nat, k + i + 1 = n := ⟨n - 1 - i, by omega⟩
          have ei : (n : Int) - 1 + (i : Int) * -1 = (k : Int) := by omega
          rw [ei]
          obtain ⟨L, eL, okL⟩ := bw k (by omega)
          obtain ⟨M, eM, okM⟩ := bw (k + 1) (by omega)
          obtain ⟨v1, ev1, q1, rfl, nq1, hq1⟩ := paired_at' hpr2 eL
          obtain ⟨v2, ev2, q2, rfl, nq2, hq2⟩ := paired_at' hpr2 eM
          have lvs2 : vs2.length = n + 1 := by rw [paired_len hpr2, rl]
          walk_at "w"
          refine w_ixL hl2 (atI_nat ev1) ?_
          walk_at "w"
          refine w_ixL hl2 (atI_nat (j := k + 1) ev2) ?_
          walk_at "w"
          have lL := okL.len
          have lM := okM.len
          refine ⟨a, q1, q2, sky, hour + (k : Int), L, M, rfl, hs.up sm2', hq1.up rem_same, hq2.up rem_same, by omega, by omega, fun H4 r4 s4 n4 h4 => ?_⟩
          have hl4 := s4 _ _ hl2
          have hne' : r4 ≠ l := fun z => by
            rw [z, hl2] at n4
            cases n4
          show tVar 5 _ _ _
          walk_at "w"
          refine ⟨l, vs2, (k : Int), k, rfl, rfl, hl4, ixN_nat (by omega), ?_⟩
          refine ⟨?_, vs2.set k (.ref r4), R.set k (L.filter (goesB sky (hour + (k : Int)) M)), _, rfl, upd_same, ?_, ?_, fun k' hk' => ?_⟩
          · rw [rem_upd]
            exact sm2.trans (same_rem s4)
          · rw [rem_upd]
            exact paired_set k (rowps_up (same_rem s4) hpr2) ⟨r4, rfl, sm2'.free n4, h4.rem hl4 hne'⟩
          · rw [List.length_set, rl]
          · by_cases ekk : k' = k
            · subst ekk
              refine ⟨_, List.getElem?_set_self (by omega), okL.srt.filter _, fun t => ?_, Nat.le_trans (List.length_filter_le _ _) lL⟩
              have hlive : Live (nxP sky hour) (fitP sgs hour) st n k' t ↔ t ∈ L.filter (goesB sky (hour + (k' : Int)) M) := by
                rw [live_back (by omega), List.mem_filter, okL.mem]
                have hg : goesB sky (hour + (k' : Int)) M t = true ↔ ∃ u, nxP sky hour k' t u ∧ Live (nxP sky hour) (fitP sgs hour) st n (k' + 1) u := by
                  unfold goesB nxP nexts
                  rw [List.any_eq_true]
                  constructor
                  · rintro ⟨o, ho, hd⟩
                    have hm := of_decide_eq_true hd
                    exact ⟨_, List.mem_map.mpr ⟨o, ho, rfl⟩, ((okM.mem _).mp hm).1 (by omega)⟩
                  · rintro ⟨u, hu, hv⟩
                    obtain ⟨o, ho, rfl⟩ := List.mem_map.mp hu
                    exact ⟨o, ho, decide_eq_true ((okM.mem _).mpr ⟨fun _ => hv, fun z => absurd (by omega) z⟩)⟩
                rw [hg]
                constructor
                · rintro ⟨h1, h2⟩
                  exact ⟨⟨fun z => absurd z (by omega), fun _ => h1⟩, h2⟩
                · rintro ⟨h1, h2⟩
                  exact ⟨h1.2 (by omega), h2⟩
              rw [← hlive]
              exact ⟨fun h => ⟨fun _ => h, fun z => absurd (by omega) z⟩, fun h => h.1 (by omega)⟩
            · obtain ⟨L', e', ok'⟩ := bw k' hk'
              refine ⟨L', by rw [List.getElem?_set_ne (Ne.symm ekk)]; exact e', ok'.srt, fun t => ?_, ok'.len⟩
              rw [ok'.mem]
              constructor
              · rintro ⟨h1, h2⟩
                exact ⟨fun z => h1 (by omega), fun z => h2 (by omega)⟩
              · rintro ⟨h1, h2⟩
                exact ⟨fun z => h1 (by omega), fun z => h2 (by omega)⟩
        · rintro σ2 H2' ⟨sm2, vs2, R, _, rfl, hl2, hpr2, rl, bw⟩
          walk_at "w"
          refine q R H2' l (sm2.trans rem_same) nl ⟨vs2, hl2, rowps_up rem_same hpr2⟩ ⟨rl, fun k hk => ?_, ⟨fl0, FL⟩⟩ fun L hL => ?_
          · obtain ⟨L', e', ok'⟩ := bw k hk
            refine ⟨L', e', ok'.srt, fun t => ?_⟩
            rw [ok'.mem]
            exact ⟨fun h => h.1 (by omega), fun h => ⟨fun _ => h, fun z => absurd (by omega) z⟩⟩
          · obtain ⟨k, hk⟩ := List.mem_iff_getElem?.mp hL
            have hkl : k < R.length := (List.getElem?_eq_some_iff.mp hk).1
            obtain ⟨L', e', ok'⟩ := bw k (by omega)
            rw [hk] at e'
            cases e'
            exact ok'.len
    · have hfit : ¬ fits sgs hour st = true := fun e => by
        rw [List.filter_cons, if_pos e] at he
        cases he
      refine qx 0 d fs H2 ⟨Nat.zero_le _, fun t ht => ?_, fun i hi => absurd hi (Nat.not_lt_zero i)⟩ (s1.trans s2) hd (by rw [hz0]; exact hf)
      obtain ⟨e, hf2⟩ := ht
      subst e
      have hf3 : fits sgs (hour + ((0 : Nat) : Int)) t = true := hf2
      rw [hz0] at hf3
      exact hfit hf3
end
end Bal
namespace Bal
/-- few hills, winds and shuttings -/
def SkyLen (sky : Sky) : Prop := sky.hills.length ≤ 100 ∧ sky.winds.length ≤ 100 ∧ sky.shuts.length ≤ 100
/-- at r: a list of these m numbers, each 0 to 999 -/
structure NumsAt (H : Hp) (r : Addr) (xs : List Int) (m : Nat) : Prop where
  at_ : H r = some (.lst (xs.map V.int))
  len : xs.length = m
  rng : ∀ x, x ∈ xs → 0 ≤ x ∧ x < 1000
theorem NumsAt.up {H H' : Hp} {r : Addr} {xs : List Int} {m : Nat} (s : Same H H') (h : NumsAt H r xs m) : NumsAt H' r xs m := ⟨s _ _ h.at_, h.len, h.rng⟩
section
variable {K : PySem.W.Frag} {σ : L2.St} {H : Hp} {Q : VK} {r : Addr} {xs : List Int} {m : Nat}
theorem map_at {xs : List Int} {j : Nat} (h : j < xs.length) : (xs.map V.int)[j]? = some (.int (xs.getD j 0)) := by
  rw [List.getElem?_map, List.getElem?_eq_getElem h, List.getD_eq_getElem?_getD, List.getElem?_eq_getElem h]; rfl
theorem getD_mem' {xs : List Int} {j : Nat} (h : j < xs.length) : xs.getD j 0 ∈ xs := by
  rw [List.getD_eq_getElem?_getD, List.getElem?_eq_getElem h]
  exact List.getElem_mem h
/-- xs[i], the very number -/
theorem w_numD {i : Int} (h : NumsAt H r xs m) (hi : 0 ≤ i ∧ i < (m : Int)) (k : 0 ≤ xs.getD i.toNat 0 → xs.getD i.toNat 0 < 1000 → Q (.int (xs.getD i.toNat 0)) H) : rIxL K (.ref r) (.int i) H Q := by
  have hl := h.len
  have hj : i.toNat < xs.length := by omega
  have b := h.rng _ (getD_mem' hj)
  refine ⟨r, xs.map V.int, i, .int (xs.getD i.toNat 0), rfl, rfl, .inl (.inl h.at_), ?_, k b.1 b.2⟩
  have e := atI_nat (map_at hj)
  rw [show ((i.toNat : Nat) : Int) = i by omega] at e
  exact e
/-- xs[i], some number -/
theorem w_num {i : Int} (h : NumsAt H r xs m) (hi : 0 ≤ i ∧ i < (m : Int)) (k : ∀ x : Int, 0 ≤ x → x < 1000 → Q (.int x) H) : rIxL K (.ref r) (.int i) H Q := w_numD h hi fun h1 h2 => k _ h1 h2
theorem w_slice {rr : V → Option Int → Option Int → Hp → VK → Prop} {te : TE} {tl th : TO} (h : te σ H fun x H1 => tl σ H1 fun lo H2 => th σ H2 fun hi H3 => rr x lo hi H3 Q) : tSl rr te tl th σ H Q := h
def PartK (R : Option Int → Hp → Prop) (x : V) (H : Hp) : Prop := ∃ i, x = .int i ∧ R (some i) H
theorem w_part {R : Option Int → Hp → Prop} {te : TE} (h : te σ H fun x H1 => PartK R x H1) : tPart te σ H R := h
theorem w_nopart {R : Option Int → Hp → Prop} (h : R none H) : tNoPart σ H R := h
theorem w_some {i : Int} {R : Option Int → Hp → Prop} (h : R (some i) H) : PartK R (.int i) H := ⟨i, rfl, h⟩
theorem sIx_int {n d : Nat} {a : Int} (h : 0 ≤ a) (h2 : a ≤ (n : Int)) : HT.sIx n d (some a) = a.toNat := by
  obtain ⟨k, rfl⟩ : ∃ k : Nat, a = (k : Int) := ⟨a.toNat, by omega⟩
  rw [HT.sIx_nat, Int.toNat_natCast]
  omega
theorem cut_int {xs : List V} {a b : Int} (h : 0 ≤ a) (hab : a ≤ b) (hb : b ≤ (xs.length : Int)) : cutV xs (some a) (some b) = (xs.drop a.toNat).take (b.toNat - a.toNat) := by
  unfold cutV
  rw [sIx_int h (by omega), sIx_int (by omega) hb]
theorem nums_cut {a b : Int} (h : NumsAt H r xs m) {p : Addr} {H2 : Hp} (hp : H2 p = some (.lst (((xs.map V.int).drop a.toNat).take (b.toNat - a.toNat)))) (h0 : 0 ≤ a) (hab : a ≤ b) (hb : b ≤ (m : Int)) :
    NumsAt H2 p ((xs.drop a.toNat).take (b.toNat - a.toNat)) (b - a).toNat := by
  refine ⟨by rw [hp, ← List.map_drop, ← List.map_take], ?_, fun x hx => h.rng x (List.mem_of_mem_drop (List.mem_of_mem_take hx))⟩
  rw [List.length_take, List.length_drop, h.len]
  omega
/-- xs[a:b] -/
theorem w_slN {a b : Int} (h : NumsAt H r xs m) (hab : 0 ≤ a ∧ a ≤ b ∧ b ≤ (m : Int)) (k : ∀ (p : Addr) (H2 : Hp) (ys : List Int), Same H H2 → H p = none → NumsAt H2 p ys (b - a).toNat → Q (.ref p) H2) : rSlL K (.ref r) (some a) (some b) H Q := by
  refine ⟨r, xs.map V.int, rfl, .inl (.inl h.at_), fun p hp => ?_⟩
  refine k p _ ((xs.drop a.toNat).take (b.toNat - a.toNat)) (same_new hp) hp (nums_cut (a := a) (b := b) h ?_ hab.1 hab.2.1 hab.2.2)
  rw [upd_same, cut_int hab.1 hab.2.1 (by rw [List.length_map, h.len]; exact hab.2.2)]
/-- xs[:b] -/
theorem w_slN0 {b : Int} (h : NumsAt H r xs m) (hb : 0 ≤ b ∧ b ≤ (m : Int)) (k : ∀ (p : Addr) (H2 : Hp) (ys : List Int), Same H H2 → H p = none → NumsAt H2 p ys b.toNat → Q (.ref p) H2) : rSlL K (.ref r) none (some b) H Q := by
  refine ⟨r, xs.map V.int, rfl, .inl (.inl h.at_), fun p hp => ?_⟩
  have e : cutV (xs.map V.int) none (some b) = cutV (xs.map V.int) (some 0) (some b) := by
    unfold cutV
    rw [show HT.sIx (xs.map V.int).length 0 (some 0) = 0 from by rw [show (0 : Int) = ((0 : Nat) : Int) from rfl, HT.sIx_nat]; simp, HT.sIx_none]
  rw [e]
  have q := nums_cut (a := 0) (b := b) (p := p) (H2 := upd H p (.lst (cutV (xs.map V.int) (some 0) (some b)))) h (by rw [upd_same, cut_int (by omega) hb.1 (by rw [List.length_map, h.len]; exact hb.2)]) (by omega) hb.1 hb.2
  rw [Int.sub_zero] at q
  exact k p _ _ (same_new hp) hp q
/-- [a, b][i] of two ints -/
theorem w_ix2I {p : Addr} {a b i : Int} (h : H p = some (.lst [.int a, .int b])) (hi : 0 ≤ i ∧ i < 2) (k : ∀ z : Int, z = a ∨ z = b → Q (.int z) H) : rIxL K (.ref p) (.int i) H Q := by
  have c : i = 0 ∨ i = 1 := by omega
  rcases c with rfl | rfl
  · exact ⟨p, _, 0, .int a, rfl, rfl, .inl (.inl h), rfl, k a (.inl rfl)⟩
  · exact ⟨p, _, 1, .int b, rfl, rfl, .inl (.inl h), rfl, k b (.inr rfl)⟩
/-- tuple + tuple, list + list -/
theorem w_catT {a b : Addr} {xs ys : List V} (ha : H a = some (.tup xs)) (hb : H b = some (.tup ys)) (hx : xs ≠ []) (hy : ys ≠ []) (hl : xs.length + ys.length ≤ 1000)
    (k : ∀ (p : Addr) (H2 : Hp), Same H H2 → H p = none → H2 p = some (.tup (xs ++ ys)) → Q (.ref p) H2) : rCatA K (.ref a) (.ref b) H Q :=
  ⟨a, b, xs, ys, rfl, rfl, .inl (.inl ha), .inl (.inl hb), by rw [sizeLine_eq]; omega, fun e => absurd e hx, fun _ e => absurd e hy, fun _ _ p hp => k p _ (same_new hp) hp upd_same⟩
theorem w_catL {a b : Addr} {xs ys : List V} (ha : H a = some (.lst xs)) (hb : H b = some (.lst ys)) (hl : xs.length + ys.length ≤ 1000000)
    (k : ∀ (p : Addr) (H2 : Hp), Same H H2 → H p = none → H2 p = some (.lst (xs ++ ys)) → Q (.ref p) H2) : rCat (.ref a) (.ref b) H Q :=
  ⟨a, b, xs, ys, rfl, rfl, ha, hb, by rw [sizeLine_eq]; omega, fun p hp => k p _ (same_new hp) hp upd_same⟩
/-- t[lo:hi], a proper part -/
theorem w_slT {a : Addr} {xs : List V} {lo hi : Option Int} (n : Nat) (ha : H a = some (.tup xs)) (hn : xs.length = n) (hw : ¬ (HT.sIx n 0 lo = 0 ∧ HT.sIx n n hi = n))
    (k : ∀ (p : Addr) (H2 : Hp), Same H H2 → H p = none → H2 p = some (.tup (cutV xs lo hi)) → Q (.ref p) H2) : rSlT K (.ref a) lo hi H Q :=
  ⟨a, xs, rfl, .inl (.inl ha), by rw [hn]; exact hw, fun p hp => k p _ (same_new hp) hp upd_same⟩
theorem w_slL {a : Addr} {xs : List V} {lo hi : Option Int} (ha : H a = some (.lst xs))
    (k : ∀ (p : Addr) (H2 : Hp), Same H H2 → H p = none → H2 p = some (.lst (cutV xs lo hi)) → Q (.ref p) H2) : rSlL K (.ref a) lo hi H Q :=
  ⟨a, xs, rfl, .inl (.inl ha), fun p hp => k p _ (same_new hp) hp upd_same⟩
end
/-- a list of tuples grows by one -/
theorem ListOf.put {α : Type} {enc : α → List V} {H : Hp} {l : Addr} {xs : List α} (h : ListOf enc H l xs) : ∃ vs, H l = some (.lst vs) ∧ vs.length = xs.length ∧
    ∀ (H2 : Hp) (t : Addr) (x : α), Same H H2 → H2 t = some (.tup (enc x)) → ListOf enc (L2.upd H2 l (.lst (vs ++ [.ref t]))) l (xs ++ [x]) := by
  obtain ⟨vs, hv, hp⟩ := h
  refine ⟨vs, hv, paired_len hp, fun H2 t x s ht => ⟨_, upd_same, ?_⟩⟩
  have hl := s _ _ hv
  exact paired_snoc (paired_upd hl (paired_up s hp)) (TupOf.upd ⟨t, rfl, ht⟩ hl)
end Bal
local macro_rules | `(tactic| walk_at "na") => `(tactic| first | assumption | (refine Bal.NumsAt.up (by assumption) ?_; walk_at "na"))
local macro_rules | `(tactic| walk_at "cnd") => `(tactic| first | (show (0 : Int) < _; omega) | exact Or.inl ⟨by omega, by omega⟩ | exact Or.inr ⟨by omega, by omega⟩ | exact ⟨by omega, by omega⟩ | exact ⟨by omega, by omega, by omega⟩)
local macro_rules | `(tactic| walk_at "n1") => `(tactic| first
  | walk_at "w1"
  | ((with_reducible refine Bal.w_rI ?e1 ?_); (case e1 => walk_at "cnd"))
  | ((with_reducible refine Bal.w_num (xs := ?v1) (m := ?v2) ?e1 ?e2 ?_); (case e1 => walk_at "na"); (case e2 => exact ⟨by omega, by omega⟩); intro _ _ _)
  | with_reducible refine Bal.w_slice ?_ | with_reducible refine Bal.w_part ?_ | with_reducible refine Bal.w_nopart ?_ | with_reducible refine Bal.w_some ?_)
local macro_rules | `(tactic| walk_at "n") => `(tactic| repeat walk_at "n1")
namespace Bal
abbrev s__law_base : Stmt := topS 31
abbrev nm__law_base : List Str := ["_law_d"]
theorem sc__law_base : FnScope nm__law_base ["_law_d"] (defScope s__law_base) := ⟨rfl, rfl, rfl, by decide +kernel, rfl, by decide +kernel, by decide +kernel⟩
-- slots: 0:_law_d
abbrev s__law_box : Stmt := topS 32
abbrev nm__law_box : List Str := ["_law_d", "_law_base_here", "_law_x", "_law_y", "_law_low"]
theorem sc__law_box : FnScope nm__law_box ["_law_d", "_law_base_here"] (defScope s__law_box) := ⟨rfl, rfl, rfl, by decide +kernel, rfl, by decide +kernel, by decide +kernel⟩
-- slots: 0:_law_d 1:_law_base_here 2:_law_x 3:_law_y 4:_law_low
abbrev s__law_state : Stmt := topS 34
abbrev nm__law_state : List Str := ["_law_d", "_law_base_here", "_law_most", "_law_x", "_law_y"]
theorem sc__law_state : FnScope nm__law_state ["_law_d", "_law_base_here", "_law_most"] (defScope s__law_state) := ⟨rfl, rfl, rfl, by decide +kernel, rfl, by decide +kernel, by decide +kernel⟩
-- slots: 0:_law_d 1:_law_base_here 2:_law_most 3:_law_x 4:_law_y
/-- _law_base(d) -/
def sp_base : Sp := fun vs H Q _ => ∃ (r : Addr) (xs : List Int), vs = [.ref r] ∧ NumsAt H r xs 3 ∧ ∀ H' p x y, Same H H' → H' p = some (.tup [.int x, .int y]) → Q (.ref p) H'
/-- _law_box(d, base): six ints -/
def sp_box : Sp := fun vs H Q _ => ∃ (r b : Addr) (xs : List Int) (m : Nat) (x y : Int), vs = [.ref r, .ref b] ∧ NumsAt H r xs m ∧ 6 ≤ m ∧ H b = some (.tup [.int x, .int y]) ∧
  ∀ H' p (x1 y1 x2 y2 low high : Int), Same H H' → H' p = some (.tup [.int x1, .int y1, .int x2, .int y2, .int low, .int high]) → Q (.ref p) H'
/-- _law_state(d, base, most): the height isn't below 0 -/
def sp_state : Sp := fun vs H Q _ => ∃ (r b : Addr) (xs : List Int) (x y : Int), vs = [.ref r, .ref b, .int 6] ∧ NumsAt H r xs 6 ∧ H b = some (.tup [.int x, .int y]) ∧
  ∀ H' p (t : S5), Same H H' → H' p = some (.tup t.v) → 0 ≤ t.z → Q (.ref p) H'
section
variable {P : Program} {w : World} {K : PySem.W.Frag} {mg : Str → Option Value} {base : Heap}
theorem cl_base (D : Df K mg "_law_base" s__law_base) (T : Txt K mg) : Cl P w K mg base 1 "_law_base" sp_base := by
  refine Cl.of D sc__law_base (fun _ _ _ _ _ _ us hl => match us, hl with | [_], _ => rfl) (fun vs H Q E h => ?_) (fun f cdv A outer s H vs Q E hr h => ?_)
  · obtain ⟨_, _, rfl, _⟩ := h
    rfl
  · obtain ⟨r, xs, rfl, hx, q⟩ := h
    have nd := sc__law_base.nd
    refine ⟨_, (pss_cons (ps_if (pt_cmpR op_eq (pe_op op_mod (pe_ix ix_list (pv 0) pe_int (fun _ _ => rfl)) pe_int) pe_int (nomark _)) (pss_one (ps_ret (pe_tup (pa_cons (pe_op op_sub (pe_ix ix_list (pv 0) pe_int (fun _ _ => rfl)) pe_int) (pa_cons (pe_op op_sub (pe_ix ix_list (pv 0) pe_int (fun _ _ => rfl)) pe_int) pa_nil))))) pss_nil)
      (pss_cons (ps_if (pt_cmpR op_eq (pe_op op_mod (pe_ix ix_list (pv 0) pe_int (fun _ _ => rfl)) pe_int) pe_int (nomark _)) (pss_one (ps_ret (pe_tup (pa_cons (pe_op op_mul (pe_op op_sub (pe_op op_mod (pe_ix ix_list (pv 0) pe_int (fun _ _ => rfl)) pe_int) pe_int) pe_int) (pa_cons (pe_op op_mul (pe_op op_sub (pe_op op_mod (pe_ix ix_list (pv 0) pe_int (fun _ _ => rfl)) pe_int) pe_int) pe_int) pa_nil))))) pss_nil)
      (pss_one (ps_ret (pe_tup (pa_cons pe_int (pa_cons pe_int pa_nil))))))), ?_⟩
    rw [show L2.start nm__law_base [V.ref r] = [some (V.ref r)] from rfl]
    walk_at "n"
    refine w_ite (fun _ => ?_) (fun _ => ?_)
    · walk_at "n"
      exact w_mkT (by simp) fun p H2 s2 n2 h2 => q H2 p _ _ s2 h2
    · walk_at "n"
      refine w_ite (fun _ => ?_) (fun _ => ?_)
      · walk_at "n"
        exact w_mkT (by simp) fun p H2 s2 n2 h2 => q H2 p _ _ s2 h2
      · walk_at "n"
        exact w_mkT (by simp) fun p H2 s2 n2 h2 => q H2 p _ _ s2 h2
theorem cl_box (D : Df K mg "_law_box" s__law_box) (T : Txt K mg) : Cl P w K mg base 1 "_law_box" sp_box := by
  refine Cl.of D sc__law_box (fun _ _ _ _ _ _ us hl => match us, hl with | [_, _], _ => rfl) (fun vs H Q E h => ?_) (fun f cdv A outer s H vs Q E hr h => ?_)
  · obtain ⟨_, _, _, _, _, _, rfl, _⟩ := h
    rfl
  · obtain ⟨r, b, xs, m, x, y, rfl, hx, hm, hb, q⟩ := h
    have nd := sc__law_box.nd
    refine ⟨_, (pss_cons (ps_set (i := 2) nd rfl (.inl rfl) (pe_op op_sub (pe_op op_add (pe_ix ix_tup (pv 1) pe_int (fun _ _ => rfl)) (pe_op op_mod (pe_ix ix_list (pv 0) pe_int (fun _ _ => rfl)) pe_int)) pe_int))
      (pss_cons (ps_set (i := 3) nd rfl (.inl rfl) (pe_op op_sub (pe_op op_add (pe_ix ix_tup (pv 1) pe_int (fun _ _ => rfl)) (pe_op op_mod (pe_ix ix_list (pv 0) pe_int (fun _ _ => rfl)) pe_int)) pe_int))
      (pss_cons (ps_set (i := 4) nd rfl (.inl rfl) (pe_op op_mod (pe_ix ix_list (pv 0) pe_int (fun _ _ => rfl)) pe_int))
      (pss_one (ps_ret (pe_tup (pa_cons (pv 2) (pa_cons (pv 3) (pa_cons (pe_op op_add (pv 2) (pe_op op_mod (pe_ix ix_list (pv 0) pe_int (fun _ _ => rfl)) pe_int)) (pa_cons (pe_op op_add (pv 3) (pe_op op_mod (pe_ix ix_list (pv 0) pe_int (fun _ _ => rfl)) pe_int)) (pa_cons (pv 4) (pa_cons (pe_op op_add (pv 4) (pe_op op_mod (pe_ix ix_list (pv 0) pe_int (fun _ _ => rfl)) (pe_op op_sub pe_int (pv 4)))) pa_nil)))))))))))), ?_⟩
    rw [show L2.start nm__law_box [V.ref r, V.ref b] = [some (V.ref r), some (V.ref b), none, none, none] from rfl]
    walk_at "n"
    exact w_mkT (by simp) fun p H2 s2 n2 h2 => q H2 p _ _ _ _ _ _ s2 h2
theorem cl_state (D : Df K mg "_law_state" s__law_state) (T : Txt K mg) : Cl P w K mg base 1 "_law_state" sp_state := by
  refine Cl.of D sc__law_state (fun _ _ _ _ _ _ us hl => match us, hl with | [_, _, _], _ => rfl) (fun vs H Q E h => ?_) (fun f cdv A outer s H vs Q E hr h => ?_)
  · obtain ⟨_, _, _, _, _, rfl, _⟩ := h
    rfl
  · obtain ⟨r, b, xs, x, y, rfl, hx, hb, q⟩ := h
    have nd := sc__law_state.nd
    refine ⟨_, (pss_cons (ps_set (i := 3) nd rfl (.inl rfl) (pe_op op_sub (pe_op op_add (pe_ix ix_tup (pv 1) pe_int (fun _ _ => rfl)) (pe_op op_mod (pe_ix ix_list (pv 0) pe_int (fun _ _ => rfl)) pe_int)) pe_int))
      (pss_cons (ps_set (i := 4) nd rfl (.inl rfl) (pe_op op_sub (pe_op op_add (pe_ix ix_tup (pv 1) pe_int (fun _ _ => rfl)) (pe_op op_mod (pe_ix ix_list (pv 0) pe_int (fun _ _ => rfl)) pe_int)) pe_int))
      (pss_one (ps_ret (pe_tup (pa_cons (pv 3) (pa_cons (pv 4) (pa_cons (pe_op op_mod (pe_ix ix_list (pv 0) pe_int (fun _ _ => rfl)) pe_int) (pa_cons (pe_op op_mod (pe_ix ix_list (pv 0) pe_int (fun _ _ => rfl)) (pe_op op_add (pv 2) pe_int)) (pa_cons (pe_op op_mod (pe_ix ix_list (pv 0) pe_int (fun _ _ => rfl)) (pe_op op_add (pv 2) pe_int)) pa_nil)))))))))), ?_⟩
    rw [show L2.start nm__law_state [V.ref r, V.ref b, V.int 6] = [some (V.ref r), some (V.ref b), some (V.int 6), none, none] from rfl]
    walk_at "n"
    exact w_mkT (by simp) fun p H2 s2 n2 h2 => q H2 p ⟨_, _, _, _, _⟩ s2 h2 (by show (0 : Int) ≤ _ % 6; omega)
end
end Bal
namespace Bal
abbrev s__law_numbers : Stmt := topS 29
abbrev nm__law_numbers : List Str := ["_law_script", "_law_many", "_law_row", "_law_seed", "_law_cell", "_law_rest", "_law_k"]
theorem sc__law_numbers : FnScope nm__law_numbers ["_law_script", "_law_many"] (defScope s__law_numbers) := ⟨rfl, rfl, rfl, by decide +kernel, rfl, by decide +kernel, by decide +kernel⟩
-- slots: 0:_law_script 1:_law_many 2:_law_row 3:_law_seed 4:_law_cell 5:_law_rest 6:_law_k
theorem w_cut {t u : TS} {D : Ends} {σ : L2.St} {H : Hp} (M : L2.St → Hp → Prop) (h1 : t { D with nx := M } σ H) (h2 : ∀ σ' H', M σ' H' → u D σ' H') : Evl.tCut t u D σ H := ⟨M, h1, h2⟩
/-- _law_numbers(script, 230) -/
def sp_numbers (K : PySem.W.Frag) : Sp := fun vs H Q _ => ∃ (a : Addr) (ns : List Int), vs = [.ref a, .int 230] ∧ SqL K H a (ns.map V.int) ∧ ns.length ≤ 63 ∧ ∀ H' r xs, Same H H' → H r = none → NumsAt H' r xs 230 → Q (.ref r) H'
theorem cutV_ints (ns : List Int) (lo hi : Option Int) : ∃ ms : List Int, cutV (ns.map V.int) lo hi = ms.map V.int ∧ ms.length ≤ ns.length := by
  unfold cutV
  refine ⟨(ns.drop (HT.sIx (ns.map V.int).length 0 lo)).take (HT.sIx (ns.map V.int).length (ns.map V.int).length hi - HT.sIx (ns.map V.int).length 0 lo), by rw [List.map_take, List.map_drop], ?_⟩
  rw [List.length_take, List.length_drop]
  omega
/-- the row as it grows -/
structure RowN (H : Hp) (l : Addr) (xs : List Int) : Prop where
  at_ : H l = some (.lst (xs.map V.int))
  rng : ∀ x, x ∈ xs → 0 ≤ x ∧ x < 1000
theorem RowN.put {H H' : Hp} {l : Addr} {xs : List Int} {x : Int} (h : RowN H l xs) (h0 : 0 ≤ x) (h1 : x < 1000) : RowN (upd H' l (.lst (xs.map V.int ++ [.int x]))) l (xs ++ [x]) := by
  refine ⟨by rw [upd_same, List.map_append]; rfl, fun y hy => ?_⟩
  rcases List.mem_append.mp hy with hy | hy
  · exact h.rng y hy
  · rw [List.mem_singleton] at hy
    rw [hy]; exact ⟨h0, h1⟩
section
variable {P : Program} {w : World} {K : PySem.W.Frag} {mg : Str → Option Value} {base : Heap}
theorem cl_numbers (D : Df K mg "_law_numbers" s__law_numbers) (T : Txt K mg) : Cl P w K mg base 1 "_law_numbers" (sp_numbers K) := by
  refine Cl.of D sc__law_numbers (fun _ _ _ _ _ _ us hl => match us, hl with | [_, _], _ => rfl) (fun vs H Q E h => ?_) (fun f cdv A outer s H vs Q E hr h => ?_)
  · obtain ⟨_, _, rfl, _⟩ := h
    rfl
  · obtain ⟨a, ns, rfl, hS, hn, q⟩ := h
    have nd := sc__law_numbers.nd
    refine ⟨_, (pss_cons (ps_set (i := 2) nd rfl (.inl rfl) (pe_lst pa_nil))
      (pss_cons (ps_set (i := 3) nd rfl (.inl rfl) pe_int)
      (pss_cons (ps_for PassesOwn.never rfl (pi_list (pe_slice sl_list (pv 0) po_none (po_some pe_int))) (pg_name (i := 4) nd rfl (.inl rfl)) (pss_cons (ps_set (i := 3) nd rfl (.inl rfl) (pe_op op_mod (pe_op op_add (pe_op op_add (pe_op op_mul (pv 3) pe_int) (pe_op op_mod (pv 4) pe_int)) pe_int) pe_int))
      (pss_cons (ps_set (i := 5) nd rfl (.inl rfl) (pe_op op_sub (pv 4) (pe_op op_pow pe_int pe_int)))
      (Evl.pss_cut (ps_if (pt_cmpR op_lt (pv 5) pe_int (nomark _)) (pss_one (ps_expr (pe_bm PySem.F.plainAttrs_list PySem.F.slot_list_append PySem.F.type_list_append mt_append (pv 2) (pa_cons (pe_op op_mod (pv 4) pe_int) pa_nil)))) pss_nil)
      (pss_one (ps_for PassesOwn.never rfl (pi_range1 (by rfl) T.b_range (pa_cons pe_int pa_nil)) (pg_name (i := 6) nd rfl (.inl rfl)) (pss_one (ps_if (pt_cmpR op_gt (pv 5) pe_int (nomark _)) (pss_cons (ps_expr (pe_bm PySem.F.plainAttrs_list PySem.F.slot_list_append PySem.F.type_list_append mt_append (pv 2) (pa_cons (pe_op op_mod (pv 5) pe_int) pa_nil)))
      (pss_one (ps_set (i := 5) nd rfl (.inl rfl) (pe_op op_fdiv (pv 5) pe_int)))) pss_nil))))))))
      (pss_cons (ps_for PassesOwn.never rfl (pi_range1 (by rfl) T.b_range (pa_cons (pv 1) pa_nil)) (pg_name (i := 6) nd rfl (.inl rfl)) (pss_one (ps_if (pt_cmpR op_lt (pe_callB call_len_seq (by rfl) T.b_len PySem.boot_len (pa_cons (pv 2) pa_nil)) (pv 1) (nomark _)) (pss_cons (ps_set (i := 3) nd rfl (.inl rfl) (pe_op op_mod (pe_op op_add (pe_op op_add (pe_op op_add (pe_op op_pow (pv 3) pe_int) (pe_op op_mul pe_int (pv 3))) (pe_op op_mul pe_int (pv 6))) pe_int) pe_int))
      (pss_one (ps_expr (pe_bm PySem.F.plainAttrs_list PySem.F.slot_list_append PySem.F.type_list_append mt_append (pv 2) (pa_cons (pe_op op_mod (pe_op op_fdiv (pv 3) pe_int) pe_int) pa_nil))))) pss_nil)))
      (pss_one (ps_ret (pe_slice sl_list (pv 2) po_none (po_some (pv 1))))))))), ?_⟩
    rw [show L2.start nm__law_numbers [V.ref a, V.int 230] = [some (V.ref a), some (V.int 230), none, none, none, none, none] from rfl]
    walk_at "n"
    refine w_mkL (by simp) fun l H1 s1 n1 h1 => ?_
    walk_at "n"
    refine w_forD ?_
    walk_at "n"
    refine ⟨a, ns.map V.int, rfl, s1.seq hS, fun c hc => ?_⟩
    obtain ⟨ms, ems, lms⟩ := cutV_ints ns none (some 63)
    rw [ems]
    have s2 : Same H1 (upd H1 c (.lst (ms.map V.int))) := same_new hc
    have ncl : c ≠ l := fun z => by rw [z, h1] at hc; cases hc
    have h2 := s2 _ _ h1
    refine ⟨c, rfl, ⟨_, .inl (.inl upd_same)⟩, forgo_V (vs := ms.map V.int) (fun r σ' H' => Same H H' ∧ H' c = some (.lst (ms.map V.int)) ∧ ∃ (rs xs : List Int) (seed : Int) (y4 y5 y6 : Option V), r = rs.map V.int ∧
        σ' = [some (.ref a), some (.int 230), some (.ref l), some (.int seed), y4, y5, y6] ∧ RowN H' l xs ∧ xs.length + 61 * rs.length ≤ 3843 ∧ 0 ≤ seed ∧ seed < 2147483629)
      ⟨s1.trans s2, upd_same, ms, [], 29, none, none, none, rfl, rfl, ⟨h2, by simp⟩, by simp; omega, by decide, by decide⟩ (fun r σ' H' z => .inl (.inl z.2.1)) ?_ ?_⟩
    · rintro x r σ' H' ⟨sm, hc', rs, xs, seed, _, _, _, er, rfl, hrow, hln, hs0, hs1⟩
      cases rs with
      | nil => cases er
      | cons z rs =>
        obtain ⟨rfl, er'⟩ := List.cons.inj (show x :: r = V.int z :: rs.map V.int from er)
        walk_at "n"
        have hq0 : 0 ≤ (seed * 69621 + z % 999983 + 7) % 2147483629 := by omega
        have hq1 : (seed * 69621 + z % 999983 + 7) % 2147483629 < 2147483629 := by omega
        generalize (seed * 69621 + z % 999983 + 7) % 2147483629 = seed2 at hq0 hq1 ⊢
        generalize z - 10 ^ (18 : Int).toNat = rest
        rw [List.length_cons] at hln
        refine w_cut (fun σ2 H2 => Same H H2 ∧ H2 c = some (.lst (ms.map V.int)) ∧ ∃ (xs : List Int) (y6 : Option V), σ2 = [some (.ref a), some (.int 230), some (.ref l), some (.int seed2), some (.int z), some (.int rest), y6] ∧ RowN H2 l xs ∧ xs.length + 60 + 61 * rs.length ≤ 3843) ?_ ?_
        · walk_at "n"
          refine w_ite (fun _ => ?_) (fun _ => ?_)
          · walk_at "n"
            refine ⟨.inl ⟨rfl, _, .inl (.inl hrow.at_)⟩, ?_⟩
            walk_at "n"
            refine ⟨l, _, _, rfl, rfl, hrow.at_, by rw [List.length_map, sizeLine_eq]; omega, ?_⟩
            refine ⟨same_mut sm n1, same_upd_ne hc' ncl, _, _, rfl, hrow.put (by omega) (by omega), by rw [List.length_append, List.length_singleton]; omega⟩
          · walk_at "n"
            exact ⟨sm, hc', xs, _, rfl, hrow, by omega⟩
        · rintro σ2 H2 ⟨sm2, hc2, xs2, _, rfl, hrow2, hln2⟩
          refine w_forR1 ?_
          walk_at "n"
          refine ⟨60, rfl, by decide, by decide, ?_⟩
          refine fori_R (n := 60) (fun i σ3 H3 => Same H H3 ∧ H3 c = some (.lst (ms.map V.int)) ∧ ∃ (xs : List Int) (rest : Int) (y6 : Option V), σ3 = [some (.ref a), some (.int 230), some (.ref l), some (.int seed2), some (.int z), some (.int rest), y6] ∧ RowN H3 l xs ∧ xs.length + (60 - i) + 61 * rs.length ≤ 3843 ∧ i ≤ 60)
            ⟨sm2, hc2, xs2, rest, _, rfl, hrow2, by omega, by omega⟩ ?_ ?_
          · rintro i σ3 H3 hi ⟨sm3, hc3, xs3, rest3, _, rfl, hrow3, hln3, hi60⟩
            walk_at "n"
            refine w_ite (fun hpos => ?_) (fun _ => ?_)
            · walk_at "n"
              refine ⟨.inl ⟨rfl, _, .inl (.inl hrow3.at_)⟩, ?_⟩
              walk_at "n"
              refine ⟨l, _, _, rfl, rfl, hrow3.at_, by rw [List.length_map, sizeLine_eq]; omega, ?_⟩
              walk_at "n"
              refine ⟨same_mut sm3 n1, same_upd_ne hc3 ncl, _, _, _, rfl, hrow3.put (by omega) (by omega), by rw [List.length_append, List.length_singleton]; omega, by omega⟩
            · walk_at "n"
              exact ⟨sm3, hc3, xs3, rest3, _, rfl, hrow3, by omega, by omega⟩
          · rintro σ3 H3 ⟨sm3, hc3, xs3, rest3, _, rfl, hrow3, hln3, hi60⟩
            exact ⟨sm3, hc3, rs, xs3, seed2, _, _, _, er', rfl, hrow3, by omega, hq0, hq1⟩
    · rintro σ' H' ⟨sm, hc', rs, xs, seed, _, _, _, er, rfl, hrow, hln, hs0, hs1⟩
      walk_at "n"
      refine w_forR1 ?_
      walk_at "n"
      refine ⟨230, rfl, by decide, by decide, ?_⟩
      refine fori_R (n := 230) (fun i σ3 H3 => Same H H3 ∧ ∃ (xs : List Int) (seed : Int) (y4 y5 y6 : Option V), σ3 = [some (.ref a), some (.int 230), some (.ref l), some (.int seed), y4, y5, y6] ∧ RowN H3 l xs ∧ xs.length ≤ 3843 + i ∧ i ≤ xs.length ∧ 0 ≤ seed ∧ seed < 2147483629)
        ⟨sm, xs, seed, _, _, _, rfl, hrow, by omega, Nat.zero_le _, hs0, hs1⟩ ?_ ?_
      · rintro i σ3 H3 hi ⟨sm3, xs3, seed3, _, _, _, rfl, hrow3, hln3, hi3, hs03, hs13⟩
        walk_at "n"
        refine ⟨l, _, rfl, .inl (.inl (.inl hrow3.at_)), ?_⟩
        walk_at "n"
        rw [List.length_map]
        refine w_ite (fun hpos => ?_) (fun hpos => ?_)
        · walk_at "n"
          generalize hg : (seed3 ^ (3 : Int).toNat + 40692 * seed3 + 7 * (0 + (i : Int)) + 5) % 2147483629 = seed4
          have hq0 : 0 ≤ seed4 := by omega
          have hq1 : seed4 < 2147483629 := by omega
          walk_at "n"
          refine ⟨.inl ⟨rfl, _, .inl (.inl hrow3.at_)⟩, ?_⟩
          walk_at "n"
          refine ⟨l, _, _, rfl, rfl, hrow3.at_, by rw [List.length_map, sizeLine_eq]; omega, ?_⟩
          exact ⟨same_mut sm3 n1, _, _, _, _, _, rfl, hrow3.put (by omega) (by omega), by rw [List.length_append, List.length_singleton]; omega, by rw [List.length_append, List.length_singleton]; omega, hq0, hq1⟩
        · walk_at "n"
          exact ⟨sm3, xs3, seed3, _, _, _, rfl, hrow3, by omega, by omega, hs03, hs13⟩
      · rintro σ3 H3 ⟨sm3, xs3, seed3, _, _, _, rfl, hrow3, hln3, hi3, hs03, hs13⟩
        walk_at "n"
        have hN : NumsAt H3 l xs3 xs3.length := ⟨hrow3.at_, rfl, hrow3.rng⟩
        refine w_slN0 hN ⟨by decide, by omega⟩ fun p H4 ys s4 n4 h4 => ?_
        exact q H4 p ys (sm3.trans s4) (sm3.free n4) h4
end
end Bal
namespace Bal
abbrev s__law_sky : Stmt := topS 33
abbrev nm__law_sky : List Str := ["_law_d", "_law_base_here", "_law_hour", "_law_hills", "_law_j", "_law_cool", "_law_one", "_law_winds", "_law_w", "_law_first", "_law_shuts", "_law_s", "_law_level"]
theorem sc__law_sky : FnScope nm__law_sky ["_law_d", "_law_base_here", "_law_hour"] (defScope s__law_sky) := ⟨rfl, rfl, rfl, by decide +kernel, rfl, by decide +kernel, by decide +kernel⟩
-- slots: 0:_law_d 1:_law_base_here 2:_law_hour 3:_law_hills 4:_law_j 5:_law_cool 6:_law_one 7:_law_winds 8:_law_w 9:_law_first 10:_law_shuts 11:_law_s 12:_law_level
/-- _law_sky(d, base, hour): some sky -/
def sp_sky : Sp := fun vs H Q _ => ∃ (r b : Addr) (xs : List Int) (x y hour : Int), vs = [.ref r, .ref b, .int hour] ∧ NumsAt H r xs 120 ∧ H b = some (.tup [.int x, .int y]) ∧ 0 ≤ hour ∧ hour ≤ 24 ∧
  ∀ H' p sky, Same H H' → SkyAt H' p sky → SkyLen sky → Q (.ref p) H'
section
variable {P : Program} {w : World} {K : PySem.W.Frag} {mg : Str → Option Value} {base : Heap}
theorem cl_sky (D : Df K mg "_law_sky" s__law_sky) (T : Txt K mg) (C__law_box : Cl P w K mg base 1 "_law_box" sp_box) : Cl P w K mg base 2 "_law_sky" sp_sky := by
  refine Cl.of D sc__law_sky (fun _ _ _ _ _ _ us hl => match us, hl with | [_, _, _], _ => rfl) (fun vs H Q E h => ?_) (fun f cdv A outer s H vs Q E hr h => ?_)
  · obtain ⟨_, _, _, _, _, _, rfl, _⟩ := h
    rfl
  · obtain ⟨r, b, xs, x, y, hour, rfl, hx, hb, h0, h24, q⟩ := h
    have nd := sc__law_sky.nd
    refine ⟨_, (pss_cons (ps_set (i := 3) nd rfl (.inl rfl) (pe_lst pa_nil))
      (pss_cons (ps_for PassesOwn.never rfl (pi_range1 (by rfl) T.b_range (pa_cons (pe_op op_mod (pe_ix ix_list (pv 0) pe_int (fun _ _ => rfl)) pe_int) pa_nil)) (pg_name (i := 4) nd rfl (.inl rfl)) (pss_one (ps_expr (pe_bm PySem.F.plainAttrs_list PySem.F.slot_list_append PySem.F.type_list_append mt_append (pv 3) (pa_cons (pe_tup (pa_cons (pe_op op_sub (pe_op op_add (pe_ix ix_tup (pv 1) pe_int (fun _ _ => rfl)) (pe_op op_mod (pe_ix ix_list (pv 0) (pe_op op_add (pe_op op_mul pe_int (pv 4)) pe_int) (fun _ _ => rfl)) pe_int)) pe_int) (pa_cons (pe_op op_sub (pe_op op_add (pe_ix ix_tup (pv 1) pe_int (fun _ _ => rfl)) (pe_op op_mod (pe_ix ix_list (pv 0) (pe_op op_add (pe_op op_mul pe_int (pv 4)) pe_int) (fun _ _ => rfl)) pe_int)) pe_int) (pa_cons (pe_op op_add pe_int (pe_op op_mod (pe_ix ix_list (pv 0) (pe_op op_add (pe_op op_mul pe_int (pv 4)) pe_int) (fun _ _ => rfl)) pe_int)) pa_nil)))) pa_nil)))))
      (pss_cons (ps_set (i := 5) nd rfl (.inl rfl) (pe_lst pa_nil))
      (pss_cons (ps_for PassesOwn.never rfl (pi_range1 (by rfl) T.b_range (pa_cons (pe_op op_mod (pe_op op_fdiv (pe_ix ix_list (pv 0) pe_int (fun _ _ => rfl)) pe_int) pe_int) pa_nil)) (pg_name (i := 4) nd rfl (.inl rfl)) (pss_cons (ps_set (i := 6) nd rfl (.inl rfl) (pe_ix ix_list (pe_lst (pa_cons (pe_op op_mod (pe_ix ix_list (pv 0) (pe_op op_add pe_int (pv 4)) (fun _ _ => rfl)) pe_int) (pa_cons (pe_op op_mod (pe_op op_add (pv 2) (pe_op op_mod (pe_ix ix_list (pv 0) (pe_op op_add pe_int (pv 4)) (fun _ _ => rfl)) pe_int)) pe_int) pa_nil))) (pe_op op_mod (pe_op op_fdiv (pe_ix ix_list (pv 0) pe_int (fun _ _ => rfl)) pe_int) pe_int) (fun _ _ => rfl)))
      (pss_one (ps_if (pt_cmpR op_notIn_seq (pv 6) (pv 5) (by rfl)) (pss_one (ps_expr (pe_bm PySem.F.plainAttrs_list PySem.F.slot_list_append PySem.F.type_list_append mt_append (pv 5) (pa_cons (pv 6) pa_nil)))) pss_nil))))
      (pss_cons (ps_set (i := 7) nd rfl (.inl rfl) (pe_lst pa_nil))
      (Evl.pss_cut (ps_if (pt_cmpR op_gt (pe_op op_mod (pe_ix ix_list (pv 0) pe_int (fun _ _ => rfl)) pe_int) pe_int (nomark _)) (pss_one (ps_setLc (i := 7) (own := [("_law_level", 12)]) (g := gName 12) (by rfl) nd rfl rfl (sw_true rfl rfl rfl (by decide +kernel)) (pi_range1 (by rfl) T.b_range (pa_cons pe_int pa_nil)) (blkOk_by (N := nm__law_sky) (sc := defScope s__law_sky) (by decide +kernel)) (fun _ _ _ _ _ => (pg_name (i := 12) nd rfl (.inl rfl))) (fun _ _ _ _ _ => pts_nil) (fun _ _ _ _ _ => (pe_tup (pa_cons pe_int (pa_cons (pv 12) (pa_cons (pe_op op_sub (pe_op op_mod (pe_ix (show IxR _ (rIxL K) from ix_list) (pv 0) (pe_op op_add pe_int (pe_op op_mul pe_int (pv 12))) (fun _ _ => rfl)) pe_int) pe_int) (pa_cons (pe_op op_sub (pe_op op_mod (pe_ix (show IxR _ (rIxL K) from ix_list) (pv 0) (pe_op op_add pe_int (pe_op op_mul pe_int (pv 12))) (fun _ _ => rfl)) pe_int) pe_int) pa_nil)))))))) pss_nil)
      (pss_cons (ps_for PassesOwn.never rfl (pi_range1 (by rfl) T.b_range (pa_cons (pe_op op_mod (pe_op op_fdiv (pe_ix ix_list (pv 0) pe_int (fun _ _ => rfl)) pe_int) pe_int) pa_nil)) (pg_name (i := 4) nd rfl (.inl rfl)) (pss_cons (ps_set (i := 8) nd rfl (.inl rfl) (pe_slice sl_list (pv 0) (po_some (pe_op op_add pe_int (pe_op op_mul pe_int (pv 4)))) (po_some (pe_op op_add pe_int (pe_op op_mul pe_int (pv 4))))))
      (pss_cons (ps_set (i := 9) nd rfl (.inl rfl) (pe_ix ix_list (pe_lst (pa_cons (pe_op op_mod (pe_ix ix_list (pv 8) pe_int (fun _ _ => rfl)) pe_int) (pa_cons (pe_op op_mod (pe_op op_add (pv 2) (pe_op op_mod (pe_op op_fdiv (pe_ix ix_list (pv 8) pe_int (fun _ _ => rfl)) pe_int) pe_int)) pe_int) pa_nil))) (pe_op op_mod (pe_op op_fdiv (pe_ix ix_list (pv 8) pe_int (fun _ _ => rfl)) pe_int) pe_int) (fun _ _ => rfl)))
      (pss_one (ps_expr (pe_bm PySem.F.plainAttrs_list PySem.F.slot_list_append PySem.F.type_list_append mt_append (pv 7) (pa_cons (pe_tup (pa_cons (pv 9) (pa_cons (pe_op op_mod (pe_ix ix_list (pv 8) pe_int (fun _ _ => rfl)) pe_int) (pa_cons (pe_op op_sub (pe_op op_mod (pe_ix ix_list (pv 8) pe_int (fun _ _ => rfl)) pe_int) pe_int) (pa_cons (pe_op op_sub (pe_op op_mod (pe_ix ix_list (pv 8) pe_int (fun _ _ => rfl)) pe_int) pe_int) pa_nil))))) pa_nil)))))))
      (pss_cons (ps_set (i := 10) nd rfl (.inl rfl) (pe_lst pa_nil))
      (pss_cons (ps_for PassesOwn.never rfl (pi_range1 (by rfl) T.b_range (pa_cons (pe_op op_mod (pe_ix ix_list (pv 0) pe_int (fun _ _ => rfl)) pe_int) pa_nil)) (pg_name (i := 4) nd rfl (.inl rfl)) (pss_cons (ps_set (i := 11) nd rfl (.inl rfl) (pe_slice sl_list (pv 0) (po_some (pe_op op_add pe_int (pe_op op_mul pe_int (pv 4)))) (po_some (pe_op op_add pe_int (pe_op op_mul pe_int (pv 4))))))
      (pss_cons (ps_set (i := 9) nd rfl (.inl rfl) (pe_ix ix_list (pe_lst (pa_cons (pe_op op_mod (pe_ix ix_list (pv 11) pe_int (fun _ _ => rfl)) pe_int) (pa_cons (pv 2) pa_nil))) (pe_op op_mod (pe_ix ix_list (pv 11) pe_int (fun _ _ => rfl)) pe_int) (fun _ _ => rfl)))
      (pss_one (ps_expr (pe_bm PySem.F.plainAttrs_list PySem.F.slot_list_append PySem.F.type_list_append mt_append (pv 10) (pa_cons (pe_op op_catA (pe_cl C__law_box hr (by decide) (by rfl) (pa_cons (pv 11) (pa_cons (pv 1) pa_nil))) (pe_tup (pa_cons (pv 9) (pa_cons (pe_op op_add (pv 9) (pe_op op_mod (pe_op op_fdiv (pe_ix ix_list (pv 11) pe_int (fun _ _ => rfl)) pe_int) (pe_op op_sub pe_int (pv 9)))) pa_nil)))) pa_nil)))))))
      (pss_one (ps_ret (pe_tup (pa_cons (pv 3) (pa_cons (pv 5) (pa_cons (pv 7) (pa_cons (pv 10) pa_nil)))))))))))))))), ?_⟩
    rw [show L2.start nm__law_sky [V.ref r, V.ref b, V.int hour] = [some (V.ref r), some (V.ref b), some (V.int hour), none, none, none, none, none, none, none, none, none, none] from rfl]
    walk_at "n"
    -- hills
    refine w_mkL (by simp) fun l1 H1 s1 n1 h1 => ?_
    walk_at "n"
    refine w_forR1 ?_
    walk_at "n"
    refine ⟨_, rfl, by omega, by omega, ?_⟩
    refine fori_R (fun i σ' H' => i ≤ 10 ∧ Same H H' ∧ ∃ (y4 : Option V) (hs : List Hill), σ' = [some (.ref r), some (.ref b), some (.int hour), some (.ref l1), y4, none, none, none, none, none, none, none, none] ∧ ListOf Hill.v H' l1 hs ∧ hs.length ≤ i)
      ⟨by omega, s1, none, [], rfl, ⟨_, h1, .nil⟩, by simp⟩ ?_ ?_
    · rintro i σ' H' hi ⟨_, sm, _, hs, rfl, hl, hln⟩
      obtain ⟨vs, hv, lv, put⟩ := hl.put
      walk_at "n"
      refine ⟨.inl ⟨rfl, _, .inl (.inl hv)⟩, ?_⟩
      walk_at "n"
      refine w_mkT (by simp) fun t H2 s2 n2 h2 => ?_
      walk_at "n"
      refine ⟨l1, vs, _, rfl, rfl, s2 _ _ hv, by rw [lv, sizeLine_eq]; omega, ?_⟩
      exact ⟨by omega, same_mut (sm.trans s2) n1, _, hs ++ [⟨_, _, _⟩], rfl, put H2 t ⟨_, _, _⟩ s2 h2, by rw [List.length_append, List.length_singleton]; omega⟩
    rintro σ' H' ⟨_, sm, _, hs, rfl, hl1, hln⟩
    -- cool
    walk_at "n"
    refine w_mkL (by simp) fun l2 H2 s2 n2 h2 => ?_
    walk_at "n"
    refine w_forR1 ?_
    have sm2 := sm.trans s2
    walk_at "n"
    refine ⟨_, rfl, by omega, by omega, ?_⟩
    have nl2 : H l2 = none := sm.free n2
    have hl1' := hl1.up s2
    have ne12 : l1 ≠ l2 := by
      obtain ⟨v, hv, _⟩ := hl1
      exact ne_of_none hv n2
    clear hl1 s1 h1 s2
    refine fori_R (fun i σ' H' => i ≤ 10 ∧ Same H H' ∧ ListOf Hill.v H' l1 hs ∧ ∃ (y4 y6 : Option V) (cs : List Int), σ' = [some (.ref r), some (.ref b), some (.int hour), some (.ref l1), y4, some (.ref l2), y6, none, none, none, none, none, none] ∧ H' l2 = some (.lst (cs.map V.int)) ∧ cs.length ≤ i)
      ⟨by omega, sm2, hl1', _, none, [], rfl, h2, by simp⟩ ?_ ?_
    · rintro i σ' H3 hi ⟨_, sm3, hl1, _, _, cs, rfl, hc, hcl⟩
      walk_at "n"
      refine w_mkL (by simp) fun p H4 s4 n4 h4 => ?_
      walk_at "n"
      refine w_ix2I h4 (by omega) fun z _ => ?_
      walk_at "n"
      have hc4 := s4 _ _ hc
      refine ⟨l2, cs.map V.int, rfl, .inl (.inl (.inl hc4)), rfl, all_flat cs, ?_⟩
      walk_at "n"
      refine w_iteB (fun _ => ?_) (fun _ => ?_)
      · walk_at "n"
        refine ⟨.inl ⟨rfl, _, .inl (.inl hc4)⟩, ?_⟩
        walk_at "n"
        refine ⟨l2, _, _, rfl, rfl, hc4, by rw [List.length_map, sizeLine_eq]; omega, ?_⟩
        refine ⟨by omega, same_mut (sm3.trans s4) nl2, (hl1.up s4).upd hc4 ne12, _, _, cs ++ [z], rfl, ?_, by rw [List.length_append, List.length_singleton]; omega⟩
        rw [upd_same, List.map_append]; rfl
      · walk_at "n"
        exact ⟨by omega, sm3.trans s4, hl1.up s4, _, _, cs, rfl, hc4, by omega⟩
    rintro σ' H3 ⟨_, sm3, hl1, _, _, cs, rfl, hc, hcl⟩
    clear sm sm2 h2 hl1'
    -- winds
    walk_at "n"
    refine w_mkL (by simp) fun l3 H4 s4 n4 h4 => ?_
    have sm4 := sm3.trans s4
    walk_at "n"
    refine w_cut (fun σ' H' => Same H H' ∧ ListOf Hill.v H' l1 hs ∧ H' l2 = some (.lst (cs.map V.int)) ∧ ∃ (l : Addr) (y4 y6 : Option V) (ws : List Wind), σ' = [some (.ref r), some (.ref b), some (.int hour), some (.ref l1), y4, some (.ref l2), y6, some (.ref l), none, none, none, none, none] ∧ H3 l = none ∧ ListOf Wind.v H' l ws ∧ ws.length ≤ 6) ?_ ?_
    · walk_at "n"
      refine w_ite (fun _ => ?_) (fun _ => ?_)
      · walk_at "n"
        refine w_lcR ?_
        walk_at "n"
        refine ⟨6, rfl, by decide, by decide, ?_⟩
        refine lc_goR (n := 6) (fun i acc G => ∃ ws : List Wind, Paired (TupOf Wind.v G) acc ws ∧ ws.length = i) ⟨[], .nil, rfl⟩ ?_ ?_
        · rintro D' i acc H5 hi nD hD hl hS hS' ⟨ws, hp, hw⟩
          have sm5 : Same H H5 := sm4.trans hS'
          refine w_turn ?_
          walk_at "n"
          refine ⟨rfl, ?_⟩
          walk_at "n"
          refine w_mkT (by simp) fun t H6 s6 n6 h6 => ?_
          obtain ⟨y1, h6⟩ : ∃ y : Wind, H6 t = some (.tup y.v) := ⟨⟨_, _, _, _⟩, h6⟩
          refine ⟨acc, s6 _ _ hD, by rw [sizeLine_eq]; omega, acc ++ [.ref t], upd_same, by rw [List.length_append, List.length_singleton]; omega, ?_, ws ++ [y1], ?_, by rw [List.length_append, List.length_singleton, hw]⟩
          · rw [rem_upd]
            exact hS.trans (same_rem s6)
          · rw [rem_upd]
            refine paired_snoc (paired_up (same_rem s6) hp) ⟨t, rfl, ?_⟩
            rw [rem_ne (ne_of h6 (s6 _ _ hD) (by intro z; cases z))]
            exact h6
        · rintro D' H5 acc nD hS hD hl ⟨ws, hp, hw⟩
          walk_at "n"
          exact ⟨sm4.trans hS, (hl1.up s4).up hS, hS _ _ (s4 _ _ hc), D', _, _, ws, rfl, s4.free nD, ⟨acc, hD, paired_up rem_same hp⟩, by omega⟩
      · walk_at "n"
        exact ⟨sm4, hl1.up s4, s4 _ _ hc, l3, _, _, [], rfl, n4, ⟨_, h4, .nil⟩, by simp⟩
    rintro σ' H5 ⟨sm5, hl1x, hcx, l3', _, _, ws, rfl, n3', hw5, hwl⟩
    have ne13 : l1 ≠ l3' := by
      obtain ⟨v, hv, _⟩ := hl1
      exact ne_of_none hv n3'
    have ne23 : l2 ≠ l3' := ne_of_none hc n3'
    have nl3 : H l3' = none := sm3.free n3'
    clear hl1 hc sm4 s4 h4 n4 sm3
    walk_at "n"
    refine w_forR1 ?_
    walk_at "n"
    refine ⟨_, rfl, by omega, by omega, ?_⟩
    refine fori_R (fun i σ' H' => i ≤ 20 ∧ Same H H' ∧ ListOf Hill.v H' l1 hs ∧ H' l2 = some (.lst (cs.map V.int)) ∧ ∃ (y4 y6 y8 y9 : Option V) (ws : List Wind), σ' = [some (.ref r), some (.ref b), some (.int hour), some (.ref l1), y4, some (.ref l2), y6, some (.ref l3'), y8, y9, none, none, none] ∧ ListOf Wind.v H' l3' ws ∧ ws.length ≤ 6 + i)
      ⟨by omega, sm5, hl1x, hcx, _, _, none, none, ws, rfl, hw5, by omega⟩ ?_ ?_
    · rintro i σ' H6 hi ⟨_, sm6, hl1, hc, _, _, _, _, ws, rfl, hw, hwl⟩
      obtain ⟨vs, hv, lv, put⟩ := hw.put
      walk_at "n"
      refine w_slN (a := 22 + 4 * (0 + (i : Int))) (b := 26 + 4 * (0 + (i : Int))) (hx.up sm6) ⟨by omega, by omega, by omega⟩ fun p H7 ys s7 n7 h7 => ?_
      rw [show (26 + 4 * (0 + (i : Int)) - (22 + 4 * (0 + (i : Int)))).toNat = 4 by omega] at h7
      walk_at "n"
      refine w_mkL (by simp) fun p2 H8 s8 n8 h8 => ?_
      walk_at "n"
      refine w_ix2I h8 (by omega) fun z _ => ?_
      walk_at "n"
      refine ⟨.inl ⟨rfl, _, .inl (.inl (s8 _ _ (s7 _ _ hv)))⟩, ?_⟩
      walk_at "n"
      refine w_mkT (by simp) fun t H9 s9 n9 h9 => ?_
      walk_at "n"
      have s79 : Same H6 H9 := (s7.trans s8).trans s9
      refine ⟨l3', vs, _, rfl, rfl, s79 _ _ hv, by rw [lv, sizeLine_eq]; omega, ?_⟩
      refine ⟨by omega, same_mut (sm6.trans s79) nl3, (hl1.up s79).upd (s79 _ _ hv) ne13, same_upd_ne (s79 _ _ hc) ne23, _, _, _, _, ws ++ [⟨_, _, _, _⟩], rfl, put H9 t ⟨_, _, _, _⟩ s79 h9, by rw [List.length_append, List.length_singleton]; omega⟩
    rintro σ' H6 ⟨_, sm6, hl1, hc, _, _, _, _, ws, rfl, hw, hwl⟩
    clear hl1x hcx hw5 sm5
    -- shuts
    walk_at "n"
    refine w_mkL (by simp) fun l4 H7 s7 n7 h7 => ?_
    have sm7 := sm6.trans s7
    have ne14 : l1 ≠ l4 := by
      obtain ⟨v, hv, _⟩ := hl1
      exact ne_of_none hv n7
    have ne24 : l2 ≠ l4 := ne_of_none hc n7
    have ne34 : l3' ≠ l4 := by
      obtain ⟨v, hv, _⟩ := hw
      exact ne_of_none hv n7
    have nl4 : H l4 = none := sm6.free n7
    walk_at "n"
    refine w_forR1 ?_
    walk_at "n"
    refine ⟨_, rfl, by omega, by omega, ?_⟩
    refine fori_R (fun i σ' H' => i ≤ 10 ∧ Same H H' ∧ ListOf Hill.v H' l1 hs ∧ H' l2 = some (.lst (cs.map V.int)) ∧ ListOf Wind.v H' l3' ws ∧ ∃ (y4 y6 y8 y9 y11 : Option V) (ss : List Shut), σ' = [some (.ref r), some (.ref b), some (.int hour), some (.ref l1), y4, some (.ref l2), y6, some (.ref l3'), y8, y9, some (.ref l4), y11, none] ∧ ListOf Shut.v H' l4 ss ∧ ss.length ≤ i)
      ⟨by omega, sm7, hl1.up s7, s7 _ _ hc, hw.up s7, _, _, _, _, none, [], rfl, ⟨_, h7, .nil⟩, by simp⟩ ?_ ?_
    · clear hl1 hc hw sm7 s7 sm6 h7
      rintro i σ' H8 hi ⟨_, sm8, hl1, hc, hw, _, _, _, _, _, ss, rfl, hss, hsl⟩
      obtain ⟨vs, hv, lv, put⟩ := hss.put
      walk_at "n"
      refine w_slN (a := 91 + 8 * (0 + (i : Int))) (b := 99 + 8 * (0 + (i : Int))) (hx.up sm8) ⟨by omega, by omega, by omega⟩ fun p H9 ys s9 n9 h9 => ?_
      rw [show (99 + 8 * (0 + (i : Int)) - (91 + 8 * (0 + (i : Int)))).toNat = 8 by omega] at h9
      walk_at "n"
      refine w_mkL (by simp) fun p2 Ha sa na ha => ?_
      walk_at "n"
      refine w_ix2I ha (by omega) fun z hz => ?_
      have hz0 : 0 ≤ z := by rcases hz with e | e <;> omega
      have hz1 : z ≤ 24 := by rcases hz with e | e <;> omega
      walk_at "n"
      refine ⟨.inl ⟨rfl, _, .inl (.inl (sa _ _ (s9 _ _ hv)))⟩, ?_⟩
      walk_at "n"
      refine ⟨p, b, ys, 8, x, y, rfl, h9.up sa, by decide, sa _ _ (s9 _ _ (sm8 _ _ hb)), fun Hb t1 a1 a2 a3 a4 a5 a6 sb hb1 => ?_⟩
      walk_at "n"
      refine w_mkT (by simp) fun t2 Hc sc nc hc2 => ?_
      refine w_catT (sc _ _ hb1) hc2 (by simp) (by simp) (by simp) fun t3 Hd sd _ hd => ?_
      have s8d := (((s9.trans sa).trans sb).trans sc).trans sd
      obtain ⟨y1, hd⟩ : ∃ y : Shut, Hd t3 = some (.tup y.v) := ⟨⟨a1, a2, a3, a4, a5, a6, z, _⟩, hd⟩
      walk_at "n"
      refine ⟨l4, vs, _, rfl, rfl, s8d _ _ hv, by rw [lv, sizeLine_eq]; omega, ?_⟩
      refine ⟨by omega, same_mut (sm8.trans s8d) nl4, (hl1.up s8d).upd (s8d _ _ hv) ne14, same_upd_ne (s8d _ _ hc) ne24, (hw.up s8d).upd (s8d _ _ hv) ne34, _, _, _, _, _, ss ++ [y1], rfl, put Hd t3 y1 s8d hd, by rw [List.length_append, List.length_singleton]; omega⟩
    · rintro σ' H8 ⟨_, sm8, hl1, hc, hw, _, _, _, _, _, ss, rfl, hss, hsl⟩
      walk_at "n"
      refine w_mkT (by simp) fun t H9 s9 n9 h9 => ?_
      exact q H9 t ⟨hs, cs, ws, ss⟩ (sm8.trans s9) ⟨_, _, _, _, h9, hl1.up s9, s9 _ _ hc, hw.up s9, hss.up s9⟩ ⟨by show hs.length ≤ 100; omega, by show ws.length ≤ 100; omega, by show ss.length ≤ 100; omega⟩
end
end Bal
namespace Bal
/-- a list of tuples, read at i -/
theorem w_ixLO {α : Type} {enc : α → List V} {K : PySem.W.Frag} {H : Hp} {Q : VK} {p : Addr} {xs : List α} {i : Int} (h : ListOf enc H p xs) (hi : 0 ≤ i ∧ i < (xs.length : Int))
    (k : ∀ (a : Addr) (x : α), x ∈ xs → H a = some (.tup (enc x)) → Q (.ref a) H) : rIxL K (.ref p) (.int i) H Q := by
  obtain ⟨vs, hv, hp⟩ := h
  have hj : i.toNat < xs.length := by omega
  obtain ⟨v, ev, a, rfl, ha⟩ := paired_at' hp (List.getElem?_eq_getElem hj)
  refine ⟨p, vs, i, .ref a, rfl, rfl, .inl (.inl hv), ?_, k a _ (List.getElem_mem hj) ha⟩
  have e := atI_nat ev
  rw [show ((i.toNat : Nat) : Int) = i by omega] at e
  exact e
abbrev s__law_wind : Stmt := topS 35
abbrev nm__law_wind : List Str := ["_law_winds", "_law_hour", "_law_height", "_law_some", "_law_k"]
theorem sc__law_wind : FnScope nm__law_wind ["_law_winds", "_law_hour", "_law_height"] (defScope s__law_wind) := ⟨rfl, rfl, rfl, by decide +kernel, rfl, by decide +kernel, by decide +kernel⟩
-- slots: 0:_law_winds 1:_law_hour 2:_law_height 3:_law_some 4:_law_k
def sp_lwind : Sp := fun vs H Q _ => ∃ (p : Addr) (ws : List Wind) (hour z : Int), vs = [.ref p, .int hour, .int z] ∧ ListOf Wind.v H p ws ∧ ws.length ≤ 100 ∧ ∀ H' r dx dy, Same H H' → H' r = some (.tup [.int dx, .int dy]) → Q (.ref r) H'
section
variable {P : Program} {w : World} {K : PySem.W.Frag} {mg : Str → Option Value} {base : Heap}
theorem cl_lwind (D : Df K mg "_law_wind" s__law_wind) (T : Txt K mg) : Cl P w K mg base 1 "_law_wind" sp_lwind := by
  refine Cl.of D sc__law_wind (fun _ _ _ _ _ _ us hl => match us, hl with | [_, _, _], _ => rfl) (fun vs H Q E h => ?_) (fun f cdv A outer s H vs Q E hr h => ?_)
  · obtain ⟨_, _, _, _, rfl, _⟩ := h
    rfl
  · obtain ⟨p, ws, hour, z, rfl, hw, hl, q⟩ := h
    have nd := sc__law_wind.nd
    obtain ⟨vs, hv, hpv⟩ := id hw
    have hvl := paired_len hpv
    refine ⟨_, (pss_cons (ps_setLc (i := 3) (own := [("_law_k", 4)]) (g := gName 4) (by rfl) nd rfl rfl (sw_true rfl rfl rfl (by decide +kernel)) (pi_range1 (by rfl) T.b_range (pa_cons (pe_callB call_len_seq (by rfl) T.b_len PySem.boot_len (pa_cons (pv 0) pa_nil)) pa_nil)) (blkOk_by (N := nm__law_wind) (sc := defScope s__law_wind) (by decide +kernel)) (fun _ _ _ _ _ => (pg_name (i := 4) nd rfl (.inl rfl))) (fun _ _ _ _ _ => (pts_one (PW.pt (pw_and (pt_cmpR op_eq (pe_ix (show IxR _ (rIxT K) from ix_tup) (pe_ix (show IxR _ (rIxL K) from ix_list) (pv 0) (pv 4) (fun _ _ => rfl)) pe_int (fun _ _ => rfl)) (pv 2) (nomark _)) (pw_and1 (pt_cmpR op_le (pe_ix (show IxR _ (rIxT K) from ix_tup) (pe_ix (show IxR _ (rIxL K) from ix_list) (pv 0) (pv 4) (fun _ _ => rfl)) pe_int (fun _ _ => rfl)) (pv 1) (nomark _))))))) (fun _ _ _ _ _ => (pe_tup (pa_cons (pe_ix (show IxR _ (rIxT K) from ix_tup) (pe_ix (show IxR _ (rIxL K) from ix_list) (pv 0) (pv 4) (fun _ _ => rfl)) pe_int (fun _ _ => rfl)) (pa_cons (pv 4) pa_nil)))))
      (pss_cons (ps_if (pt_cmpR op_eq (pe_callB call_len_seq (by rfl) T.b_len PySem.boot_len (pa_cons (pv 3) pa_nil)) pe_int (nomark _)) (pss_one (ps_ret (pe_tup (pa_cons pe_int (pa_cons pe_int pa_nil))))) pss_nil)
      (pss_one (ps_ret (pe_slice sl_tup (pe_ix ix_list (pv 0) (pe_ix ix_tup (pe_callB (cr_maxP rfl hr.units) (by rfl) T.b_max (by decide +kernel) (pa_cons (pv 3) pa_nil)) pe_int (fun _ _ => rfl)) (fun _ _ => rfl)) (po_some pe_int) po_none))))), ?_⟩
    rw [show L2.start nm__law_wind [V.ref p, V.int hour, V.int z] = [some (V.ref p), some (V.int hour), some (V.int z), none, none] from rfl]
    walk_at "n"
    refine w_lcR ?_
    walk_at "n"
    refine ⟨p, vs, rfl, .inl (.inl (.inl hv)), ?_⟩
    walk_at "n"
    refine ⟨_, rfl, by omega, by omega, ?_⟩
    refine lc_goR (n := _) (fun i acc G => ∃ ps : List (Int × Int), Paired (TupOf Pr.v G) acc ps ∧ ∀ y, y ∈ ps → 0 ≤ y.2 ∧ y.2 < (ws.length : Int)) ⟨[], .nil, by simp⟩ ?_ ?_
    · rintro D' i acc H5 hi nD hD hln hS hS' ⟨ps, hp, hps⟩
      have hw5 := hw.up hS'
      refine w_turn ?_
      walk_at "n"
      refine ⟨rfl, ?_⟩
      walk_at "n"
      refine w_ixLO hw5 ⟨by omega, by omega⟩ fun t y _ ht => ?_
      simp only [Wind.v] at ht
      walk_at "n"
      have skip : ∃ acc, H5 D' = some (.lst acc) ∧ acc.length ≤ i + 1 ∧ Same H (rem H5 D') ∧ ∃ ps : List (Int × Int), Paired (TupOf Pr.v (rem H5 D')) acc ps ∧ ∀ y, y ∈ ps → 0 ≤ y.2 ∧ y.2 < (ws.length : Int) := ⟨acc, hD, by omega, hS, ps, hp, hps⟩
      refine w_ite (fun _ => ?_) (fun _ => ?_)
      · walk_at "n"
        refine w_ixLO hw5 ⟨by omega, by omega⟩ fun t2 y2 _ ht2 => ?_
        simp only [Wind.v] at ht2
        walk_at "n"
        refine w_ite (fun _ => ?_) (fun _ => ?_)
        · walk_at "n"
          refine w_ixLO hw5 ⟨by omega, by omega⟩ fun t3 y3 _ ht3 => ?_
          simp only [Wind.v] at ht3
          walk_at "n"
          refine w_mkT (by simp) fun t H6 s6 n6 h6 => ?_
          obtain ⟨y1, h6, ey⟩ : ∃ y : Int × Int, H6 t = some (.tup (Pr.v y)) ∧ y.2 = (i : Int) := ⟨⟨_, _⟩, h6, rfl⟩
          refine ⟨acc, s6 _ _ hD, by rw [sizeLine_eq]; omega, acc ++ [.ref t], upd_same, by rw [List.length_append, List.length_singleton]; omega, ?_, ps ++ [y1], ?_, ?_⟩
          · rw [rem_upd]
            exact hS.trans (same_rem s6)
          · rw [rem_upd]
            refine paired_snoc (paired_up (same_rem s6) hp) ⟨t, rfl, ?_⟩
            rw [rem_ne (ne_of h6 (s6 _ _ hD) (by intro z; cases z))]
            exact h6
          · intro y hy
            rcases List.mem_append.mp hy with hy | hy
            · exact hps y hy
            · rw [List.mem_singleton] at hy
              rw [hy, ey]; omega
        · (try walk_at "n"); exact skip
      · (try walk_at "n"); exact skip
    · rintro D' H5 acc nD hS hD hln ⟨ps, hp, hps⟩
      have hw5 := hw.up hS
      have hpl := paired_len hp
      walk_at "n"
      refine ⟨D', acc, rfl, .inl (.inl (.inl hD)), ?_⟩
      walk_at "n"
      refine w_ite (fun h0 => ?_) (fun h0 => ?_)
      · walk_at "n"
        refine w_mkT (by simp) fun t H6 s6 n6 h6 => ?_
        exact q _ t _ _ (hS.trans s6) h6
      · walk_at "n"
        refine ⟨D', ps, rfl, ⟨acc, hD, paired_up rem_same hp⟩, fun e => h0 (by rw [hpl, e]; rfl), fun t y hy ht => ?_⟩
        simp only [Pr.v] at ht
        walk_at "n"
        refine w_ixLO hw5 (hps y hy) fun t2 y2 _ ht2 => ?_
        simp only [Wind.v] at ht2
        walk_at "n"
        refine w_slT 4 ht2 rfl (by decide) fun t3 H6 s6 n6 h6 => ?_
        exact q _ t3 y2.dx y2.dy (hS.trans s6) h6
end
abbrev s__law_ground : Stmt := topS 36
abbrev nm__law_ground : List Str := ["_law_hills", "_law_x", "_law_y", "_law_a", "_law_b", "_law_top"]
theorem sc__law_ground : FnScope nm__law_ground ["_law_hills", "_law_x", "_law_y"] (defScope s__law_ground) := ⟨rfl, rfl, rfl, by decide +kernel, rfl, by decide +kernel, by decide +kernel⟩
-- slots: 0:_law_hills 1:_law_x 2:_law_y 3:_law_a 4:_law_b 5:_law_top
def sp_lground : Sp := fun vs H Q _ => ∃ (p : Addr) (hs : List Hill) (x y : Int), vs = [.ref p, .int x, .int y] ∧ ListOf Hill.v H p hs ∧ hs.length ≤ 100 ∧ ∀ H' t, Same H H' → Q (.int t) H'
section
variable {P : Program} {w : World} {K : PySem.W.Frag} {mg : Str → Option Value} {base : Heap}
theorem cl_lground (D : Df K mg "_law_ground" s__law_ground) (T : Txt K mg) : Cl P w K mg base 1 "_law_ground" sp_lground := by
  refine Cl.of D sc__law_ground (fun _ _ _ _ _ _ us hl => match us, hl with | [_, _, _], _ => rfl) (fun vs H Q E h => ?_) (fun f cdv A outer s H vs Q E hr h => ?_)
  · obtain ⟨_, _, _, _, rfl, _⟩ := h
    rfl
  · obtain ⟨p, hs, x, y, rfl, hw, hl, q⟩ := h
    have nd := sc__law_ground.nd
    refine ⟨_, (pss_one (ps_ret (pe_callB (cr_max rfl) (by rfl) T.b_max (by decide +kernel) (pa_cons (pe_op op_cat (pe_lst (pa_cons pe_int pa_nil)) (pe_lc (own := [("_law_a", 3), ("_law_b", 4), ("_law_top", 5)]) (g := gTup K 3 (gCons (gName 3) (gCons (gName 4) (gCons (gName 5) gNil)))) (by rfl) nd (pi_list (pv 0)) (blkOk_by (N := nm__law_ground) (sc := defScope s__law_ground) (by decide +kernel)) (fun _ _ _ _ _ => (pg_tup (by rfl) (pgs_cons (pg_name (i := 3) nd rfl (.inl rfl)) (pgs_cons (pg_name (i := 4) nd rfl (.inl rfl)) (pgs_cons (pg_name (i := 5) nd rfl (.inl rfl)) pgs_nil))))) (fun _ _ _ _ _ => (pts_one (PW.pt (pw_and (pt_cmpR op_eq (pv 3) (pv 1) (nomark _)) (pw_and1 (pt_cmpR op_eq (pv 4) (pv 2) (nomark _))))))) (fun _ _ _ _ _ => (pv 5)))) pa_nil)))), ?_⟩
    rw [show L2.start nm__law_ground [V.ref p, V.int x, V.int y] = [some (V.ref p), some (V.int x), some (V.int y), none, none, none] from rfl]
    walk_at "n"
    refine w_mkL (by simp) fun l1 H1 s1 n1 h1 => ?_
    have hw1 := hw.up s1
    obtain ⟨vs, hv, hpv⟩ := id hw1
    have hvl := paired_len hpv
    walk_at "n"
    refine w_lcL ?_
    walk_at "n"
    refine ⟨p, rfl, ⟨_, .inl (.inl hv)⟩, ?_⟩
    refine lc_goL (.inl (.inl hv)) (fun r acc G => ∃ ns : List Int, acc = ns.map V.int) ⟨[], rfl⟩ ?_ ?_
    · rintro D' i v acc H5 hi nD hD hln hS hS' ⟨ns, ea⟩
      have hi1 := (List.getElem?_eq_some_iff.mp hi).1
      obtain ⟨h, _, a, rfl, ha⟩ := paired_at hpv hi
      have ha5 := hS' _ _ ha
      simp only [Hill.v] at ha5
      refine w_turn ?_
      walk_at "n"
      refine ⟨rfl, ?_⟩
      walk_at "n"
      refine w_ite (fun _ => ?_) (fun _ => ?_)
      · walk_at "n"
        refine w_ite (fun _ => ?_) (fun _ => ?_)
        · walk_at "n"
          exact lc_put hD (Same.refl _) hln (by omega) hS (show ∃ ms : List Int, acc ++ [V.int _] = ms.map V.int from ⟨ns ++ [_], by rw [List.map_append, ea]; rfl⟩)
        · (try walk_at "n"); refine lc_skip hD (Same.refl _) hln hS ?_; exact ⟨ns, ea⟩
      · (try walk_at "n"); refine lc_skip hD (Same.refl _) hln hS ?_; exact ⟨ns, ea⟩
    · rintro D' H5 acc nD hS hD hln ⟨ns, ea⟩
      refine w_catL (hS _ _ h1) hD (by simp; omega) fun l2 H6 s6 n6 h6 => ?_
      walk_at "n"
      refine ⟨l2, 0 :: ns, rfl, .inl (.inl (by rw [h6, ea]; rfl)), by simp, fun m _ _ => ?_⟩
      exact q _ m ((s1.trans hS).trans s6)
end
abbrev s__law_in : Stmt := topS 37
abbrev nm__law_in : List Str := ["_law_box_here", "_law_x", "_law_y", "_law_z"]
theorem sc__law_in : FnScope nm__law_in ["_law_box_here", "_law_x", "_law_y", "_law_z"] (defScope s__law_in) := ⟨rfl, rfl, rfl, by decide +kernel, rfl, by decide +kernel, by decide +kernel⟩
-- slots: 0:_law_box_here 1:_law_x 2:_law_y 3:_law_z
def sp_lin : Sp := fun vs H Q _ => ∃ (b : Addr) (a1 a2 a3 a4 a5 a6 x y z : Int), vs = [.ref b, .int x, .int y, .int z] ∧ H b = some (.tup [.int a1, .int a2, .int a3, .int a4, .int a5, .int a6]) ∧ ∀ k, Q (.bl k) H
section
variable {P : Program} {w : World} {K : PySem.W.Frag} {mg : Str → Option Value} {base : Heap}
theorem cl_lin (D : Df K mg "_law_in" s__law_in) (T : Txt K mg) : Cl P w K mg base 1 "_law_in" sp_lin := by
  refine Cl.of D sc__law_in (fun _ _ _ _ _ _ us hl => match us, hl with | [_, _, _, _], _ => rfl) (fun vs H Q E h => ?_) (fun f cdv A outer s H vs Q E hr h => ?_)
  · obtain ⟨_, _, _, _, _, _, _, _, _, _, rfl, _⟩ := h
    rfl
  · obtain ⟨b, a1, a2, a3, a4, a5, a6, x, y, z, rfl, hb, q⟩ := h
    have nd := sc__law_in.nd
    refine ⟨_, (pss_one (ps_ret (pe_and (pe_cmpR op_le (pe_ix ix_tup (pv 0) pe_int (fun _ _ => rfl)) (pv 1) (nomark _)) (pe_and (pe_cmpR op_le (pv 1) (pe_ix ix_tup (pv 0) pe_int (fun _ _ => rfl)) (nomark _)) (pe_and (pe_cmpR op_le (pe_ix ix_tup (pv 0) pe_int (fun _ _ => rfl)) (pv 2) (nomark _)) (pe_and (pe_cmpR op_le (pv 2) (pe_ix ix_tup (pv 0) pe_int (fun _ _ => rfl)) (nomark _)) (pe_and (pe_cmpR op_le (pe_ix ix_tup (pv 0) pe_int (fun _ _ => rfl)) (pv 3) (nomark _)) (pe_one (pe_cmpR op_le (pv 3) (pe_ix ix_tup (pv 0) pe_int (fun _ _ => rfl)) (nomark _)))))))))), ?_⟩
    rw [show L2.start nm__law_in [V.ref b, V.int x, V.int y, V.int z] = [some (V.ref b), some (V.int x), some (V.int y), some (V.int z)] from rfl]
    walk_at "ws"
    all_goals exact q _
end
abbrev s__law_shut : Stmt := topS 38
abbrev nm__law_shut : List Str := ["_law_shuts", "_law_hour", "_law_x", "_law_y", "_law_z", "_law_one"]
theorem sc__law_shut : FnScope nm__law_shut ["_law_shuts", "_law_hour", "_law_x", "_law_y", "_law_z"] (defScope s__law_shut) := ⟨rfl, rfl, rfl, by decide +kernel, rfl, by decide +kernel, by decide +kernel⟩
-- slots: 0:_law_shuts 1:_law_hour 2:_law_x 3:_law_y 4:_law_z 5:_law_one
def sp_lshut : Sp := fun vs H Q _ => ∃ (p : Addr) (ss : List Shut) (hour x y z : Int), vs = [.ref p, .int hour, .int x, .int y, .int z] ∧ ListOf Shut.v H p ss ∧ ss.length ≤ 100 ∧ ∀ H' k, Same H H' → Q (.bl k) H'
theorem all_flatB (l : List Bool) : (l.map V.bl).all flatV = true := by
  rw [List.all_map]
  exact List.all_eq_true.mpr fun _ _ => rfl
section
variable {P : Program} {w : World} {K : PySem.W.Frag} {mg : Str → Option Value} {base : Heap}
theorem cl_lshut (D : Df K mg "_law_shut" s__law_shut) (T : Txt K mg) (C__law_in : Cl P w K mg base 1 "_law_in" sp_lin) : Cl P w K mg base 2 "_law_shut" sp_lshut := by
  refine Cl.of D sc__law_shut (fun _ _ _ _ _ _ us hl => match us, hl with | [_, _, _, _, _], _ => rfl) (fun vs H Q E h => ?_) (fun f cdv A outer s H vs Q E hr h => ?_)
  · obtain ⟨_, _, _, _, _, _, rfl, _⟩ := h
    rfl
  · obtain ⟨p, ss, hour, x, y, z, rfl, hw, hl, q⟩ := h
    have nd := sc__law_shut.nd
    obtain ⟨vs, hv, hpv⟩ := id hw
    have hvl := paired_len hpv
    refine ⟨_, (pss_one (ps_ret (pe_cmpR op_in_seq pe_bl (pe_lc (own := [("_law_one", 5)]) (g := gName 5) (by rfl) nd (pi_list (pv 0)) (blkOk_by (N := nm__law_shut) (sc := defScope s__law_shut) (by decide +kernel)) (fun _ _ _ _ _ => (pg_name (i := 5) nd rfl (.inl rfl))) (fun _ _ _ _ _ => (pts_one (PW.pt (pw_and (pt_cmpR op_le (pe_ix (show IxR _ (rIxT K) from ix_tup) (pv 5) pe_int (fun _ _ => rfl)) (pv 1) (nomark _)) (pw_and1 (pt_cmpR op_le (pv 1) (pe_ix (show IxR _ (rIxT K) from ix_tup) (pv 5) pe_int (fun _ _ => rfl)) (nomark _))))))) (fun _ _ _ _ _ => (pe_cl C__law_in hr (by decide) (by rfl) (pa_cons (pe_slice (show SlR _ (rSlT K) from sl_tup) (pv 5) po_none (po_some pe_int)) (pa_cons (pv 2) (pa_cons (pv 3) (pa_cons (pv 4) pa_nil))))))) (by rfl)))), ?_⟩
    rw [show L2.start nm__law_shut [V.ref p, V.int hour, V.int x, V.int y, V.int z] = [some (V.ref p), some (V.int hour), some (V.int x), some (V.int y), some (V.int z), none] from rfl]
    walk_at "n"
    refine w_lcL ?_
    walk_at "n"
    refine ⟨p, rfl, ⟨_, .inl (.inl hv)⟩, ?_⟩
    refine lc_goL (.inl (.inl hv)) (fun r acc G => ∃ bs : List Bool, acc = bs.map V.bl) ⟨[], rfl⟩ ?_ ?_
    · rintro D' i v acc H5 hi nD hD hln hS hS' ⟨ns, ea⟩
      have hi1 := (List.getElem?_eq_some_iff.mp hi).1
      obtain ⟨h, _, a, rfl, ha⟩ := paired_at hpv hi
      have ha5 := hS' _ _ ha
      simp only [Shut.v] at ha5
      refine w_turn ?_
      walk_at "n"
      refine ⟨rfl, ?_⟩
      walk_at "n"
      refine w_ite (fun _ => ?_) (fun _ => ?_)
      · walk_at "n"
        refine w_ite (fun _ => ?_) (fun _ => ?_)
        · walk_at "n"
          refine w_slT 8 ha5 rfl (by decide) fun t3 H6 s6 n6 h6 => ?_
          walk_at "n"
          refine ⟨t3, _, _, _, _, _, _, _, _, _, rfl, h6, fun k => ?_⟩
          exact lc_put hD s6 hln (by omega) hS (show ∃ ms : List Bool, acc ++ [V.bl k] = ms.map V.bl from ⟨ns ++ [k], by rw [List.map_append, ea]; rfl⟩)
        · (try walk_at "n"); refine lc_skip hD (Same.refl _) hln hS ?_; exact ⟨ns, ea⟩
      · (try walk_at "n"); refine lc_skip hD (Same.refl _) hln hS ?_; exact ⟨ns, ea⟩
    · rintro D' H5 acc nD hS hD hln ⟨ns, ea⟩
      rw [ea] at hD
      exact ⟨D', _, rfl, .inl (.inl (.inl hD)), rfl, all_flatB ns, q _ _ hS⟩
end
abbrev s__law_stand : Stmt := topS 39
abbrev nm__law_stand : List Str := ["_law_sky_here", "_law_hour", "_law_state_here"]
theorem sc__law_stand : FnScope nm__law_stand ["_law_sky_here", "_law_hour", "_law_state_here"] (defScope s__law_stand) := ⟨rfl, rfl, rfl, by decide +kernel, rfl, by decide +kernel, by decide +kernel⟩
-- slots: 0:_law_sky_here 1:_law_hour 2:_law_state_here
def sp_lstand : Sp := fun vs H Q _ => ∃ (a b : Addr) (sky : Sky) (hour : Int) (t : S5), vs = [.ref a, .int hour, .ref b] ∧ SkyAt H a sky ∧ SkyLen sky ∧ H b = some (.tup t.v) ∧ ∀ H' x, Same H H' → Q (.str x) H'
section
variable {P : Program} {w : World} {K : PySem.W.Frag} {mg : Str → Option Value} {base : Heap}
theorem cl_lstand (D : Df K mg "_law_stand" s__law_stand) (T : Txt K mg) (C__law_ground : Cl P w K mg base 1 "_law_ground" sp_lground) (C__law_shut : Cl P w K mg base 2 "_law_shut" sp_lshut) : Cl P w K mg base 3 "_law_stand" sp_lstand := by
  refine Cl.of D sc__law_stand (fun _ _ _ _ _ _ us hl => match us, hl with | [_, _, _], _ => rfl) (fun vs H Q E h => ?_) (fun f cdv A outer s H vs Q E hr h => ?_)
  · obtain ⟨_, _, _, _, _, rfl, _⟩ := h
    rfl
  · obtain ⟨a, b, sky, hour, t, rfl, hs, ⟨hl1, hl2, hl3⟩, hb, q⟩ := h
    have nd := sc__law_stand.nd
    obtain ⟨hh, hc, hw, hsh, ha, h1, h2, h3, h4⟩ := hs.ex
    simp only [S5.v] at hb
    refine ⟨_, (pss_cons (ps_if (pt_cmpR op_lt (pe_ix ix_tup (pv 2) pe_int (fun _ _ => rfl)) (pe_cl C__law_ground hr (by decide) (by rfl) (pa_cons (pe_ix ix_tup (pv 0) pe_int (fun _ _ => rfl)) (pa_cons (pe_ix ix_tup (pv 2) pe_int (fun _ _ => rfl)) (pa_cons (pe_ix ix_tup (pv 2) pe_int (fun _ _ => rfl)) pa_nil)))) (nomark _)) (pss_one (ps_ret pe_str)) pss_nil)
      (pss_cons (ps_if (pt_val (pe_cl C__law_shut hr (by decide) (by rfl) (pa_cons (pe_ix ix_tup (pv 0) pe_int (fun _ _ => rfl)) (pa_cons (pv 1) (pa_cons (pe_ix ix_tup (pv 2) pe_int (fun _ _ => rfl)) (pa_cons (pe_ix ix_tup (pv 2) pe_int (fun _ _ => rfl)) (pa_cons (pe_ix ix_tup (pv 2) pe_int (fun _ _ => rfl)) pa_nil))))))) (pss_one (ps_ret pe_str)) pss_nil)
      (pss_one (ps_ret pe_str)))), ?_⟩
    rw [show L2.start nm__law_stand [V.ref a, V.int hour, V.ref b] = [some (V.ref a), some (V.int hour), some (V.ref b)] from rfl]
    walk_at "n"
    refine ⟨hh, _, _, _, rfl, h1, hl1, fun H2 g s2 => ?_⟩
    walk_at "n"
    refine w_ite (fun _ => ?_) (fun _ => ?_)
    · walk_at "n"
      exact q _ _ s2
    · walk_at "n"
      refine ⟨hsh, _, _, _, _, _, rfl, h4.up s2, hl3, fun H3 k s3 => ?_⟩
      walk_at "n"
      refine w_iteB (fun _ => ?_) (fun _ => ?_)
      · walk_at "n"
        exact q _ _ (s2.trans s3)
      · walk_at "n"
        exact q _ _ (s2.trans s3)
end
end Bal
namespace Bal
/-! ### loops over written tuples; written dicts -/
section
variable {K : PySem.W.Frag} {g : TG} {tb : TS} {D : Ends} {σ : L2.St} {H : Hp} {tl tk tv : TE} {p : Addr} {r : List (TE × TE)}
theorem w_forT (h : tl σ H fun x H1 => ∃ a, x = .ref a ∧ (∃ xs, SqT K H1 a xs) ∧ ForI (Itt K a) g tb D σ H1) : tFor (iTup K tl) g tb D σ H := h
theorem fori_T {vs : List V} (Pv : List V → L2.St → Hp → Prop) (h0 : Pv vs σ H) (hl : ∀ r σ' H', Pv r σ' H' → SqT K H' p vs)
    (hs : ∀ x r σ' H', Pv (x :: r) σ' H' → g x σ' H' fun σ2 H2 => tb { D with nx := Pv r, ct := Pv r, bk := D.nx } σ2 H2) (hd : ∀ σ' H', Pv [] σ' H' → D.nx σ' H') : ForI (Itt K p) g tb D σ H :=
  for_tup (xs := vs) (fun i => Pv (vs.drop i)) h0 (fun i σ' H' _ q => hl _ σ' H' q) (fun i x σ' H' hi q => hs x _ σ' H' (by rw [drop_at hi] at q; exact q)) fun σ' H' q => hd σ' H' (by rw [List.drop_length] at q; exact q)
theorem w_pairs {Q : List (V × V) → Hp → Prop} (h : tk σ H fun x H1 => tv σ H1 fun y H2 => tPairs r σ H2 fun ps H3 => Q ((x, y) :: ps) H3) : tPairs ((tk, tv) :: r) σ H Q := h
theorem w_pnil {Q : List (V × V) → Hp → Prop} (h : Q [] H) : tPairs [] σ H Q := h
theorem w_dget {td ty : TE} {Q : VK} (h : td σ H fun x H1 => ty σ H1 fun y H2 => ∃ a v, x = .ref a ∧ DGet H2 a y (some v) ∧ Q v H2) : tDGet td ty σ H Q := h
end
def O3.step : O3 → Int
  | .up => 1
  | .level => 0
  | .down => -1
def stepD : List (Key × V) := [(.inr "up", .int 1), (.inr "level", .int 0), (.inr "down", .int (-1))]
theorem step_at (o : O3) : valV (mergeK [] stepD) (.inr o.w) = some (.int o.step) := by cases o <;> decide +kernel
abbrev s__law_led : Stmt := topS 40
abbrev nm__law_led : List Str := ["_law_sky_here", "_law_hour", "_law_state_here", "_law_order", "_law_x", "_law_y", "_law_z", "_law_sacks", "_law_puffs", "_law_step", "_law_dx", "_law_dy"]
theorem sc__law_led : FnScope nm__law_led ["_law_sky_here", "_law_hour", "_law_state_here", "_law_order"] (defScope s__law_led) := ⟨rfl, rfl, rfl, by decide +kernel, rfl, by decide +kernel, by decide +kernel⟩
-- slots: 0:_law_sky_here 1:_law_hour 2:_law_state_here 3:_law_order 4:_law_x 5:_law_y 6:_law_z 7:_law_sacks 8:_law_puffs 9:_law_step 10:_law_dx 11:_law_dy
def sp_lled : Sp := fun vs H Q _ => ∃ (a b : Addr) (sky : Sky) (hour : Int) (t : S5) (o : O3), vs = [.ref a, .int hour, .ref b, .str o.w] ∧ SkyAt H a sky ∧ SkyLen sky ∧ H b = some (.tup t.v) ∧ 0 ≤ t.z ∧ ¬ (o = .down ∧ t.z = 0) ∧
  ∀ H' r t', Same H H' → H r = none → H' r = some (.tup (S5.v t')) → 0 ≤ t'.z → Q (.ref r) H'
section
variable {P : Program} {w : World} {K : PySem.W.Frag} {mg : Str → Option Value} {base : Heap}
theorem cl_lled (D : Df K mg "_law_led" s__law_led) (T : Txt K mg) (C__law_wind : Cl P w K mg base 1 "_law_wind" sp_lwind) : Cl P w K mg base 2 "_law_led" sp_lled := by
  refine Cl.of D sc__law_led (fun _ _ _ _ _ _ us hl => match us, hl with | [_, _, _, _], _ => rfl) (fun vs H Q E h => ?_) (fun f cdv A outer s H vs Q E hr h => ?_)
  · obtain ⟨_, _, _, _, _, _, rfl, _⟩ := h
    rfl
  · obtain ⟨a, b, sky, hour, t, o, rfl, hs, ⟨_, hwl, _⟩, ht, hz, hno, q⟩ := h
    have nd := sc__law_led.nd
    have hu := hu_of hr
    obtain ⟨hh, hc, hw, hsh, ha, h1, h2, h3, h4⟩ := hs.ex
    simp only [S5.v] at ht
    refine ⟨_, (pss_cons (ps_asg (pv 2) (pg_tup (by rfl) (pgs_cons (pg_name (i := 4) nd rfl (.inl rfl)) (pgs_cons (pg_name (i := 5) nd rfl (.inl rfl)) (pgs_cons (pg_name (i := 6) nd rfl (.inl rfl)) (pgs_cons (pg_name (i := 7) nd rfl (.inl rfl)) (pgs_cons (pg_name (i := 8) nd rfl (.inl rfl)) pgs_nil)))))))
      (pss_cons (ps_set (i := 9) nd rfl (.inl rfl) (pe_dget hu (pe_disp (pps_cons pe_str pe_int (pps_cons pe_str pe_int (pps_cons pe_str (pe_un un_neg pe_int) pps_nil))) (by rfl) (by rfl) (fun z => by cases z) (by decide)) (pv 3) (fun _ _ => rfl)))
      (pss_cons (ps_set (i := 6) nd rfl (.inl rfl) (pe_op op_add (pv 6) (pv 9)))
      (pss_cons (ps_if (PW.pt (pw_and (pt_cmpR op_in_seq (pv 1) (pe_ix ix_tup (pv 0) pe_int (fun _ _ => rfl)) (by rfl)) (pw_and1 (pt_cmpR op_gt (pv 6) pe_int (nomark _))))) (pss_one (ps_set (i := 6) nd rfl (.inl rfl) (pe_op op_sub (pv 6) pe_int))) pss_nil)
      (pss_cons (ps_asg (pe_cl C__law_wind hr (by decide) (by rfl) (pa_cons (pe_ix ix_tup (pv 0) pe_int (fun _ _ => rfl)) (pa_cons (pv 1) (pa_cons (pv 6) pa_nil)))) (pg_tup (by rfl) (pgs_cons (pg_name (i := 10) nd rfl (.inl rfl)) (pgs_cons (pg_name (i := 11) nd rfl (.inl rfl)) pgs_nil))))
      (pss_one (ps_ret (pe_tup (pa_cons (pe_op op_add (pv 4) (pv 10)) (pa_cons (pe_op op_add (pv 5) (pv 11)) (pa_cons (pv 6) (pa_cons (pe_op op_sub (pv 7) (pe_callB (call_max2 rfl) (by rfl) T.b_max (by decide +kernel) (pa_cons pe_int (pa_cons (pv 9) pa_nil)))) (pa_cons (pe_op op_sub (pv 8) (pe_callB (call_max2 rfl) (by rfl) T.b_max (by decide +kernel) (pa_cons pe_int (pa_cons (pe_un un_neg (pv 9)) pa_nil)))) pa_nil))))))))))))), ?_⟩
    rw [show L2.start nm__law_led [V.ref a, V.int hour, V.ref b, V.str o.w] = [some (V.ref a), some (V.int hour), some (V.ref b), some (V.str o.w), none, none, none, none, none, none, none, none] from rfl]
    walk_at "w"
    refine w_dget fun p hp => ?_
    refine w_pairs ?_
    walk_at "w"
    refine w_pairs ?_
    walk_at "w"
    refine w_pairs ?_
    walk_at "w"
    refine w_pnil ?_
    refine ⟨upd_same, stepD, rfl, by decide, ?_⟩
    have sm : Same H (upd (upd H p (.dK [])) p (.dK (mergeK [] stepD))) := same_mut (same_new hp) hp
    generalize eH1 : upd (upd H p (.dK [])) p (.dK (mergeK [] stepD)) = H1 at sm
    have hd : H1 p = some (.dK (mergeK [] stepD)) := by rw [← eH1]; exact upd_same
    clear eH1
    walk_at "w"
    refine ⟨p, .int o.step, rfl, by rw [← step_at o]; exact DGet.k (k := .inr o.w) hd, ?_⟩
    have hst : 0 ≤ t.z + o.step := by
      cases o
      · show 0 ≤ t.z + 1; omega
      · show 0 ≤ t.z + 0; omega
      · show 0 ≤ t.z + -1
        have : t.z ≠ 0 := fun e => hno ⟨rfl, e⟩
        omega
    generalize o.step = st at hst
    clear hno
    walk_at "n"
    refine w_inL (sm _ _ h2) ?_
    have fin : ∀ z : Int, 0 ≤ z → ∀ H2 r, Same H1 H2 → H1 r = none → ∀ a1 a2 a3 a4, H2 r = some (.tup [.int a1, .int a2, .int z, .int a3, .int a4]) → Q (.ref r) H2 := fun z hz H2 r s2 n2 a1 a2 a3 a4 e => q H2 r ⟨a1, a2, z, a3, a4⟩ (sm.trans s2) (sm.free n2) e hz
    walk_at "w"
    refine w_iteB (fun hJ => ?_) (fun hJ => ?_)
    · walk_at "w"
      refine w_ite (fun hz2 => ?_) (fun hz2 => ?_)
      · walk_at "w"
        refine ⟨hw, sky.winds, _, _, rfl, h3.up sm, hwl, fun H2 r dx dy s2 hr2 => ?_⟩
        walk_at "w"
        refine ⟨_, _, rfl, ?_⟩
        walk_at "w"
        refine ⟨_, _, rfl, ?_⟩
        walk_at "w"
        refine w_mkT (by simp) fun t2 H3 s3 n3 h3' => ?_
        exact fin _ (by omega) H3 t2 (s2.trans s3) (s2.free n3) _ _ _ _ h3'
      · walk_at "w"
        refine ⟨hw, sky.winds, _, _, rfl, h3.up sm, hwl, fun H2 r dx dy s2 hr2 => ?_⟩
        walk_at "w"
        refine ⟨_, _, rfl, ?_⟩
        walk_at "w"
        refine ⟨_, _, rfl, ?_⟩
        walk_at "w"
        refine w_mkT (by simp) fun t2 H3 s3 n3 h3' => ?_
        exact fin _ hst H3 t2 (s2.trans s3) (s2.free n3) _ _ _ _ h3'
    · walk_at "w"
      refine ⟨hw, sky.winds, _, _, rfl, h3.up sm, hwl, fun H2 r dx dy s2 hr2 => ?_⟩
      walk_at "w"
      refine ⟨_, _, rfl, ?_⟩
      walk_at "w"
      refine ⟨_, _, rfl, ?_⟩
      walk_at "w"
      refine w_mkT (by simp) fun t2 H3 s3 n3 h3' => ?_
      exact fin _ hst H3 t2 (s2.trans s3) (s2.free n3) _ _ _ _ h3'
end
theorem ne_sacks : ¬ (("sacks" : Str) = ("" : Str)) := by decide +kernel
theorem ne_puffs : ¬ (("puffs" : Str) = ("" : Str)) := by decide +kernel
theorem ne_high : ¬ (("high" : Str) = ("" : Str)) := by decide +kernel
theorem ne_low : ¬ (("low" : Str) = ("" : Str)) := by decide +kernel
abbrev s__law_why : Stmt := topS 41
abbrev nm__law_why : List Str := ["_law_sky_here", "_law_hour", "_law_state_here", "_law_order"]
theorem sc__law_why : FnScope nm__law_why ["_law_sky_here", "_law_hour", "_law_state_here", "_law_order"] (defScope s__law_why) := ⟨rfl, rfl, rfl, by decide +kernel, rfl, by decide +kernel, by decide +kernel⟩
-- slots: 0:_law_sky_here 1:_law_hour 2:_law_state_here 3:_law_order
def sp_lwhy : Sp := fun vs H Q _ => ∃ (a b : Addr) (sky : Sky) (hour : Int) (t : S5) (o : O3), vs = [.ref a, .int hour, .ref b, .str o.w] ∧ SkyAt H a sky ∧ SkyLen sky ∧ H b = some (.tup t.v) ∧ 0 ≤ t.z ∧
  ∀ H' (x : Str), Same H H' → (x = ("" : Str) → ¬ (o = .down ∧ t.z = 0)) → Q (.str x) H'
section
variable {P : Program} {w : World} {K : PySem.W.Frag} {mg : Str → Option Value} {base : Heap}
theorem cl_lwhy (D : Df K mg "_law_why" s__law_why) (T : Txt K mg) (C__law_stand : Cl P w K mg base 3 "_law_stand" sp_lstand) (C__law_led : Cl P w K mg base 2 "_law_led" sp_lled) : Cl P w K mg base 4 "_law_why" sp_lwhy := by
  refine Cl.of D sc__law_why (fun _ _ _ _ _ _ us hl => match us, hl with | [_, _, _, _], _ => rfl) (fun vs H Q E h => ?_) (fun f cdv A outer s H vs Q E hr h => ?_)
  · obtain ⟨_, _, _, _, _, _, rfl, _⟩ := h
    rfl
  · obtain ⟨a, b, sky, hour, t, o, rfl, hs, hsl, ht, hz, q⟩ := h
    have nd := sc__law_why.nd
    have ht0 := ht
    simp only [S5.v] at ht
    refine ⟨_, (pss_cons (ps_if (PW.pt (pw_and (pt_cmpR op_eq (pv 3) pe_str (nomark _)) (pw_and1 (pt_cmpR op_eq (pe_ix ix_tup (pv 2) pe_int (fun _ _ => rfl)) pe_int (nomark _))))) (pss_one (ps_ret pe_str)) pss_nil)
      (pss_cons (ps_if (PW.pt (pw_and (pt_cmpR op_eq (pv 3) pe_str (nomark _)) (pw_and1 (pt_cmpR op_eq (pe_ix ix_tup (pv 2) pe_int (fun _ _ => rfl)) pe_int (nomark _))))) (pss_one (ps_ret pe_str)) pss_nil)
      (pss_cons (ps_if (PW.pt (pw_and (pt_cmpR op_eq (pv 3) pe_str (nomark _)) (pw_and1 (pt_cmpR op_eq (pe_ix ix_tup (pv 2) pe_int (fun _ _ => rfl)) pe_int (nomark _))))) (pss_one (ps_ret pe_str)) pss_nil)
      (pss_cons (ps_if (PW.pt (pw_and (pt_cmpR op_eq (pv 3) pe_str (nomark _)) (pw_and1 (pt_cmpR op_eq (pe_ix ix_tup (pv 2) pe_int (fun _ _ => rfl)) pe_int (nomark _))))) (pss_one (ps_ret pe_str)) pss_nil)
      (pss_one (ps_ret (pe_cl C__law_stand hr (by decide) (by rfl) (pa_cons (pv 0) (pa_cons (pe_op op_add (pv 1) pe_int) (pa_cons (pe_cl C__law_led hr (by decide) (by rfl) (pa_cons (pv 0) (pa_cons (pv 1) (pa_cons (pv 2) (pa_cons (pv 3) pa_nil))))) pa_nil)))))))))), ?_⟩
    rw [show L2.start nm__law_why [V.ref a, V.int hour, V.ref b, V.str o.w] = [some (V.ref a), some (V.int hour), some (V.ref b), some (V.str o.w)] from rfl]
    cases o
    · walk_at "w"; simp only [ord_up]; walk_at "known"; walk_at "w"
      refine w_ite (fun h1 => ?_) (fun h1 => ?_)
      · walk_at "w"; exact q _ _ (Same.refl _) (fun e => absurd e ne_sacks)
      · walk_at "w"; simp only [ord_down]; walk_at "known"; walk_at "w"; simp only [ord_up]; walk_at "known"; walk_at "w"
        refine w_ite (fun h2 => ?_) (fun h2 => ?_)
        · walk_at "w"; exact q _ _ (Same.refl _) (fun e => absurd e ne_high)
        walk_at "w"; simp only [ord_down]; walk_at "known"; walk_at "w"
        refine ⟨a, b, sky, hour, t, _, rfl, hs, hsl, ht0, hz, (fun z => by cases z.1), fun H2 r t2 s2 n2 h9 hz2 => ?_⟩
        walk_at "w"
        exact ⟨a, r, sky, _, t2, rfl, hs.up s2, hsl, h9, fun H3 x s3 => q _ _ (s2.trans s3) fun _ => (fun z => by cases z.1)⟩
    · walk_at "w"; simp only [ord_up]; walk_at "known"; walk_at "w"; simp only [ord_down]; walk_at "known"; walk_at "w"; simp only [ord_up]; walk_at "known"; walk_at "w"; simp only [ord_down]; walk_at "known"; walk_at "w"
      refine ⟨a, b, sky, hour, t, _, rfl, hs, hsl, ht0, hz, (fun z => by cases z.1), fun H2 r t2 s2 n2 h9 hz2 => ?_⟩
      walk_at "w"
      exact ⟨a, r, sky, _, t2, rfl, hs.up s2, hsl, h9, fun H3 x s3 => q _ _ (s2.trans s3) fun _ => (fun z => by cases z.1)⟩
    · walk_at "w"; simp only [ord_up]; walk_at "known"; walk_at "w"; simp only [ord_down]; walk_at "known"; walk_at "w"
      refine w_ite (fun h1 => ?_) (fun h1 => ?_)
      · walk_at "w"; exact q _ _ (Same.refl _) (fun e => absurd e ne_puffs)
      · walk_at "w"; simp only [ord_up]; walk_at "known"; walk_at "w"; simp only [ord_down]; walk_at "known"; walk_at "w"
        refine w_ite (fun h2 => ?_) (fun h2 => ?_)
        · walk_at "w"; exact q _ _ (Same.refl _) (fun e => absurd e ne_low)
        walk_at "w"
        refine ⟨a, b, sky, hour, t, _, rfl, hs, hsl, ht0, hz, (fun z => h2 z.2), fun H2 r t2 s2 n2 h9 hz2 => ?_⟩
        walk_at "w"
        exact ⟨a, r, sky, _, t2, rfl, hs.up s2, hsl, h9, fun H3 x s3 => q _ _ (s2.trans s3) fun _ => (fun z => h2 z.2)⟩
end
end Bal
namespace Bal
abbrev s__law_next : Stmt := topS 42
abbrev nm__law_next : List Str := ["_law_sky_here", "_law_hour", "_law_some", "_law_found", "_law_one", "_law_order"]
theorem sc__law_next : FnScope nm__law_next ["_law_sky_here", "_law_hour", "_law_some"] (defScope s__law_next) := ⟨rfl, rfl, rfl, by decide +kernel, rfl, by decide +kernel, by decide +kernel⟩
-- slots: 0:_law_sky_here 1:_law_hour 2:_law_some 3:_law_found 4:_law_one 5:_law_order
def sp_lnext : Sp := fun vs H Q _ => ∃ (a p : Addr) (sky : Sky) (hour : Int) (L : List S5), vs = [.ref a, .int hour, .ref p] ∧ SkyAt H a sky ∧ SkyLen sky ∧ ListOf S5.v H p L ∧ (∀ t, t ∈ L → 0 ≤ t.z) ∧ L.length ≤ 10000 ∧
  ∀ H' r M, Same H H' → H r = none → ListOf S5.v H' r M → (∀ t, t ∈ M → 0 ≤ t.z) → M.length ≤ 3 * L.length → Q (.ref r) H'
section
variable {P : Program} {w : World} {K : PySem.W.Frag} {mg : Str → Option Value} {base : Heap}
theorem cl_lnext (D : Df K mg "_law_next" s__law_next) (T : Txt K mg) (C__law_why : Cl P w K mg base 4 "_law_why" sp_lwhy) (C__law_led : Cl P w K mg base 2 "_law_led" sp_lled) : Cl P w K mg base 5 "_law_next" sp_lnext := by
  refine Cl.of D sc__law_next (fun _ _ _ _ _ _ us hl => match us, hl with | [_, _, _], _ => rfl) (fun vs H Q E h => ?_) (fun f cdv A outer s H vs Q E hr h => ?_)
  · obtain ⟨_, _, _, _, _, rfl, _⟩ := h
    rfl
  · obtain ⟨a, p, sky, hour, L, rfl, hs, hsl, hL, hz, hlen, q⟩ := h
    have nd := sc__law_next.nd
    have hu := hu_of hr
    obtain ⟨vs, hv, _⟩ := id hL
    refine ⟨_, (pss_cons (ps_set (i := 3) nd rfl (.inl rfl) pe_dnewT)
      (pss_cons (ps_for PassesOwn.never rfl (pi_list (pv 2)) (pg_name (i := 4) nd rfl (.inl rfl)) (pss_one (ps_for PassesOwn.never rfl (pi_tup (pe_tup (pa_cons pe_str (pa_cons pe_str (pa_cons pe_str pa_nil))))) (pg_name (i := 5) nd rfl (.inl rfl)) (pss_one (ps_if (pt_cmpR op_eq (pe_cl C__law_why hr (by decide) (by rfl) (pa_cons (pv 0) (pa_cons (pv 1) (pa_cons (pv 4) (pa_cons (pv 5) pa_nil))))) pe_str (nomark _)) (pss_one (ps_dput hu (pv 3) (pe_cl C__law_led hr (by decide) (by rfl) (pa_cons (pv 0) (pa_cons (pv 1) (pa_cons (pv 4) (pa_cons (pv 5) pa_nil))))) pe_bl rfl)) pss_nil)))))
      (pss_one (ps_ret (pe_callB cr_sorted5 (by rfl) T.b_sorted (by decide +kernel) (pa_cons (pe_callTy (call_list_dT rfl) (by rfl) T.b_list (by decide +kernel) (pa_cons (pv 3) pa_nil)) pa_nil)))))), ?_⟩
    rw [show L2.start nm__law_next [V.ref a, V.int hour, V.ref p] = [some (V.ref a), some (V.int hour), some (V.ref p), none, none, none] from rfl]
    walk_at "w"
    refine w_dnewT fun d H1 s1 n1 h1 => ?_
    walk_at "w"
    refine w_forV rfl (s1 _ _ hv) (forgo_T hL (fun r σ' H' => Same H H' ∧ (∀ t, t ∈ r → 0 ≤ t.z) ∧ ∃ (M : List S5) (y4 y5 : Option V), σ' = [some (.ref a), some (.int hour), some (.ref p), some (.ref d), y4, y5] ∧ H' d = some (.dT (dictL M)) ∧ M.Nodup ∧
        (∀ t, t ∈ M → 0 ≤ t.z) ∧ M.length + 3 * r.length ≤ 3 * L.length)
      ⟨s1, hz, [], none, none, rfl, h1, List.nodup_nil, by simp, by simp⟩ (fun r σ' H' z => z.1) ?_ ?_)
    · rintro u r b σ' H' ⟨sm, hzr, M, _, _, rfl, hd, ndM, hm, hln⟩ hb
      rw [List.length_cons] at hln
      walk_at "w"
      refine w_forT ?_
      walk_at "w"
      refine w_mkT (by simp) fun c H2 s2 n2 h2 => ?_
      have hcv : ([.str "up", .str "level", .str "down"] : List V) = ordsV [.up, .level, .down] := rfl
      rw [hcv] at h2
      refine ⟨c, rfl, ⟨_, .inl (.inl h2)⟩, fori_T (vs := ordsV [.up, .level, .down]) (fun ro σ2 H3 => Same H H3 ∧ H3 b = some (.tup u.v) ∧ H3 c = some (.tup (ordsV [.up, .level, .down])) ∧ ∃ (M : List S5) (ors : List O3) (y5 : Option V),
          σ2 = [some (.ref a), some (.int hour), some (.ref p), some (.ref d), some (.ref b), y5] ∧ H3 d = some (.dT (dictL M)) ∧ M.Nodup ∧ ro = ordsV ors ∧
          (∀ t, t ∈ M → 0 ≤ t.z) ∧ M.length + ors.length + 3 * r.length ≤ 3 * L.length)
        ⟨sm.trans s2, s2 _ _ hb, h2, M, [.up, .level, .down], _, rfl, s2 _ _ hd, ndM, rfl, hm, by simp; omega⟩ (fun ro σ2 H3 z => .inl (.inl z.2.2.1)) ?_ ?_⟩
      · rintro x ro σ2 H3 ⟨sm3, hb3, hc3, M3, ors, _, rfl, hd3, nd3, e1, hm3, hl3⟩
        cases ors with
        | nil => cases e1
        | cons o ors =>
          rw [ordsV, List.map_cons, List.cons.injEq] at e1
          obtain ⟨rfl, e1⟩ := e1
          rw [List.length_cons] at hl3
          walk_at "w"
          refine ⟨a, b, sky, hour, u, o, rfl, hs.up sm3, hsl, hb3, hzr u (by simp), fun H4 x s4 hx => ?_⟩
          walk_at "w"
          refine w_ite (fun ex => ?_) (fun _ => ?_)
          · walk_at "w"
            refine ⟨a, b, sky, hour, u, o, rfl, (hs.up sm3).up s4, hsl, s4 _ _ hb3, hzr u (by simp), hx ex, fun H5 k t' s5 n5 h5 hz5 => ?_⟩
            have hd5 := s5 _ _ (s4 _ _ hd3)
            have s35 := s4.trans s5
            have hsz : (dictL M3).length < sizeLine := by
              unfold dictL
              rw [List.length_map, sizeLine_eq]
              omega
            obtain ⟨M4, e4, nd4, hm4, hl4⟩ := dict_put t' nd3
            refine ⟨d, _, rfl, DPut.t (k := keyL t') hd5 h5 hsz, ?_⟩
            rw [e4]
            refine ⟨same_mut (sm3.trans s35) n1, same_upd_ne (s35 _ _ hb3) (ne_of (s35 _ _ hb3) hd5 (by intro z; cases z)), same_upd_ne (s35 _ _ hc3) (ne_of (s35 _ _ hc3) hd5 (by intro z; cases z)),
              M4, ors, _, rfl, upd_same, nd4, e1, fun t ht => ?_, by omega⟩
            rcases (hm4 t).mp ht with z | z
            · exact hm3 t z
            · rw [z]; exact hz5
          · walk_at "w"
            exact ⟨sm3.trans s4, s4 _ _ hb3, s4 _ _ hc3, M3, ors, _, rfl, s4 _ _ hd3, nd3, e1, hm3, by omega⟩
      · rintro σ2 H3 ⟨sm3, hb3, hc3, M3, ors, _, rfl, hd3, nd3, e1, hm3, hl3⟩
        exact ⟨sm3, fun t ht => hzr t (by simp [ht]), M3, _, _, rfl, hd3, nd3, hm3, by omega⟩
    · rintro σ' H' ⟨sm, _, M, _, _, rfl, hd, ndM, hm, hln⟩
      walk_at "w"
      refine ⟨d, _, rfl, .inl hd, fun l bs hl hk => ?_⟩
      walk_at "w"
      have hk2 : ListOf S5.v (upd H' l (.lst (bs.map V.ref))) l M := ⟨_, upd_same, paired_up (same_new hl) (keys_list hk)⟩
      refine ⟨l, M, rfl, hk2, fun r M2 H3 s3 n3 h3 hp ho => ?_⟩
      have sm2 : Same H (upd H' l (.lst (bs.map V.ref))) := sm.trans (same_new hl)
      refine q H3 r M2 (sm2.trans s3) (sm2.free n3) h3 (fun t ht => hm t (hp.mem_iff.mp ht)) ?_
      rw [hp.length_eq]
      simpa using hln
end
abbrev s__law_layers : Stmt := topS 43
abbrev nm__law_layers : List Str := ["_law_sky_here", "_law_hour", "_law_state_here", "_law_many", "_law_rows", "_law_at"]
theorem sc__law_layers : FnScope nm__law_layers ["_law_sky_here", "_law_hour", "_law_state_here", "_law_many"] (defScope s__law_layers) := ⟨rfl, rfl, rfl, by decide +kernel, rfl, by decide +kernel, by decide +kernel⟩
-- slots: 0:_law_sky_here 1:_law_hour 2:_law_state_here 3:_law_many 4:_law_rows 5:_law_at
def RowL (l : Addr) (H : Hp) (v : V) (L : List S5) : Prop := ∃ q, v = V.ref q ∧ q ≠ l ∧ ListOf S5.v H q L
/-- at r: the list of the rows -/
def LayAt (H : Hp) (r : Addr) (R : List (List S5)) : Prop := ∃ vs, H r = some (.lst vs) ∧ Paired (RowL r H) vs R
theorem RowL.up {l : Addr} {H H' : Hp} {v : V} {L : List S5} (s : Same H H') (h : RowL l H v L) : RowL l H' v L := by
  obtain ⟨q, e, g, h⟩ := h
  exact ⟨q, e, g, h.up s⟩
theorem rowls_up {l : Addr} {H H' : Hp} (s : Same H H') : ∀ {vs : List V} {R : List (List S5)}, Paired (RowL l H) vs R → Paired (RowL l H') vs R
  | _, _, .nil => .nil
  | _, _, .cons h r => .cons (h.up s) (rowls_up s r)
theorem LayAt.up {H H' : Hp} {r : Addr} {R : List (List S5)} (s : Same H H') (h : LayAt H r R) : LayAt H' r R := by
  obtain ⟨vs, e, h⟩ := h
  exact ⟨vs, s _ _ e, rowls_up s h⟩
theorem rowls_upd {l : Addr} {H : Hp} {o : List V} {new : HO} (hl : H l = some (.lst o)) : ∀ {vs : List V} {R : List (List S5)}, Paired (RowL l H) vs R → Paired (RowL l (upd H l new)) vs R
  | _, _, .nil => .nil
  | _, _, .cons ⟨q, e, g, h⟩ r => .cons ⟨q, e, g, h.upd hl g⟩ (rowls_upd hl r)
def sp_llayers : Sp := fun vs H Q _ => ∃ (a b : Addr) (sky : Sky) (hour : Int) (t : S5) (many : Int), vs = [.ref a, .int hour, .ref b, .int many] ∧ SkyAt H a sky ∧ SkyLen sky ∧ H b = some (.tup t.v) ∧ 0 ≤ t.z ∧ 0 ≤ many ∧ many ≤ 8 ∧
  ∀ H' r (R : List (List S5)), Same H H' → H r = none → LayAt H' r R → (R.length : Int) = many + 1 → (∀ (k : Nat) (L : List S5), R[k]? = some L → (∀ t, t ∈ L → 0 ≤ t.z) ∧ L.length ≤ 6561) → Q (.ref r) H'
section
variable {P : Program} {w : World} {K : PySem.W.Frag} {mg : Str → Option Value} {base : Heap}
theorem cl_llayers (D : Df K mg "_law_layers" s__law_layers) (T : Txt K mg) (C__law_next : Cl P w K mg base 5 "_law_next" sp_lnext) : Cl P w K mg base 6 "_law_layers" sp_llayers := by
  refine Cl.of D sc__law_layers (fun _ _ _ _ _ _ us hl => match us, hl with | [_, _, _, _], _ => rfl) (fun vs H Q E h => ?_) (fun f cdv A outer s H vs Q E hr h => ?_)
  · obtain ⟨_, _, _, _, _, _, rfl, _⟩ := h
    rfl
  · obtain ⟨a, b, sky, hour, t, many, rfl, hs, hsl, hb, hz, hm0, hm8, q⟩ := h
    have nd := sc__law_layers.nd
    refine ⟨_, (pss_cons (ps_set (i := 4) nd rfl (.inl rfl) (pe_lst (pa_cons (pe_lst (pa_cons (pv 2) pa_nil)) pa_nil)))
      (pss_cons (ps_for PassesOwn.never rfl (pi_range1 (by rfl) T.b_range (pa_cons (pv 3) pa_nil)) (pg_name (i := 5) nd rfl (.inl rfl)) (pss_one (ps_expr (pe_bm PySem.F.plainAttrs_list PySem.F.slot_list_append PySem.F.type_list_append mt_append (pv 4) (pa_cons (pe_cl C__law_next hr (by decide) (by rfl) (pa_cons (pv 0) (pa_cons (pe_op op_add (pv 1) (pv 5)) (pa_cons (pe_ix ix_list (pv 4) (pe_un un_neg pe_int) (fun _ _ => rfl)) pa_nil)))) pa_nil)))))
      (pss_one (ps_ret (pv 4))))), ?_⟩
    rw [show L2.start nm__law_layers [V.ref a, V.int hour, V.ref b, V.int many] = [some (V.ref a), some (V.int hour), some (V.ref b), some (V.int many), none, none] from rfl]
    walk_at "n"
    refine w_mkL (by simp) fun l0 H1 s1 n1 h1 => ?_
    walk_at "n"
    refine w_mkL (by simp) fun l H2 s2 n2 h2 => ?_
    walk_at "n"
    refine w_forR1 ?_
    walk_at "n"
    refine ⟨_, rfl, by omega, by omega, ?_⟩
    have nl : H l = none := s1.free n2
    have h00 : RowL l H2 (.ref l0) [t] := ⟨l0, rfl, ne_of_none h1 n2, _, s2 _ _ h1, .cons ⟨b, rfl, (s1.trans s2) _ _ hb⟩ .nil⟩
    refine fori_R (fun i σ' H' => i ≤ 8 ∧ Same H H' ∧ ∃ (y5 : Option V) (R : List (List S5)), σ' = [some (.ref a), some (.int hour), some (.ref b), some (.int many), some (.ref l), y5] ∧ LayAt H' l R ∧ R.length = i + 1 ∧ ∀ (k : Nat) (L : List S5), R[k]? = some L → (∀ t, t ∈ L → 0 ≤ t.z) ∧ L.length ≤ 3 ^ k)
      ⟨by omega, s1.trans s2, none, [[t]], rfl, ⟨_, h2, .cons h00 .nil⟩, rfl, ?_⟩ ?_ ?_
    · intro k L hk
      cases k with
      | zero =>
        simp only [List.getElem?_cons_zero, Option.some.injEq] at hk
        subst hk
        exact ⟨by simpa using hz, by simp⟩
      | succ k => simp at hk
    · rintro i σ' H3 hi ⟨hi8, sm, _, R, rfl, ⟨vs, hv, hp⟩, hR, hk⟩
      have hvl := paired_len hp
      obtain ⟨L, hL⟩ : ∃ L, R[i]? = some L := ⟨_, List.getElem?_eq_getElem (by omega)⟩
      obtain ⟨hLz, hLl⟩ := hk i L hL
      obtain ⟨v, ev, q0, rfl, hq0, hql⟩ := paired_at' hp hL
      walk_at "n"
      refine ⟨.inl ⟨rfl, _, .inl (.inl hv)⟩, ?_⟩
      walk_at "n"
      refine ⟨l, vs, -1, .ref q0, rfl, rfl, .inl (.inl hv), atI_end (i := i) (by omega) ev, ?_⟩
      walk_at "n"
      have h3i : 3 ^ i ≤ 6561 := pow3 hi8
      refine ⟨a, q0, sky, _, L, rfl, hs.up sm, hsl, hql, hLz, by omega, fun H4 r M s4 n4 h4 hMz hMl => ?_⟩
      walk_at "n"
      have hv4 := s4 _ _ hv
      refine ⟨l, vs, _, rfl, rfl, hv4, by rw [sizeLine_eq]; omega, ?_⟩
      refine ⟨by omega, same_mut (sm.trans s4) nl, _, R ++ [M], rfl, ⟨_, upd_same, ?_⟩, by rw [List.length_append, hR, List.length_singleton], ?_⟩
      · have ne : r ≠ l := fun z => by rw [z, hv] at n4; cases n4
        exact paired_snoc (rowls_upd hv4 (rowls_up s4 hp)) ⟨r, rfl, ne, h4.upd hv4 ne⟩
      · intro k L' hk'
        by_cases hlt : k < R.length
        · rw [List.getElem?_append_left hlt] at hk'
          exact hk k L' hk'
        · rw [List.getElem?_append_right (by omega)] at hk'
          have ek : k = i + 1 := by
            have := (List.getElem?_eq_some_iff.mp hk').1
            rw [List.length_singleton] at this
            omega
          subst ek
          rw [show i + 1 - R.length = 0 by omega, List.getElem?_cons_zero, Option.some.injEq] at hk'
          subst hk'
          refine ⟨hMz, ?_⟩
          rw [Nat.pow_succ]
          omega
    · rintro σ' H3 ⟨hi8, sm, _, R, rfl, hR, hRl, hk⟩
      walk_at "n"
      refine q H3 l R sm nl hR (by omega) fun k L hk' => ?_
      obtain ⟨h1, h2⟩ := hk k L hk'
      refine ⟨h1, Nat.le_trans h2 (pow3 ?_)⟩
      have := (List.getElem?_eq_some_iff.mp hk').1
      omega
end
end Bal
namespace Bal
theorem SkyAt.copyL {α : Type} {enc : α → List V} {H H2 : Hp} {h l : Addr} {vs : List V} {xs : List α} (hp : Paired (TupOf enc H) vs xs) (s : Same H H2) (hl : H2 l = some (.lst vs)) : ListOf enc H2 l xs := ⟨vs, hl, paired_up s hp⟩
abbrev s__law_copy : Stmt := topS 44
abbrev nm__law_copy : List Str := ["_law_sky_here"]
theorem sc__law_copy : FnScope nm__law_copy ["_law_sky_here"] (defScope s__law_copy) := ⟨rfl, rfl, rfl, by decide +kernel, rfl, by decide +kernel, by decide +kernel⟩
-- slots: 0:_law_sky_here
def sp_lcopy : Sp := fun vs H Q _ => ∃ (a : Addr) (sky : Sky), vs = [.ref a] ∧ SkyAt H a sky ∧ ∀ H' p, Same H H' → SkyAt H' p sky → Q (.ref p) H'
section
variable {P : Program} {w : World} {K : PySem.W.Frag} {mg : Str → Option Value} {base : Heap}
theorem cl_lcopy (D : Df K mg "_law_copy" s__law_copy) (T : Txt K mg) : Cl P w K mg base 1 "_law_copy" sp_lcopy := by
  refine Cl.of D sc__law_copy (fun _ _ _ _ _ _ us hl => match us, hl with | [_], _ => rfl) (fun vs H Q E h => ?_) (fun f cdv A outer s H vs Q E hr h => ?_)
  · obtain ⟨_, _, rfl, _⟩ := h
    rfl
  · obtain ⟨a, sky, rfl, hs, q⟩ := h
    have nd := sc__law_copy.nd
    obtain ⟨hh, hc, hw, hsh, ha, ⟨v1, e1, p1⟩, h2, ⟨v3, e3, p3⟩, ⟨v4, e4, p4⟩⟩ := hs.ex
    refine ⟨_, (pss_one (ps_ret (pe_tup (pa_cons (pe_callTy call_list_of (by rfl) T.b_list (by decide +kernel) (pa_cons (pe_ix ix_tup (pv 0) pe_int (fun _ _ => rfl)) pa_nil)) (pa_cons (pe_callTy call_list_of (by rfl) T.b_list (by decide +kernel) (pa_cons (pe_ix ix_tup (pv 0) pe_int (fun _ _ => rfl)) pa_nil)) (pa_cons (pe_callTy call_list_of (by rfl) T.b_list (by decide +kernel) (pa_cons (pe_ix ix_tup (pv 0) pe_int (fun _ _ => rfl)) pa_nil)) (pa_cons (pe_callTy call_list_of (by rfl) T.b_list (by decide +kernel) (pa_cons (pe_ix ix_tup (pv 0) pe_int (fun _ _ => rfl)) pa_nil)) pa_nil))))))), ?_⟩
    rw [show L2.start nm__law_copy [V.ref a] = [some (V.ref a)] from rfl]
    walk_at "w"
    refine ⟨_, _, rfl, .inl (.inl (.inl (e1))), fun l1 n1 => ?_⟩
    have s1 := same_new (o := .lst v1) n1
    have g1 : upd H l1 (.lst v1) l1 = some (.lst v1) := upd_same
    generalize upd H l1 (.lst v1) = H1 at s1 g1 ⊢
    walk_at "w"
    refine ⟨_, _, rfl, .inl (.inl (.inl ((s1 _ _ h2)))), fun l2 n2 => ?_⟩
    have s2 := same_new (o := .lst (sky.cool.map V.int)) n2
    have g2 : upd H1 l2 (.lst (sky.cool.map V.int)) l2 = some (.lst (sky.cool.map V.int)) := upd_same
    generalize upd H1 l2 (.lst (sky.cool.map V.int)) = H2 at s2 g2 ⊢
    walk_at "w"
    refine ⟨_, _, rfl, .inl (.inl (.inl ((s2 _ _ (s1 _ _ e3))))), fun l3 n3 => ?_⟩
    have s3 := same_new (o := .lst v3) n3
    have g3 : upd H2 l3 (.lst v3) l3 = some (.lst v3) := upd_same
    generalize upd H2 l3 (.lst v3) = H3 at s3 g3 ⊢
    walk_at "w"
    refine ⟨_, _, rfl, .inl (.inl (.inl ((s3 _ _ (s2 _ _ (s1 _ _ e4)))))), fun l4 n4 => ?_⟩
    have s4 := same_new (o := .lst v4) n4
    have g4 : upd H3 l4 (.lst v4) l4 = some (.lst v4) := upd_same
    generalize upd H3 l4 (.lst v4) = H4 at s4 g4 ⊢
    walk_at "w"
    refine w_mkT (by simp) fun t H5 s5 n5 g5 => ?_
    have s15 := (((s1.trans s2).trans s3).trans s4).trans s5
    exact q H5 t s15 ⟨l1, l2, l3, l4, g5, ⟨v1, s5 _ _ (s4 _ _ (s3 _ _ (s2 _ _ g1))), paired_up s15 p1⟩, s5 _ _ (s4 _ _ (s3 _ _ g2)), ⟨v3, s5 _ _ (s4 _ _ g3), paired_up s15 p3⟩, ⟨v4, s5 _ _ g4, paired_up s15 p4⟩⟩
end
abbrev s__law_flat : Stmt := topS 46
abbrev nm__law_flat : List Str := ["_law_rows", "_law_found", "_law_row"]
theorem sc__law_flat : FnScope nm__law_flat ["_law_rows"] (defScope s__law_flat) := ⟨rfl, rfl, rfl, by decide +kernel, rfl, by decide +kernel, by decide +kernel⟩
-- slots: 0:_law_rows 1:_law_found 2:_law_row
def RowV (H : Hp) (v : V) (L : List S5) : Prop := ∃ q, v = V.ref q ∧ ListOf S5.v H q L
theorem rowv_up {H H' : Hp} (s : Same H H') : ∀ {vs : List V} {R : List (List S5)}, Paired (RowV H) vs R → Paired (RowV H') vs R
  | _, _, .nil => .nil
  | _, _, .cons ⟨q, e, h⟩ r => .cons ⟨q, e, h.up s⟩ (rowv_up s r)
def sp_lflat : Sp := fun vs H Q _ => ∃ (p : Addr) (ws : List V) (R : List (List S5)), vs = [.ref p] ∧ H p = some (.lst ws) ∧ Paired (RowV H) ws R ∧ R.flatten.length ≤ 1000000 ∧
  ∀ H' r, Same H H' → H r = none → ListOf S5.v H' r R.flatten → Q (.ref r) H'
section
variable {P : Program} {w : World} {K : PySem.W.Frag} {mg : Str → Option Value} {base : Heap}
theorem cl_lflat (D : Df K mg "_law_flat" s__law_flat) (T : Txt K mg) : Cl P w K mg base 1 "_law_flat" sp_lflat := by
  refine Cl.of D sc__law_flat (fun _ _ _ _ _ _ us hl => match us, hl with | [_], _ => rfl) (fun vs H Q E h => ?_) (fun f cdv A outer s H vs Q E hr h => ?_)
  · obtain ⟨_, _, _, rfl, _⟩ := h
    rfl
  · obtain ⟨p, ws, R, rfl, hp, hR, hl, q⟩ := h
    have nd := sc__law_flat.nd
    refine ⟨_, (pss_cons (ps_set (i := 1) nd rfl (.inl rfl) (pe_lst pa_nil))
      (pss_cons (ps_for PassesOwn.never rfl (pi_list (pv 0)) (pg_name (i := 2) nd rfl (.inl rfl)) (pss_one (ps_set (i := 1) nd rfl (.inl rfl) (pe_op op_cat (pv 1) (pv 2)))))
      (pss_one (ps_ret (pv 1))))), ?_⟩
    rw [show L2.start nm__law_flat [V.ref p] = [some (V.ref p), none, none] from rfl]
    walk_at "w"
    refine w_mkL (by simp) fun l0 H1 s1 n1 h1 => ?_
    walk_at "w"
    refine w_forV rfl (s1 _ _ hp) (forgo_V (vs := ws) (fun r σ' H' => Same H H' ∧ ∃ (y2 : Option V) (f : Addr) (D U : List (List S5)), σ' = [some (.ref p), some (.ref f), y2] ∧ R = D ++ U ∧ Paired (RowV H') r U ∧ H f = none ∧ ListOf S5.v H' f D.flatten)
      ⟨s1, none, l0, [], R, rfl, rfl, rowv_up s1 hR, n1, ⟨_, h1, .nil⟩⟩ (fun r σ' H' z => .inl (.inl (z.1 _ _ hp))) ?_ ?_)
    · rintro x r σ' H' ⟨sm, _, f, D, U, rfl, eR, hU, nf, vf, hvf, hpf⟩
      cases hU with
      | cons hx hU =>
        rename_i L U
        obtain ⟨q0, rfl, vq, hvq, hpq⟩ := hx
        walk_at "w"
        have l1 := paired_len hpf
        have l2 := paired_len hpq
        have lR : D.flatten.length + L.length ≤ R.flatten.length := by
          rw [eR, List.flatten_append, List.flatten_cons, List.length_append, List.length_append]; omega
        refine w_catL hvf hvq (by omega) fun g H2 s2 n2 h2 => ?_
        walk_at "w"
        refine ⟨sm.trans s2, _, g, D ++ [L], U, rfl, by rw [eR]; simp, rowv_up s2 hU, sm.free n2, _, h2, ?_⟩
        rw [List.flatten_append, List.flatten_cons, List.flatten_nil, List.append_nil]
        exact paired_app (paired_up s2 hpf) (paired_up s2 hpq)
    · rintro σ' H' ⟨sm, _, f, D, U, rfl, eR, hU, nf, hf⟩
      cases hU
      rw [List.append_nil] at eR
      subst eR
      walk_at "w"
      exact q H' f sm nf hf
end
theorem mod_le {z m : Int} (h : m ≤ 8) : z % (25 - m) + m ≤ 24 := by
  have e := Int.emod_lt_of_pos z (show 0 < 25 - m by omega)
  omega
abbrev s__law_case : Stmt := topS 45
abbrev nm__law_case : List Str := ["_law_numbers_here", "_law_base_here", "_law_many", "_law_left", "_law_hour", "_law_sky_here", "_law_state_here"]
theorem sc__law_case : FnScope nm__law_case ["_law_numbers_here"] (defScope s__law_case) := ⟨rfl, rfl, rfl, by decide +kernel, rfl, by decide +kernel, by decide +kernel⟩
-- slots: 0:_law_numbers_here 1:_law_base_here 2:_law_many 3:_law_left 4:_law_hour 5:_law_sky_here 6:_law_state_here
def sp_lcase : Sp := fun vs H Q _ => ∃ (r : Addr) (xs : List Int), vs = [.ref r] ∧ NumsAt H r xs 230 ∧
  ∀ H' (p b sk st : Addr) (x y hour many : Int) (sky : Sky) (t : S5), Same H H' → H' p = some (.tup [.ref b, .int hour, .int many, .ref sk, .ref st]) → H' b = some (.tup [.int x, .int y]) → 0 ≤ hour → 0 ≤ many → many ≤ 8 → hour + many ≤ 24 →
    SkyAt H' sk sky → SkyLen sky → H' st = some (.tup t.v) → 0 ≤ t.z → Q (.ref p) H'
section
variable {P : Program} {w : World} {K : PySem.W.Frag} {mg : Str → Option Value} {base : Heap}
theorem cl_lcase (D : Df K mg "_law_case" s__law_case) (T : Txt K mg) (C__law_base : Cl P w K mg base 1 "_law_base" sp_base) (C__law_sky : Cl P w K mg base 2 "_law_sky" sp_sky) (C__law_state : Cl P w K mg base 1 "_law_state" sp_state) : Cl P w K mg base 3 "_law_case" sp_lcase := by
  refine Cl.of D sc__law_case (fun _ _ _ _ _ _ us hl => match us, hl with | [_], _ => rfl) (fun vs H Q E h => ?_) (fun f cdv A outer s H vs Q E hr h => ?_)
  · obtain ⟨_, _, rfl, _⟩ := h
    rfl
  · obtain ⟨r, xs, rfl, hx, q⟩ := h
    have nd := sc__law_case.nd
    refine ⟨_, (pss_cons (ps_set (i := 1) nd rfl (.inl rfl) (pe_cl C__law_base hr (by decide) (by rfl) (pa_cons (pe_slice sl_list (pv 0) po_none (po_some pe_int)) pa_nil)))
      (pss_cons (ps_set (i := 2) nd rfl (.inl rfl) (pe_op op_mod (pe_ix ix_list (pv 0) pe_int (fun _ _ => rfl)) pe_int))
      (pss_cons (ps_set (i := 3) nd rfl (.inl rfl) (pe_tup (pa_cons pe_int (pa_cons pe_int pa_nil))))
      (Evl.pss_cut (ps_if (pt_cmpR op_eq (pe_op op_mod (pe_ix ix_list (pv 0) pe_int (fun _ _ => rfl)) pe_int) pe_int (nomark _)) (pss_one (ps_set (i := 2) nd rfl (.inl rfl) pe_int)) pss_nil)
      (Evl.pss_cut (ps_if (pt_cmpR op_eq (pe_op op_mod (pe_ix ix_list (pv 0) pe_int (fun _ _ => rfl)) pe_int) pe_int (nomark _)) (pss_cons (ps_set (i := 2) nd rfl (.inl rfl) (pe_op op_sub pe_int (pe_op op_mod (pe_ix ix_list (pv 0) pe_int (fun _ _ => rfl)) pe_int)))
      (pss_one (ps_set (i := 3) nd rfl (.inl rfl) (pe_ix ix_list (pe_lst (pa_cons (pe_tup (pa_cons pe_int (pa_cons pe_int pa_nil))) (pa_cons (pe_tup (pa_cons pe_int (pa_cons pe_int pa_nil))) (pa_cons (pe_tup (pa_cons pe_int (pa_cons pe_int pa_nil))) (pa_cons (pe_tup (pa_cons pe_int (pa_cons pe_int pa_nil))) pa_nil))))) (pe_op op_mod (pe_ix ix_list (pv 0) pe_int (fun _ _ => rfl)) pe_int) (fun _ _ => rfl))))) pss_nil)
      (pss_cons (ps_set (i := 4) nd rfl (.inl rfl) (pe_op op_mod (pe_ix ix_list (pv 0) pe_int (fun _ _ => rfl)) (pe_op op_sub pe_int (pv 2))))
      (Evl.pss_cut (ps_if (pt_cmpR op_eq (pe_op op_mod (pe_ix ix_list (pv 0) pe_int (fun _ _ => rfl)) pe_int) pe_int (nomark _)) (pss_one (ps_set (i := 4) nd rfl (.inl rfl) (pe_op op_sub pe_int (pv 2)))) pss_nil)
      (pss_cons (ps_set (i := 5) nd rfl (.inl rfl) (pe_cl C__law_sky hr (by decide) (by rfl) (pa_cons (pe_slice sl_list (pv 0) (po_some pe_int) (po_some pe_int)) (pa_cons (pv 1) (pa_cons (pv 4) pa_nil)))))
      (pss_cons (ps_set (i := 6) nd rfl (.inl rfl) (pe_cl C__law_state hr (by decide) (by rfl) (pa_cons (pe_slice sl_list (pv 0) (po_some pe_int) (po_some pe_int)) (pa_cons (pv 1) (pa_cons pe_int pa_nil)))))
      (pss_cons (ps_set (i := 6) nd rfl (.inl rfl) (pe_op op_catA (pe_slice sl_tup (pv 6) po_none (po_some pe_int)) (pe_tup (pa_cons (pe_op op_mod (pe_ix ix_list (pv 0) pe_int (fun _ _ => rfl)) (pe_op op_add (pe_ix ix_tup (pv 3) pe_int (fun _ _ => rfl)) pe_int)) (pa_cons (pe_op op_mod (pe_ix ix_list (pv 0) pe_int (fun _ _ => rfl)) (pe_op op_add (pe_ix ix_tup (pv 3) pe_int (fun _ _ => rfl)) pe_int)) pa_nil)))))
      (pss_one (ps_ret (pe_tup (pa_cons (pv 1) (pa_cons (pv 4) (pa_cons (pv 2) (pa_cons (pv 5) (pa_cons (pv 6) pa_nil)))))))))))))))))), ?_⟩
    rw [show L2.start nm__law_case [V.ref r] = [some (V.ref r), none, none, none, none, none, none] from rfl]
    walk_at "n"
    refine w_slN0 hx ⟨by decide, by decide⟩ fun p1 H1 ys s1 n1 h1 => ?_
    walk_at "n"
    refine ⟨p1, ys, rfl, h1, fun H2 b x y s2 hb => ?_⟩
    have s02 := s1.trans s2
    have hx2 := hx.up s02
    walk_at "n"
    refine w_mkT (by simp) fun l H3 s3 n3 h3 => ?_
    have hx3 := hx2.up s3
    walk_at "n"
    refine w_cut (fun σ' H' => Same H3 H' ∧ ∃ many : Int, 0 ≤ many ∧ many ≤ 5 ∧ σ' = [some (.ref r), some (.ref b), some (.int many), some (.ref l), none, none, none]) ?_ ?_
    · walk_at "n"
      refine w_ite (fun _ => ?_) (fun _ => ?_)
      · walk_at "n"
        exact ⟨Same.refl _, 5, by decide, by decide, rfl⟩
      · walk_at "n"
        exact ⟨Same.refl _, _, by omega, by omega, rfl⟩
    rintro σ' H4 ⟨s4, many, hm0, hm5, rfl⟩
    have hx4 := hx3.up s4
    have hb4 := s4 _ _ (s3 _ _ hb)
    have s04 := (s02.trans s3).trans s4
    refine w_cut (fun σ' H' => Same H4 H' ∧ ∃ (many a1 a2 : Int) (l : Addr), 0 ≤ many ∧ many ≤ 8 ∧ 0 ≤ a1 ∧ 0 ≤ a2 ∧ H' l = some (.tup [.int a1, .int a2]) ∧ σ' = [some (.ref r), some (.ref b), some (.int many), some (.ref l), none, none, none]) ?_ ?_
    · walk_at "n"
      refine w_ite (fun _ => ?_) (fun _ => ?_)
      · walk_at "n"
        refine w_mkT (by simp) fun t1 G1 g1 _ f1 => ?_
        walk_at "n"
        refine w_mkT (by simp) fun t2 G2 g2 _ f2 => ?_
        walk_at "n"
        refine w_mkT (by simp) fun t3 G3 g3 _ f3 => ?_
        walk_at "n"
        refine w_mkT (by simp) fun t4 G4 g4 _ f4 => ?_
        walk_at "n"
        refine w_mkL (by simp) fun t5 G5 g5 _ f5 => ?_
        have g15 := (((g1.trans g2).trans g3).trans g4).trans g5
        walk_at "n"
        have done : ∀ (i : Int) (t : Addr) (a1 a2 : Int), atI [V.ref t1, V.ref t2, V.ref t3, V.ref t4] i = some (.ref t) → G5 t = some (.tup [.int a1, .int a2]) → 0 ≤ a1 → 0 ≤ a2 → ∀ Q : VK, Q (.ref t) G5 → rIxL K (.ref t5) (.int i) G5 Q :=
          fun i t a1 a2 e _ _ _ Q hQ => ⟨t5, _, i, _, rfl, rfl, .inl (.inl f5), e, hQ⟩
        rename_i x9 hx90 hx91
        have c : x9 % 4 = 0 ∨ x9 % 4 = 1 ∨ x9 % 4 = 2 ∨ x9 % 4 = 3 := by omega
        rcases c with c | c | c | c
        all_goals rw [c]
        · refine ⟨t5, _, 0, .ref t1, rfl, rfl, .inl (.inl f5), rfl, ?_⟩
          walk_at "n"
          exact ⟨g15, _, _, _, t1, by omega, by omega, by decide, by decide, g5 _ _ (g4 _ _ (g3 _ _ (g2 _ _ f1))), rfl⟩
        · refine ⟨t5, _, 1, .ref t2, rfl, rfl, .inl (.inl f5), rfl, ?_⟩
          walk_at "n"
          exact ⟨g15, _, _, _, t2, by omega, by omega, by decide, by decide, g5 _ _ (g4 _ _ (g3 _ _ f2)), rfl⟩
        · refine ⟨t5, _, 2, .ref t3, rfl, rfl, .inl (.inl f5), rfl, ?_⟩
          walk_at "n"
          exact ⟨g15, _, _, _, t3, by omega, by omega, by decide, by decide, g5 _ _ (g4 _ _ f3), rfl⟩
        · refine ⟨t5, _, 3, .ref t4, rfl, rfl, .inl (.inl f5), rfl, ?_⟩
          walk_at "n"
          exact ⟨g15, _, _, _, t4, by omega, by omega, by decide, by decide, g5 _ _ f4, rfl⟩
      · walk_at "n"
        exact ⟨Same.refl _, many, 6, 6, l, by omega, by omega, by decide, by decide, s4 _ _ h3, rfl⟩
    clear hm0 hm5 h3
    rintro σ' H5 ⟨s5, many2, a1, a2, l2, hm0, hm8, ha1, ha2, hl2, rfl⟩
    have hx5 := hx4.up s5
    have hb5 := s5 _ _ hb4
    walk_at "n"
    refine w_cut (fun σ' H' => Same H5 H' ∧ ∃ hour : Int, 0 ≤ hour ∧ hour + many2 ≤ 24 ∧ σ' = [some (.ref r), some (.ref b), some (.int many2), some (.ref l2), some (.int hour), none, none]) ?_ ?_
    · walk_at "n"
      refine w_ite (fun _ => ?_) (fun _ => ?_)
      · walk_at "n"
        exact ⟨Same.refl _, _, by omega, by omega, rfl⟩
      · walk_at "n"
        exact ⟨Same.refl _, _, Int.emod_nonneg _ (by omega), mod_le hm8, rfl⟩
    rintro σ' H6 ⟨s6, hour, hh0, hh24, rfl⟩
    have hx6 := hx5.up s6
    have hb6 := s6 _ _ hb5
    have hl6 := s6 _ _ hl2
    have s06 := (s04.trans s5).trans s6
    walk_at "n"
    refine w_slN (a := 10) (b := 130) hx6 ⟨by omega, by omega, by omega⟩ fun p7 H7 ys7 s7 n7 h7 => ?_
    walk_at "n"
    refine ⟨p7, b, ys7, x, y, hour, rfl, h7, s7 _ _ hb6, by omega, by omega, fun H8 sk sky s8 h8 hsl => ?_⟩
    walk_at "n"
    have hx8 := (hx6.up s7).up s8
    refine w_slN (a := 130) (b := 136) hx8 ⟨by omega, by omega, by omega⟩ fun p9 H9 ys9 s9 n9 h9 => ?_
    walk_at "n"
    refine ⟨p9, b, ys9, x, y, rfl, h9, s9 _ _ (s8 _ _ (s7 _ _ hb6)), fun Ha st t sa hst hz => ?_⟩
    have s6a := ((s7.trans s8).trans s9).trans sa
    have hl := s6a _ _ hl6
    have hxa := hx6.up s6a
    simp only [S5.v] at hst
    walk_at "n"
    refine w_slT 5 hst rfl (by decide) fun p2 Hb sb nb hpb => ?_
    have hlb := sb _ _ hl
    replace hpb : Hb p2 = some (.tup [.int t.x, .int t.y, .int t.z]) := hpb
    have hxb := hxa.up sb
    walk_at "n"
    refine w_mkT (by simp) fun p3 Hc sc _ hpc => ?_
    refine w_catT (sc _ _ hpb) hpc (by simp) (by simp) (by simp) fun p4 Hd sd _ hpd => ?_
    have s6d := ((s6a.trans sb).trans sc).trans sd
    obtain ⟨u1, u2, hpd⟩ : ∃ u1 u2 : Int, Hd p4 = some (.tup [.int t.x, .int t.y, .int t.z, .int u1, .int u2]) := ⟨_, _, hpd⟩
    obtain ⟨t2, hpd, hz2⟩ : ∃ t2 : S5, Hd p4 = some (.tup t2.v) ∧ 0 ≤ t2.z := ⟨⟨t.x, t.y, t.z, u1, u2⟩, hpd, hz⟩
    walk_at "n"
    refine w_mkT (by simp) fun p5 He se _ hpe => ?_
    have s6e := s6d.trans se
    have s8e := ((((s9.trans sa).trans sb).trans sc).trans sd).trans se
    exact q He p5 b sk p4 x y hour many2 sky t2 (s06.trans s6e) hpe (s6e _ _ hb6) hh0 hm0 hm8 hh24 (h8.up s8e) hsl (se _ _ hpd) hz2
end
end Bal
namespace Bal
abbrev s__law_sights : Stmt := topS 47
abbrev nm__law_sights : List Str := ["_law_d", "_law_hour", "_law_many", "_law_layers_here", "_law_base_here", "_law_found", "_law_k", "_law_s", "_law_at", "_law_box_here", "_law_one", "_law_wide"]
theorem sc__law_sights : FnScope nm__law_sights ["_law_d", "_law_hour", "_law_many", "_law_layers_here", "_law_base_here"] (defScope s__law_sights) := ⟨rfl, rfl, rfl, by decide +kernel, rfl, by decide +kernel, by decide +kernel⟩
-- slots: 0:_law_d 1:_law_hour 2:_law_many 3:_law_layers_here 4:_law_base_here 5:_law_found 6:_law_k 7:_law_s 8:_law_at 9:_law_box_here 10:_law_one 11:_law_wide
def sp_lsights : Sp := fun vs H Q _ => ∃ (r lay b : Addr) (xs : List Int) (m : Nat) (hour many x y : Int) (R : List (List S5)), vs = [.ref r, .int hour, .int many, .ref lay, .ref b] ∧ NumsAt H r xs m ∧ 1 ≤ m ∧ 1 + 10 * (xs.getD 0 0 % 6) ≤ m ∧
  0 ≤ many ∧ LayAt H lay R ∧ (R.length : Int) = many + 1 ∧ (∀ (k : Nat) (L : List S5), R[k]? = some L → ∀ t, t ∈ L → 0 ≤ t.z) ∧ H b = some (.tup [.int x, .int y]) ∧
  ∀ H' p (gs : List Sg), Same H H' → H p = none → ListOf Sg.v H' p gs → (gs.length : Int) = xs.getD 0 0 % 6 → Q (.ref p) H'
section
variable {P : Program} {w : World} {K : PySem.W.Frag} {mg : Str → Option Value} {base : Heap}
/-- layers[i] -/
theorem w_ixLay {H : Hp} {Q : VK} {lay : Addr} {R : List (List S5)} {i : Int} (h : LayAt H lay R) (hi : 0 ≤ i ∧ i < (R.length : Int)) (k : ∀ q L, R[i.toNat]? = some L → ListOf S5.v H q L → Q (.ref q) H) : rIxL K (.ref lay) (.int i) H Q := by
  obtain ⟨vs, hv, hp⟩ := h
  obtain ⟨L, hL⟩ : ∃ L, R[i.toNat]? = some L := ⟨_, List.getElem?_eq_getElem (by omega)⟩
  obtain ⟨v, ev, q, rfl, _, hq⟩ := paired_at' hp hL
  have e := atI_nat ev
  rw [show ((i.toNat : Nat) : Int) = i by omega] at e
  exact ⟨lay, vs, i, .ref q, rfl, rfl, .inl (.inl hv), e, k q L hL hq⟩
theorem cl_lsights (D : Df K mg "_law_sights" s__law_sights) (T : Txt K mg) (C__law_box : Cl P w K mg base 1 "_law_box" sp_box) : Cl P w K mg base 2 "_law_sights" sp_lsights := by
  refine Cl.of D sc__law_sights (fun _ _ _ _ _ _ us hl => match us, hl with | [_, _, _, _, _], _ => rfl) (fun vs H Q E h => ?_) (fun f cdv A outer s H vs Q E hr h => ?_)
  · obtain ⟨_, _, _, _, _, _, _, _, _, _, rfl, _⟩ := h
    rfl
  · obtain ⟨r, lay, b, xs, m, hour, many, x, y, R, rfl, hx, hm1, hm, hmany, hlay, hRl, hRz, hb, q⟩ := h
    have nd := sc__law_sights.nd
    refine ⟨_, (pss_cons (ps_set (i := 5) nd rfl (.inl rfl) (pe_lst pa_nil))
      (pss_cons (ps_for PassesOwn.never rfl (pi_range1 (by rfl) T.b_range (pa_cons (pe_op op_mod (pe_ix ix_list (pv 0) pe_int (fun _ _ => rfl)) pe_int) pa_nil)) (pg_name (i := 6) nd rfl (.inl rfl)) (pss_cons (ps_set (i := 7) nd rfl (.inl rfl) (pe_slice sl_list (pv 0) (po_some (pe_op op_add pe_int (pe_op op_mul pe_int (pv 6)))) (po_some (pe_op op_add pe_int (pe_op op_mul pe_int (pv 6))))))
      (pss_cons (ps_set (i := 8) nd rfl (.inl rfl) (pe_op op_mod (pe_ix ix_list (pv 7) pe_int (fun _ _ => rfl)) (pe_op op_add (pv 2) pe_int)))
      (pss_cons (ps_set (i := 9) nd rfl (.inl rfl) (pe_cl C__law_box hr (by decide) (by rfl) (pa_cons (pe_slice sl_list (pv 7) (po_some pe_int) (po_some pe_int)) (pa_cons (pv 4) pa_nil))))
      (Evl.pss_cut (ps_if (PW.pt (pw_and (pt_cmpR op_gt (pe_callB call_len_seq (by rfl) T.b_len PySem.boot_len (pa_cons (pe_ix ix_list (pv 3) (pv 8) (fun _ _ => rfl)) pa_nil)) pe_int (nomark _)) (pw_and1 (pt_cmpR op_gt (pe_op op_mod (pe_ix ix_list (pv 7) pe_int (fun _ _ => rfl)) pe_int) pe_int (nomark _))))) (pss_cons (ps_set (i := 10) nd rfl (.inl rfl) (pe_ix ix_list (pe_ix ix_list (pv 3) (pv 8) (fun _ _ => rfl)) (pe_op op_mod (pe_ix ix_list (pv 7) pe_int (fun _ _ => rfl)) (pe_callB call_len_seq (by rfl) T.b_len PySem.boot_len (pa_cons (pe_ix ix_list (pv 3) (pv 8) (fun _ _ => rfl)) pa_nil))) (fun _ _ => rfl)))
      (pss_cons (ps_set (i := 11) nd rfl (.inl rfl) (pe_op op_mod (pe_op op_fdiv (pe_ix ix_list (pv 7) pe_int (fun _ _ => rfl)) pe_int) pe_int))
      (pss_one (ps_set (i := 9) nd rfl (.inl rfl) (pe_tup (pa_cons (pe_op op_sub (pe_ix ix_tup (pv 10) pe_int (fun _ _ => rfl)) (pv 11)) (pa_cons (pe_op op_sub (pe_ix ix_tup (pv 10) pe_int (fun _ _ => rfl)) (pe_op op_mod (pe_ix ix_list (pv 7) pe_int (fun _ _ => rfl)) pe_int)) (pa_cons (pe_op op_add (pe_ix ix_tup (pv 10) pe_int (fun _ _ => rfl)) (pe_op op_mod (pe_ix ix_list (pv 7) pe_int (fun _ _ => rfl)) pe_int)) (pa_cons (pe_op op_add (pe_ix ix_tup (pv 10) pe_int (fun _ _ => rfl)) (pv 11)) (pa_cons (pe_op op_mod (pe_ix ix_list (pv 7) pe_int (fun _ _ => rfl)) (pe_op op_add (pe_ix ix_tup (pv 10) pe_int (fun _ _ => rfl)) pe_int)) (pa_cons pe_int pa_nil))))))))))) pss_nil)
      (pss_one (ps_expr (pe_bm PySem.F.plainAttrs_list PySem.F.slot_list_append PySem.F.type_list_append mt_append (pv 5) (pa_cons (pe_op op_catA (pe_op op_catA (pe_tup (pa_cons (pe_op op_add (pv 1) (pv 8)) pa_nil)) (pv 9)) (pe_tup (pa_cons (pe_cmpR op_gt (pe_op op_mod (pe_ix ix_list (pv 7) pe_int (fun _ _ => rfl)) pe_int) pe_int (nomark _)) pa_nil))) pa_nil)))))))))
      (pss_one (ps_ret (pv 5))))), ?_⟩
    rw [show L2.start nm__law_sights [V.ref r, V.int hour, V.int many, V.ref lay, V.ref b] = [some (V.ref r), some (V.int hour), some (V.int many), some (V.ref lay), some (V.ref b), none, none, none, none, none, none, none] from rfl]
    walk_at "w"
    refine w_mkL (by simp) fun l H1 s1 n1 h1 => ?_
    walk_at "w"
    refine w_forR1 ?_
    walk_at "w"
    refine w_numD (hx.up s1) ⟨by omega, by omega⟩ fun hx0 hx9 => ?_
    simp only [show (0 : Int).toNat = 0 from rfl] at hx0 hx9 ⊢
    generalize xs.getD 0 0 = d0 at hm hx0 hx9 q ⊢
    walk_at "n"
    refine ⟨_, rfl, by omega, by omega, ?_⟩
    refine fori_R (fun i σ' H' => Same H H' ∧ ∃ (y6 y7 y8 y9 y10 y11 : Option V) (gs : List Sg), σ' = [some (.ref r), some (.int hour), some (.int many), some (.ref lay), some (.ref b), some (.ref l), y6, y7, y8, y9, y10, y11] ∧ ListOf Sg.v H' l gs ∧ gs.length = i)
      ⟨s1, none, none, none, none, none, none, [], rfl, ⟨_, h1, .nil⟩, rfl⟩ ?_ ?_
    · rintro i σ' H2 hi ⟨sm, _, _, _, _, _, _, gs, rfl, hgs, hgl⟩
      obtain ⟨vs, hv, lv, put⟩ := hgs.put
      walk_at "n"
      refine w_slN (a := 1 + 10 * (0 + (i : Int))) (b := 11 + 10 * (0 + (i : Int))) (hx.up sm) ⟨by omega, by omega, by omega⟩ fun p3 H3 ys s3 n3 h3 => ?_
      rw [show (11 + 10 * (0 + (i : Int)) - (1 + 10 * (0 + (i : Int)))).toNat = 10 by omega] at h3
      walk_at "n"
      refine w_slN (a := 1) (b := 7) h3 ⟨by omega, by omega, by omega⟩ fun p4 H4 zs s4 n4 h4 => ?_
      walk_at "n"
      have s24 := s3.trans s4
      refine ⟨p4, b, zs, 6, x, y, rfl, h4, by decide, s24 _ _ (sm _ _ hb), fun H5 bx a1 a2 a3 a4 a5 a6 s5 h5 => ?_⟩
      have h3' := (h3.up s4).up s5
      have s25 := s24.trans s5
      have hl5 := (hlay.up sm).up s25
      walk_at "n"
      refine w_cut (fun σ' H' => Same H5 H' ∧ ∃ (bp : Addr) (c1 c2 c3 c4 c5 c6 at_ : Int) (y10 y11 : Option V), σ' = [some (.ref r), some (.int hour), some (.int many), some (.ref lay), some (.ref b), some (.ref l), some (.int (0 + (i : Int))), some (.ref p3), some (.int at_), some (.ref bp), y10, y11] ∧ H' bp = some (.tup [.int c1, .int c2, .int c3, .int c4, .int c5, .int c6])) ?_ ?_
      · rename_i z0 hz0 hz9
        have hat : 0 ≤ z0 % (many + 1) ∧ z0 % (many + 1) < (R.length : Int) := ⟨Int.emod_nonneg _ (by omega), by rw [hRl]; exact Int.emod_lt_of_pos _ (by omega)⟩
        generalize z0 % (many + 1) = at_ at hat ⊢
        walk_at "n"
        refine w_ixLay hl5 hat fun q0 L hL hq0 => ?_
        obtain ⟨vq, hvq, hpq⟩ := id hq0
        have hql := paired_len hpq
        walk_at "n"
        refine ⟨q0, vq, rfl, .inl (.inl (.inl hvq)), ?_⟩
        walk_at "n"
        refine w_ite (fun hpos => ?_) (fun _ => ?_)
        · walk_at "n"
          refine w_ite (fun _ => ?_) (fun _ => ?_)
          · walk_at "n"
            refine w_ixLay hl5 hat fun q1 L1 hL1 hq1 => ?_
            rw [hL] at hL1
            cases hL1
            walk_at "n"
            refine w_ixLay hl5 hat fun q2 L2 hL2 hq2 => ?_
            rw [hL] at hL2
            cases hL2
            obtain ⟨vq2, hvq2, hpq2⟩ := id hq2
            have hql2 := paired_len hpq2
            walk_at "n"
            refine ⟨q2, vq2, rfl, .inl (.inl (.inl hvq2)), ?_⟩
            refine w_rI (show (0 : Int) < _ by omega) ?_
            refine w_ixLO hq1 ⟨Int.emod_nonneg _ (by omega), by rw [hql2]; exact Int.emod_lt_of_pos _ (by omega)⟩ fun tt t ht htt => ?_
            have hz := hRz _ L hL t ht
            simp only [S5.v] at htt
            walk_at "n"
            refine w_mkT (by simp) fun t9 H9 s9 n9 h9 => ?_
            walk_at "n"
            exact ⟨s9, t9, _, _, _, _, _, _, at_, _, _, rfl, h9⟩
          · walk_at "n"
            exact ⟨Same.refl _, bx, _, _, _, _, _, _, at_, _, _, rfl, h5⟩
        · walk_at "n"
          exact ⟨Same.refl _, bx, _, _, _, _, _, _, at_, _, _, rfl, h5⟩
      rintro σ' H6 ⟨s6, bp, c1, c2, c3, c4, c5, c6, at_, _, _, rfl, hbp⟩
      have h3s := h3'.up s6
      have s26 := s25.trans s6
      have hv6 := s26 _ _ hv
      walk_at "n"
      refine ⟨.inl ⟨rfl, _, .inl (.inl hv6)⟩, ?_⟩
      walk_at "n"
      refine w_mkT (by simp) fun t7 H7 s7 n7 h7 => ?_
      walk_at "n"
      refine w_catT h7 (s7 _ _ hbp) (by simp) (by simp) (by simp) fun t8 H8 s8 n8 h8 => ?_
      have h3t := (h3s.up s7).up s8
      walk_at "n"
      refine w_mkT (by simp) fun t9 H9 s9 n9 h9 => ?_
      walk_at "n"
      refine w_catT (s9 _ _ h8) h9 (by simp) (by simp) (by simp) fun ta Ha sa na ha => ?_
      have s2a := (((s26.trans s7).trans s8).trans s9).trans sa
      obtain ⟨g, ha⟩ : ∃ g : Sg, Ha ta = some (.tup g.v) := ⟨⟨hour + at_, c1, c2, c3, c4, c5, c6, _⟩, ha⟩
      walk_at "n"
      refine ⟨l, vs, _, rfl, rfl, s2a _ _ hv, by rw [lv, sizeLine_eq]; omega, ?_⟩
      exact ⟨same_mut (sm.trans s2a) n1, _, _, _, _, _, _, gs ++ [g], rfl, put Ha ta g s2a ha, by rw [List.length_append, List.length_singleton, hgl]⟩
    · rintro σ' H2 ⟨sm, _, _, _, _, _, _, gs, rfl, hgs, hgl⟩
      walk_at "n"
      exact q H2 l gs sm n1 hgs (by omega)
end
end Bal
namespace Bal
abbrev s__law_turned : Stmt := topS 49
abbrev nm__law_turned : List Str := ["_law_rows", "_law_d", "_law_found", "_law_k"]
theorem sc__law_turned : FnScope nm__law_turned ["_law_rows", "_law_d"] (defScope s__law_turned) := ⟨rfl, rfl, rfl, by decide +kernel, rfl, by decide +kernel, by decide +kernel⟩
-- slots: 0:_law_rows 1:_law_d 2:_law_found 3:_law_k
def sp_lturned : Sp := fun vs H Q _ => ∃ (p r : Addr) (gs : List Sg) (xs : List Int), vs = [.ref p, .ref r] ∧ ListOf Sg.v H p gs ∧ gs.length ≤ 8 ∧ NumsAt H r xs 8 ∧
  ∀ H' l gs', Same H H' → H l = none → ListOf Sg.v H' l gs' → gs'.Perm gs → Q (.ref l) H'
theorem perm_ins {α : Type} (l : List α) (x : α) (n : Nat) : (l.take n ++ [x] ++ l.drop n).Perm (l ++ [x]) := by
  have h1 : (l.take n ++ [x] ++ l.drop n).Perm (l.take n ++ l.drop n ++ [x]) := by
    rw [List.append_assoc, List.append_assoc]
    exact List.Perm.append_left _ List.perm_append_comm
  rw [List.take_append_drop] at h1
  exact h1
section
variable {P : Program} {w : World} {K : PySem.W.Frag} {mg : Str → Option Value} {base : Heap}
theorem cl_lturned (D : Df K mg "_law_turned" s__law_turned) (T : Txt K mg) : Cl P w K mg base 1 "_law_turned" sp_lturned := by
  refine Cl.of D sc__law_turned (fun _ _ _ _ _ _ us hl => match us, hl with | [_, _], _ => rfl) (fun vs H Q E h => ?_) (fun f cdv A outer s H vs Q E hr h => ?_)
  · obtain ⟨_, _, _, _, rfl, _⟩ := h
    rfl
  · obtain ⟨p, r, gs, xs, rfl, hp, hl8, hx, q⟩ := h
    have nd := sc__law_turned.nd
    obtain ⟨vs, hv, hpv⟩ := id hp
    have hvl := paired_len hpv
    refine ⟨_, (pss_cons (ps_set (i := 2) nd rfl (.inl rfl) (pe_lst pa_nil))
      (pss_cons (ps_for PassesOwn.never rfl (pi_range1 (by rfl) T.b_range (pa_cons (pe_callB call_len_seq (by rfl) T.b_len PySem.boot_len (pa_cons (pv 0) pa_nil)) pa_nil)) (pg_name (i := 3) nd rfl (.inl rfl)) (pss_one (ps_expr (pe_bm PySem.F.plainAttrs_list PySem.F.slot_list_insert PySem.F.type_list_insert mt_insert (pv 2) (pa_cons (pe_op op_mod (pe_ix ix_list (pv 1) (pv 3) (fun _ _ => rfl)) (pe_op op_add (pe_callB call_len_seq (by rfl) T.b_len PySem.boot_len (pa_cons (pv 2) pa_nil)) pe_int)) (pa_cons (pe_ix ix_list (pv 0) (pv 3) (fun _ _ => rfl)) pa_nil))))))
      (pss_one (ps_ret (pv 2))))), ?_⟩
    rw [show L2.start nm__law_turned [V.ref p, V.ref r] = [some (V.ref p), some (V.ref r), none, none] from rfl]
    walk_at "w"
    refine w_mkL (by simp) fun l H1 s1 n1 h1 => ?_
    walk_at "w"
    refine w_forR1 ?_
    walk_at "w"
    refine ⟨p, vs, rfl, .inl (.inl (.inl (s1 _ _ hv))), ?_⟩
    walk_at "w"
    refine ⟨_, rfl, by omega, by omega, ?_⟩
    refine fori_R (fun i σ' H' => Same H H' ∧ ∃ (y3 : Option V) (us : List V) (ds : List Sg), σ' = [some (.ref p), some (.ref r), some (.ref l), y3] ∧ H' l = some (.lst us) ∧ Paired (TupOf Sg.v H') us ds ∧ ds.Perm (gs.take i))
      ⟨s1, none, [], [], rfl, h1, .nil, by simp⟩ ?_ ?_
    · rintro i σ' H2 hi ⟨sm, _, us, ds, rfl, hu, hpu, hd⟩
      have hul := paired_len hpu
      have hdl := hd.length_eq
      rw [List.length_take] at hdl
      walk_at "w"
      refine ⟨.inl ⟨rfl, _, .inl (.inl hu)⟩, ?_⟩
      walk_at "w"
      refine w_num (m := 8) (hx.up sm) ⟨by omega, by omega⟩ fun z hz0 hz9 => ?_
      walk_at "w"
      refine ⟨l, us, rfl, .inl (.inl (.inl hu)), ?_⟩
      walk_at "n"
      have hi8 : i < gs.length := by omega
      obtain ⟨v, ev, a, rfl, ha⟩ := paired_at' hpv (List.getElem?_eq_getElem hi8)
      have ev0 := atI_nat ev
      rw [show ((i : Nat) : Int) = 0 + (i : Int) by omega] at ev0
      refine ⟨p, vs, _, .ref a, rfl, rfl, .inl (.inl (sm _ _ hv)), ev0, ?_⟩
      walk_at "w"
      have hzm := Int.emod_lt_of_pos z (show 0 < (us.length : Int) + 1 by omega)
      refine ⟨l, us, _, .ref a, rfl, rfl, hu, by rw [sizeLine_eq]; omega, Int.emod_nonneg _ (by omega), by omega, ?_⟩
      have ha2 := sm _ _ ha
      generalize (z % ((us.length : Int) + 1)).toNat = j
      walk_at "w"
      refine ⟨same_mut sm n1, _, us.take j ++ [.ref a] ++ us.drop j, ds.take j ++ [gs[i]] ++ ds.drop j, rfl, upd_same, ?_, ?_⟩
      · exact paired_app (paired_app (paired_take j (paired_upd hu hpu)) (.cons (TupOf.upd ⟨a, rfl, ha2⟩ hu) .nil)) (paired_drop j (paired_upd hu hpu))
      · refine (perm_ins ds gs[i] j).trans ?_
        rw [List.take_add_one, List.getElem?_eq_getElem hi8]
        exact hd.append_right _
    · rintro σ' H2 ⟨sm, _, us, ds, rfl, hu, hpu, hd⟩
      walk_at "w"
      refine q H2 l ds sm n1 ⟨us, hu, hpu⟩ ?_
      rw [show ((vs.length : Int)).toNat = gs.length by omega, List.take_length] at hd
      exact hd
end
abbrev s__law_answer : Stmt := topS 48
abbrev nm__law_answer : List Str := ["_law_sky_here", "_law_hour", "_law_state_here", "_law_until", "_law_sightings", "_law_found", "e"]
theorem sc__law_answer : FnScope nm__law_answer ["_law_sky_here", "_law_hour", "_law_state_here", "_law_until", "_law_sightings"] (defScope s__law_answer) := ⟨rfl, rfl, rfl, by decide +kernel, rfl, by decide +kernel, by decide +kernel⟩
-- slots: 0:_law_sky_here 1:_law_hour 2:_law_state_here 3:_law_until 4:_law_sightings 5:_law_found 6:e
def sp_lanswer : Sp := fun vs H Q _ => ∃ (a b p : Addr) (sky : Sky) (hour : Int) (st : S5) (n : Nat) (sgs : List Sg), vs = [.ref a, .int hour, .ref b, .int (hour + n), .ref p] ∧ SkyAt H a sky ∧ H b = some (.tup st.v) ∧ ListOf Sg.v H p sgs ∧
  0 ≤ hour ∧ n ≤ 8 ∧ hour + n ≤ 24 ∧
  (∀ R H' r, Same H H' → H r = none → RowsAt H H' r R → Rows (nxP sky hour) (fitP sgs hour) st n R → (∀ L, L ∈ R → L.length ≤ 6561) → Q (.ref r) H') ∧
  (∀ (k : Nat) (H' : Hp), Refused (nxP sky hour) (fitP sgs hour) st n k → Same H H' → Q (.int (hour + k)) H')
section
variable {P : Program} {w : World} {K : PySem.W.Frag} {mg : Str → Option Value} {base : Heap} {C fI : Addr} {fd : FuncData}
def t_suite (C : Addr) : Addr → Value → Option Addr → TS := fun a cls d => tAsg (tXf a cls d C "hour" (tVar 6)) (gName 5)
theorem cl_lanswer (D : Df K mg "_law_answer" s__law_answer) (N : Nf K mg C fI fd) (X_possible : ClX P w K mg base 7 "possible" (sp_possible C)) : Cl P w K mg base 8 "_law_answer" sp_lanswer := by
  obtain ⟨f0, fd0, ps0, GT, hm0, kp0, b0⟩ := X_possible.ex
  refine Cl.of D sc__law_answer (fun _ _ _ _ _ _ us hl => match us, hl with | [_, _, _, _, _], _ => rfl) (fun vs H Q E h => ?_) (fun f cdv A outer s H vs Q E hr h => ?_)
  · obtain ⟨_, _, _, _, _, _, _, _, rfl, _⟩ := h
    rfl
  · obtain ⟨a, b, p, sky, hour, st, n, sgs, rfl, hs, hb, hp, h0, hn, h24, q, qx⟩ := h
    have nd := sc__law_answer.nd
    refine ⟨_, (pss_cons (ps_set (i := 5) nd rfl (.inl rfl) pe_non)
      (pss_cons (ps_try_as (i := 6) (c := .ref C) (tb := fun W => tAsg (tCallS (sp_possible C) (WE W) (tCons (tVar 0) (tCons (tVar 1) (tCons (tVar 2) (tCons (tVar 3) (tCons (tVar 4) tNil)))))) (gName 5)) (ts := t_suite C) (Wout := fun _ _ _ _ => False) rfl rfl nd rfl rfl ⟨rfl, by decide, Or.inl N.gC⟩ takes0
        (fun W pn xe tk _ => pss_one (ps_set (i := 5) nd rfl (Or.inl rfl) (by exact (pe_callS GT hr rfl hm0 kp0 b0 (fun σ => passAt tk σ) (by exact (pa_cons (pv 0) (pa_cons (pv 1) (pa_cons (pv 2) (pa_cons (pv 3) (pa_cons (pv 4) pa_nil))))))))))
        (fun a oe cls d pn hz hf => pss_one (ps_set (i := 5) nd rfl (Or.inl rfl) (by exact (pe_xf N.xf N.nH hz hf (pv 6))))))
      (pss_one (ps_ret (pv 5))))), ?_⟩
    rw [show L2.start nm__law_answer [V.ref a, V.int hour, V.ref b, V.int (hour + (n : Int)), V.ref p] = [some (V.ref a), some (V.int hour), some (V.ref b), some (V.int (hour + (n : Int))), some (V.ref p), none, none] from rfl]
    walk_at "w"
    show (tCons (tVar 0) (tCons (tVar 1) (tCons (tVar 2) (tCons (tVar 3) (tCons (tVar 4) tNil))))) _ _ _
    walk_at "w"
    show sp_possible C _ _ _ _
    refine ⟨a, b, p, sky, hour, st, n, sgs, rfl, hs, hb, hp, h0, hn, h24, fun R H' r sm nr hR hok hl => ?_, fun k d fs H' hk sm hd hf => ?_⟩
    · walk_at "w"
      exact q R H' r sm nr hR hok hl
    · refine ⟨true, N.te, fun _ a0 n0 => ?_, fun z => by cases z⟩
      show tAsg _ _ _ _ _
      walk_at "w"
      refine ⟨_, rfl, ?_⟩
      refine ⟨rfl, rfl, d, fs, _, rfl, hd, hf, ?_⟩
      walk_at "w"
      exact qx k H' hk sm
end
end Bal
namespace Bal
/-! ### the law, in plain words -/
theorem fits_iff {sgs : List Sg} {h : Int} {t : S5} : fits sgs h t = true ↔ ∀ g, g ∈ sgs → fitOne h t g = true := List.all_eq_true
theorem fits_mem {a b : List Sg} (e : ∀ g, g ∈ a ↔ g ∈ b) (h : Int) (t : S5) : fits a h t = true ↔ fits b h t = true := by
  rw [fits_iff, fits_iff]
  exact ⟨fun q g hg => q g ((e g).mpr hg), fun q g hg => q g ((e g).mp hg)⟩
/-- one more, seen or unseen -/
def Sg.as (g : Sg) (b : Bool) : Sg := ⟨g.w, g.x1, g.y1, g.x2, g.y2, g.low, g.high, b⟩
def ownOf (sgs : List Sg) (j : Nat) (g : Sg) (b : Bool) : List Sg := sgs.take j ++ [g.as b] ++ sgs.drop j
theorem own_mem {sgs : List Sg} {j : Nat} {g : Sg} {b : Bool} {x : Sg} : x ∈ ownOf sgs j g b ↔ x ∈ sgs ∨ x = g.as b := by
  unfold ownOf
  rw [List.mem_append, List.mem_append, List.mem_singleton]
  have e : x ∈ sgs ↔ x ∈ sgs.take j ∨ x ∈ sgs.drop j := by
    rw [← List.mem_append, List.take_append_drop]
  rw [e]
  constructor
  · rintro ((h | h) | h)
    · exact .inl (.inl h)
    · exact .inr h
    · exact .inl (.inr h)
  · rintro ((h | h) | h)
    · exact .inl (.inl h)
    · exact .inr h
    · exact .inl (.inr h)
theorem fits_own {sgs : List Sg} {j : Nat} {g : Sg} {b : Bool} {h : Int} {t : S5} : fits (ownOf sgs j g b) h t = true ↔ fits sgs h t = true ∧ fitOne h t (g.as b) = true := by
  rw [fits_iff, fits_iff]
  constructor
  · exact fun q => ⟨fun x hx => q x (own_mem.mpr (.inl hx)), q _ (own_mem.mpr (.inr rfl))⟩
  · rintro ⟨q1, q2⟩ x hx
    rcases own_mem.mp hx with hx | hx
    · exact q1 x hx
    · rw [hx]; exact q2
section
variable {nx : Nat → S5 → S5 → Prop} {sgs : List Sg} {hour : Int} {st : S5} {n : Nat} {j : Nat} {g : Sg} {f : Nat → S5} {R : List (List S5)}
theorem flt_part (F : Flt nx (fitP sgs hour) st n f) : ∃ b, Flt nx (fitP (ownOf sgs j g b) hour) st n f := by
  refine ⟨insideB g.x1 g.y1 g.x2 g.y2 g.low g.high (f (g.w - hour).toNat).x (f (g.w - hour).toNat).y (f (g.w - hour).toNat).z, F.start, F.step, fun i hi => fits_own.mpr ⟨F.ok i hi, ?_⟩⟩
  unfold fitOne Sg.as
  by_cases e : g.w = hour + i
  · have ei : (g.w - hour).toNat = i := by omega
    simp [ei]
  · simp [e]
theorem flt_whole {b : Bool} (F : Flt nx (fitP (ownOf sgs j g b) hour) st n f) : Flt nx (fitP sgs hour) st n f := flt_congr (fun _ _ _ q => (fits_own.mp q).1) F
/-- the parts, put together, are the whole -/
structure PartsOk (nx : Nat → S5 → S5 → Prop) (sgs : List Sg) (hour : Int) (st : S5) (n j : Nat) (g : Sg) (bs : List Bool) (PR : List (List (List S5))) : Prop where
  of : ∀ R, R ∈ PR → ∃ b, b ∈ bs ∧ Rows nx (fitP (ownOf sgs j g b) hour) st n R
  all : ∀ b, b ∈ bs → (∃ f, Flt nx (fitP (ownOf sgs j g b) hour) st n f) → ∃ R, R ∈ PR ∧ Rows nx (fitP (ownOf sgs j g b) hour) st n R
  len : PR.length ≤ bs.length
theorem PartsOk.nil : PartsOk nx sgs hour st n j g [] [] := ⟨by simp, by simp, by simp⟩
theorem PartsOk.put {bs : List Bool} {PR : List (List (List S5))} {b : Bool} (h : PartsOk nx sgs hour st n j g bs PR) (hR : Rows nx (fitP (ownOf sgs j g b) hour) st n R) : PartsOk nx sgs hour st n j g (bs ++ [b]) (PR ++ [R]) := by
  refine ⟨fun S hS => ?_, fun c hc hf => ?_, by rw [List.length_append, List.length_append]; exact Nat.succ_le_succ h.len⟩
  · rcases List.mem_append.mp hS with hS | hS
    · obtain ⟨b', h1, h2⟩ := h.of S hS
      exact ⟨b', by simp [h1], h2⟩
    · rw [List.mem_singleton] at hS
      rw [hS]
      exact ⟨b, by simp, hR⟩
  · rcases List.mem_append.mp hc with hc | hc
    · obtain ⟨S, h1, h2⟩ := h.all c hc hf
      exact ⟨S, by simp [h1], h2⟩
    · rw [List.mem_singleton] at hc
      rw [hc]
      exact ⟨R, by simp, hR⟩
theorem PartsOk.skip {bs : List Bool} {PR : List (List (List S5))} {b : Bool} (h : PartsOk nx sgs hour st n j g bs PR) (no : ¬ ∃ f, Flt nx (fitP (ownOf sgs j g b) hour) st n f) : PartsOk nx sgs hour st n j g (bs ++ [b]) PR := by
  refine ⟨fun S hS => ?_, fun c hc hf => ?_, by rw [List.length_append]; exact Nat.le_succ_of_le h.len⟩
  · obtain ⟨b', h1, h2⟩ := h.of S hS
    exact ⟨b', by simp [h1], h2⟩
  · rcases List.mem_append.mp hc with hc | hc
    · exact h.all c hc hf
    · rw [List.mem_singleton] at hc
      rw [hc] at hf
      exact absurd hf no
theorem parts_none {PR : List (List (List S5))} {k : Nat} (h : PartsOk nx sgs hour st n j g [true, false] PR) (no : Refused nx (fitP sgs hour) st n k) : PR = [] := by
  cases PR with
  | nil => rfl
  | cons R PR =>
    obtain ⟨b, _, hR⟩ := h.of R (by simp)
    obtain ⟨f, F⟩ := hR.some
    exact absurd ⟨f, flt_whole F⟩ no.no
theorem parts_some {PR : List (List (List S5))} (h : PartsOk nx sgs hour st n j g [true, false] PR) (hR : Rows nx (fitP sgs hour) st n R) : PR ≠ [] := by
  obtain ⟨f, F⟩ := hR.some
  obtain ⟨b, Fb⟩ := flt_part (j := j) (g := g) F
  obtain ⟨S, hS, _⟩ := h.all b (by cases b <;> simp) ⟨f, Fb⟩
  intro z
  rw [z] at hS
  cases hS
theorem parts_row {PR : List (List (List S5))} {k : Nat} {L : List S5} (h : PartsOk nx sgs hour st n j g [true, false] PR) (hR : Rows nx (fitP sgs hour) st n R) (hk : k ≤ n) (hL : R[k]? = some L) (t : S5) : t ∈ L ↔ ∃ S, S ∈ PR ∧ ∃ M, S[k]? = some M ∧ t ∈ M := by
  obtain ⟨L', e, _, hm⟩ := hR.row k hk
  rw [hL] at e
  cases e
  rw [hm, live_iff hk]
  constructor
  · rintro ⟨f, F, rfl⟩
    obtain ⟨b, Fb⟩ := flt_part (j := j) (g := g) F
    obtain ⟨S, hS, hSR⟩ := h.all b (by cases b <;> simp) ⟨f, Fb⟩
    obtain ⟨M, eM, _, hM⟩ := hSR.row k hk
    exact ⟨S, hS, M, eM, (hM _).mpr ((live_iff hk).mpr ⟨f, Fb, rfl⟩)⟩
  · rintro ⟨S, hS, M, eM, ht⟩
    obtain ⟨b, _, hSR⟩ := h.of S hS
    obtain ⟨M', eM', _, hM⟩ := hSR.row k hk
    rw [eM] at eM'
    cases eM'
    obtain ⟨f, Fb, e⟩ := (live_iff hk).mp ((hM t).mp ht)
    exact ⟨f, flt_whole Fb, e⟩
/-- told twice, turned about: the same -/
theorem turned_fit {gs : List Sg} (hp : gs.Perm (sgs ++ sgs.take 1)) (i : Nat) (t : S5) : fitP gs hour i t ↔ fitP sgs hour i t :=
  fits_mem (fun g => by
    rw [hp.mem_iff, List.mem_append]
    exact ⟨fun z => z.elim id List.mem_of_mem_take, .inl⟩) _ t
end
end Bal
namespace Bal
/-! ### zip in a comprehension -/
def ItzG (S : Hp → Addr → List V → Prop) (a b : Addr) : It :=
  ⟨fun i H => ∃ (xs ys : List V) (x y : V), S H a xs ∧ S H b ys ∧ xs[i]? = some x ∧ ys[i]? = some y,
    fun i H v H' => ∃ T x y, v = .ref T ∧ H T = none ∧ H' = upd H T (.tup [x, y]) ∧ (∀ xs, S H a xs → xs[i]? = some x) ∧ ∀ ys, S H b ys → ys[i]? = some y,
    fun i H => ∃ xs ys : List V, S H a xs ∧ S H b ys ∧ (xs.length ≤ i ∨ ys.length ≤ i)⟩
section
variable {K : PySem.W.Frag} {g : TG} {tt : TT} {te : TE} {own : List Nat} {σ : L2.St} {H : Hp} {Q : VK} {a b : Addr} {xs ys : List V} {ta : TA}
theorem w_lcZ (h : ta σ H fun vs H1 => ∃ a b xs ys, vs = [.ref a, .ref b] ∧ ((SqL K H1 a xs ∧ SqL K H1 b ys ∧ LcGo (ItzG (SqL K) a b) g tt te own σ Q H1) ∨ (SqT K H1 a xs ∧ SqT K H1 b ys ∧ LcGo (ItzG (SqT K) a b) g tt te own σ Q H1))) : tLc (RZ.iZipA K ta) g tt te own σ H Q := h
theorem lc_goZ {S : Hp → Addr → List V → Prop} (hS : ∀ H', Same H H' → S H' a xs ∧ S H' b ys) (hl : xs.length = ys.length) (R : Nat → List V → Hp → Prop) (h0 : R 0 [] H)
    (hs : ∀ D i x y T acc H', xs[i]? = some x → ys[i]? = some y → H D = none → H' D = some (.lst acc) → acc.length ≤ i → Same H (rem H' D) → Same H H' → H' T = some (.tup [x, y]) → (∃ G, Same G (rem H' D) ∧ R i acc G) →
      LcTurn g tt te own σ D (fun H2 => ∃ acc, H2 D = some (.lst acc) ∧ acc.length ≤ i + 1 ∧ Same H (rem H2 D) ∧ R (i + 1) acc (rem H2 D)) (.ref T) H')
    (hd : ∀ D H' acc, H D = none → Same H H' → H' D = some (.lst acc) → acc.length ≤ xs.length → R xs.length acc (rem H' D) → Q (.ref D) H') : LcGo (ItzG S a b) g tt te own σ Q H := by
  intro D hD
  refine ⟨fun i m H2 => m = xs.length - i ∧ i ≤ xs.length ∧ ∃ acc, H2 D = some (.lst acc) ∧ acc.length ≤ i ∧ Same H (rem H2 D) ∧ R i acc (rem H2 D), ⟨xs.length, rfl, Nat.zero_le _, [], upd_same, Nat.le_refl _, ?_, ?_⟩, ?_⟩
  · rw [rem_upd_none hD]; exact Same.refl _
  · rw [rem_upd_none hD]; exact h0
  · rintro i m H2 ⟨rfl, hi, acc, h1, h2, s, hR⟩
    have sm := s.trans rem_same
    obtain ⟨hx, hy⟩ := hS H2 sm
    by_cases hlt : i < xs.length
    · have ex : xs[i]? = some xs[i] := List.getElem?_eq_getElem hlt
      have ey : ys[i]? = some (ys[i]'(by omega)) := List.getElem?_eq_getElem (by omega)
      refine .inr ⟨⟨xs, ys, _, _, hx, hy, ex, ey⟩, fun H2 => ∃ acc, H2 D = some (.lst acc) ∧ acc.length ≤ i + 1 ∧ Same H (rem H2 D) ∧ R (i + 1) acc (rem H2 D), fun H' hN => ⟨xs.length - (i + 1), by omega, rfl, by omega, hN⟩, ?_⟩
      rintro v H' ⟨T, x, y, rfl, hT, rfl, fx, fy⟩
      have e1 : x = xs[i] := by
        have := fx xs hx
        rw [ex] at this
        exact (Option.some.inj this).symm
      have e2 : y = (ys[i]'(by omega)) := by
        have := fy ys hy
        rw [ey] at this
        exact (Option.some.inj this).symm
      subst e1 e2
      have sT : Same H2 (upd H2 T (.tup [xs[i], ys[i]'(by omega)])) := same_new hT
      exact hs D i _ _ T acc _ ex ey hD (sT _ _ h1) h2 (s.trans (same_rem sT)) (sm.trans sT) upd_same ⟨_, same_rem sT, hR⟩
    · have ei : i = xs.length := by omega
      subst ei
      exact .inl ⟨⟨xs, ys, hx, hy, .inl (Nat.le_refl _)⟩, hd D H2 acc hD sm h1 h2 hR⟩
theorem w_isi {x : V} {T U : String} {k : Bool} (ty : TyX K H x (.type T)) (e : kitB T U = some k) (h : Q (.bl k) H) : rIsi K [x, .ty U] H Q := ⟨x, .ty U, .type T, .type U, k, rfl, .ty U, ty, e, h⟩
theorem w_isN {x : V} {te : TE} (h : te σ H fun x H1 => Q (.bl (decide (x = .non))) H1) : tIsN te σ H Q := h
end
/-! ### _law_same -/
def SameD (H : Hp) : Nat → V → V → Prop
  | 0, _, _ => False
  | n + 1, x, y => (∃ i : Int, x = .int i ∧ y = .int i) ∨ ∃ (a b : Addr) (xs ys : List V), x = .ref a ∧ y = .ref b ∧ ((H a = some (.lst xs) ∧ H b = some (.lst ys)) ∨ (H a = some (.tup xs) ∧ H b = some (.tup ys))) ∧
    xs.length ≤ 10000 ∧ Paired (fun u v => SameD H n u v) xs ys
theorem paired_imp {α β : Type} {R S : α → β → Prop} (f : ∀ a b, R a b → S a b) : ∀ {l : List α} {m : List β}, Paired R l m → Paired S l m
  | _, _, .nil => .nil
  | _, _, .cons h r => .cons (f _ _ h) (paired_imp f r)
theorem SameD.up {H H' : Hp} (s : Same H H') : ∀ {n : Nat} {x y : V}, SameD H n x y → SameD H' n x y
  | 0, _, _, h => h
  | n + 1, _, _, .inl h => .inl h
  | n + 1, _, _, .inr ⟨a, b, xs, ys, ex, ey, h, hl, hp⟩ => .inr ⟨a, b, xs, ys, ex, ey, h.imp (fun z => ⟨s _ _ z.1, s _ _ z.2⟩) (fun z => ⟨s _ _ z.1, s _ _ z.2⟩), hl, paired_imp (fun _ _ q => SameD.up s q) hp⟩
def sp_same (n : Nat) : Sp := fun vs H Q _ => ∃ x y, vs = [x, y] ∧ SameD H n x y ∧ ∀ H', Same H H' → Q (.bl true) H'
abbrev s__law_same : Stmt := topS 30
abbrev nm__law_same : List Str := ["_law_found", "_law_due", "_law_one", "_law_other"]
theorem sc__law_same : FnScope nm__law_same ["_law_found", "_law_due"] (defScope s__law_same) := ⟨rfl, rfl, rfl, by decide +kernel, rfl, by decide +kernel, by decide +kernel⟩
-- slots: 0:_law_found 1:_law_due 2:_law_one 3:_law_other
section
variable {P : Program} {w : World} {K : PySem.W.Frag} {mg : Str → Option Value} {base : Heap}
theorem cl_same (D : Df K mg "_law_same" s__law_same) (T : Txt K mg) (n : Nat) : Cl P w K mg base (n + 1) "_law_same" (sp_same n) := by
  induction n with
  | zero =>
    refine Cl.of D sc__law_same (fun _ _ _ _ _ _ us hl => match us, hl with | [_, _], _ => rfl) (fun vs H Q E h => ?_) (fun f cdv A outer s H vs Q E hr h => ?_)
    · obtain ⟨_, _, rfl, _⟩ := h
      rfl
    · obtain ⟨_, _, _, h, _⟩ := h
      exact h.elim
  | succ n C__law_same =>
    refine Cl.of D sc__law_same (fun _ _ _ _ _ _ us hl => match us, hl with | [_, _], _ => rfl) (fun vs H Q E h => ?_) (fun f cdv A outer s H vs Q E hr h => ?_)
    · obtain ⟨_, _, rfl, _⟩ := h
      rfl
    · obtain ⟨x, y, rfl, h, q⟩ := h
      have nd := sc__law_same.nd
      refine ⟨_, (pss_cons (ps_if (PW.pt (pw_or (pt_val (pe_callB call_isi (by rfl) T.b_isinstance (by decide +kernel) (pa_cons (pv 1) (pa_cons (pe_bltn (v := .ty "list") (by rfl) T.b_list (by decide +kernel) rfl) pa_nil)))) (pw_or1 (pt_val (pe_callB call_isi (by rfl) T.b_isinstance (by decide +kernel) (pa_cons (pv 1) (pa_cons (pe_bltn (v := .ty "tuple") (by rfl) T.b_tuple (by decide +kernel) rfl) pa_nil))))))) (pss_cons (ps_if (PW.pt (pw_or (pt_cmpR op_ne (pe_callB call_isi (by rfl) T.b_isinstance (by decide +kernel) (pa_cons (pv 0) (pa_cons (pe_bltn (v := .ty "list") (by rfl) T.b_list (by decide +kernel) rfl) pa_nil))) (pe_callB call_isi (by rfl) T.b_isinstance (by decide +kernel) (pa_cons (pv 1) (pa_cons (pe_bltn (v := .ty "list") (by rfl) T.b_list (by decide +kernel) rfl) pa_nil))) (nomark _)) (pw_or1 (pt_cmpR op_ne (pe_callB call_isi (by rfl) T.b_isinstance (by decide +kernel) (pa_cons (pv 0) (pa_cons (pe_bltn (v := .ty "tuple") (by rfl) T.b_tuple (by decide +kernel) rfl) pa_nil))) (pe_callB call_isi (by rfl) T.b_isinstance (by decide +kernel) (pa_cons (pv 1) (pa_cons (pe_bltn (v := .ty "tuple") (by rfl) T.b_tuple (by decide +kernel) rfl) pa_nil))) (nomark _))))) (pss_one (ps_ret pe_bl)) pss_nil)
      (pss_one (ps_ret (pe_and (pe_cmpR op_eq (pe_callB call_len_seq (by rfl) T.b_len PySem.boot_len (pa_cons (pv 0) pa_nil)) (pe_callB call_len_seq (by rfl) T.b_len PySem.boot_len (pa_cons (pv 1) pa_nil)) (nomark _)) (pe_one (pe_callB (cr_all rfl) (by rfl) T.b_all (by decide +kernel) (pa_cons (pe_lc (own := [("_law_one", 2), ("_law_other", 3)]) (g := gTup K 2 (gCons (gName 2) (gCons (gName 3) gNil))) (by rfl) nd (RZ.pi_zipA (by rfl) T.b_zip (pa_cons (pv 0) (pa_cons (pv 1) pa_nil))) (blkOk_by (N := nm__law_same) (sc := defScope s__law_same) (by decide +kernel)) (fun _ _ _ _ _ => (pg_tup (by rfl) (pgs_cons (pg_name (i := 2) nd rfl (.inl rfl)) (pgs_cons (pg_name (i := 3) nd rfl (.inl rfl)) pgs_nil)))) (fun _ _ _ _ _ => pts_nil) (fun _ _ _ _ _ => (pe_cl C__law_same hr (Nat.le_refl _) (by rfl) (pa_cons (pv 2) (pa_cons (pv 3) pa_nil))))) pa_nil))))))) pss_nil)
      (pss_cons (ps_if (PW.pt (pw_or (pt_cmp (pc_isN (pv 0)) rfl) (pw_or1 (pt_cmp (pc_isN (pv 1)) rfl)))) (pss_one (ps_ret (pe_and (pe_cmp (pc_isN (pv 0)) rfl) (pe_one (pe_cmp (pc_isN (pv 1)) rfl))))) pss_nil)
      (pss_cons (ps_if (PW.pt (pw_or (pt_cmpR op_ne (pe_callB call_isi (by rfl) T.b_isinstance (by decide +kernel) (pa_cons (pv 0) (pa_cons (pe_bltn (v := .ty "bool") (by rfl) T.b_bool (by decide +kernel) rfl) pa_nil))) (pe_callB call_isi (by rfl) T.b_isinstance (by decide +kernel) (pa_cons (pv 1) (pa_cons (pe_bltn (v := .ty "bool") (by rfl) T.b_bool (by decide +kernel) rfl) pa_nil))) (nomark _)) (pw_or1 (pt_cmpR op_ne (pe_callB call_isi (by rfl) T.b_isinstance (by decide +kernel) (pa_cons (pv 0) (pa_cons (pe_bltn (v := .ty "int") (by rfl) T.b_int (by decide +kernel) rfl) pa_nil))) (pe_callB call_isi (by rfl) T.b_isinstance (by decide +kernel) (pa_cons (pv 1) (pa_cons (pe_bltn (v := .ty "int") (by rfl) T.b_int (by decide +kernel) rfl) pa_nil))) (nomark _))))) (pss_one (ps_ret pe_bl)) pss_nil)
      (pss_one (ps_ret (pe_cmpR op_eq (pv 0) (pv 1) (nomark _))))))), ?_⟩
      rw [show L2.start nm__law_same [x, y] = [some x, some y, none, none] from rfl]
      rcases h with ⟨i, rfl, rfl⟩ | ⟨a, b, xs, ys, rfl, rfl, h | h, hl, hp⟩
      · walk_at "w"
        refine w_isi (T := "int") (.base (.int _)) (k := false) (by decide +kernel) ?_
        walk_at "w"
        refine w_isi (T := "int") (.base (.int _)) (k := false) (by decide +kernel) ?_
        walk_at "w"
        refine w_isN (x := .non) ?_
        walk_at "w"
        rw [decide_eq_false (fun z => by cases z)]
        walk_at "w"
        refine w_isN (x := .non) ?_
        walk_at "w"
        rw [decide_eq_false (fun z => by cases z)]
        walk_at "w"
        refine w_isi (T := "int") (.base (.int _)) (k := false) (by decide +kernel) ?_
        walk_at "w"
        refine w_isi (T := "int") (.base (.int _)) (k := false) (by decide +kernel) ?_
        walk_at "w"
        rw [show (false != false) = false from rfl]
        walk_at "w"
        refine w_isi (T := "int") (.base (.int _)) (k := true) (by decide +kernel) ?_
        walk_at "w"
        refine w_isi (T := "int") (.base (.int _)) (k := true) (by decide +kernel) ?_
        walk_at "w"
        rw [show (true != true) = false from rfl]
        walk_at "w"
        rw [decide_eq_true rfl]
        exact q _ (Same.refl _)
      · obtain ⟨ha, hb⟩ := h
        have hlen := paired_len hp
        walk_at "w"
        refine w_isi (T := "list") (.base (.lst hb)) (k := true) (by decide +kernel) ?_
        walk_at "w"
        refine w_isi (T := "list") (.base (.lst ha)) (k := true) (by decide +kernel) ?_
        walk_at "w"
        refine w_isi (T := "list") (.base (.lst hb)) (k := true) (by decide +kernel) ?_
        walk_at "w"
        rw [show (true != true) = false from rfl]
        walk_at "w"
        refine w_isi (T := "list") (.base (.lst ha)) (k := false) (by decide +kernel) ?_
        walk_at "w"
        refine w_isi (T := "list") (.base (.lst hb)) (k := false) (by decide +kernel) ?_
        walk_at "w"
        rw [show (false != false) = false from rfl]
        walk_at "w"
        refine ⟨a, xs, rfl, .inl (.inl (.inl ha)), ?_⟩
        walk_at "w"
        refine ⟨b, ys, rfl, .inl (.inl (.inl hb)), ?_⟩
        walk_at "w"
        refine w_ite (fun _ => ?_) (fun z => (z (by rw [hlen])).elim)
        walk_at "w"
        refine w_lcZ ?_
        walk_at "w"
        refine ⟨a, b, xs, ys, rfl, .inl ⟨.inl (.inl ha), .inl (.inl hb), ?_⟩⟩
        refine lc_goZ (S := SqL K) (fun H' s => ⟨.inl (.inl (s _ _ ha)), .inl (.inl (s _ _ hb))⟩) hlen (fun i acc G => acc = (List.replicate i true).map V.bl) rfl ?_ ?_
        · rintro D' i u v T' acc H2 hu hv nD hD hl2 hS hS' hT ⟨G, _, ea⟩
          have hi := (List.getElem?_eq_some_iff.mp hu).1
          obtain ⟨v', ev', huv⟩ := paired_at hp hu
          rw [hv] at ev'
          cases ev'
          refine w_turn ?_
          walk_at "w"
          refine ⟨rfl, ?_⟩
          walk_at "w"
          refine ⟨u, v, rfl, huv.up hS', fun H3 s3 => ?_⟩
          refine ⟨acc, s3 _ _ hD, by rw [sizeLine_eq]; omega, acc ++ [.bl true], upd_same, by rw [List.length_append, List.length_singleton]; omega, ?_, ?_⟩
          · rw [rem_upd]
            exact hS.trans (same_rem s3)
          · rw [ea, List.replicate_succ', List.map_append]; rfl
        · rintro D' H2 acc nD hS hD hl2 ea
          refine ⟨D', List.replicate xs.length true, rfl, .inl (.inl (by rw [hD, ea])), ?_⟩
          rw [show (List.replicate xs.length true).all id = true by simp]
          exact q H2 hS
      · obtain ⟨ha, hb⟩ := h
        have hlen := paired_len hp
        walk_at "w"
        refine w_isi (T := "tuple") (.base (.tup hb)) (k := false) (by decide +kernel) ?_
        walk_at "w"
        refine w_isi (T := "tuple") (.base (.tup hb)) (k := true) (by decide +kernel) ?_
        walk_at "w"
        refine w_isi (T := "tuple") (.base (.tup ha)) (k := false) (by decide +kernel) ?_
        walk_at "w"
        refine w_isi (T := "tuple") (.base (.tup hb)) (k := false) (by decide +kernel) ?_
        walk_at "w"
        rw [show (false != false) = false from rfl]
        walk_at "w"
        refine w_isi (T := "tuple") (.base (.tup ha)) (k := true) (by decide +kernel) ?_
        walk_at "w"
        refine w_isi (T := "tuple") (.base (.tup hb)) (k := true) (by decide +kernel) ?_
        walk_at "w"
        rw [show (true != true) = false from rfl]
        walk_at "w"
        refine ⟨a, xs, rfl, .inr (.inl (.inl ha)), ?_⟩
        walk_at "w"
        refine ⟨b, ys, rfl, .inr (.inl (.inl hb)), ?_⟩
        walk_at "w"
        refine w_ite (fun _ => ?_) (fun z => (z (by rw [hlen])).elim)
        walk_at "w"
        refine w_lcZ ?_
        walk_at "w"
        refine ⟨a, b, xs, ys, rfl, .inr ⟨.inl (.inl ha), .inl (.inl hb), ?_⟩⟩
        refine lc_goZ (S := SqT K) (fun H' s => ⟨.inl (.inl (s _ _ ha)), .inl (.inl (s _ _ hb))⟩) hlen (fun i acc G => acc = (List.replicate i true).map V.bl) rfl ?_ ?_
        · rintro D' i u v T' acc H2 hu hv nD hD hl2 hS hS' hT ⟨G, _, ea⟩
          have hi := (List.getElem?_eq_some_iff.mp hu).1
          obtain ⟨v', ev', huv⟩ := paired_at hp hu
          rw [hv] at ev'
          cases ev'
          refine w_turn ?_
          walk_at "w"
          refine ⟨rfl, ?_⟩
          walk_at "w"
          refine ⟨u, v, rfl, huv.up hS', fun H3 s3 => ?_⟩
          refine ⟨acc, s3 _ _ hD, by rw [sizeLine_eq]; omega, acc ++ [.bl true], upd_same, by rw [List.length_append, List.length_singleton]; omega, ?_, ?_⟩
          · rw [rem_upd]
            exact hS.trans (same_rem s3)
          · rw [ea, List.replicate_succ', List.map_append]; rfl
        · rintro D' H2 acc nD hS hD hl2 ea
          refine ⟨D', List.replicate xs.length true, rfl, .inl (.inl (by rw [hD, ea])), ?_⟩
          rw [show (List.replicate xs.length true).all id = true by simp]
          exact q H2 hS
end
end Bal
namespace Bal
/-! ### the law's walk: what stands where -/
theorem cutV_hi {xs : List V} {k : Int} (h : 0 ≤ k) : cutV xs none (some k) = xs.take k.toNat := by
  obtain ⟨j, rfl⟩ : ∃ j : Nat, k = (j : Int) := ⟨k.toNat, by omega⟩
  unfold cutV
  rw [HT.sIx_nat, HT.sIx_none, List.drop_zero, Nat.sub_zero, Int.toNat_natCast]
  by_cases c : j ≤ xs.length
  · rw [Nat.min_eq_left c]
  · rw [Nat.min_eq_right (by omega), List.take_of_length_le (Nat.le_refl _), List.take_of_length_le (by omega)]
theorem cutV_lo {xs : List V} {k : Int} (h : 0 ≤ k) : cutV xs (some k) none = xs.drop k.toNat := by
  obtain ⟨j, rfl⟩ : ∃ j : Nat, k = (j : Int) := ⟨k.toNat, by omega⟩
  unfold cutV
  rw [HT.sIx_nat, HT.sIx_none, Int.toNat_natCast]
  by_cases c : j ≤ xs.length
  · rw [Nat.min_eq_left c]
    exact List.take_of_length_le (by rw [List.length_drop]; omega)
  · rw [Nat.min_eq_right (by omega), List.drop_of_length_le (Nat.le_refl _), List.drop_of_length_le (by omega), List.take_nil]
def RowsV (H : Hp) (r : Addr) (R : List (List S5)) : Prop := ∃ vs, H r = some (.lst vs) ∧ Paired (RowV H) vs R
theorem RowsV.up {H H' : Hp} {r : Addr} {R : List (List S5)} (s : Same H H') (h : RowsV H r R) : RowsV H' r R := by
  obtain ⟨vs, e, h⟩ := h
  exact ⟨vs, s _ _ e, rowv_up s h⟩
theorem rowsV_of {G H : Hp} {r : Addr} {R : List (List S5)} (h : RowsAt G H r R) : RowsV H r R := by
  obtain ⟨vs, e, h⟩ := h
  exact ⟨vs, e, paired_imp (fun _ _ ⟨q, e, _, h⟩ => ⟨q, e, h⟩) h⟩
/-- a part: away from the list at l -/
def PartAt (l : Addr) (H : Hp) (v : V) (R : List (List S5)) : Prop := ∃ r vs, v = .ref r ∧ r ≠ l ∧ H r = some (.lst vs) ∧ Paired (RowL l H) vs R
theorem PartAt.up {l : Addr} {H H' : Hp} {v : V} {R : List (List S5)} (s : Same H H') (h : PartAt l H v R) : PartAt l H' v R := by
  obtain ⟨r, vs, e, ne, h1, h2⟩ := h
  exact ⟨r, vs, e, ne, s _ _ h1, rowls_up s h2⟩
theorem PartAt.upd {l : Addr} {H : Hp} {v : V} {R : List (List S5)} {o : List V} {new : HO} (hl : H l = some (.lst o)) (h : PartAt l H v R) : PartAt l (L2.upd H l new) v R := by
  obtain ⟨r, vs, e, ne, h1, h2⟩ := h
  exact ⟨r, vs, e, ne, same_upd_ne h1 ne, rowls_upd hl h2⟩
theorem partAt_of {G H : Hp} {l r : Addr} {o : HO} {R : List (List S5)} (hl : G l = some o) (hr : G r = none) (h : RowsAt G H r R) : PartAt l H (.ref r) R := by
  obtain ⟨vs, e, h⟩ := h
  refine ⟨r, vs, rfl, fun z => ?_, e, paired_imp (fun _ _ ⟨q, e, g, h⟩ => ⟨q, e, fun z => ?_, h⟩) h⟩
  · rw [z, hl] at hr; cases hr
  · rw [z, hl] at g; cases g
/-- what the answer is -/
def OneAt (H : Hp) (v : V) (hour : Int) (nx : Nat → S5 → S5 → Prop) (fit : Nat → S5 → Prop) (st : S5) (n : Nat) : Prop :=
  (∃ R r, v = .ref r ∧ RowsV H r R ∧ Rows nx fit st n R ∧ ∀ L, L ∈ R → L.length ≤ 6561) ∨ ∃ k : Nat, v = .int (hour + k) ∧ Refused nx fit st n k
theorem OneAt.up {H H' : Hp} {v : V} {hour : Int} {nx : Nat → S5 → S5 → Prop} {fit : Nat → S5 → Prop} {st : S5} {n : Nat} (s : Same H H') (h : OneAt H v hour nx fit st n) : OneAt H' v hour nx fit st n := by
  rcases h with ⟨R, r, e, h1, h2⟩ | h
  · exact .inl ⟨R, r, e, h1.up s, h2⟩
  · exact .inr h
theorem paired_two {α β γ : Type} {A : α → γ → Prop} {B : β → γ → Prop} {C : α → β → Prop} : ∀ {vs : List α} {ws : List β} {R : List γ}, (∀ a b r, r ∈ R → A a r → B b r → C a b) → Paired A vs R → Paired B ws R → Paired C vs ws
  | _, _, _, _, .nil, .nil => .nil
  | _, _, _, f, .cons h r, .cons h' r' => .cons (f _ _ _ (by simp) h h') (paired_two (fun a b r hr => f a b r (by simp [hr])) r r')
theorem tup_same {H : Hp} {v u : V} {t : S5} (m : Nat) (h : TupOf S5.v H v t) (h' : TupOf S5.v H u t) : SameD H (m + 2) v u := by
  obtain ⟨a, rfl, ha⟩ := h
  obtain ⟨b, rfl, hb⟩ := h'
  exact .inr ⟨a, b, _, _, rfl, rfl, .inr ⟨ha, hb⟩, by simp [S5.v], .cons (.inl ⟨_, rfl, rfl⟩) (.cons (.inl ⟨_, rfl, rfl⟩) (.cons (.inl ⟨_, rfl, rfl⟩) (.cons (.inl ⟨_, rfl, rfl⟩) (.cons (.inl ⟨_, rfl, rfl⟩) .nil))))⟩
theorem list_same {H : Hp} {p q : Addr} {L : List S5} (m : Nat) (h : ListOf S5.v H p L) (h' : ListOf S5.v H q L) (hl : L.length ≤ 10000) : SameD H (m + 3) (.ref p) (.ref q) := by
  obtain ⟨vs, e, hp⟩ := h
  obtain ⟨ws, e', hp'⟩ := h'
  exact .inr ⟨p, q, vs, ws, rfl, rfl, .inl ⟨e, e'⟩, by rw [paired_len hp]; exact hl, paired_two (A := TupOf S5.v H) (B := TupOf S5.v H) (R := L) (fun _ _ _ _ a b => tup_same m a b) hp hp'⟩
theorem same_of {H : Hp} {v u : V} {hour : Int} {nx : Nat → S5 → S5 → Prop} {fit fit' : Nat → S5 → Prop} {st : S5} {n : Nat} (hn : n ≤ 8) (h : OneAt H v hour nx fit st n) (h' : OneAt H u hour nx fit' st n) (e : ∀ i t, fit i t ↔ fit' i t) : SameD H 4 v u := by
  rcases h with ⟨R, r, rfl, ⟨vs, h1, h2⟩, hR, hl⟩ | ⟨k, rfl, hk⟩
  · rcases h' with ⟨R', r', rfl, ⟨ws, h1', h2'⟩, hR', hl'⟩ | ⟨k', rfl, hk'⟩
    · have eR := hR.uniq hR' e
      subst eR
      refine .inr ⟨r, r', vs, ws, rfl, rfl, .inl ⟨h1, h1'⟩, by rw [paired_len h2, hR.len]; omega, paired_two (fun a b L hL ⟨q, ea, ha⟩ ⟨q', eb, hb⟩ => ?_) h2 h2'⟩
      subst ea eb
      exact list_same 0 ha hb (Nat.le_trans (hl L hL) (by decide))
    · exact (not_both hR hk' e).elim
  · rcases h' with ⟨R', r', rfl, ⟨ws, h1', h2'⟩, hR', hl'⟩ | ⟨k', rfl, hk'⟩
    · exact (not_both hR' hk fun i t => (e i t).symm).elim
    · have ek := hk.uniq hk' e
      subst ek
      exact .inl ⟨_, rfl, rfl⟩
/-- what a part's answer is -/
def FoundAt (l : Addr) (H : Hp) (v : V) (nx : Nat → S5 → S5 → Prop) (fit : Nat → S5 → Prop) (st : S5) (n : Nat) : Prop :=
  (∃ R, PartAt l H v R ∧ Rows nx fit st n R ∧ ∀ L, L ∈ R → L.length ≤ 6561) ∨ ((∃ i : Int, v = .int i) ∧ ¬ ∃ f, Flt nx fit st n f)
theorem flat_len {m : Nat} : ∀ {Ls : List (List S5)}, (∀ L, L ∈ Ls → L.length ≤ m) → Ls.flatten.length ≤ m * Ls.length
  | [], _ => by simp
  | L :: Ls, h => by
    have ih := flat_len (Ls := Ls) fun L hL => h L (by simp [hL])
    have h1 := h L (by simp)
    rw [List.flatten_cons, List.length_append, List.length_cons, Nat.mul_succ]
    omega
theorem pairOf_up {H H' : Hp} (s : Same H H') : ∀ {vs : List V} {L : List S5}, Paired (PairOf H) vs L → Paired (PairOf H') vs L
  | _, _, .nil => .nil
  | _, _, .cons ⟨p, b, e, h1, h2⟩ r => .cons ⟨p, b, e, s _ _ h1, s _ _ h2⟩ (pairOf_up s r)
end Bal
namespace Bal
abbrev s_law : Stmt := topS 50
abbrev nm_law : List Str := ["_law_script", "_law_numbers_here", "_law_base_here", "_law_hour", "_law_many", "_law_sky_here", "_law_state_here", "_law_layers_here", "_law_sightings", "_law_until", "_law_one", "_law_other", "_law_more", "_law_at", "_law_parts", "_law_seen", "_law_own", "_law_found", "_law_k", "_law_both", "_law_part", "_law_spot"]
theorem sc_law : FnScope nm_law ["_law_script"] (defScope s_law) := ⟨rfl, rfl, rfl, by decide +kernel, rfl, by decide +kernel, by decide +kernel⟩
-- slots: 0:_law_script 1:_law_numbers_here 2:_law_base_here 3:_law_hour 4:_law_many 5:_law_sky_here 6:_law_state_here 7:_law_layers_here 8:_law_sightings 9:_law_until 10:_law_one 11:_law_other 12:_law_more 13:_law_at 14:_law_parts 15:_law_seen 16:_law_own 17:_law_found 18:_law_k 19:_law_both 20:_law_part 21:_law_spot
def sp_law (K : PySem.W.Frag) : Sp := fun vs H Q _ => ∃ (a : Addr) (ns : List Int), vs = [.ref a] ∧ SqL K H a (ns.map V.int) ∧ ns.length ≤ 63 ∧ ∀ H', Q (.bl true) H'
section
variable {P : Program} {w : World} {K : PySem.W.Frag} {mg : Str → Option Value} {base : Heap}
theorem ok_law {f : Addr} {fd : FuncData} (F : Fun K "law" "law" s_law f fd) (T : Txt K mg) (C__law_numbers : Cl P w K mg base 1 "_law_numbers" (sp_numbers K)) (C__law_case : Cl P w K mg base 3 "_law_case" sp_lcase) (C__law_layers : Cl P w K mg base 6 "_law_layers" sp_llayers)
    (C__law_sights : Cl P w K mg base 2 "_law_sights" sp_lsights) (C__law_answer : Cl P w K mg base 8 "_law_answer" sp_lanswer) (C__law_copy : Cl P w K mg base 1 "_law_copy" sp_lcopy) (C__law_turned : Cl P w K mg base 1 "_law_turned" sp_lturned)
    (C__law_same : Cl P w K mg base 5 "_law_same" (sp_same 4)) (C__law_flat : Cl P w K mg base 1 "_law_flat" sp_lflat) : FnOk P w K mg base CX0 9 f fd ["_law_script"] (sp_law K) := by
  refine F.ok sc_law (fun vs H Q E h => ?_) (fun cdv A outer s H vs Q E hr h => ?_)
  · obtain ⟨_, _, rfl, _⟩ := h
    rfl
  · obtain ⟨a, ns, rfl, hS, hns, q⟩ := h
    have nd := sc_law.nd
    refine ⟨_, (pss_cons (ps_set (i := 1) nd rfl (.inl rfl) (pe_cl C__law_numbers hr (by decide) (by rfl) (pa_cons (pv 0) (pa_cons pe_int pa_nil))))
      (pss_cons (ps_asg (pe_cl C__law_case hr (by decide) (by rfl) (pa_cons (pv 1) pa_nil)) (pg_tup (by rfl) (pgs_cons (pg_name (i := 2) nd rfl (.inl rfl)) (pgs_cons (pg_name (i := 3) nd rfl (.inl rfl)) (pgs_cons (pg_name (i := 4) nd rfl (.inl rfl)) (pgs_cons (pg_name (i := 5) nd rfl (.inl rfl)) (pgs_cons (pg_name (i := 6) nd rfl (.inl rfl)) pgs_nil)))))))
      (pss_cons (ps_set (i := 7) nd rfl (.inl rfl) (pe_cl C__law_layers hr (by decide) (by rfl) (pa_cons (pv 5) (pa_cons (pv 3) (pa_cons (pv 6) (pa_cons (pv 4) pa_nil))))))
      (pss_cons (ps_set (i := 8) nd rfl (.inl rfl) (pe_cl C__law_sights hr (by decide) (by rfl) (pa_cons (pe_slice sl_list (pv 1) (po_some pe_int) (po_some pe_int)) (pa_cons (pv 3) (pa_cons (pv 4) (pa_cons (pv 7) (pa_cons (pv 2) pa_nil)))))))
      (pss_cons (ps_set (i := 9) nd rfl (.inl rfl) (pe_op op_add (pv 3) (pv 4)))
      (Evl.pss_cut (ps_set (i := 10) nd rfl (.inl rfl) (pe_cl C__law_answer hr (by decide) (by rfl) (pa_cons (pe_cl C__law_copy hr (by decide) (by rfl) (pa_cons (pv 5) pa_nil)) (pa_cons (pv 3) (pa_cons (pv 6) (pa_cons (pv 9) (pa_cons (pe_callTy call_list_of (by rfl) T.b_list (by decide +kernel) (pa_cons (pv 8) pa_nil)) pa_nil)))))))
      (pss_cons (ps_set (i := 11) nd rfl (.inl rfl) (pe_cl C__law_turned hr (by decide) (by rfl) (pa_cons (pe_op op_cat (pv 8) (pe_slice sl_list (pv 8) po_none (po_some pe_int))) (pa_cons (pe_slice sl_list (pv 1) (po_some pe_int) (po_some pe_int)) pa_nil))))
      (Evl.pss_cut (ps_if (pt_not (pt_val (pe_cl C__law_same hr (by decide) (by rfl) (pa_cons (pe_cl C__law_answer hr (by decide) (by rfl) (pa_cons (pe_cl C__law_copy hr (by decide) (by rfl) (pa_cons (pv 5) pa_nil)) (pa_cons (pv 3) (pa_cons (pv 6) (pa_cons (pv 9) (pa_cons (pv 11) pa_nil)))))) (pa_cons (pv 10) pa_nil))))) (pss_one (ps_ret pe_bl)) pss_nil)
      (pss_cons (ps_set (i := 12) nd rfl (.inl rfl) (pe_ix ix_list (pe_cl C__law_sights hr (by decide) (by rfl) (pa_cons (pe_op op_cat (pe_lst (pa_cons pe_int pa_nil)) (pe_slice sl_list (pv 1) (po_some pe_int) (po_some pe_int))) (pa_cons (pv 3) (pa_cons (pv 4) (pa_cons (pv 7) (pa_cons (pv 2) pa_nil)))))) pe_int (fun _ _ => rfl)))
      (pss_cons (ps_set (i := 13) nd rfl (.inl rfl) (pe_op op_mod (pe_ix ix_list (pv 1) pe_int (fun _ _ => rfl)) (pe_op op_add (pe_callB call_len_seq (by rfl) T.b_len PySem.boot_len (pa_cons (pv 8) pa_nil)) pe_int)))
      (pss_cons (ps_set (i := 14) nd rfl (.inl rfl) (pe_lst pa_nil))
      (Evl.pss_cut (ps_for PassesOwn.never rfl (pi_tup (pe_tup (pa_cons pe_bl (pa_cons pe_bl pa_nil)))) (pg_name (i := 15) nd rfl (.inl rfl)) (pss_cons (ps_set (i := 16) nd rfl (.inl rfl) (pe_op op_cat (pe_op op_cat (pe_slice sl_list (pv 8) po_none (po_some (pv 13))) (pe_lst (pa_cons (pe_op op_catA (pe_slice sl_tup (pv 12) po_none (po_some pe_int)) (pe_tup (pa_cons (pv 15) pa_nil))) pa_nil))) (pe_slice sl_list (pv 8) (po_some (pv 13)) po_none)))
      (Evl.pss_cut (ps_set (i := 17) nd rfl (.inl rfl) (pe_cl C__law_answer hr (by decide) (by rfl) (pa_cons (pe_cl C__law_copy hr (by decide) (by rfl) (pa_cons (pv 5) pa_nil)) (pa_cons (pv 3) (pa_cons (pv 6) (pa_cons (pv 9) (pa_cons (pv 16) pa_nil)))))))
      (pss_one (ps_if (pt_val (pe_callB call_isi (by rfl) T.b_isinstance (by decide +kernel) (pa_cons (pv 17) (pa_cons (pe_bltn (v := .ty "list") (by rfl) T.b_list (by decide +kernel) rfl) pa_nil)))) (pss_one (ps_expr (pe_bm PySem.F.plainAttrs_list PySem.F.slot_list_append PySem.F.type_list_append mt_append (pv 14) (pa_cons (pv 17) pa_nil)))) pss_nil)))))
      (pss_cons (ps_if (pt_not (pt_val (pe_callB call_isi (by rfl) T.b_isinstance (by decide +kernel) (pa_cons (pv 10) (pa_cons (pe_bltn (v := .ty "list") (by rfl) T.b_list (by decide +kernel) rfl) pa_nil))))) (pss_one (ps_ret (pe_cmpR op_eq (pe_callB call_len_seq (by rfl) T.b_len PySem.boot_len (pa_cons (pv 14) pa_nil)) pe_int (nomark _)))) pss_nil)
      (pss_cons (ps_if (pt_cmpR op_eq (pe_callB call_len_seq (by rfl) T.b_len PySem.boot_len (pa_cons (pv 14) pa_nil)) pe_int (nomark _)) (pss_one (ps_ret pe_bl)) pss_nil)
      (pss_cons (ps_for PassesOwn.never rfl (pi_range1 (by rfl) T.b_range (pa_cons (pe_op op_add (pv 4) pe_int) pa_nil)) (pg_name (i := 18) nd rfl (.inr rfl)) (pss_cons (ps_set (i := 19) nd rfl (.inl rfl) (pe_cl C__law_flat hr (by decide) (by rfl) (pa_cons (pe_lc (own := [("_law_part", 20)]) (g := gName 20) (by rfl) nd (pi_list (pv 14)) (blkOk_by (N := nm_law) (sc := defScope s_law) (by decide +kernel)) (fun _ _ _ _ _ => (pg_name (i := 20) nd rfl (.inl rfl))) (fun _ _ _ _ _ => pts_nil) (fun _ _ _ _ _ => (pe_ix (show IxR _ (rIxL K) from ix_list) (pv 20) (pv 18) (fun _ _ => rfl)))) pa_nil)))
      (pss_one (ps_if (pt_not (pt_val (pe_cl C__law_same hr (by decide) (by rfl) (pa_cons (pe_ix ix_list (pv 10) (pv 18) (fun _ _ => rfl)) (pa_cons (pe_callB cr_sorted5 (by rfl) T.b_sorted (by decide +kernel) (pa_cons (pe_callTy (call_list_dT rfl) (by rfl) T.b_list (by decide +kernel) (pa_cons (pe_callTy (call_dictPT rfl hr.units) (by rfl) T.b_dict (by decide +kernel) (pa_cons (pe_lc (own := [("_law_spot", 21)]) (g := gName 21) (by rfl) nd (pi_list (pv 19)) (blkOk_by (N := nm_law) (sc := defScope s_law) (by decide +kernel)) (fun _ _ _ _ _ => (pg_name (i := 21) nd rfl (.inl rfl))) (fun _ _ _ _ _ => pts_nil) (fun _ _ _ _ _ => (pe_tup (pa_cons (pv 21) (pa_cons pe_bl pa_nil))))) pa_nil)) pa_nil)) pa_nil)) pa_nil))))) (pss_one (ps_ret pe_bl)) pss_nil))))
      (pss_one (ps_ret pe_bl))))))))))))))))), ?_⟩
    rw [show L2.start nm_law [V.ref a] = [some (V.ref a), none, none, none, none, none, none, none, none, none, none, none, none, none, none, none, none, none, none, none, none, none] from rfl]
    walk_at "w"
    refine ⟨a, ns, rfl, hS, hns, fun H1 r xs s1 n1 hx => ?_⟩
    walk_at "w"
    refine ⟨r, xs, rfl, hx, fun H2 p b sk st x y hour many sky t s2 hp hb h0 hm0 hm8 h24 hsky hsl hst hz => ?_⟩
    obtain ⟨n, rfl⟩ : ∃ n : Nat, many = (n : Int) := ⟨many.toNat, by omega⟩
    have hx2 := hx.up s2
    clear hx s1 n1 hS s2
    walk_at "w"
    refine ⟨sk, st, sky, hour, t, _, rfl, hsky, hsl, hst, hz, hm0, hm8, fun H3 lay R s3 n3 hlay hRl hRz => ?_⟩
    have hx3 := hx2.up s3
    have hb3 := s3 _ _ hb
    have hst3 := s3 _ _ hst
    have hsky3 := hsky.up s3
    clear hx2 hb hst hsky hp
    walk_at "w"
    refine w_slice ?_
    walk_at "n"
    refine w_slN (a := 140) (b := 202) hx3 ⟨by decide, by decide, by decide⟩ fun p4 H4 ys s4 n4 h4 => ?_
    walk_at "w"
    refine ⟨p4, lay, b, ys, 62, hour, _, x, y, R, rfl, h4, by decide, by omega, hm0, hlay.up s4, hRl, fun k L e => (hRz k L e).1, s4 _ _ hb3, fun H5 gp sgs s5 n5 hgs hgl => ?_⟩
    have s35 := s4.trans s5
    have hx5 := hx3.up s35
    have hb5 := s35 _ _ hb3
    have hst5 := s35 _ _ hst3
    have hsky5 := hsky3.up s35
    have hlay5 := hlay.up s35
    have hgl6 : sgs.length ≤ 5 := by omega
    clear hx3 hb3 hst3 hsky3 h4 hlay hgl s35
    clear s4 s5 n5 n4 s3 n3
    walk_at "w"
    -- one
    refine w_cut (fun σ' H' => Same H5 H' ∧ ∃ v, σ' = [some (.ref a), some (.ref r), some (.ref b), some (.int hour), some (.int (n : Int)), some (.ref sk), some (.ref st), some (.ref lay), some (.ref gp), some (.int (hour + (n : Int))), some v, none, none, none, none, none, none, none, none, none, none, none] ∧ OneAt H' v hour (nxP sky hour) (fitP sgs hour) t n) ?_ ?_
    · walk_at "w"
      refine ⟨sk, sky, rfl, hsky5, fun H6 cp s6 hcp => ?_⟩
      walk_at "w"
      obtain ⟨vg, hvg, hpg⟩ := hgs.up s6
      refine ⟨gp, vg, rfl, .inl (.inl (.inl hvg)), fun l nl => ?_⟩
      have s7 := same_new (o := .lst vg) nl
      have hl : ListOf Sg.v (L2.upd H6 l (.lst vg)) l sgs := ⟨vg, upd_same, paired_up s7 hpg⟩
      generalize L2.upd H6 l (.lst vg) = H7 at s7 hl ⊢
      have s57 := s6.trans s7
      walk_at "w"
      refine ⟨cp, st, l, sky, hour, t, n, sgs, rfl, hcp.up s7, s57 _ _ hst5, hl, h0, by omega, by omega, fun R' H' r' sm nr hR hok hlR => ?_, fun k H' hk sm => ?_⟩
      · walk_at "w"
        exact ⟨s57.trans sm, _, rfl, .inl ⟨R', r', rfl, rowsV_of hR, hok, hlR⟩⟩
      · walk_at "w"
        exact ⟨s57.trans sm, _, rfl, .inr ⟨k, rfl, hk⟩⟩
    rintro σ' H6 ⟨s6, one, rfl, hone⟩
    have hx6 := hx5.up s6
    have hb6 := s6 _ _ hb5
    have hst6 := s6 _ _ hst5
    have hsky6 := hsky5.up s6
    have hlay6 := hlay5.up s6
    have hgs6 := hgs.up s6
    clear hx5 hb5 hst5 hsky5 hlay5 hgs s6
    -- other
    walk_at "w"
    refine w_slice ?_
    walk_at "n"
    obtain ⟨vg, hvg, hpg⟩ := id hgs6
    have hvgl := paired_len hpg
    refine w_slL hvg fun p7 H7 s7 n7 h7 => ?_
    rw [cutV_hi (by decide)] at h7
    refine w_catL (s7 _ _ hvg) h7 (by rw [List.length_take]; omega) fun p8 H8 s8 n8 h8 => ?_
    have s68 := s7.trans s8
    have hg8 : ListOf Sg.v H8 p8 (sgs ++ sgs.take 1) := ⟨_, h8, paired_app (paired_up s68 hpg) (paired_take _ (paired_up s68 hpg))⟩
    walk_at "w"
    refine w_slice ?_
    walk_at "n"
    refine w_slN (a := 202) (b := 210) (hx6.up s68) ⟨by decide, by decide, by decide⟩ fun p9 H9 zs s9 n9 h9 => ?_
    walk_at "w"
    refine ⟨p8, p9, sgs ++ sgs.take 1, zs, rfl, hg8.up s9, by rw [List.length_append, List.length_take]; omega, h9, fun Ha ot gs' sa na hot hperm => ?_⟩
    have s6a := (s68.trans s9).trans sa
    have hx7 := hx6.up s6a
    have hb7 := s6a _ _ hb6
    have hst7 := s6a _ _ hst6
    have hsky7 := hsky6.up s6a
    have hlay7 := hlay6.up s6a
    have hgs7 := hgs6.up s6a
    have hone7 := hone.up s6a
    clear hx6 hb6 hst6 hsky6 hlay6 hgs6 hone hg8 h7 h8 h9 hpg hvg hvgl
    clear s6a sa na s9 n9 s68 s8 n8 s7 n7
    walk_at "w"
    refine w_cut (fun σ' H' => Same Ha H' ∧ σ' = [some (.ref a), some (.ref r), some (.ref b), some (.int hour), some (.int (n : Int)), some (.ref sk), some (.ref st), some (.ref lay), some (.ref gp), some (.int (hour + (n : Int))), some one, some (.ref ot), none, none, none, none, none, none, none, none, none, none]) ?_ ?_
    · walk_at "w"
      refine ⟨sk, sky, rfl, hsky7, fun H6 cp s6 hcp => ?_⟩
      walk_at "w"
      have key : ∀ (v : V) (H' : Hp), Same H6 H' → OneAt H' v hour (nxP sky hour) (fitP gs' hour) t n → SameD H' 4 v one := fun v H' s' hv => same_of (by omega) hv (hone7.up (s6.trans s')) (turned_fit hperm)
      refine ⟨cp, st, ot, sky, hour, t, n, gs', rfl, hcp, s6 _ _ hst7, hot.up s6, h0, by omega, by omega, fun R' H' r' sm nr hR hok hlR => ?_, fun k H' hk sm => ?_⟩
      · walk_at "w"
        refine ⟨_, one, rfl, key _ H' sm (.inl ⟨R', r', rfl, rowsV_of hR, hok, hlR⟩), fun H8 s8 => ?_⟩
        walk_at "w"
        exact ⟨(s6.trans sm).trans s8, rfl⟩
      · walk_at "w"
        refine ⟨_, one, rfl, key _ H' sm (.inr ⟨k, rfl, hk⟩), fun H8 s8 => ?_⟩
        walk_at "w"
        exact ⟨(s6.trans sm).trans s8, rfl⟩
    rintro σ' Hb ⟨sb, rfl⟩
    have hx8 := hx7.up sb
    have hb8 := sb _ _ hb7
    have hst8 := sb _ _ hst7
    have hsky8 := hsky7.up sb
    have hlay8 := hlay7.up sb
    have hgs8 := hgs7.up sb
    have hone8 := hone7.up sb
    clear hx7 hb7 hst7 hsky7 hlay7 hgs7 hone7 sb hot
    -- more
    walk_at "w"
    refine w_mkL (by simp) fun p1 H1 s1 n1 h1 => ?_
    walk_at "w"
    refine w_slice ?_
    walk_at "n"
    refine w_slN (a := 211) (b := 221) (hx8.up s1) ⟨by decide, by decide, by decide⟩ fun p2 H2 ws s2 n2 h2 => ?_
    refine w_catL (s2 _ _ h1) h2.at_ (by rw [List.length_map, h2.len]; simp) fun p3 H3 s3 n3 h3 => ?_
    have h3n : NumsAt H3 p3 (1 :: ws) 11 := ⟨h3, by rw [List.length_cons, h2.len]; rfl, fun z hz => by
      rcases List.mem_cons.mp hz with e | hz
      · rw [e]; exact ⟨by decide, by decide⟩
      · exact h2.rng z hz⟩
    have sb3 := (s1.trans s2).trans s3
    walk_at "w"
    refine ⟨p3, lay, b, 1 :: ws, 11, hour, _, x, y, R, rfl, h3n, by decide, by simp, hm0, hlay8.up sb3, hRl, fun k L e => (hRz k L e).1, sb3 _ _ hb8, fun H4 mp ms s4 n4 hms hml => ?_⟩
    have hml1 : ms.length = 1 := by
      rw [List.getD_cons_zero] at hml
      omega
    walk_at "w"
    refine w_ixLO hms ⟨by decide, by omega⟩ fun ma g _ hma => ?_
    have sb4 := sb3.trans s4
    walk_at "w"
    refine w_num (m := 230) (hx8.up sb4) ⟨by decide, by decide⟩ fun z hz0 hz9 => ?_
    obtain ⟨vg, hvg, hpg⟩ := hgs8.up sb4
    have hvgl := paired_len hpg
    walk_at "w"
    refine ⟨gp, vg, rfl, .inl (.inl (.inl hvg)), ?_⟩
    walk_at "n"
    have hat : 0 ≤ z % ((vg.length : Int) + 1) := Int.emod_nonneg _ (by omega)
    generalize z % ((vg.length : Int) + 1) = at_ at hat ⊢
    refine w_mkL (by simp) fun l H5 s5 n5 h5 => ?_
    have hst9 := sb4 _ _ hst8
    have hsky9 := hsky8.up sb4
    have hgs9 := hgs8.up sb4
    have hone9 := hone8.up sb4
    clear hx8 hb8 hst8 hsky8 hlay8 hgs8 hone8 sb4 s4 sb3 s3 s2 s1 hms h1 h2 h3 h3n n1 n2 n3 n4 hRz hRl
    walk_at "w"
    refine w_cut (fun σ' H' => Same H4 H' ∧ ∃ (y15 y16 y17 : Option V) (vs : List V) (PR : List (List (List S5))), σ' = [some (.ref a), some (.ref r), some (.ref b), some (.int hour), some (.int (n : Int)), some (.ref sk), some (.ref st), some (.ref lay), some (.ref gp), some (.int (hour + (n : Int))), some one, some (.ref ot), some (.ref ma), some (.int at_), some (.ref l), y15, y16, y17, none, none, none, none] ∧ H' l = some (.lst vs) ∧ Paired (PartAt l H') vs PR ∧
        PartsOk (nxP sky hour) sgs hour t n at_.toNat g [true, false] PR ∧ ∀ S, S ∈ PR → ∀ L, L ∈ S → L.length ≤ 6561) ?_ ?_
    · walk_at "w"
      refine w_forT ?_
      walk_at "w"
      refine w_mkT (by simp) fun c H6 s6 n6 h6 => ?_
      have s46 := s5.trans s6
      refine ⟨c, rfl, ⟨_, .inl (.inl h6)⟩, fori_T (vs := [.bl true, .bl false]) (fun rb σ' H' => Same H4 H' ∧ H' c = some (.tup [.bl true, .bl false]) ∧ ∃ (y15 y16 y17 : Option V) (vs : List V) (PR : List (List (List S5))) (db bs : List Bool), σ' = [some (.ref a), some (.ref r), some (.ref b), some (.int hour), some (.int (n : Int)), some (.ref sk), some (.ref st), some (.ref lay), some (.ref gp), some (.int (hour + (n : Int))), some one, some (.ref ot), some (.ref ma), some (.int at_), some (.ref l), y15, y16, y17, none, none, none, none] ∧ H' l = some (.lst vs) ∧ Paired (PartAt l H') vs PR ∧
        rb = bs.map V.bl ∧ [true, false] = db ++ bs ∧ PartsOk (nxP sky hour) sgs hour t n at_.toNat g db PR ∧ ∀ S, S ∈ PR → ∀ L, L ∈ S → L.length ≤ 6561)
        ⟨s46, h6, none, none, none, [], [], [], [true, false], rfl, s6 _ _ h5, .nil, rfl, rfl, PartsOk.nil, by simp⟩ (fun rb σ' H' z => .inl (.inl z.2.1)) ?_ ?_⟩
      · rintro xb rb σ' H7 ⟨s7, h7, _, _, _, vs, PR, db, bs, rfl, hvs, hPR, eb, edb, hok, hlen⟩
        cases bs with
        | nil => cases eb
        | cons sb bs =>
          rw [List.map_cons, List.cons.injEq] at eb
          obtain ⟨rfl, eb⟩ := eb
          have hvg7 := s7 _ _ hvg
          have hma7 := s7 _ _ hma
          have hPl := paired_len hPR
          have hdl : PR.length ≤ 2 := by
            have e := congrArg List.length edb
            rw [List.length_append, List.length_cons] at e
            have := hok.len
            simp at e
            omega
          walk_at "w"
          refine w_slice ?_
          walk_at "n"
          refine w_slL hvg7 fun pa Ha sa na ha => ?_
          rw [cutV_hi hat] at ha
          walk_at "n"
          refine w_slT 8 (sa _ _ hma7) rfl (by decide) fun pb Hb sb' nb hb => ?_
          replace hb : Hb pb = some (.tup [.int g.w, .int g.x1, .int g.y1, .int g.x2, .int g.y2, .int g.low, .int g.high]) := hb
          walk_at "w"
          refine w_mkT (by simp) fun pc Hc sc nc hc => ?_
          refine w_catT (sc _ _ hb) hc (by simp) (by simp) (by simp) fun pd Hd sd nd' hd => ?_
          walk_at "w"
          refine w_mkL (by simp) fun pe He se ne he => ?_
          have sbe := ((sb'.trans sc).trans sd).trans se
          refine w_catL (sbe _ _ ha) he (by rw [List.length_take]; simp; omega) fun pf Hf sf nf hf => ?_
          have saf := (sa.trans sbe).trans sf
          walk_at "w"
          refine w_slice ?_
          walk_at "n"
          refine w_slL (saf _ _ hvg7) fun pg Hg sg ng hg => ?_
          rw [cutV_lo hat] at hg
          refine w_catL (sg _ _ hf) hg (by rw [List.length_append, List.length_take, List.length_drop]; simp; omega) fun pi Hi si ni hi => ?_
          have sai := (saf.trans sg).trans si
          have s4i := s7.trans sai
          have hown : ListOf Sg.v Hi pi (ownOf sgs at_.toNat g sb) := by
            refine ⟨_, hi, paired_app (paired_app (paired_take _ (paired_up s4i hpg)) (.cons ⟨pd, rfl, ?_⟩ .nil)) (paired_drop _ (paired_up s4i hpg))⟩
            exact si _ _ (sg _ _ (sf _ _ (se _ _ hd)))
          walk_at "w"
          refine w_cut (fun σ' H' => Same Hi H' ∧ ∃ v, σ' = [some (.ref a), some (.ref r), some (.ref b), some (.int hour), some (.int (n : Int)), some (.ref sk), some (.ref st), some (.ref lay), some (.ref gp), some (.int (hour + (n : Int))), some one, some (.ref ot), some (.ref ma), some (.int at_), some (.ref l), some (.bl sb), some (.ref pi), some v, none, none, none, none] ∧ FoundAt l H' v (nxP sky hour) (fitP (ownOf sgs at_.toNat g sb) hour) t n) ?_ ?_
          · walk_at "w"
            refine ⟨sk, sky, rfl, hsky9.up s4i, fun Hj cp sj hcp => ?_⟩
            walk_at "w"
            have hlj := sj _ _ (sai _ _ hvs)
            refine ⟨cp, st, pi, sky, hour, t, n, ownOf sgs at_.toNat g sb, rfl, hcp, sj _ _ (s4i _ _ hst9), hown.up sj, h0, by omega, by omega, fun R' H' r' sm nr hR hok' hlR => ?_, fun k H' hk sm => ?_⟩
            · walk_at "w"
              exact ⟨sj.trans sm, _, rfl, .inl ⟨R', partAt_of hlj nr hR, hok', hlR⟩⟩
            · walk_at "w"
              exact ⟨sj.trans sm, _, rfl, .inr ⟨⟨_, rfl⟩, hk.no⟩⟩
          rintro σ' Hj ⟨sj, v, rfl, hv⟩
          have s7j := sai.trans sj
          have hvj := s7j _ _ hvs
          have hPj := paired_imp (fun _ _ (z : PartAt l H7 _ _) => z.up s7j) hPR
          have edb' : [true, false] = (db ++ [sb]) ++ bs := by rw [edb]; simp
          rcases hv with ⟨R', hpart, hRok, hRl⟩ | ⟨⟨i, rfl⟩, hno⟩
          · obtain ⟨r', vs', rfl, hne, hr', hp'⟩ := id hpart
            walk_at "w"
            refine w_isi (T := "list") (.base (.lst hr')) (k := true) (by decide +kernel) ?_
            walk_at "w"
            refine ⟨.inl ⟨rfl, _, .inl (.inl hvj)⟩, ?_⟩
            walk_at "w"
            refine ⟨l, vs, _, rfl, rfl, hvj, by rw [sizeLine_eq]; omega, ?_⟩
            refine ⟨same_mut (s7.trans s7j) n5, same_upd_ne (s7j _ _ h7) (ne_of (s7j _ _ h7) hvj (by intro z; cases z)), _, _, _, vs ++ [.ref r'], PR ++ [R'], db ++ [sb], bs, rfl, upd_same, ?_, eb, edb', hok.put hRok, fun S hS => ?_⟩
            · exact paired_snoc (paired_imp (fun _ _ (z : PartAt l Hj _ _) => z.upd hvj) hPj) (hpart.upd hvj)
            · rcases List.mem_append.mp hS with hS | hS
              · exact hlen S hS
              · rw [List.mem_singleton] at hS
                rw [hS]; exact hRl
          · walk_at "w"
            refine w_isi (T := "int") (.base (.int _)) (k := false) (by decide +kernel) ?_
            walk_at "w"
            exact ⟨s7.trans s7j, s7j _ _ h7, _, _, _, vs, PR, db ++ [sb], bs, rfl, hvj, hPj, eb, edb', hok.skip hno, hlen⟩
      · rintro σ' H7 ⟨s7, h7, _, _, _, vs, PR, db, bs, rfl, hvs, hPR, eb, edb, hok, hlen⟩
        cases bs with
        | cons sb bs => cases eb
        | nil =>
          rw [List.append_nil] at edb
          subst edb
          exact ⟨s7, _, _, _, vs, PR, rfl, hvs, hPR, hok, hlen⟩
    rintro σ' H6 ⟨s6, _, _, _, vs, PR, rfl, hvs, hPR, hok, hlen⟩
    have hPl := paired_len hPR
    rcases hone9.up s6 with ⟨R1, r1, rfl, ⟨v1, hv1, hp1⟩, hok1, hl1⟩ | ⟨k, rfl, hk⟩
    · walk_at "w"
      refine w_isi (T := "list") (.base (.lst hv1)) (k := true) (by decide +kernel) ?_
      walk_at "w"
      refine ⟨l, vs, rfl, .inl (.inl (.inl hvs)), ?_⟩
      walk_at "w"
      have hne := parts_some hok hok1
      have hvl : vs.length ≠ 0 := fun z => hne (List.eq_nil_of_length_eq_zero (by omega))
      refine w_ite (fun z => absurd z (by omega)) (fun _ => ?_)
      walk_at "w"
      refine w_forR1 ?_
      walk_at "w"
      refine ⟨_, rfl, by omega, by omega, ?_⟩
      refine fori_R (fun i σ' H' => Same H6 H' ∧ ∃ (y15 y16 y17 y18 y19 : Option V), σ' = [some (.ref a), some (.ref r), some (.ref b), some (.int hour), some (.int (n : Int)), some (.ref sk), some (.ref st), some (.ref lay), some (.ref gp), some (.int (hour + (n : Int))), some (.ref r1), some (.ref ot), some (.ref ma), some (.int at_), some (.ref l), y15, y16, y17, y18, y19, none, none])
        ⟨Same.refl _, _, _, _, _, _, rfl⟩ ?_ ?_
      · rintro k σ' H7 hk ⟨s7, _, _, _, _, _, rfl⟩
        have hkn : k ≤ n := by omega
        have hPR7 : Paired (PartAt l H7) vs PR := paired_imp (fun _ _ (z : PartAt l H6 _ _) => z.up s7) hPR
        have hv7 := s7 _ _ hvs
        have hPR2 : PR.length ≤ 2 := hok.len
        obtain ⟨L, eL, srtL, _⟩ := hok1.row k hkn
        have hmem := parts_row hok hok1 hkn eL
        obtain ⟨u1, eu1, qL, rfl, hqL⟩ := paired_at' hp1 eL
        have rowk : ∀ S, S ∈ PR → ∃ M, S[k]? = some M ∧ S.getD k [] = M ∧ M.length ≤ 6561 := fun S hS => by
          obtain ⟨b', _, hSR⟩ := hok.of S hS
          obtain ⟨M, eM, _⟩ := hSR.row k hkn
          exact ⟨M, eM, by rw [List.getD_eq_getElem?_getD, eM]; rfl, hlen S hS M (List.mem_of_getElem? eM)⟩
        walk_at "w"
        refine w_lcL ?_
        walk_at "w"
        refine ⟨l, rfl, ⟨_, .inl (.inl hv7)⟩, lc_goL (.inl (.inl hv7)) (fun rr acc G => ∃ done rs, PR = done ++ rs ∧ Paired (PartAt l H7) rr rs ∧ Paired (RowV G) acc (done.map fun S => S.getD k [])) ⟨[], PR, rfl, hPR7, .nil⟩ ?_ ?_⟩
        · rintro D' i xv acc H8 hi nD hD hl hS hS' ⟨done, rs, eP, hr1, hr2⟩
          have hi2 := (List.getElem?_eq_some_iff.mp hi).1
          cases hr1 with
          | @cons _ S _ rs hx hr1 =>
          obtain ⟨rS, vS, rfl, _, hvS, hpS⟩ := hx
          obtain ⟨M, eM, eD, _⟩ := rowk S (by rw [eP]; simp)
          obtain ⟨w1, ew1, qM, rfl, _, hqM⟩ := paired_at' hpS eM
          refine w_turn ?_
          walk_at "w"
          refine ⟨rfl, ?_⟩
          walk_at "w"
          have ew2 := atI_nat ew1
          rw [show ((k : Nat) : Int) = 0 + (k : Int) by omega] at ew2
          refine ⟨rS, vS, _, .ref qM, rfl, rfl, .inl (.inl (hS' _ _ hvS)), ew2, ?_⟩
          refine lc_put hD (Same.refl _) hl (by omega) hS ?_
          refine ⟨done ++ [S], rs, by rw [eP]; simp, hr1, ?_⟩
          rw [List.map_append]
          exact paired_snoc hr2 ⟨qM, rfl, by show ListOf S5.v _ qM (S.getD k []); rw [eD]; exact hqM.up hS⟩
        · rintro D' H8 acc nD hS hD hl ⟨done, rs, eP, hr1, hr2⟩
          cases hr1
          rw [List.append_nil] at eP
          subst eP
          generalize hB : (PR.map fun S => S.getD k []).flatten = B at *
          have hBm : ∀ t, t ∈ B ↔ t ∈ L := fun t => by
            rw [← hB, hmem, List.mem_flatten]
            constructor
            · rintro ⟨M, hM, ht⟩
              obtain ⟨S, hS, e⟩ := List.mem_map.mp hM
              obtain ⟨M', e1, e2, _⟩ := rowk S hS
              exact ⟨S, hS, M', e1, by rw [← e2, e]; exact ht⟩
            · rintro ⟨S, hS, M, e1, ht⟩
              obtain ⟨M', e1', e2, _⟩ := rowk S hS
              rw [e1] at e1'
              cases e1'
              exact ⟨M, List.mem_map.mpr ⟨S, hS, e2⟩, ht⟩
          have hBl : B.length ≤ 13122 := by
            rw [← hB]
            have := flat_len (m := 6561) (Ls := PR.map fun S => S.getD k []) fun M hM => by
              obtain ⟨S, hS, e⟩ := List.mem_map.mp hM
              obtain ⟨M', _, e2, e3⟩ := rowk S hS
              rw [← e, e2]; exact e3
            rw [List.length_map] at this
            omega
          walk_at "w"
          refine ⟨D', acc, PR.map fun S => S.getD k [], rfl, hD, rowv_up rem_same hr2, by rw [hB]; omega, fun H9 bp s9 n9 hbp => ?_⟩
          rw [hB] at hbp
          have s79 := hS.trans s9
          walk_at "w"
          have eu2 := atI_nat eu1
          rw [show ((k : Nat) : Int) = 0 + (k : Int) by omega] at eu2
          refine ⟨r1, v1, _, .ref qL, rfl, rfl, .inl (.inl (s79 _ _ (s7 _ _ hv1))), eu2, ?_⟩
          walk_at "w"
          obtain ⟨vb, hvb, hpb⟩ := id hbp
          have hvbl := paired_len hpb
          refine w_lcL ?_
          walk_at "w"
          refine ⟨bp, rfl, ⟨_, .inl (.inl hvb)⟩, lc_goL (.inl (.inl hvb)) (fun rr acc G => ∃ done rs, B = done ++ rs ∧ Paired (TupOf S5.v H9) rr rs ∧ Paired (PairOf G) acc done) ⟨[], B, rfl, hpb, .nil⟩ ?_ ?_⟩
          · rintro D2 i xv acc2 Ha hi nD2 hD2 hl2 hS2 hS2' ⟨done, rs, eP, hr1, hr2⟩
            have hi2 := (List.getElem?_eq_some_iff.mp hi).1
            cases hr1 with
            | @cons _ t1 _ rs hx hr1 =>
            obtain ⟨a1, rfl, ha1⟩ := hx
            refine w_turn ?_
            walk_at "w"
            refine ⟨rfl, ?_⟩
            walk_at "w"
            refine w_mkT (by simp) fun t2 Hb sb nb hb => ?_
            refine lc_put hD2 sb hl2 (by omega) hS2 ?_
            refine ⟨done ++ [t1], rs, by rw [eP]; simp, hr1, ?_⟩
            refine paired_snoc (pairOf_up (same_rem sb) hr2) ⟨t2, a1, rfl, ?_, (hS2.trans (same_rem sb)) _ _ ha1⟩
            rw [rem_ne (ne_of hb (sb _ _ hD2) (by intro z; cases z))]
            exact hb
          · rintro D2 Ha acc2 nD2 hS2 hD2 hl2 ⟨done, rs, eP, hr1, hr2⟩
            cases hr1
            rw [List.append_nil] at eP
            subst eP
            refine ⟨D2, acc2, B, rfl, hD2, pairOf_up rem_same hr2, fun d M Hb sb nb hMn hMm hMl hd => ?_⟩
            walk_at "w"
            refine ⟨d, _, rfl, .inl hd, fun l3 bs3 hl3 hk3 => ?_⟩
            walk_at "w"
            have hk4 : ListOf S5.v (L2.upd Hb l3 (.lst (bs3.map V.ref))) l3 M := ⟨_, upd_same, paired_up (same_new hl3) (keys_list hk3)⟩
            refine ⟨l3, M, rfl, hk4, fun pr M2 Hc sc nc hpr hperm hord => ?_⟩
            have s6c : Same H6 Hc := ((((s7.trans s79).trans hS2).trans sb).trans (same_new hl3)).trans sc
            have eM2 : M2 = L := srt_uniq ⟨hord, hperm.symm.nodup hMn⟩ srtL fun t => by rw [hperm.mem_iff, hMm, hBm]
            subst eM2
            walk_at "w"
            refine ⟨_, _, rfl, list_same 1 (hqL.up s6c) hpr (Nat.le_trans (hl1 _ (List.mem_of_getElem? eL)) (by decide)), fun Hd sd => ?_⟩
            walk_at "w"
            exact ⟨s6c.trans sd, _, _, _, _, _, rfl⟩
      · rintro σ' H7 ⟨s7, _, _, _, _, _, rfl⟩
        walk_at "w"
        exact q _
    · walk_at "w"
      refine w_isi (T := "int") (.base (.int _)) (k := false) (by decide +kernel) ?_
      walk_at "w"
      refine ⟨l, vs, rfl, .inl (.inl (.inl hvs)), ?_⟩
      walk_at "w"
      have hnil := parts_none hok hk
      subst hnil
      cases hPR
      exact q _
end
end Bal
namespace Bal
theorem df_mk {K : PySem.W.Frag} {h : Heap} {mg : Str → Option Value} {x : Str} {st : Stmt} {f : Addr} {oc : Value} {od an : Option Addr} {osl : Array (Option Value)} {kV doc pm cdv ct : Value} (X : K.In h) (G : h.Ns mainGlobals mg) (a : PySem.W.nsIn K mainGlobals x = some (some (.ref f)))
    (l : K.lookup f = some ⟨oc, od, .func (PySem.W.fnOf x x (defArgs st) (defBody st) (defScope st) .none kV doc pm an cdv ct), osl⟩) (c : PySem.W.codeIn K cdv x = true) (k : PySem.W.keepIn K (.ref f) = true) : Df K mg x st :=
  ⟨⟨f, _, fun_mk l c k, PySem.W.mg_of X G a⟩⟩
theorem txt_mk {K : PySem.W.Frag} {h : Heap} {mg : Str → Option Value} {oa : Addr} {tt t1 t2 t3 : Tok} {od : Option Addr} {nn : Nat} {sl : Array (Option Value)} (X : K.In h) (G : h.Ns mainGlobals mg)
    (zT : PySem.W.nsIn K mainGlobals "TOP" = some (some (.int 5 tt))) (zO : PySem.W.nsIn K mainGlobals "ORDERS" = some (some (.ref oa)))
    (lO : K.lookup oa = some ⟨.type "tuple", od, .seq #[.str "up" t1, .str "level" t2, .str "down" t3] nn, sl⟩)
    (z_len : PySem.W.nsIn K mainGlobals "len" = some none)
    (z_max : PySem.W.nsIn K mainGlobals "max" = some none)
    (z_range : PySem.W.nsIn K mainGlobals "range" = some none)
    (z_sorted : PySem.W.nsIn K mainGlobals "sorted" = some none)
    (z_list : PySem.W.nsIn K mainGlobals "list" = some none)
    (z_dict : PySem.W.nsIn K mainGlobals "dict" = some none)
    (z_any : PySem.W.nsIn K mainGlobals "any" = some none)
    (z_all : PySem.W.nsIn K mainGlobals "all" = some none)
    (z_zip : PySem.W.nsIn K mainGlobals "zip" = some none)
    (z_reversed : PySem.W.nsIn K mainGlobals "reversed" = some none)
    (z_isinstance : PySem.W.nsIn K mainGlobals "isinstance" = some none)
    (z_tuple : PySem.W.nsIn K mainGlobals "tuple" = some none)
    (z_int : PySem.W.nsIn K mainGlobals "int" = some none)
    (z_bool : PySem.W.nsIn K mainGlobals "bool" = some none)
 : Txt K mg :=
  ⟨⟨tt, PySem.W.mg_of X G zT⟩, ⟨oa, PySem.W.mg_of X G zO, fun H => .inr ⟨_, _, _, lO, rfl, rfl, by show 3 ≤ sizeLine; rw [sizeLine_eq]; decide, .cons ⟨t1, rfl⟩ (.cons ⟨t2, rfl⟩ (.cons ⟨t3, rfl⟩ .nil))⟩⟩,
    PySem.W.mg_none_of X G z_len, PySem.W.mg_none_of X G z_max, PySem.W.mg_none_of X G z_range, PySem.W.mg_none_of X G z_sorted, PySem.W.mg_none_of X G z_list, PySem.W.mg_none_of X G z_dict, PySem.W.mg_none_of X G z_any, PySem.W.mg_none_of X G z_all, PySem.W.mg_none_of X G z_zip, PySem.W.mg_none_of X G z_reversed, PySem.W.mg_none_of X G z_isinstance, PySem.W.mg_none_of X G z_tuple, PySem.W.mg_none_of X G z_int, PySem.W.mg_none_of X G z_bool⟩
/-- an error of the class at S is what «except S» names -/
theorem exm_self {K : PySem.W.Frag} {S : Addr} (h1 : PySem.W.subIn K (.ref S) (.type "BaseException") = some true) (h2 : PySem.W.isClsIn K S = true) (h3 : PySem.W.typeIn K (.ref S) = some (.type "type")) (h4 : PySem.W.subIn K (.ref S) (.ref S) = some true) :
    PySem.W.exmOne K (.ref S) (.ref S) = some true := by
  have e1 : (PySem.W.subIn K (.ref S) (.type "BaseException") == some true) = true := by rw [h1] <;> rfl
  have e2 : ((PySem.W.clsIn K S).isSome && PySem.W.typeIn K (.ref S) == some (.type "type")) = true := by
    have h2' : (PySem.W.clsIn K S).isSome = true := h2
    rw [h2', h3] <;> rfl
  show (if (PySem.W.subIn K (.ref S) (.type "BaseException") == some true) = true then (if ((PySem.W.clsIn K S).isSome && PySem.W.typeIn K (.ref S) == some (.type "type")) = true then PySem.W.subIn K (.ref S) (.ref S) else none) else none) = some true
  rw [if_pos e1, if_pos e2]
  exact h4
theorem nf_mk {K : PySem.W.Frag} {h : Heap} {mg : Str → Option Value} {C fI N : Addr} {nm q : Str} {bs bm : List Value} {sn : List Str} {sub : List Value} {ab : Bool} {col : Option Bool} {dd : Option Addr} {m0 m1 m2 m3 m5 : Option Value}
    {od an : Option Addr} {sl : Array (Option Value)} {oc kV dc pm cd ct : Value} (X : K.In h) (G : h.Ns mainGlobals mg) (aC : PySem.W.nsIn K mainGlobals "NothingFits" = some (some (.ref C)))
    (xL : K.lookup C = some (excClassObj nm q C N bs bm true sn sub ab col dd m0 m1 m2 m3 m5 "ValueError.__new__")) (xr : PySem.HandSPX.refsVE bm = true)
    (sa : PySem.W.findIn K (.ref C) "__setattr__" = some (some (.builtin "object.__setattr__"))) (ga : PySem.W.findIn K (.ref C) "__getattribute__" = some (some (.builtin "BaseException.__getattribute__"))) (gg : PySem.W.findIn K (.ref C) "__getattr__" = some none)
    (nH : PySem.W.findIn K (.ref C) "hour" = some none) (nW : PySem.W.findIn K (.ref C) "word" = some none)
    (a1 : PySem.W.findIn K (.ref C) "__init__" = some (some (.ref fI))) (t1 : PySem.W.typeIn K (.ref fI) = some (.type "function"))
    (l1 : K.lookup fI = some ⟨oc, od, .func (PySem.W.fnOf "__init__" "NothingFits.__init__" (defArgs s_nfInit) (defBody s_nfInit) (defScope s_nfInit) .none kV dc pm an cd ct), sl⟩) (c1 : PySem.W.codeIn K cd "NothingFits.__init__" = true) (k1 : PySem.W.keepIn K (.ref fI) = true)
    (kC : PySem.W.keepIn K (.ref C) = true) (eC : PySem.W.subIn K (.ref C) (.type "BaseException") = some true) (tC : PySem.W.typeIn K (.ref C) = some (.type "type")) (hC : PySem.W.hasDictIn K C = true) (iC : PySem.W.isClsIn K C = true) (sC : PySem.W.subIn K (.ref C) (.ref C) = some true) :
    ∃ (C fI : Addr) (fd : FuncData), Nf K mg C fI fd ∧ Binds K fd ["self", "hour"] [] := by
  have F := fun_mk (st := s_nfInit) l1 c1 k1
  exact ⟨C, fI, _, ⟨⟨⟨nm, q, N, bs, bm, sn, sub, ab, col, dd, m0, m1, m2, m3, m5, xL, xr⟩, sa, eC, tC, kC⟩, ⟨ga, gg, eC, hC⟩, PySem.W.mg_of X G aC, a1, t1, nH, nW, exm_self eC iC tC sC, F⟩,
    F.binds (fun _ _ _ _ _ _ us hl => match us, hl with | [_, _], _ => rfl)⟩
theorem all_mk {P : Program} {w : World} {K : PySem.W.Frag} {h : Heap} {mg : Str → Option Value} {fa fL : Addr} {oc : Value} {od an : Option Addr} {osl : Array (Option Value)} {kV doc pm cdv ct : Value} (X : K.In h) (G : h.Ns mainGlobals mg) (hfa : mg "law" = some (.ref fa))
    (T : Txt K mg) (NN : ∃ (C fI : Addr) (fd : FuncData), Nf K mg C fI fd ∧ Binds K fd ["self", "hour"] [])
    (D_inside : Df K mg "inside" s_inside)
    (D_ground_at : Df K mg "ground_at" s_ground_at)
    (D_wind_at : Df K mg "wind_at" s_wind_at)
    (D_held_back : Df K mg "held_back" s_held_back)
    (D_shut_at : Df K mg "shut_at" s_shut_at)
    (D_led_to : Df K mg "led_to" s_led_to)
    (D_standing : Df K mg "standing" s_standing)
    (D_why_not : Df K mg "why_not" s_why_not)
    (D_next_state : Df K mg "next_state" s_next_state)
    (D_choices : Df K mg "choices" s_choices)
    (D_behind : Df K mg "behind" s_behind)
    (D_fits : Df K mg "fits" s_fits)
    (D_fitting : Df K mg "fitting" s_fitting)
    (D_going_on : Df K mg "going_on" s_going_on)
    (D_possible : Df K mg "possible" s_possible)
    (D__law_base : Df K mg "_law_base" s__law_base)
    (D__law_box : Df K mg "_law_box" s__law_box)
    (D__law_state : Df K mg "_law_state" s__law_state)
    (D__law_numbers : Df K mg "_law_numbers" s__law_numbers)
    (D__law_sky : Df K mg "_law_sky" s__law_sky)
    (D__law_wind : Df K mg "_law_wind" s__law_wind)
    (D__law_ground : Df K mg "_law_ground" s__law_ground)
    (D__law_in : Df K mg "_law_in" s__law_in)
    (D__law_shut : Df K mg "_law_shut" s__law_shut)
    (D__law_stand : Df K mg "_law_stand" s__law_stand)
    (D__law_led : Df K mg "_law_led" s__law_led)
    (D__law_why : Df K mg "_law_why" s__law_why)
    (D__law_next : Df K mg "_law_next" s__law_next)
    (D__law_layers : Df K mg "_law_layers" s__law_layers)
    (D__law_copy : Df K mg "_law_copy" s__law_copy)
    (D__law_flat : Df K mg "_law_flat" s__law_flat)
    (D__law_case : Df K mg "_law_case" s__law_case)
    (D__law_sights : Df K mg "_law_sights" s__law_sights)
    (D__law_turned : Df K mg "_law_turned" s__law_turned)
    (D__law_answer : Df K mg "_law_answer" s__law_answer)
    (D__law_same : Df K mg "_law_same" s__law_same)
    (aL : PySem.W.nsIn K mainGlobals "law" = some (some (.ref fL))) (lL : K.lookup fL = some ⟨oc, od, .func (PySem.W.fnOf "law" "law" (defArgs s_law) (defBody s_law) (defScope s_law) .none kV doc pm an cdv ct), osl⟩) (cL : PySem.W.codeIn K cdv "law" = true) (kL : PySem.W.keepIn K (.ref fL) = true) :
    ∃ fd : FuncData, (∀ (s : Shared) (v : Value), BindsTo s fd ⟨[v], []⟩ [("_law_script", v)]) ∧ ∀ base : Heap, K.In base → base.Ns mainGlobals mg → FnOk P w K mg base CX0 9 fa fd ["_law_script"] (sp_law K) := by
  obtain ⟨C, fI, fdI, N, bI⟩ := NN
  have e := hfa.symm.trans (PySem.W.mg_of X G aL)
  cases e
  refine ⟨PySem.W.fnOf "law" "law" (defArgs s_law) (defBody s_law) (defScope s_law) .none kV doc pm an cdv ct, fun s v => .of_eq rfl, fun base _ _ => ?_⟩
  have C_inside : Cl P w K mg base 1 "inside" sp_inside := cl_inside D_inside T
  have C_ground_at : Cl P w K mg base 1 "ground_at" sp_ground_at := cl_ground_at D_ground_at T
  have C_wind_at : Cl P w K mg base 1 "wind_at" sp_wind_at := cl_wind_at D_wind_at T
  have C_held_back : Cl P w K mg base 1 "held_back" sp_held_back := cl_held_back D_held_back T
  have C_shut_at : Cl P w K mg base 2 "shut_at" sp_shut_at := cl_shut_at D_shut_at T C_inside
  have C_led_to : Cl P w K mg base 2 "led_to" sp_led_to := cl_led_to D_led_to T C_wind_at
  have C_standing : Cl P w K mg base 3 "standing" sp_standing := cl_standing D_standing T C_ground_at C_shut_at
  have C_why_not : Cl P w K mg base 4 "why_not" sp_why_not := cl_why_not D_why_not T C_held_back C_standing C_led_to
  have C_next_state : Cl P w K mg base 5 "next_state" sp_next_state := cl_next_state D_next_state T C_why_not C_led_to
  have C_choices : Cl P w K mg base 5 "choices" sp_choices := cl_choices D_choices T C_why_not
  have C_behind : Cl P w K mg base 6 "behind" sp_behind := cl_behind D_behind T C_choices C_next_state
  have C_fits : Cl P w K mg base 2 "fits" sp_fits := cl_fits D_fits T C_inside
  have X_fitting : ClX P w K mg base 4 "fitting" (sp_fitting C) := cl_fitting D_fitting T N bI C_fits
  have C_going_on : Cl P w K mg base 6 "going_on" sp_going_on := cl_going_on D_going_on T C_choices C_next_state
  have X_possible : ClX P w K mg base 7 "possible" (sp_possible C) := cl_possible D_possible T X_fitting C_behind C_going_on
  have C__law_base : Cl P w K mg base 1 "_law_base" sp_base := cl_base D__law_base T
  have C__law_box : Cl P w K mg base 1 "_law_box" sp_box := cl_box D__law_box T
  have C__law_state : Cl P w K mg base 1 "_law_state" sp_state := cl_state D__law_state T
  have C__law_numbers : Cl P w K mg base 1 "_law_numbers" (sp_numbers K) := cl_numbers D__law_numbers T
  have C__law_sky : Cl P w K mg base 2 "_law_sky" sp_sky := cl_sky D__law_sky T C__law_box
  have C__law_wind : Cl P w K mg base 1 "_law_wind" sp_lwind := cl_lwind D__law_wind T
  have C__law_ground : Cl P w K mg base 1 "_law_ground" sp_lground := cl_lground D__law_ground T
  have C__law_in : Cl P w K mg base 1 "_law_in" sp_lin := cl_lin D__law_in T
  have C__law_shut : Cl P w K mg base 2 "_law_shut" sp_lshut := cl_lshut D__law_shut T C__law_in
  have C__law_stand : Cl P w K mg base 3 "_law_stand" sp_lstand := cl_lstand D__law_stand T C__law_ground C__law_shut
  have C__law_led : Cl P w K mg base 2 "_law_led" sp_lled := cl_lled D__law_led T C__law_wind
  have C__law_why : Cl P w K mg base 4 "_law_why" sp_lwhy := cl_lwhy D__law_why T C__law_stand C__law_led
  have C__law_next : Cl P w K mg base 5 "_law_next" sp_lnext := cl_lnext D__law_next T C__law_why C__law_led
  have C__law_layers : Cl P w K mg base 6 "_law_layers" sp_llayers := cl_llayers D__law_layers T C__law_next
  have C__law_copy : Cl P w K mg base 1 "_law_copy" sp_lcopy := cl_lcopy D__law_copy T
  have C__law_flat : Cl P w K mg base 1 "_law_flat" sp_lflat := cl_lflat D__law_flat T
  have C__law_case : Cl P w K mg base 3 "_law_case" sp_lcase := cl_lcase D__law_case T C__law_base C__law_sky C__law_state
  have C__law_sights : Cl P w K mg base 2 "_law_sights" sp_lsights := cl_lsights D__law_sights T C__law_box
  have C__law_turned : Cl P w K mg base 1 "_law_turned" sp_lturned := cl_lturned D__law_turned T
  have C__law_answer : Cl P w K mg base 8 "_law_answer" sp_lanswer := cl_lanswer D__law_answer N X_possible
  have C__law_same : Cl P w K mg base 5 "_law_same" (sp_same 4) := cl_same D__law_same T 4
  exact ok_law (fun_mk (st := s_law) lL cL kL) T C__law_numbers C__law_case C__law_layers C__law_sights C__law_answer C__law_copy C__law_turned C__law_same C__law_flat
theorem walk {l : PySem.W.OpenLaw} {q : Program} {loose : List Str} {XP : (Str → Option Value) → Heap → Prop} {YP : World → Heap → Prop} {d : DefRec} {K : Params → PySem.W.Frag} (hn : l.most = some 63) (hdf : d.params.defaults = [])
    (hY : ∀ (w : World) (h : Heap), YP w h → (K w.params).In h)
    (F : ∀ (w : World) (mg : Str → Option Value) (fa : Addr) (h : Heap), (K w.params).In h → h.Ns mainGlobals mg → mg d.name = some (.ref fa) →
      ∃ fd : FuncData, (∀ (s : Shared) (u : Value), BindsTo s fd ⟨[u], []⟩ [("_law_script", u)]) ∧ ∀ base : Heap, (K w.params).In base → base.Ns mainGlobals mg → FnOk l.prog w (K w.params) mg base CX0 9 fa fd ["_law_script"] (sp_law (K w.params))) :
    PySem.W.WalkO q loose XP YP l.row.toRowW d [] (fun f vs => PySem.call f vs) :=
  L2.walk_of (n := 63) (k := 9) (x := "_law_script") (CX := fun _ => CX0) (sp := fun w => sp_law (K w.params)) hn (by decide) hdf ⟨rfl, by decide, by decide⟩ hY F (fun _ _ a ns hl _ hS => ⟨a, ns, rfl, hS, hl, fun _ => rfl⟩) fun _ _ _ _ _ z => z
end Bal
open PySem PySem.W PyProof.Rows in
set_option maxRecDepth 100000 in
set_option maxHeartbeats 0 in
theorem PySem.Challenge.cw_ballastbook_k32_whole_sightings_in_any_o_holds : PySem.Challenge.rw_ballastbook_k32_whole_sightings_in_any_o.Holds := by
  w_on; o_law; k_head; (case hw => w_witness2)
  k_fill
  refine Bal.walk (l := PySem.Challenge.rw_ballastbook_k32_whole_sightings_in_any_o) rfl rfl (fun w h Y => PySem.W.kIn_of Y) ?F
  case F =>
    intro w mg fa h KX G hmg
    refine' Bal.all_mk KX G hmg ?xT ?xN ?D_inside ?D_ground_at ?D_wind_at ?D_held_back ?D_shut_at ?D_led_to ?D_standing ?D_why_not ?D_next_state ?D_choices ?D_behind ?D_fits ?D_fitting ?D_going_on ?D_possible ?D__law_base ?D__law_box ?D__law_state ?D__law_numbers ?D__law_sky ?D__law_wind ?D__law_ground ?D__law_in ?D__law_shut ?D__law_stand ?D__law_led ?D__law_why ?D__law_next ?D__law_layers ?D__law_copy ?D__law_flat ?D__law_case ?D__law_sights ?D__law_turned ?D__law_answer ?D__law_same ?aL ?lL ?cL ?kL
    case xT =>
      refine' Bal.txt_mk KX G ?zT ?zO ?lO ?z_len ?z_max ?z_range ?z_sorted ?z_list ?z_dict ?z_any ?z_all ?z_zip ?z_reversed ?z_isinstance ?z_tuple ?z_int ?z_bool
      (case zT => k_is)
      (case zO => k_is)
      (case lO => k_is)
      (case z_len => k_is)
      (case z_max => k_is)
      (case z_range => k_is)
      (case z_sorted => k_is)
      (case z_list => k_is)
      (case z_dict => k_is)
      (case z_any => k_is)
      (case z_all => k_is)
      (case z_zip => k_is)
      (case z_reversed => k_is)
      (case z_isinstance => k_is)
      (case z_tuple => k_is)
      (case z_int => k_is)
      (case z_bool => k_is)
    case xN =>
      refine' Bal.nf_mk KX G ?aC ?xL ?xr ?sa ?ga ?gg ?nH ?nW ?a1 ?t1 ?l1 ?c1 ?k1 ?kC ?eC ?tC ?hC ?iC ?sC
      (case aC => k_is)
      (case xL => k_is)
      (case xr => decide +kernel)
      (case sa => k_is)
      (case ga => k_is)
      (case gg => k_is)
      (case nH => k_is)
      (case nW => k_is)
      (case a1 => k_is)
      (case t1 => k_is)
      (case l1 => k_is)
      (case c1 => k_is)
      (case k1 => k_is)
      (case kC => k_is)
      (case eC => k_is)
      (case tC => k_is)
      (case hC => k_is)
      (case iC => k_is)
      (case sC => first | rfl | k_is)
    (case D_inside => refine' Bal.df_mk KX G ?za ?zl ?zc ?zk; (case za => k_is); (case zl => k_is); (case zc => k_is); (case zk => k_is))
    (case D_ground_at => refine' Bal.df_mk KX G ?za ?zl ?zc ?zk; (case za => k_is); (case zl => k_is); (case zc => k_is); (case zk => k_is))
    (case D_wind_at => refine' Bal.df_mk KX G ?za ?zl ?zc ?zk; (case za => k_is); (case zl => k_is); (case zc => k_is); (case zk => k_is))
    (case D_held_back => refine' Bal.df_mk KX G ?za ?zl ?zc ?zk; (case za => k_is); (case zl => k_is); (case zc => k_is); (case zk => k_is))
    (case D_shut_at => refine' Bal.df_mk KX G ?za ?zl ?zc ?zk; (case za => k_is); (case zl => k_is); (case zc => k_is); (case zk => k_is))
    (case D_led_to => refine' Bal.df_mk KX G ?za ?zl ?zc ?zk; (case za => k_is); (case zl => k_is); (case zc => k_is); (case zk => k_is))
    (case D_standing => refine' Bal.df_mk KX G ?za ?zl ?zc ?zk; (case za => k_is); (case zl => k_is); (case zc => k_is); (case zk => k_is))
    (case D_why_not => refine' Bal.df_mk KX G ?za ?zl ?zc ?zk; (case za => k_is); (case zl => k_is); (case zc => k_is); (case zk => k_is))
    (case D_next_state => refine' Bal.df_mk KX G ?za ?zl ?zc ?zk; (case za => k_is); (case zl => k_is); (case zc => k_is); (case zk => k_is))
    (case D_choices => refine' Bal.df_mk KX G ?za ?zl ?zc ?zk; (case za => k_is); (case zl => k_is); (case zc => k_is); (case zk => k_is))
    (case D_behind => refine' Bal.df_mk KX G ?za ?zl ?zc ?zk; (case za => k_is); (case zl => k_is); (case zc => k_is); (case zk => k_is))
    (case D_fits => refine' Bal.df_mk KX G ?za ?zl ?zc ?zk; (case za => k_is); (case zl => k_is); (case zc => k_is); (case zk => k_is))
    (case D_fitting => refine' Bal.df_mk KX G ?za ?zl ?zc ?zk; (case za => k_is); (case zl => k_is); (case zc => k_is); (case zk => k_is))
    (case D_going_on => refine' Bal.df_mk KX G ?za ?zl ?zc ?zk; (case za => k_is); (case zl => k_is); (case zc => k_is); (case zk => k_is))
    (case D_possible => refine' Bal.df_mk KX G ?za ?zl ?zc ?zk; (case za => k_is); (case zl => k_is); (case zc => k_is); (case zk => k_is))
    (case D__law_base => refine' Bal.df_mk KX G ?za ?zl ?zc ?zk; (case za => k_is); (case zl => k_is); (case zc => k_is); (case zk => k_is))
    (case D__law_box => refine' Bal.df_mk KX G ?za ?zl ?zc ?zk; (case za => k_is); (case zl => k_is); (case zc => k_is); (case zk => k_is))
    (case D__law_state => refine' Bal.df_mk KX G ?za ?zl ?zc ?zk; (case za => k_is); (case zl => k_is); (case zc => k_is); (case zk => k_is))
    (case D__law_numbers => refine' Bal.df_mk KX G ?za ?zl ?zc ?zk; (case za => k_is); (case zl => k_is); (case zc => k_is); (case zk => k_is))
    (case D__law_sky => refine' Bal.df_mk KX G ?za ?zl ?zc ?zk; (case za => k_is); (case zl => k_is); (case zc => k_is); (case zk => k_is))
    (case D__law_wind => refine' Bal.df_mk KX G ?za ?zl ?zc ?zk; (case za => k_is); (case zl => k_is); (case zc => k_is); (case zk => k_is))
    (case D__law_ground => refine' Bal.df_mk KX G ?za ?zl ?zc ?zk; (case za => k_is); (case zl => k_is); (case zc => k_is); (case zk => k_is))
    (case D__law_in => refine' Bal.df_mk KX G ?za ?zl ?zc ?zk; (case za => k_is); (case zl => k_is); (case zc => k_is); (case zk => k_is))
    (case D__law_shut => refine' Bal.df_mk KX G ?za ?zl ?zc ?zk; (case za => k_is); (case zl => k_is); (case zc => k_is); (case zk => k_is))
    (case D__law_stand => refine' Bal.df_mk KX G ?za ?zl ?zc ?zk; (case za => k_is); (case zl => k_is); (case zc => k_is); (case zk => k_is))
    (case D__law_led => refine' Bal.df_mk KX G ?za ?zl ?zc ?zk; (case za => k_is); (case zl => k_is); (case zc => k_is); (case zk => k_is))
    (case D__law_why => refine' Bal.df_mk KX G ?za ?zl ?zc ?zk; (case za => k_is); (case zl => k_is); (case zc => k_is); (case zk => k_is))
    (case D__law_next => refine' Bal.df_mk KX G ?za ?zl ?zc ?zk; (case za => k_is); (case zl => k_is); (case zc => k_is); (case zk => k_is))
    (case D__law_layers => refine' Bal.df_mk KX G ?za ?zl ?zc ?zk; (case za => k_is); (case zl => k_is); (case zc => k_is); (case zk => k_is))
    (case D__law_copy => refine' Bal.df_mk KX G ?za ?zl ?zc ?zk; (case za => k_is); (case zl => k_is); (case zc => k_is); (case zk => k_is))
    (case D__law_flat => refine' Bal.df_mk KX G ?za ?zl ?zc ?zk; (case za => k_is); (case zl => k_is); (case zc => k_is); (case zk => k_is))
    (case D__law_case => refine' Bal.df_mk KX G ?za ?zl ?zc ?zk; (case za => k_is); (case zl => k_is); (case zc => k_is); (case zk => k_is))
    (case D__law_sights => refine' Bal.df_mk KX G ?za ?zl ?zc ?zk; (case za => k_is); (case zl => k_is); (case zc => k_is); (case zk => k_is))
    (case D__law_turned => refine' Bal.df_mk KX G ?za ?zl ?zc ?zk; (case za => k_is); (case zl => k_is); (case zc => k_is); (case zk => k_is))
    (case D__law_answer => refine' Bal.df_mk KX G ?za ?zl ?zc ?zk; (case za => k_is); (case zl => k_is); (case zc => k_is); (case zk => k_is))
    (case D__law_same => refine' Bal.df_mk KX G ?za ?zl ?zc ?zk; (case za => k_is); (case zl => k_is); (case zc => k_is); (case zk => k_is))
    (case aL => k_is)
    (case lL => k_is)
    (case cL => k_is)
    (case kL => k_is)
