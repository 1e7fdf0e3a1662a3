import PyProof.Rows.All
import Wide.All
import OpenK.AllK
import Wide.FinOn
import HandS.ForMost
import HandS.Wide
import HandS.IsInst
import HandS.Deep
import HandS.TupAny
import HandS.TupMul
import HandS.Walk
import HandS.Evl
import HandS.Conv
import HandS.Zip
import HandS.Style
import HandS.Defaults
import HandS.DictComp
import HandS.SortOrd
import HandS.TupSets
import HandS.Strs
import HandS.DictTup
import PyProof.ListMulRoad
import PyProof.FactsAll.tuple_2
import PyProof.SumWalk
import PyProof.DictWalks
import KE.GoesEnum
import KE.GoesMore
import HandS.SetFor
import PyProof.Rows.SetFrom
import KE.KStateDown
import Lean
import HandS.Exc
import HandS.Head0
import HandS.Head1
import HandS.Head2
import HandS.HeadEnd
import HandS.HeadHook1
import HandS.HeadHook2
import PySem.Challenge.RW_cornerbids_k37_whole_logs_by_all_places
set_option linter.all false
/-! Cb, the mathematics, part 1: fractions, sorting, values of terms, monotony, sizes. -/
namespace Cb
abbrev Q := Int × Int
def lowest (t b : Int) : Q := (t / (Int.gcd t b : Int), b / (Int.gcd t b : Int))
def less (x y : Q) : Bool := decide (x.1 * y.2 < y.1 * x.2)
def qadd (x y : Q) : Q := lowest (x.1 * y.2 + y.1 * x.2) (x.2 * y.2)
def qmul (x y : Q) : Q := lowest (x.1 * y.1) (x.2 * y.2)
/-- a fraction in lowest terms -/
structure Frc (q : Q) : Prop where
  pos : 0 < q.2
  cop : Int.gcd q.1 q.2 = 1
/-- a number: a fraction from 0 to 1 in lowest terms -/
structure Num (q : Q) : Prop where
  pos : 0 < q.2
  lo : 0 ≤ q.1
  hi : q.1 ≤ q.2
  cop : Int.gcd q.1 q.2 = 1
theorem Num.frc {q : Q} (h : Num q) : Frc q := ⟨h.pos, h.cop⟩
def toR (q : Q) : Rat := Rat.divInt q.1 q.2
theorem toR_div (x : Q) : toR x = (x.1 : Rat) / (x.2 : Rat) := by
  unfold toR; rw [Rat.divInt_eq_div]
theorem toR_lt {x y : Q} (hx : 0 < x.2) (hy : 0 < y.2) : toR x < toR y ↔ x.1 * y.2 < y.1 * x.2 := by
  have px : (0 : Rat) < (x.2 : Rat) := by exact_mod_cast hx
  have py : (0 : Rat) < (y.2 : Rat) := by exact_mod_cast hy
  have e : (y.1 : Rat) / (y.2 : Rat) * (x.2 : Rat) = ((y.1 * x.2 : Int) : Rat) / (y.2 : Rat) := by
    rw [Rat.intCast_mul, Rat.div_def, Rat.div_def]; grind
  rw [toR_div, toR_div, Rat.div_lt_iff px, e, Rat.lt_div_iff py, ← Rat.intCast_mul, Rat.intCast_lt_intCast]
theorem less_iff {x y : Q} (hx : 0 < x.2) (hy : 0 < y.2) : less x y = decide (toR x < toR y) := by
  unfold less
  exact decide_eq_decide.mpr (toR_lt hx hy).symm
theorem toR_inj {x y : Q} (hx : Frc x) (hy : Frc y) (h : toR x = toR y) : x = y := by
  have n : ∀ z : Q, Frc z → (toR z).num = z.1 ∧ ((toR z).den : Int) = z.2 := fun z hz => by
    have g : Int.gcd z.2 z.1 = 1 := by rw [Int.gcd_comm]; exact hz.cop
    have p := hz.pos
    constructor
    · unfold toR
      rw [Rat.num_divInt, g, Int.sign_eq_one_of_pos p]
      simp
    · unfold toR
      rw [Rat.den_divInt, g, if_neg (by omega)]
      simp; omega
  obtain ⟨a, b⟩ := n x hx
  obtain ⟨c, d⟩ := n y hy
  rw [h] at a b
  exact Prod.ext (a.symm.trans c) (b.symm.trans d)
theorem gcd_pos {t b : Int} (hb : 0 < b) : 0 < Int.gcd t b := Int.gcd_pos_of_ne_zero_right _ (by omega)
theorem lowest_frc {t b : Int} (hb : 0 < b) : Frc (lowest t b) := by
  have g := gcd_pos (t := t) hb
  refine ⟨?_, Int.gcd_ediv_gcd_ediv_gcd g⟩
  exact Int.ediv_pos_of_pos_of_dvd hb (by omega) (Int.gcd_dvd_right ..)
theorem lowest_toR {t b : Int} (hb : 0 < b) : toR (lowest t b) = (t : Rat) / (b : Rat) := by
  have g := gcd_pos (t := t) hb
  have p : 0 < (lowest t b).2 := (lowest_frc (t := t) hb).pos
  have e1 : (lowest t b).1 * (Int.gcd t b : Int) = t := Int.ediv_mul_cancel (Int.gcd_dvd_left ..)
  have e2 : (lowest t b).2 * (Int.gcd t b : Int) = b := Int.ediv_mul_cancel (Int.gcd_dvd_right ..)
  unfold toR
  rw [← Rat.divInt_eq_div, Rat.divInt_eq_divInt_iff (by omega) (by omega)]
  generalize hg : (Int.gcd t b : Int) = z at e1 e2
  generalize (lowest t b).1 = u at *
  generalize (lowest t b).2 = v at *
  subst e1; subst e2
  grind
theorem lowest_le {t b : Int} (hb : 0 < b) : (lowest t b).2 ≤ b := by
  have e2 : (lowest t b).2 * (Int.gcd t b : Int) = b := Int.ediv_mul_cancel (Int.gcd_dvd_right ..)
  have g := gcd_pos (t := t) hb
  have p := (lowest_frc (t := t) hb).pos
  have : (lowest t b).2 * 1 ≤ (lowest t b).2 * (Int.gcd t b : Int) := Int.mul_le_mul_of_nonneg_left (by omega) (by omega)
  omega
theorem lowest_one {b : Int} : lowest 1 b = (1, b) := by
  unfold lowest
  simp
theorem lowest_of {q : Q} (h : Frc q) : lowest q.1 q.2 = q := by
  unfold lowest
  rw [h.cop]
  simp
theorem ne0 {b : Int} (hb : 0 < b) : (b : Rat) ≠ 0 := by
  intro h
  have : b = 0 := by exact_mod_cast h
  omega
theorem qadd_toR {x y : Q} (hx : 0 < x.2) (hy : 0 < y.2) : toR (qadd x y) = toR x + toR y := by
  unfold qadd
  rw [lowest_toR (Int.mul_pos hx hy), toR_div, toR_div, Rat.intCast_add, Rat.intCast_mul, Rat.intCast_mul, Rat.intCast_mul]
  have a := ne0 hx
  have b := ne0 hy
  grind
theorem qmul_toR {x y : Q} (hx : 0 < x.2) (hy : 0 < y.2) : toR (qmul x y) = toR x * toR y := by
  unfold qmul
  rw [lowest_toR (Int.mul_pos hx hy), toR_div, toR_div, Rat.intCast_mul, Rat.intCast_mul]
  have a := ne0 hx
  have b := ne0 hy
  grind
theorem qadd_frc {x y : Q} (hx : 0 < x.2) (hy : 0 < y.2) : Frc (qadd x y) := lowest_frc (Int.mul_pos hx hy)
theorem qmul_frc {x y : Q} (hx : 0 < x.2) (hy : 0 < y.2) : Frc (qmul x y) := lowest_frc (Int.mul_pos hx hy)
theorem num_of {q : Q} (h : Frc q) (h0 : 0 ≤ toR q) (h1 : toR q ≤ 1) : Num q := by
  have p := h.pos
  refine ⟨p, ?_, ?_, h.cop⟩
  · apply Int.not_lt.mp
    intro c
    have := (toR_lt (x := q) (y := (0, 1)) p (by decide)).mpr (by show q.1 * 1 < 0 * q.2; omega)
    have e : toR (0, 1) = 0 := by decide +kernel
    grind
  · apply Int.not_lt.mp
    intro c
    have := (toR_lt (x := (1, 1)) (y := q) (by decide) p).mpr (by show 1 * q.2 < q.1 * 1; omega)
    have e : toR (1, 1) = 1 := by decide +kernel
    grind
theorem toR_zero : toR (0, 1) = 0 := by decide +kernel
theorem toR_one : toR (1, 1) = 1 := by decide +kernel
theorem Num.r0 {q : Q} (h : Num q) : 0 ≤ toR q := by
  have := toR_lt (x := q) (y := (0, 1)) h.pos (by decide)
  have l := h.lo
  have e := toR_zero
  have : ¬ toR q < toR (0, 1) := by
    rw [this]; show ¬ q.1 * 1 < 0 * q.2; omega
  grind
theorem Num.r1 {q : Q} (h : Num q) : toR q ≤ 1 := by
  have := toR_lt (x := (1, 1)) (y := q) (by decide) h.pos
  have l := h.hi
  have e := toR_one
  have : ¬ toR (1, 1) < toR q := by
    rw [this]; show ¬ 1 * q.2 < q.1 * 1; omega
  grind
theorem num_zero : Num (0, 1) := ⟨by decide, by decide, by decide, by decide⟩
theorem num_one : Num (1, 1) := ⟨by decide, by decide, by decide, by decide⟩

/-! ### sorting by worth -/
def insK (x : Q) : List Q → List Q
  | [] => [x]
  | y :: l => if toR x < toR y then x :: y :: l else y :: insK x l
def srt (xs : List Q) : List Q := xs.foldl (fun acc x => insK x acc) []
abbrev Asc (l : List Q) : Prop := l.Pairwise fun a b => toR a ≤ toR b
theorem insK_perm (x : Q) : ∀ l, (insK x l).Perm (x :: l)
  | [] => .refl _
  | y :: l => by
    unfold insK
    split
    · exact .refl _
    · exact ((insK_perm x l).cons y).trans (.swap x y l)
theorem insK_asc (x : Q) : ∀ l, Asc l → Asc (insK x l)
  | [], _ => by simp [insK, Asc]
  | y :: l, h => by
    unfold insK
    have h1 := List.pairwise_cons.mp h
    split
    · rename_i hlt
      refine List.pairwise_cons.mpr ⟨fun z hz => ?_, h⟩
      rcases List.mem_cons.mp hz with e | e
      · subst e; grind
      · have := h1.1 z e; grind
    · rename_i hlt
      refine List.pairwise_cons.mpr ⟨fun z hz => ?_, insK_asc x l h1.2⟩
      rcases List.mem_cons.mp ((insK_perm x l).mem_iff.mp hz) with e | e
      · subst e; grind
      · exact h1.1 z e
theorem srt_aux : ∀ (xs acc : List Q), Asc acc → Asc (xs.foldl (fun acc x => insK x acc) acc) ∧ (xs.foldl (fun acc x => insK x acc) acc).Perm (acc ++ xs)
  | [], acc, h => ⟨h, by simp⟩
  | x :: xs, acc, h => by
    have ih := srt_aux xs (insK x acc) (insK_asc x acc h)
    refine ⟨ih.1, ih.2.trans ?_⟩
    refine ((insK_perm x acc).append_right xs).trans ?_
    exact (List.perm_middle (a := x) (l₁ := acc) (l₂ := xs)).symm
theorem srt_asc (xs : List Q) : Asc (srt xs) := (srt_aux xs [] .nil).1
theorem srt_perm (xs : List Q) : (srt xs).Perm xs := by simpa [srt] using (srt_aux xs [] .nil).2
theorem srt_len (xs : List Q) : (srt xs).length = xs.length := (srt_perm xs).length_eq
theorem srt_mem {xs : List Q} {x : Q} : x ∈ srt xs ↔ x ∈ xs := (srt_perm xs).mem_iff
/-- the j-th of an ascending list is at most t if and only if more than j are -/
theorem asc_le : ∀ (l : List Q) (j : Nat) (hj : j < l.length) (t : Rat), Asc l → (toR l[j] ≤ t ↔ j < l.countP fun x => decide (toR x ≤ t))
  | [], j, hj, _, _ => absurd hj (by simp)
  | a :: r, j, hj, t, h => by
    have h1 := List.pairwise_cons.mp h
    by_cases ha : toR a ≤ t
    · rw [List.countP_cons_of_pos (by simpa using ha)]
      cases j with
      | zero => simp; exact ha
      | succ j =>
        have ih := asc_le r j (by simpa using hj) t h1.2
        simp only [List.getElem_cons_succ]
        rw [ih]
        omega
    · have z : (a :: r).countP (fun x => decide (toR x ≤ t)) = 0 := by
        rw [List.countP_eq_zero]
        intro x hx
        rcases List.mem_cons.mp hx with e | e
        · subst e; simpa using ha
        · have := h1.1 x e
          simp only [decide_eq_true_eq]
          intro q; grind
      rw [z]
      constructor
      · intro q
        exfalso
        have hm := List.getElem_mem hj
        rcases List.mem_cons.mp hm with e | e
        · rw [e] at q; exact ha q
        · have := h1.1 _ e; grind
      · intro q; omega
theorem asc_mono {α : Type} {ts : List α} {f g : α → Q} (h : ∀ t ∈ ts, toR (f t) ≤ toR (g t)) {j : Nat} (hf : j < (srt (ts.map f)).length) (hg : j < (srt (ts.map g)).length) :
    toR (srt (ts.map f))[j] ≤ toR (srt (ts.map g))[j] := by
  rw [asc_le _ _ hf _ (srt_asc _)]
  have h2 := (asc_le _ _ hg (toR (srt (ts.map g))[j]) (srt_asc _)).mp (by grind)
  rw [(srt_perm _).countP_eq] at h2 ⊢
  generalize toR (srt (ts.map g))[j] = u at *
  rw [List.countP_map] at h2 ⊢
  refine Nat.lt_of_lt_of_le h2 (List.countP_mono_left fun x hx p => ?_)
  have := h x hx
  simp only [Function.comp, decide_eq_true_eq] at p ⊢
  grind

/-- the place of an insertion -/
theorem insK_at (x : Q) : ∀ (l : List Q) (n : Nat), Asc l → n ≤ l.length → (∀ j (h : j < l.length), n ≤ j → toR x < toR l[j]) → (∀ h : n - 1 < l.length, 0 < n → ¬ toR x < toR l[n - 1]) → l.take n ++ [x] ++ l.drop n = insK x l
  | [], n, _, hn, _, _ => by
    have : n = 0 := by simpa using hn
    subst this
    rfl
  | y :: l, 0, h, _, h1, _ => by
    have := h1 0 (by simp) (Nat.le_refl _)
    unfold insK
    rw [if_pos (by simpa using this)]
    rfl
  | y :: l, n + 1, h, hn, h1, h2 => by
    have hc := List.pairwise_cons.mp h
    have hn' : n ≤ l.length := by simpa using hn
    have ny : ¬ toR x < toR y := by
      have := h2 (by simp; omega) (by omega)
      cases n with
      | zero => simpa using this
      | succ n =>
        have hl : n < l.length := by omega
        have e : toR y ≤ toR l[n] := hc.1 _ (List.getElem_mem hl)
        simp only [Nat.add_sub_cancel, List.getElem_cons_succ] at this
        grind
    unfold insK
    rw [if_neg ny]
    have ih := insK_at x l n hc.2 hn' (fun j hj hnj => by
      have := h1 (j + 1) (by simp; omega) (by omega)
      simpa using this) (fun hj hp => by
      have := h2 (by simp; omega) (by omega)
      cases n with
      | zero => omega
      | succ n => simpa using this)
    rw [← ih]
    rfl
theorem srt_snoc (xs : List Q) (x : Q) : srt (xs ++ [x]) = insK x (srt xs) := by
  unfold srt
  rw [List.foldl_append]
  rfl
/-- the j-th by worth -/
def nth (xs : List Q) (j : Nat) : Q := (srt xs).getD j (0, 1)
theorem nth_get {xs : List Q} {j : Nat} (h : j < (srt xs).length) : nth xs j = (srt xs)[j] := by
  unfold nth
  rw [List.getD_eq_getElem?_getD, List.getElem?_eq_getElem h]
  rfl
theorem nth_mem {xs : List Q} {j : Nat} (h : j < xs.length) : nth xs j ∈ xs := by
  have h' : j < (srt xs).length := by rw [srt_len]; exact h
  rw [nth_get h']
  exact srt_mem.mp (List.getElem_mem h')
/-- the least one of some -/
theorem nth_least {xs : List Q} {m : Q} (hf : ∀ x ∈ xs, Frc x) (hm : m ∈ xs) (hl : ∀ x ∈ xs, toR m ≤ toR x) : nth xs 0 = m := by
  have h0 : 0 < xs.length := List.length_pos_of_mem hm
  have h' : 0 < (srt xs).length := by rw [srt_len]; exact h0
  refine toR_inj (hf _ (nth_mem h0)) (hf _ hm) ?_
  have a := hl _ (nth_mem h0)
  have b : toR (nth xs 0) ≤ toR m := by
    rw [nth_get h']
    obtain ⟨i, hi, e⟩ := List.getElem_of_mem (srt_mem.mpr hm)
    rw [← e]
    cases i with
    | zero => grind
    | succ i => exact List.pairwise_iff_getElem.mp (srt_asc xs) 0 (i + 1) h' hi (by omega)
  grind
theorem nth_greatest {xs : List Q} {m : Q} (hf : ∀ x ∈ xs, Frc x) (hm : m ∈ xs) (hl : ∀ x ∈ xs, toR x ≤ toR m) : nth xs (xs.length - 1) = m := by
  have h0 : 0 < xs.length := List.length_pos_of_mem hm
  have h1 : xs.length - 1 < xs.length := by omega
  have h' : xs.length - 1 < (srt xs).length := by rw [srt_len]; exact h1
  refine toR_inj (hf _ (nth_mem h1)) (hf _ hm) ?_
  have a := hl _ (nth_mem h1)
  have b : toR m ≤ toR (nth xs (xs.length - 1)) := by
    rw [nth_get h']
    obtain ⟨i, hi, e⟩ := List.getElem_of_mem (srt_mem.mpr hm)
    rw [← e]
    have hi' : i < xs.length := by rw [srt_len] at hi; exact hi
    by_cases c : i = xs.length - 1
    · subst c; grind
    · exact List.pairwise_iff_getElem.mp (srt_asc xs) i (xs.length - 1) hi h' (by omega)
  grind
/-- the loops that keep the least, the greatest -/
def leastF (x : Q) (r : List Q) : Q := r.foldl (fun f y => if less y f then y else f) x
def greatF (x : Q) (r : List Q) : Q := r.foldl (fun f y => if less f y then y else f) x
theorem leastF_ok : ∀ (r : List Q) (x : Q), 0 < x.2 → (∀ y ∈ r, 0 < y.2) → leastF x r ∈ x :: r ∧ ∀ y ∈ x :: r, toR (leastF x r) ≤ toR y
  | [], x, _, _ => ⟨by simp [leastF], fun y hy => by simp at hy; subst hy; simp [leastF]⟩
  | z :: r, x, hx, hr => by
    have hz := hr z (by simp)
    have e : leastF x (z :: r) = leastF (if less z x then z else x) r := rfl
    rw [e, less_iff hz hx]
    by_cases h : toR z < toR x
    · rw [decide_eq_true h, if_pos rfl]
      have ih := leastF_ok r z hz (fun y hy => hr y (by simp [hy]))
      refine ⟨by have := ih.1; simp at this ⊢; grind, fun y hy => ?_⟩
      rcases List.mem_cons.mp hy with q | q
      · subst q; have := ih.2 z (by simp); grind
      · exact ih.2 y q
    · rw [decide_eq_false h, if_neg Bool.false_ne_true]
      have ih := leastF_ok r x hx (fun y hy => hr y (by simp [hy]))
      refine ⟨by have := ih.1; simp at this ⊢; grind, fun y hy => ?_⟩
      rcases List.mem_cons.mp hy with q | q
      · subst q; exact ih.2 _ (by simp)
      · rcases List.mem_cons.mp q with q | q
        · subst q; have := ih.2 x (by simp); grind
        · exact ih.2 y (by simp [q])
theorem greatF_ok : ∀ (r : List Q) (x : Q), 0 < x.2 → (∀ y ∈ r, 0 < y.2) → greatF x r ∈ x :: r ∧ ∀ y ∈ x :: r, toR y ≤ toR (greatF x r)
  | [], x, _, _ => ⟨by simp [greatF], fun y hy => by simp at hy; subst hy; simp [greatF]⟩
  | z :: r, x, hx, hr => by
    have hz := hr z (by simp)
    have e : greatF x (z :: r) = greatF (if less x z then z else x) r := rfl
    rw [e, less_iff hx hz]
    by_cases h : toR x < toR z
    · rw [decide_eq_true h, if_pos rfl]
      have ih := greatF_ok r z hz (fun y hy => hr y (by simp [hy]))
      refine ⟨by have := ih.1; simp at this ⊢; grind, fun y hy => ?_⟩
      rcases List.mem_cons.mp hy with q | q
      · subst q; have := ih.2 z (by simp); grind
      · exact ih.2 y q
    · rw [decide_eq_false h, if_neg Bool.false_ne_true]
      have ih := greatF_ok r x hx (fun y hy => hr y (by simp [hy]))
      refine ⟨by have := ih.1; simp at this ⊢; grind, fun y hy => ?_⟩
      rcases List.mem_cons.mp hy with q | q
      · subst q; exact ih.2 _ (by simp)
      · rcases List.mem_cons.mp q with q | q
        · subst q; have := ih.2 x (by simp); grind
        · exact ih.2 y (by simp [q])
theorem leastF_nth {x : Q} {r : List Q} (h : ∀ y ∈ x :: r, Frc y) : leastF x r = nth (x :: r) 0 := by
  obtain ⟨a, b⟩ := leastF_ok r x (h x (by simp)).pos (fun y hy => (h y (by simp [hy])).pos)
  exact (nth_least h a b).symm
theorem greatF_nth {x : Q} {r : List Q} (h : ∀ y ∈ x :: r, Frc y) : greatF x r = nth (x :: r) r.length := by
  obtain ⟨a, b⟩ := greatF_ok r x (h x (by simp)).pos (fun y hy => (h y (by simp [hy])).pos)
  exact (nth_greatest h a b).symm
theorem leastF_snoc (x : Q) (l : List Q) (y : Q) : leastF x (l ++ [y]) = if less y (leastF x l) then y else leastF x l := by
  unfold leastF
  rw [List.foldl_append]
  rfl
theorem greatF_snoc (x : Q) (l : List Q) (y : Q) : greatF x (l ++ [y]) = if less (greatF x l) y then y else greatF x l := by
  unfold greatF
  rw [List.foldl_append]
  rfl
theorem take_snoc {α : Type} {l : List α} {i : Nat} (h : i < l.length) : l.take (i + 1) = l.take i ++ [l[i]] := by
  rw [List.take_add_one, List.getElem?_eq_getElem h]
  rfl
end Cb
set_option linter.all false
/-! Cb, the mathematics, part 2: terms, their values, monotony, sizes. -/
namespace Cb
/-- what a term does with its parts -/
inductive Op where
  | mean (ws : List Int)
  | least
  | greatest
  | ranked (k : Nat)
  | between (lo hi : Q)
inductive Tm where
  | bid (k : Nat)
  | fixed (q : Q)
  | nd (op : Op) (ts : List Tm)
def meanT (l : List (Int × Q)) : Q := l.foldl (fun t p => qadd t (qmul (p.1, 1) p.2)) (0, 1)
def meanF (ws : List Int) (xs : List Q) : Q := qmul (meanT (ws.zip xs)) (1, ws.sum)
def opval : Op → List Q → Q
  | .mean ws, xs => meanF ws xs
  | .least, xs => nth xs 0
  | .greatest, xs => nth xs (xs.length - 1)
  | .ranked k, xs => nth xs (xs.length - k)
  | .between lo hi, xs => nth [lo, hi, xs.getD 0 (0, 1)] 1
mutual
def val (b : List Q) : Tm → Q
  | .bid k => b.getD k (0, 1)
  | .fixed q => q
  | .nd op ts => opval op (vals b ts)
def vals (b : List Q) : List Tm → List Q
  | [] => []
  | t :: ts => val b t :: vals b ts
end
theorem vals_map (b : List Q) : ∀ ts : List Tm, vals b ts = ts.map (val b)
  | [] => by simp [vals]
  | t :: ts => by simp [vals, vals_map b ts]
theorem val_nd (b : List Q) (op : Op) (ts : List Tm) : val b (.nd op ts) = opval op (ts.map (val b)) := by
  rw [val, vals_map]
/-- how a node may be made -/
def opOk : Op → Nat → Prop
  | .mean ws, n => ws.length = n ∧ ∀ w ∈ ws, 1 ≤ w ∧ w ≤ 99
  | .least, _ => True
  | .greatest, _ => True
  | .ranked k, n => 1 ≤ k ∧ k ≤ n
  | .between lo hi, n => n = 1 ∧ Num lo ∧ Num hi ∧ lo.2 ≤ 2 ^ 20 ∧ hi.2 ≤ 2 ^ 20 ∧ toR lo ≤ toR hi
mutual
/-- a term for so many people -/
def WT (n : Nat) : Tm → Prop
  | .bid k => k < n
  | .fixed q => Num q ∧ q.2 ≤ 2 ^ 20
  | .nd op ts => opOk op ts.length ∧ 0 < ts.length ∧ ts.length ≤ 8 ∧ WTs n ts
def WTs (n : Nat) : List Tm → Prop
  | [] => True
  | t :: ts => WT n t ∧ WTs n ts
end
theorem wts_mem {n : Nat} : ∀ {ts : List Tm} {t : Tm}, WTs n ts → t ∈ ts → WT n t
  | [], t, _, h => by simp at h
  | u :: ts, t, hw, h => by
    rw [WTs] at hw
    rcases List.mem_cons.mp h with e | e
    · rw [e]; exact hw.1
    · exact wts_mem hw.2 e
theorem wts_of {n : Nat} : ∀ {ts : List Tm}, (∀ t ∈ ts, WT n t) → WTs n ts
  | [], _ => by simp [WTs]
  | u :: ts, h => by
    rw [WTs]
    exact ⟨h u (by simp), wts_of fun t ht => h t (by simp [ht])⟩
mutual
def cnt : Tm → Nat
  | .bid _ => 1
  | .fixed _ => 1
  | .nd _ ts => 1 + cnts ts
def cnts : List Tm → Nat
  | [] => 0
  | t :: ts => cnt t + cnts ts
end
mutual
def dpt : Tm → Nat
  | .bid _ => 1
  | .fixed _ => 1
  | .nd _ ts => 1 + dpts ts
def dpts : List Tm → Nat
  | [] => 0
  | t :: ts => max (dpt t) (dpts ts)
end
theorem dpts_le {n : Nat} : ∀ {ts : List Tm}, dpts ts ≤ n ↔ ∀ t ∈ ts, dpt t ≤ n
  | [] => by simp [dpts]
  | t :: ts => by simp [dpts, dpts_le (ts := ts), Nat.max_le]
theorem cnts_sum : ∀ ts : List Tm, cnts ts = (ts.map cnt).sum
  | [] => by simp [cnts]
  | t :: ts => by simp [cnts, cnts_sum ts]
mutual
theorem Tm.ind {p : Tm → Prop} (hb : ∀ k, p (.bid k)) (hf : ∀ q, p (.fixed q)) (hn : ∀ op ts, (∀ t ∈ ts, p t) → p (.nd op ts)) : ∀ t, p t
  | .bid k => hb k
  | .fixed q => hf q
  | .nd op ts => hn op ts (Tm.inds hb hf hn ts)
theorem Tm.inds {p : Tm → Prop} (hb : ∀ k, p (.bid k)) (hf : ∀ q, p (.fixed q)) (hn : ∀ op ts, (∀ t ∈ ts, p t) → p (.nd op ts)) : ∀ ts : List Tm, ∀ t ∈ ts, p t
  | [], t, h => by simp at h
  | u :: ts, t, h => by
    rcases List.mem_cons.mp h with e | e
    · rw [e]; exact Tm.ind hb hf hn u
    · exact Tm.inds hb hf hn ts t e
end
/-! ### means -/
theorem meanT_snoc (l : List (Int × Q)) (p : Int × Q) : meanT (l ++ [p]) = qadd (meanT l) (qmul (p.1, 1) p.2) := by
  unfold meanT
  rw [List.foldl_append]
  rfl
/-- what is known of a sum of weighted numbers -/
structure MT (l : List (Int × Q)) (B : Nat) : Prop where
  frc : Frc (meanT l)
  val : toR (meanT l) = (l.map fun p => (p.1 : Rat) * toR p.2).sum
  bot : (meanT l).2 ≤ 2 ^ B
theorem sum_snoc (l : List Rat) (x : Rat) : (l ++ [x]).sum = l.sum + x := by
  induction l with
  | nil => simp; grind
  | cons a l ih => simp only [List.cons_append, List.sum_cons, ih]; grind
theorem toR_int (w : Int) : toR (w, 1) = (w : Rat) := by
  rw [toR_div]
  show (w : Rat) / ((1 : Int) : Rat) = w
  grind
theorem mul_le_pow {a b : Int} {m n : Nat} (ha : 0 ≤ a) (hb : 0 ≤ b) (h1 : a ≤ 2 ^ m) (h2 : b ≤ 2 ^ n) : a * b ≤ 2 ^ (m + n) := by
  have e : (2 : Int) ^ (m + n) = 2 ^ m * 2 ^ n := Int.pow_add ..
  rw [e]
  have p : (0 : Int) ≤ 2 ^ m := by have := Int.pow_pos (n := (2 : Int)) (m := m) (by decide); omega
  exact Int.mul_le_mul h1 h2 hb p
theorem mt_nil : MT [] 0 := ⟨⟨by decide, by decide⟩, by show toR (0, 1) = _; rw [toR_zero]; simp, by decide⟩
theorem mt_snoc {l : List (Int × Q)} {B b : Nat} {w : Int} {x : Q} (h : MT l B) (hx : 0 < x.2) (hb : x.2 ≤ 2 ^ b) : MT (l ++ [(w, x)]) (B + b) := by
  have p1 : 0 < ((w, 1) : Q).2 := Int.one_pos
  have h1 : Frc (qmul (w, 1) x) := qmul_frc p1 hx
  have h2 : (qmul (w, 1) x).2 ≤ x.2 := by
    have := lowest_le (t := (w, (1 : Int)).1 * x.1) (b := (w, (1 : Int)).2 * x.2) (by show 0 < 1 * x.2; omega)
    have e : (w, (1 : Int)).2 * x.2 = x.2 := Int.one_mul _
    rw [e] at this
    unfold qmul
    rw [e]
    exact this
  have e := meanT_snoc l (w, x)
  refine ⟨?_, ?_, ?_⟩
  · rw [e]; exact qadd_frc h.frc.pos h1.pos
  · rw [e, qadd_toR h.frc.pos h1.pos, qmul_toR p1 hx, h.val, toR_int, List.map_append, List.map_singleton, sum_snoc]
  · rw [e]
    have := lowest_le (t := (meanT l).1 * (qmul (w, 1) x).2 + (qmul (w, 1) x).1 * (meanT l).2) (b := (meanT l).2 * (qmul (w, 1) x).2) (Int.mul_pos h.frc.pos h1.pos)
    have q := mul_le_pow (a := (meanT l).2) (b := (qmul (w, 1) x).2) (by have := h.frc.pos; omega) (by have := h1.pos; omega) h.bot (Int.le_trans h2 hb)
    exact Int.le_trans this q
theorem mt_all : ∀ (n : Nat) (l : List (Int × Q)) (bs : List Nat), l.length = n → bs.length = n → (∀ i (h : i < l.length) (h' : i < bs.length), 0 < (l[i]).2.2 ∧ (l[i]).2.2 ≤ 2 ^ bs[i]) → MT l bs.sum
  | 0, l, bs, h1, h2, _ => by
    have := List.eq_nil_of_length_eq_zero h1
    subst this
    have := List.eq_nil_of_length_eq_zero h2
    subst this
    exact mt_nil
  | n + 1, l, bs, h1, h2, h => by
    have e1 : l = l.take n ++ [l[n]] := by rw [← take_snoc]; exact (List.take_of_length_le (by omega)).symm
    have e2 : bs = bs.take n ++ [bs[n]] := by rw [← take_snoc]; exact (List.take_of_length_le (by omega)).symm
    have ih := mt_all n (l.take n) (bs.take n) (by simp; omega) (by simp; omega) (fun i hi hi' => by
      have := h i (by simp at hi; omega) (by simp at hi'; omega)
      simpa using this)
    have hl := h n (by omega) (by omega)
    have := mt_snoc (w := l[n].1) (x := l[n].2) ih hl.1 hl.2
    rw [e1]
    have e3 : bs.sum = (bs.take n).sum + bs[n] := by
      have := congrArg List.sum e2
      rw [List.sum_append] at this
      simpa using this
    rw [e3]
    exact this
theorem sum_mono {α : Type} {l : List α} {f g : α → Rat} (h : ∀ x ∈ l, f x ≤ g x) : (l.map f).sum ≤ (l.map g).sum := by
  induction l with
  | nil => simp
  | cons a l ih =>
    have h1 := h a (by simp)
    have h2 := ih fun x hx => h x (by simp [hx])
    simp only [List.map_cons, List.sum_cons]
    grind
theorem sum_pos {l : List Int} (h : ∀ w ∈ l, 1 ≤ w ∧ w ≤ 99) (h0 : 0 < l.length) : 0 < l.sum := by
  cases l with
  | nil => simp at h0
  | cons a l =>
    have h1 := (h a (by simp)).1
    have : 0 ≤ l.sum := by
      clear h0 h1
      have h2 : ∀ w ∈ l, 0 ≤ w := fun w hw => by have := (h w (by simp [hw])).1; omega
      clear h
      induction l with
      | nil => simp
      | cons b l ih =>
        have := h2 b (by simp)
        have := ih fun w hw => h2 w (by simp [hw])
        simp only [List.sum_cons]; omega
    simp only [List.sum_cons]; omega
theorem sum_le99 {l : List Int} (h : ∀ w ∈ l, 1 ≤ w ∧ w ≤ 99) : l.sum ≤ 99 * l.length := by
  induction l with
  | nil => simp
  | cons a l ih =>
    have h1 := (h a (by simp)).2
    have h2 := ih fun w hw => h w (by simp [hw])
    simp only [List.sum_cons, List.length_cons]; omega
/-- a number of so many bits -/
structure VOk (b : Nat) (q : Q) : Prop where
  num : Num q
  bot : q.2 ≤ 2 ^ b
theorem zip_map_fst {α : Type} : ∀ {ws : List Int} {xs : List α} (f : Int → α → Rat), (ws.zip xs).map (fun p => f p.1 p.2) = List.zipWith f ws xs
  | [], _, f => by simp
  | _ :: _, [], f => by simp
  | w :: ws, x :: xs, f => by simp [zip_map_fst f]
theorem meanF_toR {ws : List Int} {xs : List Q} {bs : List Nat} (hl : ws.length = xs.length) (hb : bs.length = xs.length) (hw : ∀ w ∈ ws, 1 ≤ w ∧ w ≤ 99) (h0 : 0 < xs.length)
    (hx : ∀ i (h : i < xs.length) (h' : i < bs.length), VOk bs[i] xs[i]) : MT (ws.zip xs) bs.sum ∧ Frc (meanF ws xs) ∧ toR (meanF ws xs) * (ws.sum : Int) = ((ws.zip xs).map fun p => (p.1 : Rat) * toR p.2).sum ∧ (meanF ws xs).2 ≤ 2 ^ bs.sum * ws.sum := by
  have hz : (ws.zip xs).length = xs.length := by simp; omega
  have mt := mt_all xs.length (ws.zip xs) bs hz hb (fun i h h' => by
    have := hx i (by omega) h'
    rw [List.getElem_zip]
    exact ⟨this.num.pos, this.bot⟩)
  have sp := sum_pos hw (by omega)
  refine ⟨mt, qmul_frc mt.frc.pos sp, ?_, ?_⟩
  · show toR (qmul (meanT (ws.zip xs)) (1, ws.sum)) * _ = _
    rw [qmul_toR mt.frc.pos sp, mt.val, toR_div (1, ws.sum)]
    have := ne0 sp
    show _ * (((1 : Int) : Rat) / ((ws.sum : Int) : Rat)) * _ = _
    have e1 : ((1 : Int) : Rat) = 1 := rfl
    rw [e1]
    grind
  · have := lowest_le (t := (meanT (ws.zip xs)).1 * (1, ws.sum).1) (b := (meanT (ws.zip xs)).2 * (1, ws.sum).2) (Int.mul_pos mt.frc.pos sp)
    refine Int.le_trans this ?_
    exact Int.mul_le_mul_of_nonneg_right mt.bot (by show 0 ≤ ws.sum; omega)
theorem zip_sum_le {ws : List Int} {xs ys : List Q} (hl : ws.length = xs.length) (hy : xs.length = ys.length) (hw : ∀ w ∈ ws, 1 ≤ w ∧ w ≤ 99) (h : ∀ i (hx : i < xs.length) (hy : i < ys.length), toR xs[i] ≤ toR ys[i]) :
    ((ws.zip xs).map fun p => (p.1 : Rat) * toR p.2).sum ≤ ((ws.zip ys).map fun p => (p.1 : Rat) * toR p.2).sum := by
  induction ws generalizing xs ys with
  | nil => simp
  | cons w ws ih =>
    cases xs with
    | nil => simp at hl
    | cons x xs =>
      cases ys with
      | nil => simp at hy
      | cons y ys =>
        have h1 := h 0 (by simp) (by simp)
        have h2 := ih (xs := xs) (ys := ys) (by simpa using hl) (by simpa using hy) (fun v hv => hw v (by simp [hv])) (fun i a b => by
          have := h (i + 1) (by simp; omega) (by simp; omega)
          simpa using this)
        have h3 := (hw w (by simp)).1
        have h4 : (0 : Rat) ≤ (w : Rat) := by exact_mod_cast (by omega : 0 ≤ w)
        have h5 := Rat.mul_le_mul_of_nonneg_left (show toR x ≤ toR y by simpa using h1) h4
        simp only [List.zip_cons_cons, List.map_cons, List.sum_cons]
        grind
theorem mean_mono {ws : List Int} {xs ys : List Q} {bs cs : List Nat} (hl : ws.length = xs.length) (hy : xs.length = ys.length) (hb : bs.length = xs.length) (hc : cs.length = ys.length) (hw : ∀ w ∈ ws, 1 ≤ w ∧ w ≤ 99) (h0 : 0 < xs.length)
    (hx : ∀ i (h : i < xs.length) (h' : i < bs.length), VOk bs[i] xs[i]) (hz : ∀ i (h : i < ys.length) (h' : i < cs.length), VOk cs[i] ys[i]) (h : ∀ i (hx : i < xs.length) (hy : i < ys.length), toR xs[i] ≤ toR ys[i]) :
    toR (meanF ws xs) ≤ toR (meanF ws ys) := by
  obtain ⟨_, _, e1, _⟩ := meanF_toR hl hb hw h0 hx
  obtain ⟨_, _, e2, _⟩ := meanF_toR (hl.trans hy) hc hw (by omega) hz
  have m := zip_sum_le hl hy hw h
  have sp := sum_pos hw (by omega)
  have sp2 : (0 : Rat) < ((ws.sum : Int) : Rat) := by exact_mod_cast sp
  rw [← e1, ← e2] at m
  exact Rat.le_of_mul_le_mul_right m sp2
theorem zip_const {ws : List Int} {xs : List Q} (hl : ws.length = xs.length) (c : Rat) (hc : ∀ x ∈ xs, toR x = c) : ((ws.zip xs).map fun p => (p.1 : Rat) * toR p.2).sum = ((ws.sum : Int) : Rat) * c := by
  induction ws generalizing xs with
  | nil => simp
  | cons w ws ih =>
    cases xs with
    | nil => simp at hl
    | cons x xs =>
      have h1 := hc x (by simp)
      have h2 := ih (xs := xs) (by simpa using hl) (fun y hy => hc y (by simp [hy]))
      simp only [List.zip_cons_cons, List.map_cons, List.sum_cons, h1, h2, Rat.intCast_add]
      grind
theorem mean_ok {ws : List Int} {xs : List Q} {bs : List Nat} (hl : ws.length = xs.length) (hb : bs.length = xs.length) (hw : ∀ w ∈ ws, 1 ≤ w ∧ w ≤ 99) (h0 : 0 < xs.length) (h8 : xs.length ≤ 8)
    (hx : ∀ i (h : i < xs.length) (h' : i < bs.length), VOk bs[i] xs[i]) : VOk (bs.sum + 10) (meanF ws xs) := by
  obtain ⟨mt, fr, e1, bt⟩ := meanF_toR hl hb hw h0 hx
  have sp := sum_pos hw (by omega)
  have sl := sum_le99 hw
  have sp2 : (0 : Rat) < ((ws.sum : Int) : Rat) := by exact_mod_cast sp
  refine ⟨num_of fr ?_ ?_, ?_⟩
  · have m := zip_sum_le (ws := ws) (xs := List.replicate xs.length (0, 1)) (ys := xs) (by simp [hl]) (by simp) hw (fun i a b => by
      rw [List.getElem_replicate, toR_zero]
      exact (hx i b (by omega)).num.r0)
    rw [zip_const (xs := List.replicate xs.length (0, 1)) (by simp [hl]) 0 (fun x hx => by rw [List.eq_of_mem_replicate hx, toR_zero]), ← e1] at m
    have : (0 : Rat) * ((ws.sum : Int) : Rat) ≤ toR (meanF ws xs) * ((ws.sum : Int) : Rat) := by grind
    exact Rat.le_of_mul_le_mul_right this sp2
  · have m := zip_sum_le (ws := ws) (xs := xs) (ys := List.replicate xs.length (1, 1)) hl (by simp) hw (fun i a b => by
      rw [List.getElem_replicate, toR_one]
      exact (hx i a (by omega)).num.r1)
    rw [zip_const (xs := List.replicate xs.length (1, 1)) (by simp [hl]) 1 (fun x hx => by rw [List.eq_of_mem_replicate hx, toR_one]), ← e1] at m
    have : toR (meanF ws xs) * ((ws.sum : Int) : Rat) ≤ 1 * ((ws.sum : Int) : Rat) := by grind
    exact Rat.le_of_mul_le_mul_right this sp2
  · refine Int.le_trans bt ?_
    rw [Int.pow_add]
    have p : (0 : Int) ≤ 2 ^ bs.sum := by have := Int.pow_pos (n := (2 : Int)) (m := bs.sum) (by decide); omega
    exact Int.mul_le_mul_of_nonneg_left (by have : (2 : Int) ^ 10 = 1024 := by decide
                                            omega) p
/-! ### sizes, monotony of all terms -/
mutual
def bt : Tm → Nat
  | .bid _ => 20
  | .fixed _ => 20
  | .nd _ ts => bts ts + 20
def bts : List Tm → Nat
  | [] => 0
  | t :: ts => bt t + bts ts
end
theorem bts_sum : ∀ ts : List Tm, bts ts = (ts.map bt).sum
  | [] => by simp [bts]
  | t :: ts => by simp [bts, bts_sum ts]
mutual
theorem bt_cnt : ∀ t : Tm, bt t ≤ 20 * cnt t
  | .bid _ => by simp [bt, cnt]
  | .fixed _ => by simp [bt, cnt]
  | .nd _ ts => by have := bts_cnts ts; simp only [bt, cnt]; omega
theorem bts_cnts : ∀ ts : List Tm, bts ts ≤ 20 * cnts ts
  | [] => by simp [bts, cnts]
  | t :: ts => by have := bts_cnts ts; have := bt_cnt t; simp only [bts, cnts]; omega
end
theorem VOk.mono {b c : Nat} {q : Q} (h : VOk b q) (l : b ≤ c) : VOk c q := ⟨h.num, Int.le_trans h.bot (by
  have e : (2 : Int) ^ c = 2 ^ b * 2 ^ (c - b) := by rw [← Int.pow_add]; congr 1; omega
  rw [e]
  have p1 := Int.pow_pos (n := (2 : Int)) (m := b) (by decide)
  have p2 := Int.pow_pos (n := (2 : Int)) (m := c - b) (by decide)
  have := Int.mul_le_mul_of_nonneg_left (a := (1 : Int)) (b := 2 ^ (c - b)) (c := 2 ^ b) (by omega) (by omega)
  omega)⟩
theorem le_sum {l : List Nat} {x : Nat} (h : x ∈ l) : x ≤ l.sum := by
  induction l with
  | nil => simp at h
  | cons a l ih =>
    rcases List.mem_cons.mp h with e | e
    · subst e; simp
    · have := ih e; simp; omega
theorem nth_ok {ts : List Tm} {f : Tm → Q} (h : ∀ t ∈ ts, VOk (bt t) (f t)) {j : Nat} (hj : j < ts.length) : VOk (bts ts) (nth (ts.map f) j) := by
  have hm := nth_mem (xs := ts.map f) (j := j) (by simpa using hj)
  obtain ⟨t, ht, e⟩ := List.mem_map.mp hm
  rw [← e, bts_sum]
  exact (h t ht).mono (le_sum (List.mem_map.mpr ⟨t, ht, rfl⟩))
theorem nth_mono {α : Type} {ts : List α} {f g : α → Q} (h : ∀ t ∈ ts, toR (f t) ≤ toR (g t)) {j : Nat} (hj : j < ts.length) : toR (nth (ts.map f) j) ≤ toR (nth (ts.map g) j) := by
  have h1 : j < (srt (ts.map f)).length := by rw [srt_len]; simpa using hj
  have h2 : j < (srt (ts.map g)).length := by rw [srt_len]; simpa using hj
  rw [nth_get h1, nth_get h2]
  exact asc_mono h h1 h2
/-- bids that are numbers of few bits -/
def BOk (n : Nat) (b : List Q) : Prop := b.length = n ∧ ∀ q ∈ b, VOk 20 q
theorem BOk.at {n : Nat} {b : List Q} (h : BOk n b) {k : Nat} (hk : k < n) : VOk 20 (b.getD k (0, 1)) := by
  rw [List.getD_eq_getElem?_getD, List.getElem?_eq_getElem (by rw [h.1]; exact hk)]
  exact h.2 _ (List.getElem_mem _)
theorem val_ok {n : Nat} {b : List Q} (hb : BOk n b) : ∀ t : Tm, WT n t → VOk (bt t) (val b t) := by
  refine Tm.ind (fun k hk => ?_) (fun q hq => ?_) (fun op ts ih hw => ?_)
  · simp only [val, bt]; exact hb.at (by simpa [WT] using hk)
  · simp only [WT] at hq
    simp only [val, bt]; exact ⟨hq.1, hq.2⟩
  · simp only [WT] at hw
    obtain ⟨ho, h0, h8, hs⟩ := hw
    have hv : ∀ t ∈ ts, VOk (bt t) (val b t) := fun t ht => ih t ht (wts_mem hs ht)
    rw [val_nd]
    simp only [bt]
    cases op with
    | mean ws =>
      have := mean_ok (ws := ws) (xs := ts.map (val b)) (bs := ts.map bt) (by simp [ho.1]) (by simp) ho.2 (by simpa using h0) (by simpa using h8) (fun i a c => by
        simp only [List.getElem_map]
        exact hv _ (List.getElem_mem _))
      rw [← bts_sum] at this
      exact this.mono (by omega)
    | least => exact (nth_ok hv h0).mono (by omega)
    | greatest =>
      show VOk _ (nth _ ((ts.map (val b)).length - 1))
      rw [List.length_map]
      exact (nth_ok hv (by omega)).mono (by omega)
    | ranked k =>
      show VOk _ (nth _ ((ts.map (val b)).length - k))
      rw [List.length_map]
      exact (nth_ok hv (by have := ho.1; omega)).mono (by omega)
    | between lo hi =>
      obtain ⟨h1, hlo, hhi, bl, bh, _⟩ := ho
      obtain ⟨t, rfl⟩ := List.length_eq_one_iff.mp h1
      show VOk _ (nth [lo, hi, val b t] 1)
      have hm := nth_mem (xs := [lo, hi, val b t]) (j := 1) (by simp)
      have ht := hv t (by simp)
      simp only [bts]
      rcases List.mem_cons.mp hm with e | hm
      · rw [e]; exact VOk.mono ⟨hlo, bl⟩ (by omega)
      rcases List.mem_cons.mp hm with e | hm
      · rw [e]; exact VOk.mono ⟨hhi, bh⟩ (by omega)
      · rw [List.mem_singleton.mp hm]; exact ht.mono (by omega)
theorem val_mono {n : Nat} {b c : List Q} (hb : BOk n b) (hc : BOk n c) (h : ∀ k, k < n → toR (b.getD k (0, 1)) ≤ toR (c.getD k (0, 1))) : ∀ t : Tm, WT n t → toR (val b t) ≤ toR (val c t) := by
  refine Tm.ind (fun k hk => ?_) (fun q hq => ?_) (fun op ts ih hw => ?_)
  · simp only [val]; exact h k (by simpa [WT] using hk)
  · simp only [val]; exact Rat.le_refl
  · simp only [WT] at hw
    obtain ⟨ho, h0, h8, hs⟩ := hw
    have hv : ∀ t ∈ ts, toR (val b t) ≤ toR (val c t) := fun t ht => ih t ht (wts_mem hs ht)
    rw [val_nd, val_nd]
    cases op with
    | mean ws =>
      refine mean_mono (bs := ts.map bt) (cs := ts.map bt) (by simp [ho.1]) (by simp) (by simp) (by simp) ho.2 (by simpa using h0) (fun i a d => ?_) (fun i a d => ?_) (fun i a d => ?_)
      · simp only [List.getElem_map]; exact val_ok hb _ (wts_mem hs (List.getElem_mem _))
      · simp only [List.getElem_map]; exact val_ok hc _ (wts_mem hs (List.getElem_mem _))
      · simp only [List.getElem_map]; exact hv _ (List.getElem_mem _)
    | least => exact nth_mono hv h0
    | greatest =>
      show toR (nth _ ((ts.map (val b)).length - 1)) ≤ toR (nth _ ((ts.map (val c)).length - 1))
      rw [List.length_map, List.length_map]
      exact nth_mono hv (by omega)
    | ranked k =>
      show toR (nth _ ((ts.map (val b)).length - k)) ≤ toR (nth _ ((ts.map (val c)).length - k))
      rw [List.length_map, List.length_map]
      exact nth_mono hv (by have := ho.1; omega)
    | between lo hi =>
      obtain ⟨h1, _⟩ := ho
      obtain ⟨t, rfl⟩ := List.length_eq_one_iff.mp h1
      show toR (nth [lo, hi, val b t] 1) ≤ toR (nth [lo, hi, val c t] 1)
      exact nth_mono (ts := [some lo, some hi, none]) (f := fun o => o.getD (val b t)) (g := fun o => o.getD (val c t)) (fun o ho => by
        cases o with
        | some q => exact Rat.le_refl
        | none => exact hv t (by simp)) (by simp)
end Cb
set_option linter.all false
/-! Cb, the mathematics, part 3: lots, as lists and as bits. -/
namespace Cb
def lcode : List Nat → Nat
  | [] => 0
  | d :: r => d * 10 ^ r.length + lcode r
def sortL (ls : List (List Nat)) : List (List Nat) := ls.mergeSort fun a b => decide (lcode a ≤ lcode b)
theorem sortL_perm (ls : List (List Nat)) : (sortL ls).Perm ls := List.mergeSort_perm ..
theorem sortL_asc (ls : List (List Nat)) : (sortL ls).Pairwise fun a b => lcode a ≤ lcode b := by
  have := List.pairwise_mergeSort (le := fun a b => decide (lcode a ≤ lcode b)) (fun a b c h1 h2 => by simp only [decide_eq_true_eq] at *; omega) (fun a b => by simp only [Bool.or_eq_true, decide_eq_true_eq]; omega) ls
  exact this.imp fun h => of_decide_eq_true h
theorem lcode_lt : ∀ (l : List Nat), (∀ x ∈ l, x < 10) → lcode l < 10 ^ l.length
  | [], _ => by simp [lcode]
  | d :: r, h => by
    have h1 := lcode_lt r fun x hx => h x (by simp [hx])
    have h2 := h d (by simp)
    simp only [lcode, List.length_cons, Nat.pow_succ]
    have : d * 10 ^ r.length + 10 ^ r.length ≤ 10 * 10 ^ r.length := by
      have := Nat.mul_le_mul_right (10 ^ r.length) (show d + 1 ≤ 10 by omega)
      rw [Nat.add_mul] at this
      omega
    omega
theorem lcode_inj : ∀ {l m : List Nat}, l.length = m.length → (∀ x ∈ l, x < 10) → (∀ x ∈ m, x < 10) → lcode l = lcode m → l = m
  | [], [], _, _, _, _ => rfl
  | d :: r, e :: s, hl, h1, h2, h => by
    have hl' : r.length = s.length := by simpa using hl
    have a := lcode_lt r fun x hx => h1 x (by simp [hx])
    have b := lcode_lt s fun x hx => h2 x (by simp [hx])
    simp only [lcode] at h
    rw [hl'] at h a
    have hd : d = e := by
      have p : 0 < 10 ^ s.length := Nat.pow_pos (by decide)
      have q1 : (d * 10 ^ s.length + lcode r) / 10 ^ s.length = d := by
        rw [Nat.mul_comm, Nat.mul_add_div p, Nat.div_eq_of_lt a, Nat.add_zero]
      have q2 : (e * 10 ^ s.length + lcode s) / 10 ^ s.length = e := by
        rw [Nat.mul_comm, Nat.mul_add_div p, Nat.div_eq_of_lt b, Nat.add_zero]
      rw [← q1, h, q2]
    subst hd
    have : lcode r = lcode s := by omega
    rw [lcode_inj hl' (fun x hx => h1 x (by simp [hx])) (fun x hx => h2 x (by simp [hx])) this]
/-- a strictly ascending list of people below n -/
def IsLot (n : Nat) (l : List Nat) : Prop := l.Pairwise (· < ·) ∧ ∀ x ∈ l, x < n
/-! ### lots by size -/
def ext (n : Nat) (l : List Nat) : List (List Nat) := ((List.range n).filter fun p => l.isEmpty || decide (l.getLastD 0 < p)).map fun p => l ++ [p]
def lvl (n : Nat) : Nat → List (List Nat)
  | 0 => [[]]
  | s + 1 => sortL ((lvl n s).flatMap (ext n))
def lots (n : Nat) : Nat → List (List Nat)
  | 0 => [[]]
  | s + 1 => lots n s ++ lvl n (s + 1)
def allLots (n : Nat) : List (List Nat) := lots n n
theorem ext_mem {n : Nat} {l m : List Nat} (hl : IsLot n l) : m ∈ ext n l ↔ ∃ p, p < n ∧ (∀ x ∈ l, x < p) ∧ m = l ++ [p] := by
  unfold ext
  rw [List.mem_map]
  constructor
  · rintro ⟨p, hp, rfl⟩
    obtain ⟨h1, h2⟩ := List.mem_filter.mp hp
    refine ⟨p, List.mem_range.mp h1, fun x hx => ?_, rfl⟩
    rcases List.eq_nil_or_concat l with e | ⟨r, z, e⟩
    · subst e; simp at hx
    · subst e
      have hz : z < p := by simpa using h2
      rcases List.mem_append.mp (by simpa using hx : x ∈ r ++ [z]) with q | q
      · have := (List.pairwise_append.mp (by simpa using hl.1 : (r ++ [z]).Pairwise (· < ·))).2.2 x q z (by simp)
        omega
      · rw [List.mem_singleton.mp q]; exact hz
  · rintro ⟨p, hp, hx, rfl⟩
    refine ⟨p, List.mem_filter.mpr ⟨List.mem_range.mpr hp, ?_⟩, rfl⟩
    rcases List.eq_nil_or_concat l with e | ⟨r, z, e⟩
    · subst e; rfl
    · subst e
      have := hx z (by simp)
      simp [this]
theorem isLot_snoc {n : Nat} {l : List Nat} {p : Nat} : IsLot n (l ++ [p]) ↔ IsLot n l ∧ p < n ∧ ∀ x ∈ l, x < p := by
  unfold IsLot
  rw [List.pairwise_append]
  constructor
  · rintro ⟨⟨h1, _, h2⟩, h3⟩
    exact ⟨⟨h1, fun x hx => h3 x (by simp [hx])⟩, h3 p (by simp), fun x hx => h2 x hx p (by simp)⟩
  · rintro ⟨⟨h1, h2⟩, h3, h4⟩
    refine ⟨⟨h1, List.pairwise_singleton _ _, fun x hx y hy => ?_⟩, fun x hx => ?_⟩
    · rw [List.mem_singleton.mp hy]; exact h4 x hx
    · rcases List.mem_append.mp hx with q | q
      · exact h2 x q
      · rw [List.mem_singleton.mp q]; exact h3
theorem lvl_mem (n : Nat) : ∀ (s : Nat) (l : List Nat), l ∈ lvl n s ↔ IsLot n l ∧ l.length = s
  | 0, l => by
    simp only [lvl, List.mem_singleton]
    constructor
    · rintro rfl; exact ⟨⟨.nil, by simp⟩, rfl⟩
    · rintro ⟨_, h⟩; exact List.eq_nil_of_length_eq_zero h
  | s + 1, l => by
    simp only [lvl]
    rw [(sortL_perm _).mem_iff, List.mem_flatMap]
    constructor
    · rintro ⟨m, hm, hl⟩
      obtain ⟨h1, h2⟩ := (lvl_mem n s m).mp hm
      obtain ⟨p, hp, hx, rfl⟩ := (ext_mem h1).mp hl
      exact ⟨isLot_snoc.mpr ⟨h1, hp, hx⟩, by simp [h2]⟩
    · rintro ⟨h1, h2⟩
      rcases List.eq_nil_or_concat l with e | ⟨r, z, e⟩
      · subst e; simp at h2
      · have e' : l = r ++ [z] := by simpa using e
        subst e'
        obtain ⟨a, b, c⟩ := isLot_snoc.mp h1
        exact ⟨r, (lvl_mem n s r).mpr ⟨a, by simpa using h2⟩, (ext_mem a).mpr ⟨z, b, c, rfl⟩⟩
theorem lvl_nodup (n : Nat) : ∀ s, (lvl n s).Nodup
  | 0 => by simp [lvl]
  | s + 1 => by
    simp only [lvl]
    refine (sortL_perm _).nodup_iff.mpr ?_
    have ih := lvl_nodup n s
    have hm := lvl_mem n s
    generalize lvl n s = L at *
    have hall : ∀ l ∈ L, IsLot n l := fun l hl => ((hm l).mp hl).1
    clear hm
    induction L with
    | nil => simp
    | cons a L ihL =>
      obtain ⟨h1, h2⟩ := List.nodup_cons.mp ih
      rw [List.flatMap_cons]
      have ext_nd : ∀ l, (ext n l).Nodup := fun l => by
        unfold ext
        refine List.Pairwise.map _ (fun x y hxy e => hxy ?_) (List.Nodup.sublist List.filter_sublist List.nodup_range)
        have := List.append_cancel_left e
        simpa using this
      refine List.nodup_append.mpr ⟨ext_nd a, ihL h2 (fun l hl => hall l (by simp [hl])), fun x hx y hy e => ?_⟩
      subst e
      obtain ⟨p, _, _, e1⟩ := (ext_mem (hall a (by simp))).mp hx
      obtain ⟨b, hb, hxb⟩ := List.mem_flatMap.mp hy
      obtain ⟨p', _, _, e2⟩ := (ext_mem (hall b (by simp [hb]))).mp hxb
      rw [e1] at e2
      have := (List.append_inj' e2 rfl).1
      subst this
      exact h1 hb
theorem lots_mem (n : Nat) : ∀ (s : Nat) (l : List Nat), l ∈ lots n s ↔ IsLot n l ∧ l.length ≤ s
  | 0, l => by
    have := lvl_mem n 0 l
    simp only [lvl, lots] at *
    rw [this]
    constructor <;> rintro ⟨a, b⟩ <;> exact ⟨a, by omega⟩
  | s + 1, l => by
    simp only [lots]
    rw [List.mem_append, lots_mem n s l, lvl_mem n (s + 1) l]
    constructor
    · rintro (⟨a, b⟩ | ⟨a, b⟩) <;> exact ⟨a, by omega⟩
    · rintro ⟨a, b⟩
      by_cases h : l.length = s + 1
      · exact .inr ⟨a, h⟩
      · exact .inl ⟨a, by omega⟩
theorem lots_nodup (n : Nat) : ∀ s, (lots n s).Nodup
  | 0 => by simp [lots]
  | s + 1 => by
    simp only [lots]
    refine List.nodup_append.mpr ⟨lots_nodup n s, lvl_nodup n (s + 1), fun x hx y hy e => ?_⟩
    subst e
    have a := ((lots_mem n s x).mp hx).2
    have b := ((lvl_mem n (s + 1) x).mp hy).2
    omega
theorem isLot_len {n : Nat} {l : List Nat} (h : IsLot n l) : l.length ≤ n := by
  have nd : l.Nodup := h.1.imp fun {a b} q => by omega
  have := List.Nodup.length_le_of_subset (l₂ := List.range n) nd fun x hx => List.mem_range.mpr (h.2 x hx)
  simpa using this
theorem allLots_mem {n : Nat} {l : List Nat} : l ∈ allLots n ↔ IsLot n l := by
  unfold allLots
  rw [lots_mem]
  exact ⟨fun h => h.1, fun h => ⟨h, isLot_len h⟩⟩
theorem allLots_nodup (n : Nat) : (allLots n).Nodup := lots_nodup n n
/-! ### bits -/
def mask (l : List Nat) : Nat := (l.map fun p => 2 ^ p).sum
theorem mask_snoc (l : List Nat) (p : Nat) : mask (l ++ [p]) = mask l + 2 ^ p := by simp [mask]
theorem mask_lt {l : List Nat} {p : Nat} (hp : l.Pairwise (· < ·)) (h : ∀ x ∈ l, x < p) : mask l < 2 ^ p := by
  rcases List.eq_nil_or_concat l with e | ⟨r, z, e⟩
  · subst e; simp [mask]; exact Nat.pow_pos (by decide)
  · have e' : l = r ++ [z] := by simpa using e
    subst e'
    obtain ⟨h1, _, h2⟩ := List.pairwise_append.mp hp
    have := mask_lt (l := r) (p := z) h1 (fun x hx => h2 x hx z (by simp))
    rw [mask_snoc]
    have hz := h z (by simp)
    have : 2 ^ (z + 1) ≤ 2 ^ p := Nat.pow_le_pow_right (by decide) hz
    rw [Nat.pow_succ] at this
    omega
termination_by l.length
decreasing_by (simp [e'])
theorem mask_bit {l : List Nat} (hp : l.Pairwise (· < ·)) (i : Nat) : (mask l).testBit i = decide (i ∈ l) := by
  rcases List.eq_nil_or_concat l with e | ⟨r, z, e⟩
  · subst e; simp [mask]
  · have e' : l = r ++ [z] := by simpa using e
    subst e'
    obtain ⟨h1, _, h2⟩ := List.pairwise_append.mp hp
    have hz : ∀ x ∈ r, x < z := fun x hx => h2 x hx z (by simp)
    have ih := mask_bit (l := r) h1 i
    have lt := mask_lt h1 hz
    rw [mask_snoc, Nat.add_comm]
    by_cases hi : i = z
    · subst hi
      rw [Nat.testBit_two_pow_add_eq, Nat.testBit_lt_two_pow lt]
      simp
    · by_cases hlt : i < z
      · rw [Nat.testBit_two_pow_add_gt hlt, ih]
        simp [hi]
      · have hr : i ∉ r := fun h => by have := hz i h; omega
        have big : 2 ^ z + mask r < 2 ^ i := by
          have : 2 ^ (z + 1) ≤ 2 ^ i := Nat.pow_le_pow_right (by decide) (by omega)
          rw [Nat.pow_succ] at this
          omega
        rw [Nat.testBit_lt_two_pow big]
        simp [hi, hr]
termination_by l.length
decreasing_by (simp [e'])
theorem mask_inj {n : Nat} {l m : List Nat} (h1 : IsLot n l) (h2 : IsLot n m) (h : mask l = mask m) : l = m := by
  have hm : ∀ i, i ∈ l ↔ i ∈ m := fun i => by
    have := congrArg (fun z => z.testBit i) h
    simp only [mask_bit h1.1, mask_bit h2.1] at this
    exact decide_eq_decide.mp this
  have n1 : l.Nodup := h1.1.imp fun {a b} q => by omega
  have n2 : m.Nodup := h2.1.imp fun {a b} q => by omega
  exact List.Perm.eq_of_pairwise (le := (· < ·)) (fun a b _ _ x y => by omega) h1.1 h2.1 ((List.perm_ext_iff_of_nodup n1 n2).mpr hm)
theorem few_lots {n : Nat} (hn : n ≤ 6) {L : List (List Nat)} (hd : L.Nodup) (hl : ∀ l ∈ L, IsLot n l) : L.length ≤ 64 := by
  have nd : (L.map mask).Nodup := by
    rw [List.nodup_iff_pairwise_ne] at *
    rw [List.pairwise_map]
    exact (List.pairwise_iff_forall_sublist.mpr fun {a b} hs => by
      have hab := hd
      have ha : a ∈ L := hs.subset (by simp)
      have hb : b ∈ L := hs.subset (by simp)
      have ne : a ≠ b := List.pairwise_iff_forall_sublist.mp hd hs
      exact fun e => ne (mask_inj (hl a ha) (hl b hb) e))
  have := List.Nodup.length_le_of_subset (l₂ := List.range 64) nd fun x hx => by
    obtain ⟨l, h, rfl⟩ := List.mem_map.mp hx
    have := mask_lt (hl l h).1 (hl l h).2
    have p : 2 ^ n ≤ 2 ^ 6 := Nat.pow_le_pow_right (by decide) hn
    exact List.mem_range.mpr (by omega)
  simpa using this
theorem lvl_len {n : Nat} (hn : n ≤ 6) (s : Nat) : (lvl n s).length < 64 := by
  cases s with
  | zero => simp [lvl]
  | succ s =>
    have nd : ([] :: lvl n (s + 1)).Nodup := List.nodup_cons.mpr ⟨fun h => by
      have := ((lvl_mem n (s + 1) []).mp h).2
      simp at this, lvl_nodup n (s + 1)⟩
    have := few_lots hn nd fun l hl => by
      rcases List.mem_cons.mp hl with e | e
      · subst e; exact ⟨.nil, by simp⟩
      · exact ((lvl_mem n (s + 1) l).mp e).1
    simp at this
    omega
/-- a rule that may be made -/
structure RT (n : Nat) (t : Tm) : Prop where
  n1 : 1 ≤ n
  n6 : n ≤ 6
  wt : WT n t
  cnt : cnt t ≤ 60
  dpt : dpt t ≤ 5
/-- bids at the ends -/
def ends (n : Nat) (lot : List Nat) : List Q := (List.range n).map fun i => if i ∈ lot then (1, 1) else (0, 1)
theorem ends_ok (n : Nat) (lot : List Nat) : BOk n (ends n lot) := by
  refine ⟨by simp [ends], fun q hq => ?_⟩
  obtain ⟨i, _, rfl⟩ := List.mem_map.mp hq
  split
  · exact ⟨num_one, by decide⟩
  · exact ⟨num_zero, by decide⟩
def wishing (w : List Q) (x : Q) : List Nat := (w.zipIdx.filter fun p => !less p.1 x).map (·.2)
def wishMore (w : List Q) (x : Q) : List Nat := (w.zipIdx.filter fun p => less x p.1).map (·.2)
/-- the corner of a lot -/
def cor (n : Nat) (t : Tm) (lot : List Nat) : Q := val (ends n lot) t
theorem cor_ok {n : Nat} {t : Tm} (h : WT n t) (hc : cnt t ≤ 60) (lot : List Nat) : VOk 1200 (cor n t lot) := (val_ok (ends_ok n lot) t h).mono (by have := bt_cnt t; omega)
/-- wishes -/
def WOk (n : Nat) (b : List Q) : Prop := b.length = n ∧ ∀ q ∈ b, VOk 2600 q
/-- what the rule yields -/
def heldAt (n : Nat) (t : Tm) (w : List Q) (x : Q) : Q := nth [cor n t (wishing w x), x] 0
def outc (n : Nat) (t : Tm) (w : List Q) : Q := nth (cor n t [] :: w.map (heldAt n t w)) w.length
theorem ends_nil (n : Nat) : ends n [] = List.replicate n (0, 1) := by
  unfold ends
  apply List.ext_getElem
  · simp
  · intro i h1 h2
    simp
end Cb
set_option linter.all false
/-! Cb, the mathematics, part 4: what the module computes of a log. -/
namespace Cb
abbrev Log := List (Tm × Q)
/-- the unlike ones, each at its first place -/
def uniqL (xs : List Q) : List Q := xs.foldl (fun acc x => if x ∈ acc then acc else acc ++ [x]) []
theorem uniqL_snoc (xs : List Q) (x : Q) : uniqL (xs ++ [x]) = if x ∈ uniqL xs then uniqL xs else uniqL xs ++ [x] := by
  unfold uniqL
  rw [List.foldl_append]
  rfl
theorem uniqL_mem {xs : List Q} {x : Q} : x ∈ uniqL xs ↔ x ∈ xs := by
  have : ∀ (n : Nat) (xs : List Q), xs.length = n → (x ∈ uniqL xs ↔ x ∈ xs) := fun n => by
    induction n with
    | zero => intro xs h; rw [List.eq_nil_of_length_eq_zero h]; rfl
    | succ n ih =>
      intro xs h
      rcases List.eq_nil_or_concat xs with e | ⟨r, z, e⟩
      · subst e; rfl
      · rw [List.concat_eq_append] at e
        subst e
        have ih' := ih r (by simpa using h)
        rw [uniqL_snoc]
        split
        · rename_i hz
          rw [ih', List.mem_append, List.mem_singleton]
          constructor
          · exact .inl
          · rintro (q | q)
            · exact q
            · subst q; exact ih'.mp hz
        · rw [List.mem_append, List.mem_append, ih']
  exact this _ xs rfl
theorem uniqL_nodup (xs : List Q) : (uniqL xs).Nodup := by
  have : ∀ (n : Nat) (xs : List Q), xs.length = n → (uniqL xs).Nodup := fun n => by
    induction n with
    | zero => intro xs h; rw [List.eq_nil_of_length_eq_zero h]; exact List.nodup_nil
    | succ n ih =>
      intro xs h
      rcases List.eq_nil_or_concat xs with e | ⟨r, z, e⟩
      · subst e; exact List.nodup_nil
      · rw [List.concat_eq_append] at e
        subst e
        have ih' := ih r (by simpa using h)
        rw [uniqL_snoc]
        split
        · exact ih'
        · rename_i hz
          exact List.nodup_append.mpr ⟨ih', List.nodup_cons.mpr ⟨by simp, List.nodup_nil⟩, fun a ha b hb e => hz (by rw [← List.mem_singleton.mp hb, ← e]; exact ha)⟩
  exact this _ xs rfl
theorem uniqL_len (xs : List Q) : (uniqL xs).length ≤ xs.length := List.Nodup.length_le_of_subset (uniqL_nodup xs) fun _ h => uniqL_mem.mp h
/-- the numbers of a log -/
def told (log : Log) : List Q := log.map (·.2)
def nums (log : Log) : List Q := srt (uniqL (told log))
theorem nums_mem {log : Log} {x : Q} : x ∈ nums log ↔ x ∈ told log := by unfold nums; rw [srt_mem, uniqL_mem]
theorem nums_len (log : Log) : (nums log).length ≤ log.length := by
  unfold nums
  rw [srt_len]
  have := uniqL_len (told log)
  simpa [told] using this
def placeOf (ns : List Q) (x : Q) : Nat := 2 * (ns.filter fun y => less y x).length + if x ∈ ns then 1 else 0
def halfQ (x y : Q) : Q := qmul (qadd x y) (1, 2)
def wishAt (ns : List Q) (p : Nat) : Q :=
  if p % 2 = 1 then ns.getD (p / 2) (0, 1) else if p / 2 = 0 then (0, 1) else if p / 2 = ns.length then (1, 1) else halfQ (ns.getD (p / 2 - 1) (0, 1)) (ns.getD (p / 2) (0, 1))
def openMany (ns : List Q) : Nat := 2 * ns.length + 1 - (if ns.getD 0 (0, 1) = (0, 1) then 1 else 0) - (if ns.getD (ns.length - 1) (0, 1) = (1, 1) then 1 else 0)
/-- the lots that ask at least, at most, the number, of the rules told with it -/
def tabsAt (log : Log) (x : Q) : List Tm := (log.filter fun p => decide (p.2 = x)).map (·.1)
def lotsFor (n : Nat) (ts : List Tm) (x : Q) (least : Bool) : List Nat :=
  ((allLots n).filter fun l => if least then !(ts.any fun t => less (cor n t l) x) else !(ts.any fun t => less x (cor n t l))).map mask
def every (n : Nat) : Nat := mask (List.range n)
def leastAt (n : Nat) (log : Log) (x : Q) : List Nat := (lotsFor n (tabsAt log x) x true).filter fun l => !decide (x = (0, 1)) || decide (l = every n)
def mostAt (n : Nat) (log : Log) (x : Q) : List Nat := (lotsFor n (tabsAt log x) x false).filter fun l => !decide (x = (1, 1)) || decide (l = 0)
def levelsAt (n : Nat) (log : Log) (xs : List Q) : List (List Nat) := xs.flatMap fun x => [leastAt n log x, mostAt n log x]
def levels (n : Nat) (log : Log) : List (List Nat) := levelsAt n log (nums log)
/-! ### ways -/
def isPart (a b : Nat) : Bool := decide (a &&& b = a)
abbrev Ways := List (Nat × Nat)
def waysOf (b : Option Ways) (l : Nat) : Nat := match b with
  | none => 1
  | some m => ((m.filter fun e => isPart e.1 l).map (·.2)).sum
def wdStep (b : Option Ways) (lots : List Nat) : Ways := (lots.map fun l => (l, waysOf b l)).filter fun e => decide (0 < e.2)
def wd : List (List Nat) → List Ways
  | [] => []
  | lots :: r => wdStep (wd r).head? lots :: wd r
def upStep (prev lots : List Nat) : List Nat := lots.filter fun l => prev.any fun o => isPart l o
def upR : List Nat → List (List Nat) → List (List Nat)
  | _, [] => []
  | prev, lots :: r => upStep prev lots :: upR (upStep prev lots) r
def wup : List (List Nat) → List (List Nat)
  | [] => []
  | lots :: r => lots :: upR lots r
/-- the first way, from what is found so far -/
def fwR : List Nat → List Ways → Option (List Nat)
  | found, [] => some found
  | found, ways :: r =>
    match (ways.map (·.1)).filter fun l => decide (found.length = 0) || isPart l (found.getLastD 0) with
    | [] => none
    | a :: _ => fwR (found ++ [a]) r
def firstWay (L : List (List Nat)) : Option (List Nat) := fwR [] (wd L)
def bitAt (l p : Nat) : Nat := l / 2 ^ p % 2
def canStand (up : List (List Nat)) (down : List Ways) (person place : Nat) : Bool :=
  let ahead := if 0 < place then (up.getD (place - 1) []).filter (fun l => decide (bitAt l person = 1)) else []
  if place = down.length then decide (0 < ahead.length)
  else
    let behind := ((down.getD place []).map (·.1)).filter fun l => decide (bitAt l person = 0)
    if place = 0 then decide (0 < behind.length)
    else behind.any fun l => ahead.any fun o => isPart l o
def mayStand (L : List (List Nat)) (person : Nat) : List Nat := (List.range (L.length + 1)).filter fun p => canStand (wup L) (wd L) person p
def manyPlaces (L : List (List Nat)) : Nat := (((wd L).headD []).map (·.2)).sum
def fitting (n : Nat) (log : Log) : Option (List Q) := (firstWay (levels n log)).map fun way => (List.range n).map fun p => wishAt (nums log) ((way.map fun l => bitAt l p).sum)
def doFit (n : Nat) (log : Log) (w : List Q) : Bool := log.all fun p => decide (outc n p.1 w = p.2)
/-- a log that the law makes -/
structure LogOk (n : Nat) (log : Log) : Prop where
  n1 : 1 ≤ n
  n6 : n ≤ 6
  l1 : 1 ≤ log.length
  l4 : log.length ≤ 4
  few : (2 * log.length + 1) ^ n ≤ 729
  rt : ∀ p ∈ log, RT n p.1
  ok : ∀ p ∈ log, VOk 1200 p.2
/-- levels that may be walked -/
structure LevOk (L : List (List Nat)) : Prop where
  few : L.length ≤ 8
  nd : ∀ lots ∈ L, lots.Nodup
  lt : ∀ lots ∈ L, ∀ l ∈ lots, l < 64
theorem few64 {lots : List Nat} (h1 : lots.Nodup) (h2 : ∀ l ∈ lots, l < 64) : lots.length ≤ 64 := by
  have := List.Nodup.length_le_of_subset (l₂ := List.range 64) h1 fun x hx => List.mem_range.mpr (h2 x hx)
  simpa using this
theorem mask_nodup {n : Nat} {L : List (List Nat)} (hd : L.Nodup) (hl : ∀ l ∈ L, IsLot n l) : (L.map mask).Nodup := by
  rw [List.nodup_iff_pairwise_ne] at *
  rw [List.pairwise_map]
  exact (List.pairwise_iff_forall_sublist.mpr fun {a b} hs => by
    have ne : a ≠ b := List.pairwise_iff_forall_sublist.mp hd hs
    exact fun e => ne (mask_inj (hl a (hs.subset (by simp))) (hl b (hs.subset (by simp))) e))
theorem mask64 {n : Nat} (hn : n ≤ 6) {l : List Nat} (h : IsLot n l) : mask l < 64 := by
  have := mask_lt h.1 h.2
  have p : 2 ^ n ≤ 2 ^ 6 := Nat.pow_le_pow_right (by decide) hn
  omega
theorem lotsFor_mem {n : Nat} {ts : List Tm} {x : Q} {b : Bool} {m : Nat} : m ∈ lotsFor n ts x b ↔ ∃ l, IsLot n l ∧ (if b then !(ts.any fun t => less (cor n t l) x) else !(ts.any fun t => less x (cor n t l))) = true ∧ mask l = m := by
  unfold lotsFor
  rw [List.mem_map]
  constructor
  · rintro ⟨l, h, e⟩
    obtain ⟨h1, h2⟩ := List.mem_filter.mp h
    exact ⟨l, allLots_mem.mp h1, h2, e⟩
  · rintro ⟨l, h1, h2, e⟩
    exact ⟨l, List.mem_filter.mpr ⟨allLots_mem.mpr h1, h2⟩, e⟩
theorem lotsFor_nodup (n : Nat) (ts : List Tm) (x : Q) (b : Bool) : (lotsFor n ts x b).Nodup := by
  unfold lotsFor
  exact mask_nodup (n := n) (List.Nodup.sublist List.filter_sublist (allLots_nodup n)) fun l h => allLots_mem.mp (List.mem_filter.mp h).1
theorem levOk {n : Nat} {log : Log} (h : LogOk n log) : LevOk (levels n log) := by
  have mem : ∀ lots ∈ levels n log, ∃ ts x b, ∃ f : Nat → Bool, lots = (lotsFor n ts x b).filter f := fun lots hl => by
    unfold levels levelsAt at hl
    obtain ⟨x, _, hx⟩ := List.mem_flatMap.mp hl
    rcases List.mem_cons.mp hx with e | e
    · exact ⟨_, _, _, _, e⟩
    · exact ⟨_, _, _, _, List.mem_singleton.mp e⟩
  refine ⟨?_, fun lots hl => ?_, fun lots hl l hm => ?_⟩
  · have e : ∀ xs : List Q, (levelsAt n log xs).length = 2 * xs.length := fun xs => by
      unfold levelsAt
      induction xs with
      | nil => rfl
      | cons x xs ih => rw [List.flatMap_cons, List.length_append, ih, List.length_cons]; simp; omega
    have := nums_len log
    have := h.l4
    unfold levels
    rw [e]
    omega
  · obtain ⟨ts, x, b, f, rfl⟩ := mem lots hl
    exact List.Nodup.sublist List.filter_sublist (lotsFor_nodup _ _ _ _)
  · obtain ⟨ts, x, b, f, rfl⟩ := mem lots hl
    obtain ⟨m, h1, _, rfl⟩ := lotsFor_mem.mp (List.mem_filter.mp hm).1
    exact mask64 h.n6 h1
end Cb
set_option linter.all false
/-! Cb, the mathematics, part 5: what the law computes of a log. -/
namespace Cb
def pow : Nat → List (List Nat)
  | 0 => [[]]
  | n + 1 => pow n ++ (pow n).map fun l => l ++ [n]
theorem isLot_up {n : Nat} {l : List Nat} (h : IsLot n l) : IsLot (n + 1) l := ⟨h.1, fun x hx => Nat.lt_succ_of_lt (h.2 x hx)⟩
theorem pow_mem : ∀ (n : Nat) (l : List Nat), l ∈ pow n ↔ IsLot n l
  | 0, l => by
    simp only [pow, List.mem_singleton]
    constructor
    · rintro rfl; exact ⟨.nil, by simp⟩
    · intro h
      exact List.eq_nil_of_length_eq_zero (by have := isLot_len h; omega)
  | n + 1, l => by
    simp only [pow]
    rw [List.mem_append, List.mem_map, pow_mem n l]
    constructor
    · rintro (h | ⟨m, hm, rfl⟩)
      · exact isLot_up h
      · have := (pow_mem n m).mp hm
        exact isLot_snoc.mpr ⟨isLot_up this, by omega, this.2⟩
    · intro h
      rcases List.eq_nil_or_concat l with e | ⟨r, z, e⟩
      · subst e; exact .inl ⟨.nil, by simp⟩
      · rw [List.concat_eq_append] at e
        subst e
        obtain ⟨a, b, c⟩ := isLot_snoc.mp h
        by_cases hz : z = n
        · subst hz
          exact .inr ⟨r, (pow_mem z r).mpr ⟨a.1, c⟩, rfl⟩
        · refine .inl ⟨h.1, fun x hx => ?_⟩
          rcases List.mem_append.mp hx with q | q
          · have := c x q; omega
          · rw [List.mem_singleton.mp q]; omega
theorem pow_len : ∀ n : Nat, (pow n).length = 2 ^ n
  | 0 => rfl
  | n + 1 => by rw [pow, List.length_append, List.length_map, pow_len n, Nat.pow_succ]; omega
theorem pow_nodup : ∀ n : Nat, (pow n).Nodup
  | 0 => by simp [pow]
  | n + 1 => by
    rw [pow]
    refine List.nodup_append.mpr ⟨pow_nodup n, ?_, fun x hx y hy e => ?_⟩
    · rw [List.nodup_iff_pairwise_ne, List.pairwise_map]
      exact (List.nodup_iff_pairwise_ne.mp (pow_nodup n)).imp fun h e => h (List.append_cancel_right e)
    · obtain ⟨m, _, rfl⟩ := List.mem_map.mp hy
      have := ((pow_mem n x).mp hx).2 n (by rw [e]; simp)
      omega
def bySizeF (ls : List (List Nat)) (k : Nat) : List (List Nat) := (List.range k).flatMap fun s => sortL (ls.filter fun l => decide (l.length = s))
def bySize (ls : List (List Nat)) : List (List Nat) := bySizeF ls ls.length
theorem bySizeF_succ (ls : List (List Nat)) (k : Nat) : bySizeF ls (k + 1) = bySizeF ls k ++ sortL (ls.filter fun l => decide (l.length = k)) := by
  unfold bySizeF
  rw [List.range_succ, List.flatMap_append, List.flatMap_singleton]
theorem bySize_mem {ls : List (List Nat)} {k : Nat} {l : List Nat} : l ∈ bySizeF ls k ↔ l ∈ ls ∧ l.length < k := by
  unfold bySizeF
  rw [List.mem_flatMap]
  constructor
  · rintro ⟨s, hs, h⟩
    have := (sortL_perm _).mem_iff.mp h
    obtain ⟨a, b⟩ := List.mem_filter.mp this
    exact ⟨a, by rw [of_decide_eq_true b]; exact List.mem_range.mp hs⟩
  · rintro ⟨a, b⟩
    exact ⟨l.length, List.mem_range.mpr b, (sortL_perm _).mem_iff.mpr (List.mem_filter.mpr ⟨a, decide_eq_true rfl⟩)⟩
theorem bySizeF_len (ls : List (List Nat)) : ∀ k, (bySizeF ls k).length ≤ ls.length
  | 0 => by simp [bySizeF]
  | k + 1 => by
    have key : ∀ k, (bySizeF ls k).length = (ls.filter fun l => decide (l.length < k)).length := fun k => by
      induction k with
      | zero =>
        rw [List.filter_eq_nil_iff.mpr (fun l _ => by simp)]
        rfl
      | succ k ih =>
        rw [bySizeF_succ, List.length_append, ih, (sortL_perm _).length_eq, ← List.countP_eq_length_filter, ← List.countP_eq_length_filter, ← List.countP_eq_length_filter]
        clear ih
        induction ls with
        | nil => rfl
        | cons l r ih =>
          simp only [List.countP_cons, decide_eq_true_eq]
          have e : (l.length < k + 1) ↔ (l.length < k ∨ l.length = k) := by omega
          by_cases h1 : l.length < k
          · have h2 : ¬ l.length = k := by omega
            have h3 : l.length < k + 1 := by omega
            simp only [h1, h2, h3, if_true, if_false]; omega
          · by_cases h2 : l.length = k
            · have h3 : l.length < k + 1 := by omega
              simp only [h1, h2, if_true, if_false] at *
              simp; omega
            · have h3 : ¬ l.length < k + 1 := by omega
              simp only [h1, h2, h3, if_false]; omega
    rw [key]
    exact List.length_filter_le _ _
def lawLots (n : Nat) : List (List Nat) := bySize (pow n)
theorem lawLots_mem {n : Nat} {l : List Nat} : l ∈ lawLots n ↔ IsLot n l := by
  unfold lawLots bySize
  rw [bySize_mem, pow_mem, pow_len]
  exact ⟨fun h => h.1, fun h => ⟨h, Nat.lt_of_le_of_lt (isLot_len h) Nat.lt_two_pow_self⟩⟩
/-- is the number what the rule yields, as the law says it -/
def isOut (n : Nat) (t : Tm) (w : List Q) (x : Q) : Bool := !less x (cor n t (wishMore w x)) && !less (cor n t (wishing w x)) x
def unlike (xs : List Q) : List Q := uniqL (srt xs)
def firstOpen (ns : List Q) : Nat := if ns.getD 0 (0, 1) = (0, 1) then 1 else 0
def lastOpen (ns : List Q) : Nat := 2 * ns.length - (if ns.getD (ns.length - 1) (0, 1) = (1, 1) then 1 else 0)
def openL (ns : List Q) : List Nat := (List.range (lastOpen ns + 1 - firstOpen ns)).map fun i => firstOpen ns + i
def tuplesF (able : List Nat) : Nat → List (List Nat)
  | 0 => [[]]
  | n + 1 => (tuplesF able n).flatMap fun r => able.map fun p => r ++ [p]
theorem tuplesF_len (able : List Nat) : ∀ n, (tuplesF able n).length = able.length ^ n
  | 0 => rfl
  | n + 1 => by
    rw [tuplesF, Nat.pow_succ, ← tuplesF_len able n]
    generalize tuplesF able n = L
    induction L with
    | nil => simp
    | cons r L ih => rw [List.flatMap_cons, List.length_append, ih, List.length_cons, List.length_map, Nat.add_mul]; omega
def moreAt (st : List Nat) (k : Nat) : List Nat := (st.zipIdx.filter fun p => decide (k < p.1)).map (·.2)
def leastIn (st : List Nat) (k : Nat) : List Nat := (st.zipIdx.filter fun p => decide (k ≤ p.1)).map (·.2)
def heldB (n : Nat) (t : Tm) (st : List Nat) (x : Q) (k : Nat) : Bool := !less x (cor n t (moreAt st k)) && !less (cor n t (leastIn st k)) x
def atOf (ns : List Q) (x : Q) : Nat := 2 * ns.idxOf x + 1
def lawFit (n : Nat) (log : Log) : List (List Nat) := (tuplesF (openL (unlike (told log))) n).filter fun st => log.all fun p => heldB n p.1 st p.2 (atOf (unlike (told log)) p.2)
theorem zipIdx_lot (st : List Nat) (f : Nat × Nat → Bool) : IsLot st.length ((st.zipIdx.filter f).map (·.2)) := by
  refine ⟨?_, fun x hx => ?_⟩
  · rw [List.pairwise_map]
    refine List.Pairwise.filter _ ?_
    have h : (st.zipIdx.map (·.2)).Pairwise (· < ·) := by
      rw [List.zipIdx_map_snd]
      exact List.pairwise_lt_range'
    exact List.pairwise_map.mp h
  · obtain ⟨p, hp, rfl⟩ := List.mem_map.mp hx
    have := List.snd_lt_of_mem_zipIdx (List.mem_filter.mp hp).1
    omega
theorem tuplesF_mem {able : List Nat} : ∀ {n : Nat} {st : List Nat}, st ∈ tuplesF able n ↔ st.length = n ∧ ∀ p ∈ st, p ∈ able
  | 0, st => by
    simp only [tuplesF, List.mem_singleton]
    constructor
    · rintro rfl; simp
    · rintro ⟨h, _⟩; exact List.eq_nil_of_length_eq_zero h
  | n + 1, st => by
    simp only [tuplesF, List.mem_flatMap, List.mem_map]
    constructor
    · rintro ⟨r, hr, p, hp, rfl⟩
      obtain ⟨h1, h2⟩ := tuplesF_mem.mp hr
      refine ⟨by simp [h1], fun x hx => ?_⟩
      rcases List.mem_append.mp hx with q | q
      · exact h2 x q
      · rw [List.mem_singleton.mp q]; exact hp
    · rintro ⟨h1, h2⟩
      rcases List.eq_nil_or_concat st with e | ⟨r, z, e⟩
      · subst e; simp at h1
      · rw [List.concat_eq_append] at e
        subst e
        exact ⟨r, tuplesF_mem.mpr ⟨by simpa using h1, fun p hp => h2 p (by simp [hp])⟩, z, h2 z (by simp), rfl⟩
theorem tuplesF_nodup {able : List Nat} (h : able.Nodup) : ∀ n, (tuplesF able n).Nodup
  | 0 => by simp [tuplesF]
  | n + 1 => by
    rw [tuplesF]
    have ih := tuplesF_nodup h n
    generalize tuplesF able n = L at ih
    induction L with
    | nil => simp
    | cons r L ihL =>
      obtain ⟨h1, h2⟩ := List.nodup_cons.mp ih
      rw [List.flatMap_cons]
      refine List.nodup_append.mpr ⟨?_, ihL h2, fun x hx y hy e => ?_⟩
      · rw [List.nodup_iff_pairwise_ne, List.pairwise_map]
        exact (List.nodup_iff_pairwise_ne.mp h).imp fun hne e => hne (by simpa using List.append_cancel_left e)
      · subst e
        obtain ⟨p, _, e1⟩ := List.mem_map.mp hx
        obtain ⟨r', hr', hy'⟩ := List.mem_flatMap.mp hy
        obtain ⟨p', _, e2⟩ := List.mem_map.mp hy'
        rw [← e1] at e2
        have := (List.append_inj' e2 rfl).1
        subst this
        exact h1 hr'
end Cb
set_option linter.all false
/-! Cb, the mathematics, part 6: the numbers, and what a number asks. -/
namespace Cb
theorem uniqL_sublist : ∀ (k : Nat) (xs : List Q), xs.length = k → (uniqL xs).Sublist xs := fun k => by
  induction k with
  | zero => intro xs h; rw [List.eq_nil_of_length_eq_zero h]; exact .slnil
  | succ k ih =>
    intro xs h
    rcases List.eq_nil_or_concat xs with e | ⟨r, z, e⟩
    · subst e; exact .slnil
    · rw [List.concat_eq_append] at e
      subst e
      have ih' := ih r (by simpa using h)
      rw [uniqL_snoc]
      split
      · exact ih'.trans (List.sublist_append_left ..)
      · exact List.Sublist.append ih' (List.Sublist.refl _)
theorem asc_eq {xs ys : List Q} (hx : Asc xs) (hy : Asc ys) (nx : xs.Nodup) (ny : ys.Nodup) (h : ∀ z, z ∈ xs ↔ z ∈ ys) (hf : ∀ z ∈ xs, Frc z) : xs = ys := by
  refine List.Perm.eq_of_pairwise (le := fun a b => toR a ≤ toR b) (fun a b ha hb c1 c2 => toR_inj (hf a ha) (hf b ((h b).mpr hb)) (by grind)) hx hy ((List.perm_ext_iff_of_nodup nx ny).mpr h)
theorem unlike_eq {xs : List Q} (hf : ∀ z ∈ xs, Frc z) : unlike xs = srt (uniqL xs) := by
  unfold unlike
  refine asc_eq ?_ (srt_asc _) (uniqL_nodup _) ?_ (fun z => ?_) fun z hz => ?_
  · exact List.Pairwise.sublist (uniqL_sublist _ _ rfl) (srt_asc xs)
  · exact (srt_perm _).nodup_iff.mpr (uniqL_nodup _)
  · rw [uniqL_mem, srt_mem, srt_mem, uniqL_mem]
  · exact hf z (srt_mem.mp (uniqL_mem.mp hz))
theorem nums_unlike {n : Nat} {log : Log} (ok : LogOk n log) : unlike (told log) = nums log := unlike_eq fun z hz => by
  obtain ⟨p, hp, rfl⟩ := List.mem_map.mp hz
  exact (ok.ok p hp).num.frc
/-- strictly ascending -/
theorem nums_lt {n : Nat} {log : Log} (ok : LogOk n log) : (nums log).Pairwise fun a b => toR a < toR b := by
  have a : Asc (nums log) := srt_asc _
  have nd : (nums log).Nodup := (srt_perm _).nodup_iff.mpr (uniqL_nodup _)
  have fr : ∀ z ∈ nums log, Frc z := fun z hz => by
    obtain ⟨p, hp, rfl⟩ := List.mem_map.mp (nums_mem.mp hz)
    exact (ok.ok p hp).num.frc
  refine List.pairwise_iff_forall_sublist.mpr fun {x y} hs => ?_
  have h1 := List.pairwise_iff_forall_sublist.mp a hs
  have h2 := List.pairwise_iff_forall_sublist.mp (List.nodup_iff_pairwise_ne.mp nd) hs
  have hx := fr x (hs.subset (by simp))
  have hy := fr y (hs.subset (by simp))
  have h3 : toR x ≠ toR y := fun e => h2 (toR_inj hx hy e)
  grind
/-! ### monotony of corners -/
theorem ends_get {n : Nat} {lot : List Nat} {k : Nat} (hk : k < n) : (ends n lot).getD k (0, 1) = if k ∈ lot then (1, 1) else (0, 1) := by
  unfold ends
  rw [List.getD_eq_getElem?_getD, List.getElem?_map, List.getElem?_range hk]
  rfl
theorem cor_mono {n : Nat} {t : Tm} {l m : List Nat} (h : WT n t) (hs : ∀ x ∈ l, x < n → x ∈ m) : toR (cor n t l) ≤ toR (cor n t m) := by
  refine val_mono (ends_ok n l) (ends_ok n m) (fun k hk => ?_) t h
  rw [ends_get hk, ends_get hk]
  by_cases h1 : k ∈ l
  · rw [if_pos h1, if_pos (hs k h1 hk)]; exact Rat.le_refl
  · rw [if_neg h1]
    split
    · rw [toR_zero, toR_one]; decide +kernel
    · exact Rat.le_refl
theorem less_false {x y : Q} (hx : 0 < x.2) (hy : 0 < y.2) : less x y = false ↔ toR y ≤ toR x := by
  rw [less_iff hx hy]
  constructor
  · intro h
    have := of_decide_eq_false h
    grind
  · intro h
    exact decide_eq_false (by grind)
end Cb
set_option linter.all false
/-! Cb, the mathematics, part 7: the outcome is the one number that the two asks allow. -/
namespace Cb
theorem mem_wishing {w : List Q} {x : Q} {k : Nat} : k ∈ wishing w x ↔ ∃ y, w[k]? = some y ∧ less y x = false := by
  unfold wishing
  rw [List.mem_map]
  constructor
  · rintro ⟨⟨y, i⟩, h, rfl⟩
    obtain ⟨h1, h2⟩ := List.mem_filter.mp h
    refine ⟨y, ?_, by simpa using h2⟩
    exact List.mem_zipIdx_iff_getElem?.mp h1
  · rintro ⟨y, h1, h2⟩
    exact ⟨(y, k), List.mem_filter.mpr ⟨List.mem_zipIdx_iff_getElem?.mpr h1, by simp [h2]⟩, rfl⟩
theorem mem_more {w : List Q} {x : Q} {k : Nat} : k ∈ wishMore w x ↔ ∃ y, w[k]? = some y ∧ less x y = true := by
  unfold wishMore
  rw [List.mem_map]
  constructor
  · rintro ⟨⟨y, i⟩, h, rfl⟩
    obtain ⟨h1, h2⟩ := List.mem_filter.mp h
    exact ⟨y, List.mem_zipIdx_iff_getElem?.mp h1, h2⟩
  · rintro ⟨y, h1, h2⟩
    exact ⟨(y, k), List.mem_filter.mpr ⟨List.mem_zipIdx_iff_getElem?.mpr h1, h2⟩, rfl⟩
theorem less_true {x y : Q} (hx : 0 < x.2) (hy : 0 < y.2) : less x y = true ↔ toR x < toR y := by
  rw [less_iff hx hy]
  exact decide_eq_true_iff
theorem nth_last_ge {xs : List Q} {x : Q} (h : x ∈ xs) : toR x ≤ toR (nth xs (xs.length - 1)) := by
  have l := srt_len xs
  have h' := srt_mem.mpr h
  obtain ⟨i, hi, e⟩ := List.getElem_of_mem h'
  have hl : xs.length - 1 < (srt xs).length := by omega
  rw [nth_get hl, ← e]
  by_cases hlt : i = xs.length - 1
  · subst hlt; exact Rat.le_refl
  · exact List.pairwise_iff_getElem.mp (srt_asc xs) i (xs.length - 1) hi hl (by omega)
theorem nth_first_le {xs : List Q} {x : Q} (h : x ∈ xs) : toR (nth xs 0) ≤ toR x := by
  have l := srt_len xs
  have h' := srt_mem.mpr h
  obtain ⟨i, hi, e⟩ := List.getElem_of_mem h'
  have hl : 0 < (srt xs).length := by omega
  rw [nth_get hl, ← e]
  by_cases hlt : i = 0
  · subst hlt; exact Rat.le_refl
  · exact List.pairwise_iff_getElem.mp (srt_asc xs) 0 i hl hi (by omega)
section
variable {n : Nat} {t : Tm} {w : List Q}
theorem isOut_iff {x : Q} (rt : RT n t) (hx : Num x) : isOut n t w x = true ↔ toR (cor n t (wishMore w x)) ≤ toR x ∧ toR x ≤ toR (cor n t (wishing w x)) := by
  have c := fun lot => (cor_ok rt.wt rt.cnt lot).num.pos
  unfold isOut
  rw [Bool.and_eq_true, Bool.not_eq_true', Bool.not_eq_true', less_false hx.pos (c _), less_false (c _) hx.pos]
theorem isOut_unique {x y : Q} (rt : RT n t) (hw : WOk n w) (hx : Num x) (hy : Num y) (h1 : isOut n t w x = true) (h2 : isOut n t w y = true) : x = y := by
  have key : ∀ {x y : Q}, Num x → Num y → isOut n t w x = true → isOut n t w y = true → ¬ toR x < toR y := fun {x y} hx hy h1 h2 hlt => by
    have a := ((isOut_iff rt hx).mp h1).1
    have b := ((isOut_iff rt hy).mp h2).2
    have c := cor_mono (n := n) (t := t) (l := wishing w y) (m := wishMore w x) rt.wt fun k hk _ => by
      obtain ⟨z, hz, hl⟩ := mem_wishing.mp hk
      have zp := (hw.2 z (List.mem_of_getElem? hz)).num.pos
      refine mem_more.mpr ⟨z, hz, ?_⟩
      rw [less_true hx.pos zp]
      rw [less_false zp hy.pos] at hl
      grind
    grind
  have k1 := key hx hy h1 h2
  have k2 := key hy hx h2 h1
  exact toR_inj hx.frc hy.frc (by grind)
theorem heldAt_le {x : Q} : toR (heldAt n t w x) ≤ toR (cor n t (wishing w x)) ∧ toR (heldAt n t w x) ≤ toR x := ⟨nth_first_le (by simp), nth_first_le (by simp)⟩
theorem heldAt_mem {x : Q} : heldAt n t w x = cor n t (wishing w x) ∨ heldAt n t w x = x := by
  have : heldAt n t w x ∈ [cor n t (wishing w x), x] := nth_mem (by simp)
  simpa using this
theorem outc_num (rt : RT n t) (hw : WOk n w) : Num (outc n t w) := by
  have hm : outc n t w ∈ cor n t [] :: w.map (heldAt n t w) := nth_mem (by simp)
  have c := fun lot => (cor_ok rt.wt rt.cnt lot).num
  rcases List.mem_cons.mp hm with e | e
  · rw [e]; exact c _
  · obtain ⟨y, hy, e⟩ := List.mem_map.mp e
    rw [← e]
    rcases heldAt_mem (n := n) (t := t) (w := w) (x := y) with q | q
    · rw [q]; exact c _
    · rw [q]; exact (hw.2 y hy).num
theorem outc_isOut (rt : RT n t) (hw : WOk n w) : isOut n t w (outc n t w) = true := by
  have on := outc_num rt hw
  have hm : outc n t w ∈ cor n t [] :: w.map (heldAt n t w) := nth_mem (by simp)
  have ge : ∀ z ∈ cor n t [] :: w.map (heldAt n t w), toR z ≤ toR (outc n t w) := fun z hz => by
    have := nth_last_ge hz
    simp only [List.length_cons, List.length_map, Nat.add_sub_cancel] at this
    exact this
  rw [isOut_iff rt on]
  generalize outc n t w = o at on hm ge
  constructor
  · -- the least wish above
    by_cases hM : wishMore w o = []
    · rw [hM]; exact ge _ (by simp)
    · obtain ⟨k0, hk0⟩ := List.exists_mem_of_ne_nil _ hM
      obtain ⟨y0, hy0, _⟩ := mem_more.mp hk0
      let ys := w.filter fun y => less o y
      have ysm : ∀ y ∈ ys, y ∈ w ∧ toR o < toR y := fun y hy => by
        obtain ⟨a, b⟩ := List.mem_filter.mp hy
        exact ⟨a, (less_true on.pos (hw.2 y a).num.pos).mp b⟩
      have y0m : y0 ∈ ys := by
        obtain ⟨y, h1, h2⟩ := mem_more.mp hk0
        rw [hy0] at h1
        cases h1
        exact List.mem_filter.mpr ⟨List.mem_of_getElem? hy0, h2⟩
      have hlen : 0 < ys.length := List.length_pos_of_mem y0m
      let y := nth ys 0
      have ym : y ∈ ys := nth_mem hlen
      have yle : ∀ z ∈ ys, toR y ≤ toR z := fun z hz => nth_first_le hz
      obtain ⟨yw, ygt⟩ := ysm y ym
      have h1 := ge (heldAt n t w y) (by simp only [List.mem_cons, List.mem_map]; exact .inr ⟨y, yw, rfl⟩)
      have h2 : toR (cor n t (wishMore w o)) ≤ toR (cor n t (wishing w y)) := cor_mono rt.wt fun k hk _ => by
        obtain ⟨z, hz, hl⟩ := mem_more.mp hk
        have zw := List.mem_of_getElem? hz
        refine mem_wishing.mpr ⟨z, hz, ?_⟩
        rw [less_false (hw.2 z zw).num.pos (hw.2 y yw).num.pos]
        exact yle z (List.mem_filter.mpr ⟨zw, hl⟩)
      rcases heldAt_mem (n := n) (t := t) (w := w) (x := y) with q | q
      · rw [q] at h1; grind
      · rw [q] at h1; grind
  · rcases List.mem_cons.mp hm with e | e
    · rw [e]
      exact cor_mono rt.wt fun k hk _ => by cases hk
    · obtain ⟨y, hy, e⟩ := List.mem_map.mp e
      have hl := heldAt_le (n := n) (t := t) (w := w) (x := y)
      rw [e] at hl
      have : toR (cor n t (wishing w y)) ≤ toR (cor n t (wishing w o)) := cor_mono rt.wt fun k hk _ => by
        obtain ⟨z, hz, hl'⟩ := mem_wishing.mp hk
        have zp := (hw.2 z (List.mem_of_getElem? hz)).num.pos
        refine mem_wishing.mpr ⟨z, hz, ?_⟩
        rw [less_false zp (hw.2 y hy).num.pos] at hl'
        rw [less_false zp on.pos]
        grind
      grind
theorem outc_iff {x : Q} (rt : RT n t) (hw : WOk n w) (hx : Num x) : decide (outc n t w = x) = isOut n t w x := by
  refine Bool.eq_iff_iff.mpr ?_
  rw [decide_eq_true_iff]
  constructor
  · rintro rfl
    exact outc_isOut rt hw
  · intro h
    exact isOut_unique rt hw (outc_num rt hw) hx (outc_isOut rt hw) h
end
theorem doFit_eq {n : Nat} {log : Log} {w : List Q} (ok : LogOk n log) (hw : WOk n w) : doFit n log w = log.all fun p => isOut n p.1 w p.2 := by
  unfold doFit
  refine Bool.eq_iff_iff.mpr ?_
  rw [List.all_eq_true, List.all_eq_true]
  exact ⟨fun h p hp => by rw [← outc_iff (ok.rt p hp) hw (ok.ok p hp).num]; exact h p hp, fun h p hp => by rw [outc_iff (ok.rt p hp) hw (ok.ok p hp).num]; exact h p hp⟩
end Cb
set_option linter.all false
/-! Cb, the mathematics, part 8: places. -/
namespace Cb
theorem asc_lt : ∀ (l : List Q) (j : Nat) (hj : j < l.length) (t : Rat), Asc l → (toR l[j] < t ↔ j < l.countP fun x => decide (toR x < t))
  | [], j, hj, _, _ => absurd hj (by simp)
  | y :: l, 0, _, t, h => by
    rw [List.getElem_cons_zero, List.countP_cons]
    by_cases c : toR y < t
    · simp [c]
    · have : l.countP (fun x => decide (toR x < t)) = 0 := List.countP_eq_zero.mpr fun z hz => by
        have := (List.pairwise_cons.mp h).1 z hz
        simp only [decide_eq_true_eq]
        grind
      simp [c, this]
  | y :: l, j + 1, hj, t, h => by
    have ih := asc_lt l j (by simpa using hj) t (List.pairwise_cons.mp h).2
    rw [List.getElem_cons_succ, List.countP_cons, ih]
    by_cases c : toR y < t
    · simp [c]
    · have z : l.countP (fun x => decide (toR x < t)) = 0 := List.countP_eq_zero.mpr fun z hz => by
        have := (List.pairwise_cons.mp h).1 z hz
        simp only [decide_eq_true_eq]
        grind
      simp [c, z]
section
variable {ns : List Q}
def cntL (ns : List Q) (y : Q) : Nat := (ns.filter fun z => less z y).length
theorem cntL_iff {y : Q} (hs : ns.Pairwise fun a b => toR a < toR b) (hp : ∀ z ∈ ns, 0 < z.2) (hy : 0 < y.2) {i : Nat} (hi : i < ns.length) : i < cntL ns y ↔ toR ns[i] < toR y := by
  have a : Asc ns := hs.imp fun h => by grind
  rw [asc_lt ns i hi (toR y) a]
  unfold cntL
  rw [← List.countP_eq_length_filter]
  have : ns.countP (fun z => less z y) = ns.countP (fun x => decide (toR x < toR y)) := List.countP_congr fun z hz => by rw [less_iff (hp z hz) hy]
  rw [this]
theorem cntL_le (y : Q) : cntL ns y ≤ ns.length := List.length_filter_le _ _
/-- where a wish stands beside the i-th number -/
theorem place_more {y : Q} (hs : ns.Pairwise fun a b => toR a < toR b) (hp : ∀ z ∈ ns, Frc z) (hy : Frc y) {i : Nat} (hi : i < ns.length) : 2 * i + 1 < placeOf ns y ↔ toR ns[i] < toR y := by
  rw [← cntL_iff hs (fun z h => (hp z h).pos) hy.pos hi]
  unfold placeOf
  show 2 * i + 1 < 2 * cntL ns y + _ ↔ _
  split <;> omega
theorem place_least {y : Q} (hs : ns.Pairwise fun a b => toR a < toR b) (hp : ∀ z ∈ ns, Frc z) (hy : Frc y) {i : Nat} (hi : i < ns.length) : 2 * i + 1 ≤ placeOf ns y ↔ toR ns[i] ≤ toR y := by
  have h1 := cntL_iff hs (fun z h => (hp z h).pos) hy.pos hi
  unfold placeOf
  show 2 * i + 1 ≤ 2 * cntL ns y + _ ↔ _
  constructor
  · intro h
    by_cases hc : i < cntL ns y
    · have := h1.mp hc; grind
    · have hm : y ∈ ns := by
        apply Decidable.byContradiction
        intro hm
        rw [if_neg hm] at h
        omega
      rw [if_pos hm] at h
      have ec : cntL ns y = i := by omega
      obtain ⟨j, hj, rfl⟩ := List.getElem_of_mem hm
      -- j = i
      have h2 := cntL_iff (y := ns[j]) hs (fun z h => (hp z h).pos) hy.pos hj
      rw [ec] at h2
      have : ¬ i > j := fun c => by
        have := h2.mp c
        grind
      by_cases e : i = j
      · subst e; exact Rat.le_refl
      · have := List.pairwise_iff_getElem.mp hs i j hi hj (by omega)
        grind
  · intro h
    by_cases he : toR ns[i] < toR y
    · have := h1.mpr he; omega
    · have ey : y = ns[i] := toR_inj hy (hp _ (List.getElem_mem hi)) (by grind)
      have hm : y ∈ ns := ey ▸ List.getElem_mem hi
      rw [if_pos hm]
      by_cases hz : i = 0
      · omega
      · have h3 := (cntL_iff hs (fun z h => (hp z h).pos) hy.pos (i := i - 1) (by omega)).mpr (by
          rw [ey]
          exact List.pairwise_iff_getElem.mp hs (i - 1) i (by omega) hi (by omega))
        omega
end
theorem atOf_get {ns : List Q} {x : Q} (h : x ∈ ns) : ∃ i, ∃ hi : i < ns.length, ns[i] = x ∧ atOf ns x = 2 * i + 1 := by
  have hi : ns.idxOf x < ns.length := List.idxOf_lt_length_iff.mpr h
  exact ⟨_, hi, List.getElem_idxOf hi, rfl⟩
theorem moreAt_places {ns : List Q} {w : List Q} {x : Q} (hs : ns.Pairwise fun a b => toR a < toR b) (hp : ∀ z ∈ ns, Frc z) (hw : ∀ y ∈ w, Frc y) (hx : x ∈ ns) : moreAt (w.map (placeOf ns)) (atOf ns x) = wishMore w x := by
  obtain ⟨i, hi, rfl, ea⟩ := atOf_get hx
  unfold moreAt wishMore
  rw [ea, List.zipIdx_map, List.filter_map, List.map_map]
  have : (w.zipIdx.filter ((fun p : Nat × Nat => decide (2 * i + 1 < p.1)) ∘ Prod.map (placeOf ns) id)) = w.zipIdx.filter fun p => less ns[i] p.1 := List.filter_congr fun p hp' => by
    have hm : p.1 ∈ w := List.mem_of_getElem? (List.mem_zipIdx_iff_getElem?.mp hp')
    have := place_more hs hp (hw _ hm) hi
    show decide (2 * i + 1 < placeOf ns p.1) = _
    rw [less_iff (hp _ hx).pos (hw _ hm).pos]
    exact decide_eq_decide.mpr this
  rw [this]
  rfl
theorem leastIn_places {ns : List Q} {w : List Q} {x : Q} (hs : ns.Pairwise fun a b => toR a < toR b) (hp : ∀ z ∈ ns, Frc z) (hw : ∀ y ∈ w, Frc y) (hx : x ∈ ns) : leastIn (w.map (placeOf ns)) (atOf ns x) = wishing w x := by
  obtain ⟨i, hi, rfl, ea⟩ := atOf_get hx
  unfold leastIn wishing
  rw [ea, List.zipIdx_map, List.filter_map, List.map_map]
  have : (w.zipIdx.filter ((fun p : Nat × Nat => decide (2 * i + 1 ≤ p.1)) ∘ Prod.map (placeOf ns) id)) = w.zipIdx.filter fun p => !less p.1 ns[i] := List.filter_congr fun p hp' => by
    have hm : p.1 ∈ w := List.mem_of_getElem? (List.mem_zipIdx_iff_getElem?.mp hp')
    have := place_least hs hp (hw _ hm) hi
    show decide (2 * i + 1 ≤ placeOf ns p.1) = _
    have l := less_false (hw _ hm).pos (hp _ hx).pos
    refine Bool.eq_iff_iff.mpr ?_
    rw [decide_eq_true_iff, Bool.not_eq_true', l]
    exact this
  rw [this]
  rfl
end Cb
set_option linter.all false
/-! Cb, the mathematics, part 9: wishes that fit stand at places that fit. -/
namespace Cb
theorem openL_mem {ns : List Q} {p : Nat} : p ∈ openL ns ↔ firstOpen ns ≤ p ∧ p ≤ lastOpen ns := by
  unfold openL
  rw [List.mem_map]
  constructor
  · rintro ⟨i, hi, rfl⟩
    have := List.mem_range.mp hi
    omega
  · rintro ⟨h1, h2⟩
    exact ⟨p - firstOpen ns, List.mem_range.mpr (by omega), by omega⟩
theorem place_open {ns : List Q} {y : Q} (hs : ns.Pairwise fun a b => toR a < toR b) (hp : ∀ z ∈ ns, Num z) (hy : Num y) (hl : 1 ≤ ns.length) : placeOf ns y ∈ openL ns := by
  rw [openL_mem]
  have hf : ∀ z ∈ ns, Frc z := fun z hz => (hp z hz).frc
  have g : ∀ j (h : j < ns.length), ns.getD j (0, 1) = ns[j] := fun j h => by rw [List.getD_eq_getElem?_getD, List.getElem?_eq_getElem h]; rfl
  constructor
  · unfold firstOpen
    split
    · rename_i h0
      rw [g 0 (by omega)] at h0
      have := (place_least hs hf hy.frc (i := 0) (by omega)).mpr (by rw [h0, toR_zero]; exact hy.r0)
      omega
    · omega
  · unfold lastOpen
    have le2 : placeOf ns y ≤ 2 * ns.length := by
      unfold placeOf
      have c := cntL_le (ns := ns) y
      show 2 * cntL ns y + _ ≤ _
      by_cases hm : y ∈ ns
      · rw [if_pos hm]
        obtain ⟨j, hj, rfl⟩ := List.getElem_of_mem hm
        have h1 := cntL_iff (y := ns[j]) hs (fun z h => (hf z h).pos) hy.pos hj
        have : ¬ j < cntL ns ns[j] := fun h => by have := h1.mp h; grind
        omega
      · rw [if_neg hm]; omega
    split
    · rename_i h1
      have hlt : ns.length - 1 < ns.length := by omega
      rw [g _ hlt] at h1
      have h2 := place_more hs hf hy.frc hlt
      have h3 : ¬ toR ns[ns.length - 1] < toR y := by
        rw [h1, toR_one]
        have := hy.r1
        grind
      have h4 : ¬ 2 * (ns.length - 1) + 1 < placeOf ns y := fun h => h3 (h2.mp h)
      omega
    · omega
theorem heldB_iff {n : Nat} {t : Tm} {st : List Nat} {x : Q} {k : Nat} (rt : RT n t) (hx : Num x) : heldB n t st x k = true ↔ toR (cor n t (moreAt st k)) ≤ toR x ∧ toR x ≤ toR (cor n t (leastIn st k)) := by
  have c := fun lot => (cor_ok rt.wt rt.cnt lot).num.pos
  unfold heldB
  rw [Bool.and_eq_true, Bool.not_eq_true', Bool.not_eq_true', less_false hx.pos (c _), less_false (c _) hx.pos]
theorem nums_ne {n : Nat} {log : Log} (ok : LogOk n log) : 1 ≤ (nums log).length := by
  have l1 := ok.l1
  cases log with
  | nil => simp at l1
  | cons p log => exact List.length_pos_of_mem (nums_mem.mpr (show p.2 ∈ told (p :: log) by simp [told]))
theorem nums_num {n : Nat} {log : Log} (ok : LogOk n log) : ∀ z ∈ nums log, Num z := fun z hz => by
  obtain ⟨p, hp, rfl⟩ := List.mem_map.mp (nums_mem.mp hz)
  exact (ok.ok p hp).num
theorem lawFit_mem {n : Nat} {log : Log} (ok : LogOk n log) {st : List Nat} : st ∈ lawFit n log ↔ st.length = n ∧ (∀ p ∈ st, p ∈ openL (nums log)) ∧ ∀ p ∈ log, heldB n p.1 st p.2 (atOf (nums log) p.2) = true := by
  unfold lawFit
  rw [nums_unlike ok, List.mem_filter, tuplesF_mem, List.all_eq_true]
  exact ⟨fun h => ⟨h.1.1, h.1.2, h.2⟩, fun h => ⟨⟨h.1, h.2.1⟩, h.2.2⟩⟩
theorem fit_iff {n : Nat} {log : Log} {w : List Q} (ok : LogOk n log) (hw : WOk n w) : (log.all fun p => isOut n p.1 w p.2) = decide (w.map (placeOf (nums log)) ∈ lawFit n log) := by
  have hs := nums_lt ok
  have hn := nums_num ok
  have hf : ∀ z ∈ nums log, Frc z := fun z hz => (hn z hz).frc
  have hwf : ∀ y ∈ w, Frc y := fun y hy => (hw.2 y hy).num.frc
  refine Bool.eq_iff_iff.mpr ?_
  rw [List.all_eq_true, decide_eq_true_iff, lawFit_mem ok]
  have key : ∀ p ∈ log, heldB n p.1 (w.map (placeOf (nums log))) p.2 (atOf (nums log) p.2) = isOut n p.1 w p.2 := fun p hp => by
    have hm : p.2 ∈ nums log := nums_mem.mpr (List.mem_map.mpr ⟨p, hp, rfl⟩)
    unfold heldB isOut
    rw [moreAt_places hs hf hwf hm, leastIn_places hs hf hwf hm]
  constructor
  · intro h
    refine ⟨by rw [List.length_map]; exact hw.1, fun p hp => ?_, fun p hp => by rw [key p hp]; exact h p hp⟩
    obtain ⟨y, hy, rfl⟩ := List.mem_map.mp hp
    exact place_open hs hn (hw.2 y hy).num (nums_ne ok)
  · intro h p hp
    rw [← key p hp]
    exact h.2.2 p hp
end Cb
set_option linter.all false
/-! Cb, the mathematics, part 10: chains of levels, and how many. -/
namespace Cb
def fitsTop (l : Nat) (c : List Nat) : Bool := match c with
  | [] => true
  | h :: _ => isPart h l
def chains : List (List Nat) → List (List Nat)
  | [] => [[]]
  | lots :: r => lots.flatMap fun l => ((chains r).filter (fitsTop l)).map fun c => l :: c
def cntC (r : List (List Nat)) (l : Nat) : Nat := ((chains r).filter (fitsTop l)).length
theorem sum_filter_pos {α : Type} (f : α → Nat) : ∀ l : List α, ((l.filter fun a => decide (0 < f a)).map f).sum = (l.map f).sum
  | [] => rfl
  | a :: l => by
    rw [List.filter_cons]
    by_cases h : 0 < f a
    · rw [if_pos (decide_eq_true h), List.map_cons, List.map_cons, List.sum_cons, List.sum_cons, sum_filter_pos f l]
    · rw [if_neg (by simpa using h), List.map_cons, List.sum_cons, sum_filter_pos f l]
      omega
theorem cntC_cons (lots : List Nat) (r : List (List Nat)) (l : Nat) : cntC (lots :: r) l = ((lots.filter fun l' => isPart l' l).map (cntC r)).sum := by
  unfold cntC
  rw [chains]
  induction lots with
  | nil => rfl
  | cons a lots ih =>
    rw [List.flatMap_cons, List.filter_append, List.length_append, ih, List.filter_cons]
    have : ((((chains r).filter (fitsTop a)).map fun c => a :: c).filter (fitsTop l)).length = if isPart a l then ((chains r).filter (fitsTop a)).length else 0 := by
      rw [List.filter_map, List.length_map]
      have e : (fitsTop l ∘ fun c => a :: c) = fun _ => isPart a l := rfl
      rw [e]
      by_cases h : isPart a l = true
      · rw [if_pos h, List.filter_eq_self.mpr fun _ _ => h]
      · rw [if_neg h, List.filter_eq_nil_iff.mpr fun _ _ => h]
        rfl
    rw [this]
    by_cases h : isPart a l = true
    · rw [if_pos h, if_pos h, List.map_cons, List.sum_cons]
    · rw [if_neg h, if_neg h, Nat.zero_add]
theorem filt_comm {α : Type} (l : List α) (p q : α → Bool) : (l.filter q).filter p = (l.filter p).filter q := by
  rw [List.filter_filter, List.filter_filter]
  exact List.filter_congr fun a _ => Bool.and_comm _ _
theorem ways_cnt : ∀ (r : List (List Nat)) (l : Nat), waysOf (wd r).head? l = cntC r l
  | [], l => rfl
  | lots :: r, l => by
    have ih := ways_cnt r
    rw [wd, cntC_cons]
    show (((wdStep (wd r).head? lots).filter fun e => isPart e.1 l).map (·.2)).sum = _
    unfold wdStep
    rw [filt_comm]
    rw [sum_filter_pos (fun e : Nat × Nat => e.2), List.filter_map, List.map_map]
    congr 1
    refine List.map_congr_left fun x _ => ?_
    exact ih x
theorem many_chains {lots : List Nat} {r : List (List Nat)} : manyPlaces (lots :: r) = (chains (lots :: r)).length := by
  unfold manyPlaces
  rw [wd, List.headD_cons]
  unfold wdStep
  rw [sum_filter_pos (fun e : Nat × Nat => e.2), List.map_map, chains]
  have : ∀ L : List Nat, (L.map ((fun e : Nat × Nat => e.2) ∘ fun l => (l, waysOf (wd r).head? l))).sum = (L.flatMap fun l => ((chains r).filter (fitsTop l)).map fun c => l :: c).length := fun L => by
    induction L with
    | nil => rfl
    | cons a L ih =>
      rw [List.map_cons, List.sum_cons, ih, List.flatMap_cons, List.length_append, List.length_map]
      congr 1
      exact ways_cnt r a
  exact this lots
/-! ### what a chain is -/
def IsChain : List (List Nat) → List Nat → Prop
  | [], [] => True
  | lots :: r, l :: c => l ∈ lots ∧ fitsTop l c = true ∧ IsChain r c
  | _, _ => False
theorem chains_mem : ∀ {L : List (List Nat)} {c : List Nat}, c ∈ chains L ↔ IsChain L c
  | [], [] => by simp [chains, IsChain]
  | [], _ :: _ => by simp [chains, IsChain]
  | lots :: r, [] => by simp [chains, IsChain]
  | lots :: r, l :: c => by
    rw [chains, IsChain, List.mem_flatMap]
    constructor
    · rintro ⟨a, ha, h⟩
      obtain ⟨c', h1, h2⟩ := List.mem_map.mp h
      cases h2
      obtain ⟨h3, h4⟩ := List.mem_filter.mp h1
      exact ⟨ha, h4, chains_mem.mp h3⟩
    · rintro ⟨h1, h2, h3⟩
      exact ⟨l, h1, List.mem_map.mpr ⟨c, List.mem_filter.mpr ⟨chains_mem.mpr h3, h2⟩, rfl⟩⟩
theorem chains_nodup : ∀ {L : List (List Nat)}, (∀ lots ∈ L, lots.Nodup) → (chains L).Nodup
  | [], _ => by simp [chains]
  | lots :: r, h => by
    have ih := chains_nodup (L := r) fun l hl => h l (by simp [hl])
    have h0 := h lots (by simp)
    rw [chains]
    clear h
    induction lots with
    | nil => simp
    | cons a lots ihL =>
      obtain ⟨h1, h2⟩ := List.nodup_cons.mp h0
      rw [List.flatMap_cons]
      refine List.nodup_append.mpr ⟨?_, ihL h2, fun x hx y hy e => ?_⟩
      · rw [List.nodup_iff_pairwise_ne, List.pairwise_map]
        exact (List.nodup_iff_pairwise_ne.mp (List.Nodup.sublist List.filter_sublist ih)).imp fun hne e => hne (List.cons.inj e).2
      · subst e
        obtain ⟨c, _, rfl⟩ := List.mem_map.mp hx
        obtain ⟨b, hb, hy⟩ := List.mem_flatMap.mp hy
        obtain ⟨c', _, e⟩ := List.mem_map.mp hy
        rw [(List.cons.inj e).1] at hb
        exact h1 hb
end Cb
set_option linter.all false
/-! Cb, the mathematics, part 11: the first way. -/
namespace Cb
theorem key_iff {lots : List Nat} {r : List (List Nat)} {l : Nat} : l ∈ (wdStep (wd r).head? lots).map (·.1) ↔ l ∈ lots ∧ 0 < cntC r l := by
  unfold wdStep
  rw [List.mem_map]
  constructor
  · rintro ⟨e, he, rfl⟩
    obtain ⟨h1, h2⟩ := List.mem_filter.mp he
    obtain ⟨x, hx, rfl⟩ := List.mem_map.mp h1
    have := of_decide_eq_true h2
    rw [ways_cnt] at this
    exact ⟨hx, this⟩
  · rintro ⟨h1, h2⟩
    refine ⟨(l, waysOf (wd r).head? l), List.mem_filter.mpr ⟨List.mem_map.mpr ⟨l, h1, rfl⟩, decide_eq_true ?_⟩, rfl⟩
    show 0 < waysOf _ l
    rw [ways_cnt]
    exact h2
theorem cntC_pos {r : List (List Nat)} {l : Nat} : 0 < cntC r l ↔ ∃ c, IsChain r c ∧ fitsTop l c = true := by
  unfold cntC
  rw [List.length_pos_iff_exists_mem]
  constructor
  · rintro ⟨c, h⟩
    obtain ⟨h1, h2⟩ := List.mem_filter.mp h
    exact ⟨c, chains_mem.mp h1, h2⟩
  · rintro ⟨c, h1, h2⟩
    exact ⟨c, List.mem_filter.mpr ⟨chains_mem.mpr h1, h2⟩⟩
theorem lastD_snoc (l : List Nat) (a : Nat) : (l ++ [a]).getLastD 0 = a := by simp
theorem fw_some : ∀ {L : List (List Nat)} {found way : List Nat}, fwR found (wd L) = some way → ∃ c, way = found ++ c ∧ IsChain L c ∧ (found ≠ [] → fitsTop (found.getLastD 0) c = true)
  | [], found, way, h => by
    rw [wd, fwR] at h
    cases h
    exact ⟨[], by simp, trivial, fun _ => rfl⟩
  | lots :: r, found, way, h => by
    rw [wd, fwR] at h
    split at h
    · cases h
    · rename_i a rest hab
      obtain ⟨c, e, h1, h2⟩ := fw_some h
      have ha : a ∈ ((wdStep (wd r).head? lots).map (·.1)).filter fun l => decide (found.length = 0) || isPart l (found.getLastD 0) := by rw [hab]; simp
      obtain ⟨k1, k2⟩ := List.mem_filter.mp ha
      obtain ⟨k3, k4⟩ := key_iff.mp k1
      have h2' := h2 (by simp)
      rw [lastD_snoc] at h2'
      refine ⟨a :: c, by rw [e, List.append_assoc]; rfl, ⟨k3, h2', h1⟩, fun hne => ?_⟩
      show isPart a _ = true
      rcases Bool.or_eq_true_iff.mp k2 with q | q
      · exact absurd (List.eq_nil_of_length_eq_zero (of_decide_eq_true q)) hne
      · exact q
theorem fw_none : ∀ {L : List (List Nat)} {found : List Nat}, fwR found (wd L) = none → ∀ c, IsChain L c → (found ≠ [] → fitsTop (found.getLastD 0) c = true) → False
  | [], found, h, c, _, _ => by
    rw [wd, fwR] at h
    cases h
  | lots :: r, found, h, [], hc, _ => hc
  | lots :: r, found, h, l :: c, hc, hf => by
    obtain ⟨c1, c2, c3⟩ := hc
    rw [wd, fwR] at h
    have hl : l ∈ ((wdStep (wd r).head? lots).map (·.1)).filter fun l => decide (found.length = 0) || isPart l (found.getLastD 0) := by
      refine List.mem_filter.mpr ⟨key_iff.mpr ⟨c1, cntC_pos.mpr ⟨c, c3, c2⟩⟩, ?_⟩
      by_cases hn : found = []
      · subst hn; rfl
      · have := hf hn
        show (_ || isPart l _) = true
        rw [show isPart l (found.getLastD 0) = true from this, Bool.or_true]
    split at h
    · rename_i hab
      rw [hab] at hl
      cases hl
    · rename_i a rest hab
      have ha : a ∈ ((wdStep (wd r).head? lots).map (·.1)).filter fun l => decide (found.length = 0) || isPart l (found.getLastD 0) := by rw [hab]; simp
      obtain ⟨k3, k4⟩ := key_iff.mp (List.mem_filter.mp ha).1
      obtain ⟨c', g1, g2⟩ := cntC_pos.mp k4
      exact fw_none h c' g1 fun _ => by rw [lastD_snoc]; exact g2
theorem first_some {L : List (List Nat)} {c : List Nat} (h : firstWay L = some c) : c ∈ chains L := by
  obtain ⟨c', e, h1, _⟩ := fw_some h
  rw [e, List.nil_append]
  exact chains_mem.mpr h1
theorem first_none {L : List (List Nat)} : firstWay L = none ↔ chains L = [] := by
  constructor
  · intro h
    refine List.eq_nil_iff_forall_not_mem.mpr fun c hc => ?_
    exact fw_none h c (chains_mem.mp hc) fun hne => absurd rfl hne
  · intro h
    cases e : firstWay L with
    | none => rfl
    | some c =>
      have := first_some e
      rw [h] at this
      cases this
/-! ### ways up and down at a level -/
theorem chain_len : ∀ {L : List (List Nat)} {c : List Nat}, IsChain L c → c.length = L.length
  | [], [], _ => rfl
  | _ :: _, [], h => h.elim
  | [], _ :: _, h => h.elim
  | lots :: r, l :: c, h => by rw [List.length_cons, List.length_cons, chain_len h.2.2]
end Cb
set_option linter.all false
/-! Cb, the mathematics, part 12: ways up, ways down. -/
namespace Cb
theorem chain_app : ∀ {A B : List (List Nat)} {p c : List Nat}, p.length = A.length → (IsChain (A ++ B) (p ++ c) ↔ IsChain A p ∧ IsChain B c ∧ (p ≠ [] → fitsTop (p.getLastD 0) c = true))
  | [], B, [], c, _ => by simp [IsChain]
  | [], B, _ :: _, c, h => by simp at h
  | lots :: A, B, [], c, h => by simp at h
  | lots :: A, B, [l], c, h => by
    have hA : A = [] := List.eq_nil_of_length_eq_zero (by simpa using h.symm)
    subst hA
    show (l ∈ lots ∧ fitsTop l c = true ∧ IsChain B c) ↔ (l ∈ lots ∧ fitsTop l [] = true ∧ IsChain [] []) ∧ IsChain B c ∧ _
    constructor
    · rintro ⟨a, b, d⟩
      exact ⟨⟨a, rfl, trivial⟩, d, fun _ => b⟩
    · rintro ⟨⟨a, _, _⟩, d, e⟩
      exact ⟨a, e (by simp), d⟩
  | lots :: A, B, l :: l2 :: p, c, h => by
    have ih := chain_app (A := A) (B := B) (p := l2 :: p) (c := c) (by simpa using h)
    show (l ∈ lots ∧ isPart l2 l = true ∧ IsChain (A ++ B) (l2 :: p ++ c)) ↔ (l ∈ lots ∧ isPart l2 l = true ∧ IsChain A (l2 :: p)) ∧ IsChain B c ∧ _
    rw [ih]
    constructor
    · rintro ⟨a, b, d, e, f⟩
      exact ⟨⟨a, b, d⟩, e, fun _ => f (by simp)⟩
    · rintro ⟨⟨a, b, d⟩, e, f⟩
      exact ⟨a, b, d, e, fun _ => f (by simp)⟩
theorem wd_drop : ∀ (L : List (List Nat)) (j : Nat), (wd L).drop j = wd (L.drop j)
  | [], j => by simp [wd]
  | lots :: r, 0 => rfl
  | lots :: r, j + 1 => by
    rw [wd, List.drop_succ_cons, List.drop_succ_cons, wd_drop r j]
/-- the keys of a level of ways down -/
theorem down_keys {L : List (List Nat)} {j l : Nat} (hj : j < L.length) : l ∈ ((wd L).getD j []).map (·.1) ↔ ∃ c, IsChain (L.drop j) (l :: c) := by
  have h1 : (wd L)[j]? = (wd (L.drop j)).head? := by
    rw [← wd_drop, List.head?_drop]
  have e : L.drop j = L[j] :: L.drop (j + 1) := List.drop_eq_getElem_cons hj
  rw [List.getD_eq_getElem?_getD, h1, e, wd]
  show l ∈ (wdStep _ _).map (·.1) ↔ _
  rw [key_iff, cntC_pos]
  constructor
  · rintro ⟨a, c, b, d⟩
    exact ⟨c, a, d, b⟩
  · rintro ⟨c, a, d, b⟩
    exact ⟨a, c, b, d⟩
theorem upR_iff : ∀ {r : List (List Nat)} {pr : List Nat} {j l : Nat}, j < r.length → (l ∈ (upR pr r).getD j [] ↔ ∃ a ∈ pr, ∃ q, IsChain (r.take (j + 1)) (q ++ [l]) ∧ fitsTop a (q ++ [l]) = true)
  | [], _, _, _, h => by simp at h
  | lots :: r, pr, 0, l, _ => by
    rw [upR]
    show l ∈ upStep pr lots ↔ _
    unfold upStep
    rw [List.mem_filter, List.any_eq_true]
    constructor
    · rintro ⟨a, o, ho, hp⟩
      exact ⟨o, ho, [], ⟨a, rfl, trivial⟩, hp⟩
    · rintro ⟨a, ha, q, hc, hf⟩
      have hl := chain_len hc
      have : q = [] := by simpa using hl
      subst this
      exact ⟨hc.1, a, ha, hf⟩
  | lots :: r, pr, j + 1, l, h => by
    have h' : j < r.length := by simpa using h
    have ih := upR_iff (r := r) (pr := upStep pr lots) (j := j) (l := l) h'
    rw [upR]
    show l ∈ (upR (upStep pr lots) r).getD j [] ↔ _
    rw [ih]
    constructor
    · rintro ⟨b, hb, q, hc, hf⟩
      unfold upStep at hb
      rw [List.mem_filter, List.any_eq_true] at hb
      obtain ⟨hb1, a, ha, hp⟩ := hb
      exact ⟨a, ha, b :: q, ⟨hb1, hf, hc⟩, hp⟩
    · rintro ⟨a, ha, q, hc, hf⟩
      cases q with
      | nil =>
        have hl := chain_len hc
        rw [List.length_take] at hl
        simp only [List.nil_append, List.length_cons, List.length_nil] at hl h
        omega
      | cons b q =>
        refine ⟨b, ?_, q, hc.2.2, hc.2.1⟩
        unfold upStep
        rw [List.mem_filter, List.any_eq_true]
        exact ⟨hc.1, a, ha, hf⟩
theorem wup_iff {L : List (List Nat)} {j l : Nat} (hj : j < L.length) : l ∈ (wup L).getD j [] ↔ ∃ q, IsChain (L.take (j + 1)) (q ++ [l]) := by
  cases L with
  | nil => simp at hj
  | cons lots r =>
    rw [wup]
    cases j with
    | zero =>
      show l ∈ lots ↔ _
      constructor
      · intro h
        exact ⟨[], h, rfl, trivial⟩
      · rintro ⟨q, hc⟩
        have hl := chain_len hc
        have : q = [] := by simpa using hl
        subst this
        exact hc.1
    | succ j =>
      show l ∈ (upR lots r).getD j [] ↔ _
      rw [upR_iff (by simpa using hj)]
      constructor
      · rintro ⟨a, ha, q, hc, hf⟩
        exact ⟨a :: q, ha, hf, hc⟩
      · rintro ⟨q, hc⟩
        cases q with
        | nil =>
          have hl := chain_len hc
          rw [List.length_take] at hl
          simp only [List.nil_append, List.length_cons, List.length_nil] at hl hj
          omega
        | cons a q => exact ⟨a, hc.1, q, hc.2.2, hc.2.1⟩
end Cb
set_option linter.all false
/-! Cb, the mathematics, part 13: bits along a chain. -/
namespace Cb
theorem bit_lt (l p : Nat) : bitAt l p < 2 := Nat.mod_lt _ (by decide)
theorem bit_test {l p : Nat} : bitAt l p = 1 ↔ l.testBit p = true := by
  unfold bitAt
  rw [Nat.testBit_eq_decide_div_mod_eq, decide_eq_true_iff]
theorem part_bit {a b p : Nat} (h : isPart a b = true) (h1 : bitAt a p = 1) : bitAt b p = 1 := by
  have e : a &&& b = a := of_decide_eq_true h
  rw [bit_test] at *
  rw [← e, Nat.testBit_and, Bool.and_eq_true] at h1
  exact h1.2
def stoodC (c : List Nat) (p : Nat) : Nat := (c.map fun l => bitAt l p).sum
theorem stoodC_app (c d : List Nat) (p : Nat) : stoodC (c ++ d) p = stoodC c p + stoodC d p := by
  unfold stoodC
  rw [List.map_append, List.sum_append]
theorem stoodC_le (c : List Nat) (p : Nat) : stoodC c p ≤ c.length := by
  unfold stoodC
  induction c with
  | nil => simp
  | cons l c ih =>
    rw [List.map_cons, List.sum_cons, List.length_cons]
    have := bit_lt l p
    omega
/-- after a 0 only 0s -/
theorem suf_zero {p : Nat} : ∀ {B : List (List Nat)} {l : Nat} {c : List Nat}, IsChain B c → fitsTop l c = true → bitAt l p = 0 → stoodC c p = 0
  | _, l, [], _, _, _ => rfl
  | [], l, _ :: _, h, _, _ => h.elim
  | lots :: B, l, a :: c, h, hf, h0 => by
    have ha : bitAt a p = 0 := by
      have := bit_lt a p
      by_cases h1 : bitAt a p = 1
      · have := part_bit (show isPart a l = true from hf) h1
        omega
      · omega
    have ih := suf_zero h.2.2 h.2.1 ha
    unfold stoodC at *
    rw [List.map_cons, List.sum_cons, ih, ha]
/-- before a 1 only 1s -/
theorem pre_one {p : Nat} : ∀ {A : List (List Nat)} {c : List Nat}, IsChain A c → c ≠ [] → bitAt (c.getLastD 0) p = 1 → stoodC c p = c.length
  | _, [], _, h, _ => absurd rfl h
  | [], _ :: _, h, _, _ => h.elim
  | lots :: A, [a], h, _, h1 => by
    have : bitAt a p = 1 := h1
    simp [stoodC, this]
  | lots :: A, a :: b :: c, h, _, h1 => by
    have ih := pre_one (p := p) (c := b :: c) h.2.2 (by simp) (by simpa using h1)
    have hb : bitAt b p = 1 := by
      have l := stoodC_le c p
      have e : stoodC (b :: c) p = bitAt b p + stoodC c p := by simp [stoodC]
      have := bit_lt b p
      rw [ih, List.length_cons] at e
      omega
    have ha := part_bit (show isPart b a = true from h.2.1) hb
    have e : stoodC (a :: b :: c) p = bitAt a p + stoodC (b :: c) p := by simp [stoodC]
    rw [e, ih, ha]
    simp only [List.length_cons]
    omega
end Cb
set_option linter.all false
/-! Cb, the mathematics, part 14: who can stand where. -/
namespace Cb
/-- where a chain breaks for a person -/
theorem stood_iff {A B : List (List Nat)} {c d : List Nat} {p : Nat} (hl : c.length = A.length) (h : IsChain (A ++ B) (c ++ d)) : stoodC (c ++ d) p = c.length ↔ (c ≠ [] → bitAt (c.getLastD 0) p = 1) ∧ (∀ l r, d = l :: r → bitAt l p = 0) := by
  obtain ⟨h1, h2, h3⟩ := (chain_app hl).mp h
  rw [stoodC_app]
  constructor
  · intro e
    have lc := stoodC_le c p
    have ld := stoodC_le d p
    constructor
    · intro hne
      apply Decidable.byContradiction
      intro hb
      have h0 : bitAt (c.getLastD 0) p = 0 := by have := bit_lt (c.getLastD 0) p; omega
      have z := suf_zero h2 (h3 hne) h0
      -- the last of c has bit 0, so fewer than all
      have : stoodC c p < c.length := by
        rcases List.eq_nil_or_concat c with q | ⟨r, x, q⟩
        · exact absurd q hne
        · rw [List.concat_eq_append] at q
          subst q
          rw [lastD_snoc] at h0
          rw [stoodC_app]
          have := stoodC_le r p
          have e2 : stoodC [x] p = bitAt x p := by simp [stoodC]
          rw [e2, h0, List.length_append]
          simp
          omega
      omega
    · rintro l r rfl
      apply Decidable.byContradiction
      intro hb
      have hb1 : bitAt l p = 1 := by have := bit_lt l p; omega
      have e2 : stoodC (l :: r) p = bitAt l p + stoodC r p := by simp [stoodC]
      by_cases hne : c = []
      · subst hne
        have : stoodC ([] : List Nat) p = 0 := rfl
        simp only [List.length_nil] at e
        omega
      · have hp : bitAt (c.getLastD 0) p = 1 := part_bit (show isPart l _ = true from h3 hne) hb1
        have := pre_one h1 hne hp
        omega
  · rintro ⟨a, b⟩
    have z : stoodC d p = 0 := by
      cases d with
      | nil => rfl
      | cons l r =>
        have hb := b l r rfl
        have e2 : stoodC (l :: r) p = bitAt l p + stoodC r p := by simp [stoodC]
        cases B with
        | nil => exact h2.elim
        | cons lots B => rw [e2, hb, suf_zero h2.2.2 h2.2.1 hb]
    by_cases hne : c = []
    · subst hne
      rw [z]; rfl
    · rw [pre_one h1 hne (a hne), z]
      omega
theorem wdl : ∀ L : List (List Nat), (wd L).length = L.length
  | [] => rfl
  | lots :: r => by rw [wd, List.length_cons, List.length_cons, wdl r]
theorem canStand_iff {L : List (List Nat)} {person place : Nat} (hp : place ≤ L.length) (hL : 0 < L.length) : canStand (wup L) (wd L) person place = true ↔ ∃ c, IsChain L c ∧ stoodC c person = place := by
  unfold canStand
  simp only [wdl]
  have ahead : 0 < place → ∀ o, o ∈ ((wup L).getD (place - 1) []).filter (fun l => decide (bitAt l person = 1)) ↔ ∃ q, IsChain (L.take place) (q ++ [o]) ∧ bitAt o person = 1 := fun h o => by
    have := wup_iff (L := L) (j := place - 1) (l := o) (by omega)
    rw [show place - 1 + 1 = place by omega] at this
    rw [List.mem_filter, decide_eq_true_iff, this]
    exact ⟨fun ⟨⟨q, a⟩, b⟩ => ⟨q, a, b⟩, fun ⟨q, a, b⟩ => ⟨⟨q, a⟩, b⟩⟩
  have behind : place < L.length → ∀ l, l ∈ (((wd L).getD place []).map (·.1)).filter (fun l => decide (bitAt l person = 0)) ↔ ∃ c, IsChain (L.drop place) (l :: c) ∧ bitAt l person = 0 := fun h l => by
    rw [List.mem_filter, decide_eq_true_iff, down_keys h]
    exact ⟨fun ⟨⟨q, a⟩, b⟩ => ⟨q, a, b⟩, fun ⟨q, a, b⟩ => ⟨⟨q, a⟩, b⟩⟩
  have ltake : (L.take place).length = place := by rw [List.length_take]; omega
  -- a chain from its two parts
  have split : ∀ ch, IsChain L ch → ∃ c d, ch = c ++ d ∧ c.length = place ∧ IsChain (L.take place ++ L.drop place) (c ++ d) := fun ch h => by
    have hl := chain_len h
    refine ⟨ch.take place, ch.drop place, (List.take_append_drop ..).symm, by rw [List.length_take]; omega, ?_⟩
    rw [List.take_append_drop, List.take_append_drop]
    exact h
  have joinE : L.take place ++ L.drop place = L := List.take_append_drop ..
  by_cases h1 : place = L.length
  · rw [if_pos h1, decide_eq_true_iff, List.length_pos_iff_exists_mem]
    have h0 : 0 < place := by omega
    rw [if_pos h0]
    constructor
    · rintro ⟨o, ho⟩
      obtain ⟨q, hq, hb⟩ := (ahead h0 o).mp ho
      have hlq := chain_len hq
      refine ⟨q ++ [o], ?_, ?_⟩
      · rw [h1, List.take_length] at hq; exact hq
      · have := (stood_iff (A := L.take place) (B := []) (c := q ++ [o]) (d := []) (p := person) hlq (by simpa using hq)).mpr ⟨fun _ => by rw [lastD_snoc]; exact hb, fun l r e => by cases e⟩
        rw [List.append_nil] at this
        omega
    · rintro ⟨ch, hc, hs⟩
      obtain ⟨c, d, rfl, lc, hcd⟩ := split ch hc
      have hne : c ≠ [] := fun z => by subst z; simp at lc; omega
      obtain ⟨a, b⟩ := (stood_iff (by rw [ltake, lc]) hcd).mp (by rw [hs, lc])
      obtain ⟨hA, _, _⟩ := (chain_app (by rw [ltake, lc])).mp hcd
      rcases List.eq_nil_or_concat c with q | ⟨r, x, q⟩
      · exact absurd q hne
      · rw [List.concat_eq_append] at q
        subst q
        exact ⟨x, (ahead h0 x).mpr ⟨r, hA, by have := a hne; rwa [lastD_snoc] at this⟩⟩
  · rw [if_neg h1]
    have hlt : place < L.length := by omega
    by_cases h0 : place = 0
    · rw [if_pos h0, decide_eq_true_iff, List.length_pos_iff_exists_mem]
      subst h0
      constructor
      · rintro ⟨l, hl⟩
        obtain ⟨c, hc, hb⟩ := (behind hlt l).mp hl
        refine ⟨l :: c, hc, ?_⟩
        exact (stood_iff (A := []) (B := L) (c := []) (d := l :: c) (p := person) rfl hc).mpr ⟨fun h => absurd rfl h, fun l' r e => by cases e; exact hb⟩
      · rintro ⟨ch, hc, hs⟩
        have hl := chain_len hc
        cases ch with
        | nil => simp at hl; omega
        | cons l c =>
          obtain ⟨_, b⟩ := (stood_iff (A := []) (B := L) (c := []) (d := l :: c) (p := person) rfl hc).mp hs
          exact ⟨l, (behind hlt l).mpr ⟨c, hc, b l c rfl⟩⟩
    · rw [if_neg h0]
      have hpos : 0 < place := by omega
      rw [if_pos hpos, List.any_eq_true]
      constructor
      · rintro ⟨l, hl, h⟩
        rw [List.any_eq_true] at h
        obtain ⟨o, ho, hpt⟩ := h
        obtain ⟨c, hc, hb⟩ := (behind hlt l).mp hl
        obtain ⟨q, hq, hb1⟩ := (ahead hpos o).mp ho
        have hlq := chain_len hq
        have hch : IsChain (L.take place ++ L.drop place) ((q ++ [o]) ++ (l :: c)) := (chain_app hlq).mpr ⟨hq, hc, fun _ => by rw [lastD_snoc]; exact hpt⟩
        refine ⟨(q ++ [o]) ++ (l :: c), by rw [joinE] at hch; exact hch, ?_⟩
        rw [(stood_iff hlq hch).mpr ⟨fun _ => by rw [lastD_snoc]; exact hb1, fun l' r e => by cases e; exact hb⟩, hlq, ltake]
      · rintro ⟨ch, hc, hs⟩
        obtain ⟨c, d, rfl, lc, hcd⟩ := split ch hc
        have hne : c ≠ [] := fun z => by subst z; simp at lc; omega
        obtain ⟨a, b⟩ := (stood_iff (by rw [ltake, lc]) hcd).mp (by rw [hs, lc])
        obtain ⟨hA, hB, hf⟩ := (chain_app (by rw [ltake, lc])).mp hcd
        have ld := chain_len hB
        cases d with
        | nil => rw [List.length_drop] at ld; simp at ld; omega
        | cons l d =>
          rcases List.eq_nil_or_concat c with q | ⟨r, x, q⟩
          · exact absurd q hne
          · rw [List.concat_eq_append] at q
            subst q
            have hf' := hf hne
            rw [lastD_snoc] at hf'
            refine ⟨l, (behind hlt l).mpr ⟨d, hB, b l d rfl⟩, ?_⟩
            rw [List.any_eq_true]
            exact ⟨x, (ahead hpos x).mpr ⟨r, hA, by have := a hne; rwa [lastD_snoc] at this⟩, hf'⟩
end Cb
set_option linter.all false
/-! Cb, the mathematics, part 15: tuples of places as chains. -/
namespace Cb
theorem chain_idx : ∀ {L : List (List Nat)} {c : List Nat}, IsChain L c ↔ c.length = L.length ∧ (∀ j (h : j < c.length) (h' : j < L.length), c[j] ∈ L[j]) ∧ ∀ j (h : j + 1 < c.length), isPart c[j + 1] c[j] = true
  | [], [] => by simp [IsChain]
  | [], _ :: _ => by simp [IsChain]
  | lots :: r, [] => by simp [IsChain]
  | lots :: r, [l] => by
    show (l ∈ lots ∧ true = true ∧ IsChain r []) ↔ _
    cases r with
    | nil =>
      simp only [IsChain, and_true, true_and]
      constructor
      · intro h
        refine ⟨rfl, fun j h1 h2 => ?_, fun j h1 => by simp at h1⟩
        have : j = 0 := by simpa using h1
        subst this
        exact h
      · rintro ⟨_, h, _⟩
        exact h 0 (by simp) (by simp)
    | cons a r => simp [IsChain]
  | lots :: r, l :: m :: c => by
    have ih := chain_idx (L := r) (c := m :: c)
    show (l ∈ lots ∧ isPart m l = true ∧ IsChain r (m :: c)) ↔ _
    rw [ih]
    constructor
    · rintro ⟨a, b, e, f, g⟩
      refine ⟨by simpa using e, fun j h1 h2 => ?_, fun j h1 => ?_⟩
      · cases j with
        | zero => exact a
        | succ j => exact f j (by simpa using h1) (by simpa using h2)
      · cases j with
        | zero => exact b
        | succ j => exact g j (by simpa using h1)
    · rintro ⟨e, f, g⟩
      refine ⟨f 0 (by simp) (by simp), g 0 (by simp), by simpa using e, fun j h1 h2 => ?_, fun j h1 => ?_⟩
      · exact f (j + 1) (by simpa using h1) (by simpa using h2)
      · exact g (j + 1) (by simpa using h1)
theorem mask_bitAt {l : List Nat} (hp : l.Pairwise (· < ·)) (p : Nat) : bitAt (mask l) p = if p ∈ l then 1 else 0 := by
  have h := mask_bit hp p
  have b := bit_lt (mask l) p
  by_cases hm : p ∈ l
  · rw [if_pos hm]
    exact bit_test.mpr (by rw [h]; exact decide_eq_true hm)
  · rw [if_neg hm]
    have : ¬ bitAt (mask l) p = 1 := fun e => by
      have := bit_test.mp e
      rw [h, decide_eq_false hm] at this
      cases this
    omega
theorem mask_part {l m : List Nat} (hl : l.Pairwise (· < ·)) (hm : m.Pairwise (· < ·)) (h : ∀ x ∈ l, x ∈ m) : isPart (mask l) (mask m) = true := by
  unfold isPart
  refine decide_eq_true (Nat.eq_of_testBit_eq fun i => ?_)
  rw [Nat.testBit_and, mask_bit hl, mask_bit hm]
  by_cases hi : i ∈ l
  · rw [decide_eq_true hi, decide_eq_true (h i hi)]; rfl
  · rw [decide_eq_false hi]; rfl
theorem part_mem {l m : List Nat} (hl : l.Pairwise (· < ·)) (hm : m.Pairwise (· < ·)) (h : isPart (mask l) (mask m) = true) : ∀ x ∈ l, x ∈ m := fun x hx => by
  have h1 : bitAt (mask l) x = 1 := by rw [mask_bitAt hl, if_pos hx]
  have h2 := part_bit h h1
  rw [mask_bitAt hm] at h2
  apply Decidable.byContradiction
  intro hc
  rw [if_neg hc] at h2
  cases h2
theorem mem_leastIn {st : List Nat} {k p : Nat} : p ∈ leastIn st k ↔ ∃ y, st[p]? = some y ∧ k ≤ y := by
  unfold leastIn
  rw [List.mem_map]
  constructor
  · rintro ⟨⟨y, i⟩, h, rfl⟩
    obtain ⟨h1, h2⟩ := List.mem_filter.mp h
    exact ⟨y, List.mem_zipIdx_iff_getElem?.mp h1, of_decide_eq_true h2⟩
  · rintro ⟨y, h1, h2⟩
    exact ⟨(y, p), List.mem_filter.mpr ⟨List.mem_zipIdx_iff_getElem?.mpr h1, decide_eq_true h2⟩, rfl⟩
theorem moreAt_least (st : List Nat) (k : Nat) : moreAt st k = leastIn st (k + 1) := by
  unfold moreAt leastIn
  congr 1
/-- the chain of a tuple of places -/
def chainOf (st : List Nat) (k : Nat) : List Nat := (List.range k).map fun j => mask (leastIn st (j + 1))
theorem least_lot {st : List Nat} (k : Nat) : IsLot st.length (leastIn st k) := zipIdx_lot st _
theorem chainOf_get {st : List Nat} {k j : Nat} (h : j < (chainOf st k).length) : (chainOf st k)[j] = mask (leastIn st (j + 1)) := by simp [chainOf]
theorem chainOf_len (st : List Nat) (k : Nat) : (chainOf st k).length = k := by simp [chainOf]
theorem chainOf_part {st : List Nat} {k j : Nat} (h : j + 1 < (chainOf st k).length) : isPart (chainOf st k)[j + 1] (chainOf st k)[j] = true := by
  rw [chainOf_get, chainOf_get]
  refine mask_part (least_lot _).1 (least_lot _).1 fun x hx => ?_
  obtain ⟨y, h1, h2⟩ := mem_leastIn.mp hx
  exact mem_leastIn.mpr ⟨y, h1, by omega⟩
theorem sum_ones : ∀ (k y : Nat), y ≤ k → ((List.range k).map fun j => if j + 1 ≤ y then 1 else 0).sum = y
  | 0, y, h => by
    have : y = 0 := by omega
    subst this; rfl
  | k + 1, y, h => by
    rw [List.range_succ, List.map_append, List.sum_append, List.map_singleton, List.sum_singleton]
    by_cases hy : y ≤ k
    · rw [sum_ones k y hy, if_neg (by omega)]; omega
    · have e : y = k + 1 := by omega
      subst e
      have : ((List.range k).map fun j => if j + 1 ≤ k + 1 then 1 else 0) = (List.range k).map fun j => if j + 1 ≤ k then 1 else 0 := List.map_congr_left fun j hj => by
        have := List.mem_range.mp hj
        rw [if_pos (by omega), if_pos (by omega)]
      rw [this, sum_ones k k (Nat.le_refl _), if_pos (Nat.le_refl _)]
theorem stood_chainOf {st : List Nat} {k p : Nat} {y : Nat} (hp : st[p]? = some y) (hy : y ≤ k) : stoodC (chainOf st k) p = y := by
  unfold stoodC chainOf
  rw [List.map_map]
  have : (List.range k).map ((fun l => bitAt l p) ∘ fun j => mask (leastIn st (j + 1))) = (List.range k).map fun j => if j + 1 ≤ y then 1 else 0 := List.map_congr_left fun j _ => by
    show bitAt (mask (leastIn st (j + 1))) p = _
    rw [mask_bitAt (least_lot _).1]
    have : p ∈ leastIn st (j + 1) ↔ j + 1 ≤ y := by
      rw [mem_leastIn]
      constructor
      · rintro ⟨z, h1, h2⟩
        rw [hp] at h1; cases h1; exact h2
      · intro h; exact ⟨y, hp, h⟩
    by_cases h : j + 1 ≤ y
    · rw [if_pos h, if_pos (this.mpr h)]
    · rw [if_neg h, if_neg fun q => h (this.mp q)]
  rw [this, sum_ones k y hy]
end Cb
set_option linter.all false
/-! Cb, the mathematics, part 16: levels of a log, lots of a chain. -/
namespace Cb
theorem lev_get {n : Nat} {log : Log} : ∀ {xs : List Q} {i : Nat} (hi : i < xs.length), (levelsAt n log xs)[2 * i]? = some (leastAt n log xs[i]) ∧ (levelsAt n log xs)[2 * i + 1]? = some (mostAt n log xs[i])
  | x :: xs, 0, _ => ⟨rfl, rfl⟩
  | x :: xs, i + 1, h => by
    have ih := lev_get (n := n) (log := log) (xs := xs) (i := i) (by simpa using h)
    have e : levelsAt n log (x :: xs) = leastAt n log x :: mostAt n log x :: levelsAt n log xs := rfl
    rw [e, show 2 * (i + 1) = 2 * i + 1 + 1 by omega, show 2 * i + 1 + 1 + 1 = (2 * i + 1) + 1 + 1 by omega]
    simp only [List.getElem?_cons_succ, List.getElem_cons_succ]
    exact ih
theorem levAt_len {n : Nat} {log : Log} : ∀ xs : List Q, (levelsAt n log xs).length = 2 * xs.length
  | [] => rfl
  | x :: xs => by
    have e : levelsAt n log (x :: xs) = leastAt n log x :: mostAt n log x :: levelsAt n log xs := rfl
    rw [e, List.length_cons, List.length_cons, levAt_len xs, List.length_cons]
    omega
theorem tabs_any {log : Log} {x : Q} {f : Tm → Bool} : (!((tabsAt log x).any f)) = true ↔ ∀ p ∈ log, p.2 = x → f p.1 = false := by
  rw [Bool.not_eq_true', List.any_eq_false]
  unfold tabsAt
  constructor
  · intro h p hp e
    have := h p.1 (List.mem_map.mpr ⟨p, List.mem_filter.mpr ⟨hp, decide_eq_true e⟩, rfl⟩)
    simpa using this
  · intro h t ht
    obtain ⟨p, hp, rfl⟩ := List.mem_map.mp ht
    obtain ⟨h1, h2⟩ := List.mem_filter.mp hp
    rw [h p h1 (of_decide_eq_true h2)]
    exact Bool.false_ne_true
theorem leastAt_mem {n : Nat} {log : Log} {x : Q} {l : Nat} : l ∈ leastAt n log x ↔ ∃ lot, IsLot n lot ∧ mask lot = l ∧ (∀ p ∈ log, p.2 = x → less (cor n p.1 lot) x = false) ∧ (x = (0, 1) → l = every n) := by
  unfold leastAt
  rw [List.mem_filter, lotsFor_mem]
  constructor
  · rintro ⟨⟨lot, h1, h2, h3⟩, h4⟩
    refine ⟨lot, h1, h3, tabs_any.mp h2, fun e => ?_⟩
    rw [decide_eq_true e] at h4
    exact of_decide_eq_true (by simpa using h4)
  · rintro ⟨lot, h1, h3, h2, h4⟩
    refine ⟨⟨lot, h1, tabs_any.mpr h2, h3⟩, ?_⟩
    by_cases e : x = (0, 1)
    · rw [decide_eq_true (h4 e), Bool.or_true]
    · rw [decide_eq_false e]; rfl
theorem mostAt_mem {n : Nat} {log : Log} {x : Q} {l : Nat} : l ∈ mostAt n log x ↔ ∃ lot, IsLot n lot ∧ mask lot = l ∧ (∀ p ∈ log, p.2 = x → less x (cor n p.1 lot) = false) ∧ (x = (1, 1) → l = 0) := by
  unfold mostAt
  rw [List.mem_filter, lotsFor_mem]
  constructor
  · rintro ⟨⟨lot, h1, h2, h3⟩, h4⟩
    refine ⟨lot, h1, h3, tabs_any.mp h2, fun e => ?_⟩
    rw [decide_eq_true e] at h4
    exact of_decide_eq_true (by simpa using h4)
  · rintro ⟨lot, h1, h3, h2, h4⟩
    refine ⟨⟨lot, h1, tabs_any.mpr h2, h3⟩, ?_⟩
    by_cases e : x = (1, 1)
    · rw [decide_eq_true (h4 e), Bool.or_true]
    · rw [decide_eq_false e]; rfl
theorem lot_ext {n : Nat} {l m : List Nat} (h1 : IsLot n l) (h2 : IsLot n m) (h : ∀ i, i ∈ l ↔ i ∈ m) : l = m := by
  have n1 : l.Nodup := h1.1.imp fun {a b} q => by omega
  have n2 : m.Nodup := h2.1.imp fun {a b} q => by omega
  exact List.Perm.eq_of_pairwise (le := (· < ·)) (fun a b _ _ x y => by omega) h1.1 h2.1 ((List.perm_ext_iff_of_nodup n1 n2).mpr h)
theorem range_lot (n : Nat) : IsLot n (List.range n) := ⟨List.pairwise_lt_range, fun x hx => List.mem_range.mp hx⟩
/-- where the bits of a chain break -/
theorem stood_bit {p : Nat} : ∀ {L : List (List Nat)} {c : List Nat} {j : Nat}, IsChain L c → (hj : j < c.length) → (j + 1 ≤ stoodC c p ↔ bitAt c[j] p = 1)
  | [], [], j, _, hj => by simp at hj
  | [], _ :: _, _, h, _ => h.elim
  | lots :: r, [], _, h, _ => h.elim
  | lots :: r, l :: c, 0, h, _ => by
    have e : stoodC (l :: c) p = bitAt l p + stoodC c p := by simp [stoodC]
    rw [List.getElem_cons_zero, e]
    have b := bit_lt l p
    by_cases h0 : bitAt l p = 0
    · rw [h0, suf_zero h.2.2 h.2.1 h0]; omega
    · omega
  | lots :: r, l :: c, j + 1, h, hj => by
    have e : stoodC (l :: c) p = bitAt l p + stoodC c p := by simp [stoodC]
    have ih := stood_bit (p := p) (L := r) (c := c) (j := j) h.2.2 (by simpa using hj)
    rw [List.getElem_cons_succ, ← ih, e]
    have b := bit_lt l p
    by_cases h0 : bitAt l p = 0
    · rw [h0, suf_zero h.2.2 h.2.1 h0]; omega
    · omega
/-- the places of a chain -/
def stOf (n : Nat) (c : List Nat) : List Nat := (List.range n).map (stoodC c)
theorem stOf_get {n : Nat} {c : List Nat} {p : Nat} (h : p < n) : (stOf n c)[p]? = some (stoodC c p) := by
  unfold stOf
  rw [List.getElem?_map, List.getElem?_range h]
  rfl
theorem stOf_len (n : Nat) (c : List Nat) : (stOf n c).length = n := by simp [stOf]
theorem leastIn_stOf {n : Nat} {L : List (List Nat)} {c : List Nat} {j : Nat} {lot : List Nat} (h : IsChain L c) (hj : j < c.length) (hl : IsLot n lot) (e : mask lot = c[j]) : leastIn (stOf n c) (j + 1) = lot := by
  have l1 : IsLot n (leastIn (stOf n c) (j + 1)) := by
    have := least_lot (st := stOf n c) (j + 1)
    rwa [stOf_len] at this
  refine lot_ext l1 hl fun p => ?_
  rw [mem_leastIn]
  have hb := stood_bit (p := p) h hj
  rw [← e, mask_bitAt hl.1] at hb
  constructor
  · rintro ⟨y, h1, h2⟩
    have hp : p < n := by
      have := List.getElem?_eq_some_iff.mp h1
      obtain ⟨w, _⟩ := this
      rwa [stOf_len] at w
    rw [stOf_get hp] at h1
    cases h1
    have := hb.mp h2
    apply Decidable.byContradiction
    intro hc
    rw [if_neg hc] at this
    cases this
  · intro hm
    exact ⟨_, stOf_get (hl.2 p hm), hb.mpr (by rw [if_pos hm])⟩
theorem chainOf_stOf {n : Nat} {L : List (List Nat)} {c : List Nat} (h : IsChain L c) (hm : ∀ j (hj : j < c.length), ∃ lot, IsLot n lot ∧ mask lot = c[j]) : chainOf (stOf n c) c.length = c := by
  refine List.ext_getElem (chainOf_len _ _) fun j h1 h2 => ?_
  obtain ⟨lot, hl, e⟩ := hm j h2
  rw [chainOf_get h1, leastIn_stOf h h2 hl e, e]
theorem stOf_chainOf {st : List Nat} {k : Nat} (h : ∀ y ∈ st, y ≤ k) : stOf st.length (chainOf st k) = st := by
  refine List.ext_getElem (stOf_len _ _) fun p h1 h2 => ?_
  have e := stood_chainOf (k := k) (List.getElem?_eq_getElem h2) (h _ (List.getElem_mem h2))
  exact (List.getElem_eq_iff h1).mpr (by rw [stOf_get h2, e])
end Cb
set_option linter.all false
/-! Cb, the mathematics, part 17: what fits by the law is what the chains say. -/
namespace Cb
section
variable {n : Nat} {log : Log}
theorem atOf_nth {ns : List Q} (nd : ns.Nodup) {i : Nat} (hi : i < ns.length) : atOf ns ns[i] = 2 * i + 1 := by
  unfold atOf
  rw [List.Nodup.idxOf_getElem nd i hi]
theorem nums_nodup (log : Log) : (nums log).Nodup := (srt_perm _).nodup_iff.mpr (uniqL_nodup _)
theorem zero_first (ok : LogOk n log) {i : Nat} (hi : i < (nums log).length) (e : (nums log)[i] = (0, 1)) : i = 0 := by
  apply Decidable.byContradiction
  intro h
  have h0 : 0 < (nums log).length := by omega
  have := List.pairwise_iff_getElem.mp (nums_lt ok) 0 i h0 hi (by omega)
  rw [e, toR_zero] at this
  have r := (nums_num ok _ (List.getElem_mem h0)).r0
  grind
theorem one_last (ok : LogOk n log) {i : Nat} (hi : i < (nums log).length) (e : (nums log)[i] = (1, 1)) : i = (nums log).length - 1 := by
  apply Decidable.byContradiction
  intro h
  have h0 : (nums log).length - 1 < (nums log).length := by omega
  have := List.pairwise_iff_getElem.mp (nums_lt ok) i _ hi h0 (by omega)
  rw [e, toR_one] at this
  have r := (nums_num ok _ (List.getElem_mem h0)).r1
  grind
theorem getD_lt {ns : List Q} {i : Nat} (h : i < ns.length) : ns.getD i (0, 1) = ns[i] := by
  rw [List.getD_eq_getElem?_getD, List.getElem?_eq_getElem h]
  rfl
theorem lev_len (n : Nat) (log : Log) : (levels n log).length = 2 * (nums log).length := levAt_len _
theorem lev_even {i : Nat} (hi : i < (nums log).length) (h : 2 * i < (levels n log).length) : (levels n log)[2 * i] = leastAt n log (nums log)[i] := by
  have := (lev_get (n := n) (log := log) hi).1
  exact (List.getElem_eq_iff h).mpr this
theorem lev_odd {i : Nat} (hi : i < (nums log).length) (h : 2 * i + 1 < (levels n log).length) : (levels n log)[2 * i + 1] = mostAt n log (nums log)[i] := by
  have := (lev_get (n := n) (log := log) hi).2
  exact (List.getElem_eq_iff h).mpr this
theorem fit_chain (ok : LogOk n log) {st : List Nat} (h : st ∈ lawFit n log) : IsChain (levels n log) (chainOf st (levels n log).length) ∧ stOf n (chainOf st (levels n log).length) = st := by
  obtain ⟨hl, ho, hh⟩ := (lawFit_mem ok).mp h
  have ne := nums_ne ok
  have ll := lev_len n log
  have hup : ∀ y ∈ st, y ≤ (levels n log).length := fun y hy => by
    have := (openL_mem.mp (ho y hy)).2
    unfold lastOpen at this
    omega
  refine ⟨chain_idx.mpr ⟨chainOf_len _ _, fun j h1 h2 => ?_, fun j h1 => chainOf_part h1⟩, ?_⟩
  · rw [chainOf_get h1]
    have lot : ∀ k, IsLot n (leastIn st k) := fun k => by
      have := least_lot (st := st) k
      rwa [hl] at this
    rcases Nat.mod_two_eq_zero_or_one j with hj | hj
    · obtain ⟨i, rfl⟩ : ∃ i, j = 2 * i := ⟨j / 2, by omega⟩
      have hi : i < (nums log).length := by omega
      rw [lev_even hi h2]
      refine leastAt_mem.mpr ⟨_, lot _, rfl, fun p hp e => ?_, fun e => ?_⟩
      · have := hh p hp
        rw [e, atOf_nth (nums_nodup log) hi] at this
        have := (Bool.and_eq_true_iff.mp this).2
        simpa using this
      · have hi0 := zero_first ok hi e
        subst hi0
        unfold every
        congr 1
        refine lot_ext (lot _) (range_lot n) fun p => ?_
        rw [mem_leastIn, List.mem_range]
        constructor
        · rintro ⟨y, h1, _⟩
          obtain ⟨w, _⟩ := List.getElem?_eq_some_iff.mp h1
          omega
        · intro hp
          have hp' : p < st.length := by omega
          refine ⟨st[p], List.getElem?_eq_getElem hp', ?_⟩
          have := (openL_mem.mp (ho _ (List.getElem_mem hp'))).1
          unfold firstOpen at this
          rw [getD_lt hi, e, if_pos rfl] at this
          omega
    · obtain ⟨i, rfl⟩ : ∃ i, j = 2 * i + 1 := ⟨j / 2, by omega⟩
      have hi : i < (nums log).length := by omega
      rw [lev_odd hi h2]
      refine mostAt_mem.mpr ⟨_, lot _, rfl, fun p hp e => ?_, fun e => ?_⟩
      · have := hh p hp
        rw [e, atOf_nth (nums_nodup log) hi] at this
        have := (Bool.and_eq_true_iff.mp this).1
        rw [moreAt_least] at this
        simpa using this
      · have hi0 := one_last ok hi e
        have : leastIn st (2 * i + 1 + 1) = [] := List.eq_nil_iff_forall_not_mem.mpr fun p hp => by
          obtain ⟨y, h1, h2⟩ := mem_leastIn.mp hp
          have := (openL_mem.mp (ho y (List.mem_of_getElem? h1))).2
          unfold lastOpen at this
          rw [← hi0, getD_lt hi, e, if_pos rfl] at this
          omega
        rw [this]
        rfl
  · have := stOf_chainOf hup
    rwa [hl] at this
theorem chain_lots (ok : LogOk n log) {c : List Nat} (h : IsChain (levels n log) c) : ∀ j (hj : j < c.length), ∃ lot, IsLot n lot ∧ mask lot = c[j] := fun j hj => by
  obtain ⟨h1, h2, _⟩ := chain_idx.mp h
  have ll := lev_len n log
  have hj' : j < (levels n log).length := by omega
  have := h2 j hj hj'
  rcases Nat.mod_two_eq_zero_or_one j with hm | hm
  · obtain ⟨i, rfl⟩ : ∃ i, j = 2 * i := ⟨j / 2, by omega⟩
    rw [lev_even (by omega) hj'] at this
    obtain ⟨lot, a, b, _⟩ := leastAt_mem.mp this
    exact ⟨lot, a, b⟩
  · obtain ⟨i, rfl⟩ : ∃ i, j = 2 * i + 1 := ⟨j / 2, by omega⟩
    rw [lev_odd (by omega) hj'] at this
    obtain ⟨lot, a, b, _⟩ := mostAt_mem.mp this
    exact ⟨lot, a, b⟩
theorem chain_fit (ok : LogOk n log) {c : List Nat} (h : IsChain (levels n log) c) : stOf n c ∈ lawFit n log ∧ chainOf (stOf n c) (levels n log).length = c := by
  obtain ⟨h1, h2, _⟩ := chain_idx.mp h
  have ll := lev_len n log
  have ne := nums_ne ok
  refine ⟨(lawFit_mem ok).mpr ⟨stOf_len _ _, fun y hy => openL_mem.mpr ⟨?_, ?_⟩, fun p hp => ?_⟩, by rw [← h1]; exact chainOf_stOf h (chain_lots ok h)⟩
  · obtain ⟨p, hp, rfl⟩ := List.mem_map.mp hy
    have hp' := List.mem_range.mp hp
    unfold firstOpen
    split
    · rename_i e
      have h0 : 0 < (nums log).length := by omega
      rw [getD_lt h0] at e
      have hc : 0 < c.length := by omega
      have := h2 0 hc (by omega)
      rw [show (levels n log)[0] = leastAt n log (nums log)[0] from lev_even h0 (by omega)] at this
      obtain ⟨lot, _, _, _, w⟩ := leastAt_mem.mp this
      refine (stood_bit h hc).mpr ?_
      rw [w e]
      unfold every
      rw [mask_bitAt (range_lot n).1, if_pos hp]
    · exact Nat.zero_le _
  · obtain ⟨p, hp, rfl⟩ := List.mem_map.mp hy
    have le := stoodC_le c p
    unfold lastOpen
    split
    · rename_i e
      have h0 : (nums log).length - 1 < (nums log).length := by omega
      rw [getD_lt h0] at e
      have hj : 2 * ((nums log).length - 1) + 1 < c.length := by omega
      have := h2 _ hj (by omega)
      rw [lev_odd h0 (by omega)] at this
      obtain ⟨lot, _, _, _, w⟩ := mostAt_mem.mp this
      have b := stood_bit (p := p) h hj
      rw [w e] at b
      have : ¬ bitAt 0 p = 1 := by unfold bitAt; simp
      have := fun z => this (b.mp z)
      omega
    · omega
  · have hm : p.2 ∈ nums log := nums_mem.mpr (List.mem_map.mpr ⟨p, hp, rfl⟩)
    obtain ⟨i, hi, e⟩ := List.getElem_of_mem hm
    rw [← e, atOf_nth (nums_nodup log) hi]
    unfold heldB
    have j0 : 2 * i < c.length := by omega
    have j1 : 2 * i + 1 < c.length := by omega
    have m0 := h2 _ j0 (by omega)
    have m1 := h2 _ j1 (by omega)
    rw [lev_even hi (by omega)] at m0
    rw [lev_odd hi (by omega)] at m1
    obtain ⟨lot0, a0, b0, c0, _⟩ := leastAt_mem.mp m0
    obtain ⟨lot1, a1, b1, c1, _⟩ := mostAt_mem.mp m1
    rw [moreAt_least, leastIn_stOf h j1 a1 b1, leastIn_stOf h j0 a0 b0, c0 p hp e.symm, c1 p hp e.symm]
    rfl
theorem openL_nodup (ns : List Q) : (openL ns).Nodup := by
  unfold openL
  rw [List.nodup_iff_pairwise_ne, List.pairwise_map]
  exact (List.nodup_iff_pairwise_ne.mp List.nodup_range).imp fun h e => h (by omega)
theorem lawFit_perm (ok : LogOk n log) : (lawFit n log).Perm ((chains (levels n log)).map (stOf n)) := by
  have lo := levOk ok
  refine (List.perm_ext_iff_of_nodup ?_ ?_).mpr fun st => ?_
  · unfold lawFit
    exact List.Nodup.sublist List.filter_sublist (tuplesF_nodup (openL_nodup _) n)
  · rw [List.nodup_iff_pairwise_ne, List.pairwise_map]
    refine List.pairwise_iff_forall_sublist.mpr fun {a b} hs e => ?_
    have ne := List.pairwise_iff_forall_sublist.mp (List.nodup_iff_pairwise_ne.mp (chains_nodup lo.nd)) hs
    have ha := (chain_fit ok (chains_mem.mp (hs.subset (a := a) (by simp)))).2
    have hb := (chain_fit ok (chains_mem.mp (hs.subset (a := b) (by simp)))).2
    exact ne (by rw [← ha, e, hb])
  · constructor
    · intro h
      obtain ⟨a, b⟩ := fit_chain ok h
      exact List.mem_map.mpr ⟨_, chains_mem.mpr a, b⟩
    · intro h
      obtain ⟨c, hc, rfl⟩ := List.mem_map.mp h
      exact (chain_fit ok (chains_mem.mp hc)).1
theorem many_fit (ok : LogOk n log) : manyPlaces (levels n log) = (lawFit n log).length := by
  have hl := lev_len n log
  have ne := nums_ne ok
  rw [(lawFit_perm ok).length_eq, List.length_map]
  cases e : levels n log with
  | nil => rw [e] at hl; simp at hl; omega
  | cons lots r => exact many_chains
theorem may_fit (ok : LogOk n log) {person place : Nat} (hp : person < n) : place ∈ mayStand (levels n log) person ↔ ∃ st ∈ lawFit n log, st[person]? = some place := by
  have hl := lev_len n log
  have ne := nums_ne ok
  unfold mayStand
  rw [List.mem_filter, List.mem_range]
  constructor
  · rintro ⟨h1, h2⟩
    obtain ⟨c, hc, e⟩ := (canStand_iff (by omega) (by omega)).mp h2
    exact ⟨_, (chain_fit ok hc).1, by rw [stOf_get hp, e]⟩
  · rintro ⟨st, hst, e⟩
    obtain ⟨a, b⟩ := fit_chain ok hst
    have es : stoodC (chainOf st (levels n log).length) person = place := by
      rw [← b, stOf_get hp] at e
      exact Option.some.inj e
    have le := stoodC_le (chainOf st (levels n log).length) person
    rw [chainOf_len] at le
    exact ⟨by omega, (canStand_iff (by omega) (by omega)).mpr ⟨_, a, es⟩⟩
theorem may_asc (L : List (List Nat)) (person : Nat) : (mayStand L person).Pairwise (· < ·) := List.Pairwise.filter _ List.pairwise_lt_range
end
end Cb
set_option linter.all false
/-! Cb, the mathematics, part 18: wishes that stand at places. -/
namespace Cb
theorem half_rat (x y : Rat) (h : x ≤ y) : x ≤ (x + y) * (1 / 2) ∧ (x + y) * (1 / 2) ≤ y := by
  constructor <;> grind
theorem halfQ_toR {x y : Q} (hx : 0 < x.2) (hy : 0 < y.2) : toR (halfQ x y) = (toR x + toR y) * (1 / 2) := by
  unfold halfQ
  rw [qmul_toR (qadd_frc hx hy).pos (by decide), qadd_toR hx hy]
  congr 1
  rw [toR_div]
  rfl
theorem halfQ_ok {b : Nat} {x y : Q} (hx : VOk b x) (hy : VOk b y) (h : toR x ≤ toR y) : VOk (b + b + 1) (halfQ x y) := by
  have e := halfQ_toR hx.num.pos hy.num.pos
  have f : Frc (halfQ x y) := qmul_frc (qadd_frc hx.num.pos hy.num.pos).pos (by decide)
  have r := half_rat _ _ h
  refine ⟨num_of f ?_ ?_, ?_⟩
  · rw [e]
    have := hx.num.r0
    grind
  · rw [e]
    have := hy.num.r1
    grind
  · have h1 : (qadd x y).2 ≤ 2 ^ (b + b) := by
      have := lowest_le (t := x.1 * y.2 + y.1 * x.2) (b := x.2 * y.2) (Int.mul_pos hx.num.pos hy.num.pos)
      exact Int.le_trans this (mul_le_pow (by have := hx.num.pos; omega) (by have := hy.num.pos; omega) hx.bot hy.bot)
    have hp := (qadd_frc hx.num.pos hy.num.pos).pos
    have := lowest_le (t := (qadd x y).1 * ((1, 2) : Q).1) (b := (qadd x y).2 * ((1, 2) : Q).2) (Int.mul_pos hp (by decide))
    exact Int.le_trans this (mul_le_pow (by omega) (by decide) h1 (by decide))
section
variable {n : Nat} {log : Log}
theorem wishAt_ok (ok : LogOk n log) {p : Nat} (hp : p ≤ 2 * (nums log).length) : VOk 2600 (wishAt (nums log) p) := by
  have nv : ∀ i (h : i < (nums log).length), VOk 1200 (nums log)[i] := fun i h => by
    obtain ⟨q, hq, e⟩ := List.mem_map.mp (nums_mem.mp (List.getElem_mem h))
    rw [← e]
    exact ok.ok q hq
  have z : VOk 2600 (0, 1) := VOk.mono (b := 0) ⟨num_zero, by decide⟩ (by decide)
  have o : VOk 2600 (1, 1) := VOk.mono (b := 0) ⟨num_one, by decide⟩ (by decide)
  unfold wishAt
  by_cases h1 : p % 2 = 1
  · rw [if_pos h1]
    have hi : p / 2 < (nums log).length := by omega
    rw [getD_lt hi]
    exact (nv _ hi).mono (by decide)
  · rw [if_neg h1]
    by_cases h2 : p / 2 = 0
    · rw [if_pos h2]; exact z
    · rw [if_neg h2]
      by_cases h3 : p / 2 = (nums log).length
      · rw [if_pos h3]; exact o
      · rw [if_neg h3]
        have ha : p / 2 - 1 < (nums log).length := by omega
        have hb : p / 2 < (nums log).length := by omega
        rw [getD_lt ha, getD_lt hb]
        have lt := List.pairwise_iff_getElem.mp (nums_lt ok) _ _ ha hb (by omega)
        exact (halfQ_ok (nv _ ha) (nv _ hb) (by grind)).mono (by decide)
theorem placeOf_le (ok : LogOk n log) {y : Q} (hy : Num y) : placeOf (nums log) y ≤ 2 * (nums log).length := by
  have := (openL_mem.mp (place_open (nums_lt ok) (nums_num ok) hy (nums_ne ok))).2
  unfold lastOpen at this
  omega
theorem place_wish (ok : LogOk n log) {p : Nat} (hp : p ∈ openL (nums log)) : placeOf (nums log) (wishAt (nums log) p) = p := by
  obtain ⟨o1, o2⟩ := openL_mem.mp hp
  have ne := nums_ne ok
  have ls := nums_lt ok
  have nf : ∀ z ∈ nums log, Frc z := fun z hz => (nums_num ok z hz).frc
  have p2 : p ≤ 2 * (nums log).length := by unfold lastOpen at o2; omega
  have vo := (wishAt_ok ok p2).num
  have le := placeOf_le ok vo
  by_cases h1 : p % 2 = 1
  · have hi : p / 2 < (nums log).length := by omega
    have ew : wishAt (nums log) p = (nums log)[p / 2] := by unfold wishAt; rw [if_pos h1, getD_lt hi]
    have a := place_more ls nf vo.frc hi
    have b := place_least ls nf vo.frc hi
    rw [ew] at a b ⊢
    have b' := b.mpr Rat.le_refl
    have a' : ¬ 2 * (p / 2) + 1 < placeOf (nums log) (nums log)[p / 2] := fun z => by
      have := a.mp z
      grind
    omega
  · by_cases h2 : p / 2 = 0
    · have p0 : p = 0 := by omega
      subst p0
      have ew : wishAt (nums log) 0 = (0, 1) := by unfold wishAt; rfl
      have hi : 0 < (nums log).length := by omega
      have b := place_least ls nf vo.frc hi
      rw [ew] at b ⊢
      have n0 : (nums log)[0] ≠ (0, 1) := fun e => by
        unfold firstOpen at o1
        rw [getD_lt hi, if_pos e] at o1
        omega
      have : ¬ 2 * 0 + 1 ≤ placeOf (nums log) (0, 1) := fun z => by
        have h := b.mp z
        rw [toR_zero] at h
        have h0 := (nums_num ok _ (List.getElem_mem hi)).r0
        exact n0 (toR_inj (nf _ (List.getElem_mem hi)) num_zero.frc (by rw [toR_zero]; grind))
      omega
    · have ha : p / 2 - 1 < (nums log).length := by omega
      have a := place_more ls nf vo.frc ha
      by_cases h3 : p / 2 = (nums log).length
      · have ew : wishAt (nums log) p = (1, 1) := by unfold wishAt; rw [if_neg h1, if_neg h2, if_pos h3]
        rw [ew] at a le ⊢
        have n1 : (nums log)[p / 2 - 1] ≠ (1, 1) := fun e => by
          unfold lastOpen at o2
          have : (nums log).getD ((nums log).length - 1) (0, 1) = (1, 1) := by rw [← h3, getD_lt ha]; exact e
          rw [if_pos this] at o2
          omega
        have h5 := (nums_num ok _ (List.getElem_mem ha)).r1
        have ne1 : toR (nums log)[p / 2 - 1] ≠ 1 := fun e => n1 (toR_inj (nf _ (List.getElem_mem ha)) num_one.frc (by rw [toR_one]; exact e))
        have := a.mpr (by rw [toR_one]; grind)
        omega
      · have hb : p / 2 < (nums log).length := by omega
        have ew : wishAt (nums log) p = halfQ (nums log)[p / 2 - 1] (nums log)[p / 2] := by unfold wishAt; rw [if_neg h1, if_neg h2, if_neg h3, getD_lt ha, getD_lt hb]
        have b := place_least ls nf vo.frc hb
        have e := halfQ_toR (nf _ (List.getElem_mem ha)).pos (nf _ (List.getElem_mem hb)).pos
        have lt := List.pairwise_iff_getElem.mp ls _ _ ha hb (by omega)
        rw [ew, e] at a b
        rw [ew] at le ⊢
        have h7 := a.mpr (by grind)
        have h8 : ¬ 2 * (p / 2) + 1 ≤ placeOf (nums log) (halfQ (nums log)[p / 2 - 1] (nums log)[p / 2]) := fun z => by
          have := b.mp z
          grind
        omega
theorem fitting_none (n : Nat) (ok : LogOk n log) : fitting n log = none ↔ lawFit n log = [] := by
  have e := (lawFit_perm ok).length_eq
  rw [List.length_map] at e
  have h1 : chains (levels n log) = [] ↔ lawFit n log = [] := by
    rw [← List.length_eq_zero_iff, ← List.length_eq_zero_iff, e]
  rw [← h1, ← first_none]
  unfold fitting
  rw [Option.map_eq_none_iff]
theorem fitting_some (ok : LogOk n log) {b : List Q} (h : fitting n log = some b) : WOk n b ∧ b.map (placeOf (nums log)) ∈ lawFit n log := by
  unfold fitting at h
  obtain ⟨way, hw, rfl⟩ := Option.map_eq_some_iff.mp h
  have hc := chains_mem.mp (first_some hw)
  obtain ⟨f1, f2⟩ := chain_fit ok hc
  obtain ⟨l1, o1, _⟩ := (lawFit_mem ok).mp f1
  have e : ((List.range n).map fun p => wishAt (nums log) ((way.map fun l => bitAt l p).sum)) = (stOf n way).map (wishAt (nums log)) := by
    unfold stOf
    rw [List.map_map]
    rfl
  rw [e]
  have em : ((stOf n way).map (wishAt (nums log))).map (placeOf (nums log)) = stOf n way := by
    rw [List.map_map]
    refine (List.map_congr_left fun y hy => ?_).trans (List.map_id _)
    exact place_wish ok (o1 y hy)
  refine ⟨⟨by rw [List.length_map, stOf_len], fun q hq => ?_⟩, by rw [em]; exact f1⟩
  obtain ⟨y, hy, rfl⟩ := List.mem_map.mp hq
  have := (openL_mem.mp (o1 y hy)).2
  exact wishAt_ok ok (by unfold lastOpen at this; omega)
end
end Cb
set_option linter.all false
/-! Cb, the mathematics, part 19: logs that the law makes. -/
namespace Cb
theorem outc_vok {n : Nat} {t : Tm} {w : List Q} (rt : RT n t) (hw : ∀ x ∈ w, VOk 1200 x) : VOk 1200 (outc n t w) := by
  have hm : outc n t w ∈ cor n t [] :: w.map (heldAt n t w) := nth_mem (by simp)
  rcases List.mem_cons.mp hm with e | e
  · rw [e]; exact cor_ok rt.wt rt.cnt _
  · obtain ⟨y, hy, e⟩ := List.mem_map.mp e
    rw [← e]
    rcases heldAt_mem (n := n) (t := t) (w := w) (x := y) with q | q
    · rw [q]; exact cor_ok rt.wt rt.cnt _
    · rw [q]; exact hw y hy
theorem zip_ok {n : Nat} {ts : List Tm} {xs : List Q} (n1 : 1 ≤ n) (n6 : n ≤ 6) (hl : ts.length = xs.length) (l1 : 1 ≤ ts.length) (l4 : ts.length ≤ 4) (few : (2 * ts.length + 1) ^ n ≤ 729) (rt : ∀ t ∈ ts, RT n t) (ok : ∀ x ∈ xs, VOk 1200 x) : LogOk n (ts.zip xs) := by
  have e : (ts.zip xs).length = ts.length := by rw [List.length_zip]; omega
  refine ⟨n1, n6, by omega, by omega, by rw [e]; exact few, fun p hp => rt _ (List.of_mem_zip hp).1, fun p hp => ok _ (List.of_mem_zip hp).2⟩
theorem zip_fst {α : Type} {ts : List Tm} {xs : List Q} (hl : ts.length = xs.length) (f : Tm → α) : (ts.zip xs).map (fun p => f p.1) = ts.map f := by
  have : (ts.zip xs).map Prod.fst = ts := List.map_fst_zip (by omega)
  have e : (ts.zip xs).map (fun p => f p.1) = ((ts.zip xs).map Prod.fst).map f := by rw [List.map_map]; rfl
  rw [e, this]
theorem zip_snd {α : Type} {ts : List Tm} {xs : List Q} (hl : ts.length = xs.length) (f : Q → α) : (ts.zip xs).map (fun p => f p.2) = xs.map f := by
  have : (ts.zip xs).map Prod.snd = xs := List.map_snd_zip (by omega)
  have e : (ts.zip xs).map (fun p => f p.2) = ((ts.zip xs).map Prod.snd).map f := by rw [List.map_map]; rfl
  rw [e, this]
/-- how many people, how many rules -/
theorem few_many {n m : Nat} (h : (n ≤ 3 ∧ m ≤ 4) ∨ (n = 4 ∧ m ≤ 2) ∨ (n ≤ 6 ∧ m ≤ 1)) : (2 * m + 1) ^ n ≤ 729 := by
  have mono : ∀ a b : Nat, 2 * m + 1 ≤ a → n ≤ b → 1 ≤ a → (2 * m + 1) ^ n ≤ a ^ b := fun a b h1 h2 h3 =>
    Nat.le_trans (Nat.pow_le_pow_left h1 n) (Nat.pow_le_pow_right h3 h2)
  rcases h with ⟨h1, h2⟩ | ⟨h1, h2⟩ | ⟨h1, h2⟩
  · exact mono 9 3 (by omega) h1 (by decide)
  · exact Nat.le_trans (mono 5 4 (by omega) (by omega) (by decide)) (by decide)
  · exact mono 3 6 (by omega) h1 (by decide)
theorem fits_eq {n : Nat} {log : Log} {w : List Q} (ok : LogOk n log) (hw : WOk n w) : doFit n log w = decide (w.map (placeOf (nums log)) ∈ lawFit n log) := by
  rw [doFit_eq ok hw, fit_iff ok hw]
end Cb
set_option Elab.async false
set_option linter.all false
set_option maxRecDepth 100000
set_option maxHeartbeats 4000000
/-! Cb, the layer: values that stand for data, what evaluates to which data, promises over data. -/
namespace Cb
open PySem PySem.Spec PyProof.Rows L2 Evl

def topS (i : Nat) : Stmt := PySem.Challenge.pw_cornerbids_k37_whole_logs_by_all_places.main.body.getD i (.Pass ⟨0, 0, 0, 0⟩)

/-! ### data that no store changes -/
mutual
def im : PyData → Bool
  | .list _ => false
  | .dict _ => false
  | .tuple xs => imAll xs
  | .none => true
  | .bool _ => true
  | .int _ => true
  | .str _ => true
def imAll : List PyData → Bool
  | [] => true
  | x :: xs => im x && imAll xs
end
def Tx (H H' : Hp) : Prop := ∀ b xs, Rd H b (.tup xs) → Rd H' b (.tup xs)
section
variable {K : PySem.W.Frag} {H H' : Hp}
theorem Tx.of (e : Ex H H') : Tx H H' := fun b xs h => ex_rd e h
theorem Tx.trans {H1 H2 H3 : Hp} (a : Tx H1 H2) (b : Tx H2 H3) : Tx H1 H3 := fun c xs h => b c xs (a c xs h)
/-- what stood at p was no tuple -/
def noTup : HO → Bool
  | .tup _ => false
  | .frz _ _ => false
  | _ => true
theorem Tx.upd {p : Addr} {o u : HO} (h : H p = some u) (hu : noTup u = true) : Tx H (L2.upd H p o) := fun b xs r => by
  have ne : b ≠ p := fun q => by
    subst q
    rcases r with r | ⟨z, r⟩
    · rw [h] at r; cases r; cases hu
    · rw [h] at r; cases r; cases hu
  rcases r with r | ⟨z, r⟩
  · exact .inl (by rw [upd_ne ne]; exact r)
  · exact .inr ⟨z, by rw [upd_ne ne]; exact r⟩
theorem sqt_tx {a : Addr} {xs : List V} (e : Tx H H') (h : SqT K H a xs) : SqT K H' a xs := by
  rcases h with h | h
  · exact .inl (e a xs h)
  · exact .inr h
mutual
theorem dp_ex (e : Ex H H') : ∀ {v : V} {d : PyData}, Dp K H v d → Dp K H' v d
  | _, _, .non => .non
  | _, _, .bl b => .bl b
  | _, _, .int i => .int i
  | _, _, .str x => .str x
  | _, _, .lst h hs => .lst (ex_l e h) (dpa_ex e hs)
  | _, _, .tup h hs => .tup (ex_t e h) (dpa_ex e hs)
theorem dpa_ex (e : Ex H H') : ∀ {vs : List V} {ds : List PyData}, DpAll K H vs ds → DpAll K H' vs ds
  | _, _, .nil => .nil
  | _, _, .cons h hs => .cons (dp_ex e h) (dpa_ex e hs)
end
mutual
theorem dp_tx (e : Tx H H') : ∀ {v : V} {d : PyData}, Dp K H v d → im d = true → Dp K H' v d
  | _, _, .non, _ => .non
  | _, _, .bl b, _ => .bl b
  | _, _, .int i, _ => .int i
  | _, _, .str x, _ => .str x
  | _, _, .lst h hs, m => by simp [im] at m
  | _, _, .tup h hs, m => .tup (sqt_tx e h) (dpa_tx e hs (by simpa [im] using m))
theorem dpa_tx (e : Tx H H') : ∀ {vs : List V} {ds : List PyData}, DpAll K H vs ds → imAll ds = true → DpAll K H' vs ds
  | _, _, .nil, _ => .nil
  | _, _, .cons h hs, m => by
    simp only [imAll, Bool.and_eq_true] at m
    exact .cons (dp_tx e h m.1) (dpa_tx e hs m.2)
end
/-! ### lists of data -/
theorem dpa_len : ∀ {vs : List V} {ds : List PyData}, DpAll K H vs ds → vs.length = ds.length
  | _, _, .nil => rfl
  | _, _, .cons _ h => by simp [dpa_len h]
theorem dpa_get : ∀ {vs : List V} {ds : List PyData} {i : Nat} {v : V}, DpAll K H vs ds → vs[i]? = some v → ∃ d, ds[i]? = some d ∧ Dp K H v d
  | _, _, _, _, .nil, e => by simp at e
  | _, _, 0, _, .cons h _, e => by simp at e; subst e; exact ⟨_, rfl, h⟩
  | _, _, i + 1, _, .cons _ h, e => by
    obtain ⟨d, h1, h2⟩ := dpa_get (i := i) h (by simpa using e)
    exact ⟨d, by simpa using h1, h2⟩
theorem dpa_at : ∀ {vs : List V} {ds : List PyData} {i : Nat} {d : PyData}, DpAll K H vs ds → ds[i]? = some d → ∃ v, vs[i]? = some v ∧ Dp K H v d
  | _, _, _, _, .nil, e => by simp at e
  | _, _, 0, _, .cons h _, e => by simp at e; subst e; exact ⟨_, rfl, h⟩
  | _, _, i + 1, _, .cons _ h, e => by
    obtain ⟨d, h1, h2⟩ := dpa_at (i := i) h (by simpa using e)
    exact ⟨d, by simpa using h1, h2⟩
theorem dpa_app : ∀ {vs ws : List V} {ds es : List PyData}, DpAll K H vs ds → DpAll K H ws es → DpAll K H (vs ++ ws) (ds ++ es)
  | _, _, _, _, .nil, h => h
  | _, _, _, _, .cons a b, h => .cons a (dpa_app b h)
theorem dpa_one {v : V} {d : PyData} (h : Dp K H v d) : DpAll K H [v] [d] := .cons h .nil
theorem dpa_drop : ∀ (n : Nat) {vs : List V} {ds : List PyData}, DpAll K H vs ds → DpAll K H (vs.drop n) (ds.drop n)
  | 0, _, _, h => h
  | n + 1, _, _, .nil => .nil
  | n + 1, _, _, .cons _ h => dpa_drop n h
theorem dpa_take : ∀ (n : Nat) {vs : List V} {ds : List PyData}, DpAll K H vs ds → DpAll K H (vs.take n) (ds.take n)
  | 0, _, _, _ => .nil
  | n + 1, _, _, .nil => .nil
  | n + 1, _, _, .cons a h => .cons a (dpa_take n h)
theorem dpa_set : ∀ {vs : List V} {ds : List PyData} {v : V} {d : PyData} (n : Nat), DpAll K H vs ds → Dp K H v d → DpAll K H (vs.set n v) (ds.set n d)
  | _, _, _, _, _, .nil, _ => .nil
  | _, _, _, _, 0, .cons _ t, h => .cons h t
  | _, _, _, _, n + 1, .cons a t, h => .cons a (dpa_set n t h)
theorem dpa_ints : ∀ {vs : List V} {ns : List Int}, DpAll K H vs (ns.map PyData.int) → vs = ns.map V.int
  | _, [], .nil => rfl
  | _, n :: ns, .cons (.int _) h => by rw [dpa_ints h]; rfl
theorem dpa_bools : ∀ {vs : List V} {ns : List Bool}, DpAll K H vs (ns.map PyData.bool) → vs = ns.map V.bl
  | _, [], .nil => rfl
  | _, n :: ns, .cons (.bl _) h => by rw [dpa_bools h]; rfl
theorem dpa_ofints : ∀ (ns : List Int), DpAll K H (ns.map V.int) (ns.map PyData.int)
  | [] => .nil
  | n :: ns => .cons (.int n) (dpa_ofints ns)
theorem dpa_flat {vs : List V} {ns : List Int} (h : DpAll K H vs (ns.map PyData.int)) : vs.all flatV = true := by
  rw [dpa_ints h]
  simp [flatV]
theorem dp_int {v : V} {i : Int} (h : Dp K H v (.int i)) : v = .int i := by cases h; rfl
theorem dp_bl {v : V} {i : Bool} (h : Dp K H v (.bool i)) : v = .bl i := by cases h; rfl
theorem dp_str {v : V} {i : Str} (h : Dp K H v (.str i)) : v = .str i := by cases h; rfl
theorem dp_tup {v : V} {ds : List PyData} (h : Dp K H v (.tuple ds)) : ∃ a xs, v = .ref a ∧ SqT K H a xs ∧ DpAll K H xs ds := by
  cases h with
  | tup h1 h2 => exact ⟨_, _, rfl, h1, h2⟩
theorem dp_lst {v : V} {ds : List PyData} (h : Dp K H v (.list ds)) : ∃ a xs, v = .ref a ∧ SqL K H a xs ∧ DpAll K H xs ds := by
  cases h with
  | lst h1 h2 => exact ⟨_, _, rfl, h1, h2⟩
theorem dpa1 {vs : List V} {a : PyData} (h : DpAll K H vs [a]) : ∃ u, vs = [u] ∧ Dp K H u a := by
  cases h with
  | cons h1 h => cases h; exact ⟨_, rfl, h1⟩
theorem dpa2 {vs : List V} {a b : PyData} (h : DpAll K H vs [a, b]) : ∃ u v, vs = [u, v] ∧ Dp K H u a ∧ Dp K H v b := by
  cases h with
  | cons h1 h =>
    obtain ⟨v, rfl, h2⟩ := dpa1 h
    exact ⟨_, _, rfl, h1, h2⟩
theorem dpa3 {vs : List V} {a b c : PyData} (h : DpAll K H vs [a, b, c]) : ∃ u v x, vs = [u, v, x] ∧ Dp K H u a ∧ Dp K H v b ∧ Dp K H x c := by
  cases h with
  | cons h1 h =>
    obtain ⟨v, x, rfl, h2, h3⟩ := dpa2 h
    exact ⟨_, _, _, rfl, h1, h2, h3⟩
theorem dpa4 {vs : List V} {a b c d : PyData} (h : DpAll K H vs [a, b, c, d]) : ∃ u v x y, vs = [u, v, x, y] ∧ Dp K H u a ∧ Dp K H v b ∧ Dp K H x c ∧ Dp K H y d := by
  cases h with
  | cons h1 h =>
    obtain ⟨v, x, y, rfl, h2, h3, h4⟩ := dpa3 h
    exact ⟨_, _, _, _, rfl, h1, h2, h3, h4⟩
/-- a list's place in a changed heap -/
theorem dp_newL {p : Addr} {vs : List V} {ds : List PyData} (h : H p = some (.lst vs)) (hs : DpAll K H vs ds) : Dp K H (.ref p) (.list ds) := .lst (.inl (.inl h)) hs
theorem dp_newT {p : Addr} {vs : List V} {ds : List PyData} (h : H p = some (.tup vs)) (hs : DpAll K H vs ds) : Dp K H (.ref p) (.tuple ds) := .tup (.inl (.inl h)) hs
/-- the items of a list that is changed, all immutable -/
theorem dpa_mut {p : Addr} {o u : HO} {vs : List V} {ds : List PyData} (hs : DpAll K H vs ds) (hm : imAll ds = true) (h : H p = some u) (hu : noTup u = true) : DpAll K (upd H p o) vs ds := dpa_tx (Tx.upd h hu) hs hm
theorem dp_mut {p : Addr} {o u : HO} {v : V} {d : PyData} (hs : Dp K H v d) (hm : im d = true) (h : H p = some u) (hu : noTup u = true) : Dp K (upd H p o) v d := dp_tx (Tx.upd h hu) hs hm
end
theorem imAll_of : ∀ {ds : List PyData}, (∀ d ∈ ds, im d = true) → imAll ds = true
  | [], _ => by simp [imAll]
  | d :: ds, h => by
    simp only [imAll, Bool.and_eq_true]
    exact ⟨h d (by simp), imAll_of fun e he => h e (by simp [he])⟩
theorem imAll_map {α : Type} (f : α → PyData) (h : ∀ x, im (f x) = true) (xs : List α) : imAll (xs.map f) = true := imAll_of fun d hd => by
  obtain ⟨x, _, rfl⟩ := List.mem_map.mp hd
  exact h x
theorem imAll_app {ds es : List PyData} (h1 : imAll ds = true) (h2 : imAll es = true) : imAll (ds ++ es) = true := by
  induction ds with
  | nil => exact h2
  | cons d ds ih =>
    simp only [imAll, List.cons_append, Bool.and_eq_true] at h1 ⊢
    exact ⟨h1.1, ih h1.2⟩
/-! ### data that may be compared -/
mutual
def dep : PyData → Nat
  | .list xs => depAll xs + 1
  | .tuple xs => depAll xs + 1
  | .none => 0
  | .bool _ => 0
  | .int _ => 0
  | .str _ => 0
  | .dict _ => 0
def depAll : List PyData → Nat
  | [] => 0
  | x :: xs => max (dep x) (depAll xs)
end
end Cb
set_option Elab.async false
set_option linter.all false
set_option maxRecDepth 100000
set_option maxHeartbeats 4000000
/-! Cb, the layer: what evaluates to which data. -/
namespace Cb
open PySem PySem.Spec PyProof.Rows L2 Evl

/-- an expression's value, told by a word that stands when the heap grows -/
def Evr (te : TE) (σ : L2.St) (H : Hp) (R : V → Hp → Prop) : Prop := ∀ H1, Ex H H1 → ∀ Q : VK, (∀ v H2, Ex H1 H2 → R v H2 → Q v H2) → te σ H1 Q
/-- an expression's value stands for data -/
abbrev Eva (K : PySem.W.Frag) (te : TE) (σ : L2.St) (H : Hp) (d : PyData) : Prop := Evr te σ H fun v H' => Dp K H' v d
def EvaA (K : PySem.W.Frag) (ta : TA) (σ : L2.St) (H : Hp) (ds : List PyData) : Prop := ∀ H1, Ex H H1 → ∀ Q : List V → Hp → Prop, (∀ vs H2, Ex H1 H2 → DpAll K H2 vs ds → Q vs H2) → ta σ H1 Q
/-- the heap without p -/
def er (H : Hp) (p : Addr) : Hp := fun a => if a = p then none else H a
/-- a new list -/
def EvaL (K : PySem.W.Frag) (te : TE) (σ : L2.St) (H : Hp) (ds : List PyData) : Prop := ∀ H1, Ex H H1 → ∀ Q : VK, (∀ p vs H2, H1 p = none → Ex H1 H2 → H2 p = some (.lst vs) → DpAll K (er H2 p) vs ds → Q (.ref p) H2) → te σ H1 Q

section
variable {K : PySem.W.Frag} {σ : L2.St} {H H' : Hp} {p : Addr} {ta tb tc te : TE} {t u : TT} {a b c d : PyData} {ds es : List PyData}
theorem er_self : er H p p = none := by unfold er; rw [if_pos rfl]
theorem er_ne {q : Addr} (h : q ≠ p) : er H p q = H q := by unfold er; rw [if_neg h]
theorem er_ex : Ex (er H p) H := fun q o h => by
  by_cases e : q = p
  · rw [e, er_self] at h; cases h
  · rw [er_ne e] at h; exact h
theorem er_mono (e : Ex H H') : Ex (er H p) (er H' p) := fun q o h => by
  by_cases z : q = p
  · rw [z, er_self] at h; cases h
  · rw [er_ne z] at h ⊢; exact e q o h
theorem ex_er (e : Ex H H') (h : H p = none) : Ex H (er H' p) := fun q o z => by
  have n : q ≠ p := ne_of_none z h
  rw [er_ne n]; exact e q o z
theorem er_upd {o : HO} : er (upd H p o) p = er H p := by
  funext q
  unfold er
  split
  · rfl
  · rw [upd_ne (by assumption)]
/-- immutable data do without a list -/
theorem tx_er {o : HO} (h : H p = some o) (ho : noTup o = true) : Tx H (er H p) := fun b xs r => by
  have ne : b ≠ p := fun q => by
    subst q
    rcases r with r | ⟨z, r⟩
    · rw [h] at r; cases r; cases ho
    · rw [h] at r; cases r; cases ho
  rcases r with r | ⟨z, r⟩
  · exact .inl (by rw [er_ne ne]; exact r)
  · exact .inr ⟨z, by rw [er_ne ne]; exact r⟩
theorem ex_upd_new {o : HO} (h : H p = none) : Ex H (upd H p o) := Ex.new h

theorem Evr.mono {R : V → Hp → Prop} (e : Ex H H') (h : Evr te σ H R) : Evr te σ H' R := fun H1 a Q q => h H1 (e.trans a) Q q
theorem Evr.imp {R S : V → Hp → Prop} (h : Evr te σ H R) (i : ∀ v H', Ex H H' → R v H' → S v H') : Evr te σ H S := fun H1 e Q q => h H1 e Q fun v H2 e2 r => q v H2 e2 (i v H2 (e.trans e2) r)
theorem EvaA.mono (e : Ex H H') (h : EvaA K t' σ H ds) : EvaA K t' σ H' ds := fun H1 a Q q => h H1 (e.trans a) Q q
theorem EvaL.mono (e : Ex H H') (h : EvaL K te σ H ds) : EvaL K te σ H' ds := fun H1 a Q q => h H1 (e.trans a) Q q
theorem EvaL.eva (h : EvaL K te σ H ds) : Eva K te σ H (.list ds) := fun H1 e Q q => h H1 e Q fun p vs H2 _ e2 hp hd => q _ H2 e2 (dp_newL hp (dpa_ex er_ex hd))
theorem eva_is (h : Eva K te σ H a) (e : a = b) : Eva K te σ H b := e ▸ h
theorem EvaL.is (h : EvaL K te σ H ds) (e : ds = es) : EvaL K te σ H es := e ▸ h
theorem evt_is {k j : Bool} (h : EvT t σ H k) (e : k = j) : EvT t σ H j := e ▸ h
/-! ### names and constants -/
theorem eva_var {i : Nat} {v : V} (hv : σ[i]? = some (some v)) (h : Dp K H v d) : Eva K (tVar i) σ H d := fun H1 e Q q => ⟨v, hv, q v H1 (Ex.refl _) (dp_ex e h)⟩
theorem eva_c {v : V} (h : Dp K H v d) : Eva K (tC v) σ H d := fun H1 e Q q => q v H1 (Ex.refl _) (dp_ex e h)
theorem eva_int {i : Int} : Eva K (tC (.int i)) σ H (.int i) := eva_c (.int i)
theorem eva_str {i : Str} : Eva K (tC (.str i)) σ H (.str i) := eva_c (.str i)
theorem eva_bl {i : Bool} : Eva K (tC (.bl i)) σ H (.bool i) := eva_c (.bl i)
theorem eva_non : Eva K (tC .non) σ H .none := eva_c .non
/-! ### two places, one place, by what the values stand for -/
theorem eva_opR {r : R2} {R : V → Hp → Prop} (ha : Eva K ta σ H a) (hb : Eva K tb σ H b)
    (hr : ∀ x y H1, Ex H H1 → Dp K H1 x a → Dp K H1 y b → ∀ Q : VK, (∀ v H2, Ex H1 H2 → R v H2 → Q v H2) → r x y H1 Q) : Evr (tOp r ta tb) σ H R := fun H1 e Q q =>
  ha H1 e _ fun x H2 e2 dx => hb H2 (e.trans e2) _ fun y H3 e3 dy => hr x y H3 ((e.trans e2).trans e3) (dp_ex e3 dx) dy Q fun v H4 e4 r => q v H4 ((e2.trans e3).trans e4) r
theorem eva_opV {r : R2} {z : V} (ha : Eva K ta σ H a) (hb : Eva K tb σ H b) (hz : ∀ H', Dp K H' z d)
    (hr : ∀ x y H1, Ex H H1 → Dp K H1 x a → Dp K H1 y b → ∀ Q : VK, Q z H1 → r x y H1 Q) : Eva K (tOp r ta tb) σ H d :=
  eva_opR ha hb fun x y H1 e dx dy Q q => hr x y H1 e dx dy Q (q z H1 (Ex.refl _) (hz H1))
section
variable {i j : Int}
theorem eva_I0 {g : Int → Int → Int} (ha : Eva K ta σ H (.int i)) (hb : Eva K tb σ H (.int j)) : Eva K (tOp (rI0 fun i j => .int (g i j)) ta tb) σ H (.int (g i j)) :=
  eva_opV ha hb (fun _ => .int _) fun x y H1 _ dx dy Q q => ⟨i, j, dp_int dx, dp_int dy, q⟩
theorem eva_B0 {g : Int → Int → Bool} (ha : Eva K ta σ H (.int i)) (hb : Eva K tb σ H (.int j)) : Eva K (tOp (rI0 fun i j => .bl (g i j)) ta tb) σ H (.bool (g i j)) :=
  eva_opV ha hb (fun _ => .bl _) fun x y H1 _ dx dy Q q => ⟨i, j, dp_int dx, dp_int dy, q⟩
theorem eva_I {C : Int → Int → Prop} {g : Int → Int → Int} (ha : Eva K ta σ H (.int i)) (hb : Eva K tb σ H (.int j)) (hc : C i j) : Eva K (tOp (rI C fun i j => .int (g i j)) ta tb) σ H (.int (g i j)) :=
  eva_opV ha hb (fun _ => .int _) fun x y H1 _ dx dy Q q => ⟨i, j, dp_int dx, dp_int dy, hc, q⟩
theorem eva_neg (ha : Eva K ta σ H (.int i)) : Eva K (tUn (rU fun i => .int (-i)) ta) σ H (.int (-i)) := fun H1 e Q q =>
  ha H1 e _ fun x H2 e2 dx => ⟨i, dp_int dx, q _ H2 e2 (.int _)⟩
end
theorem eva_eqD (ha : Eva K ta σ H a) (hb : Eva K tb σ H b) (sa : SeqAt.shaped a = true) (sb : SeqAt.shaped b = true) : Eva K (tOp (rEqD K) ta tb) σ H (.bool (PyData.eqv a b)) :=
  eva_opV ha hb (fun _ => .bl _) fun x y H1 _ dx dy Q q => ⟨a, b, dx, dy, sa, sb, q⟩
theorem eva_neD (ha : Eva K ta σ H a) (hb : Eva K tb σ H b) (sa : SeqAt.shaped a = true) (sb : SeqAt.shaped b = true) : Eva K (tOp (rNeD K) ta tb) σ H (.bool (!PyData.eqv a b)) :=
  eva_opV ha hb (fun _ => .bl _) fun x y H1 _ dx dy Q q => ⟨a, b, dx, dy, sa, sb, q⟩
theorem eva_inD (ha : Eva K ta σ H a) (hb : Eva K tb σ H (.list ds)) (sa : SeqAt.shaped a = true) (sb : SeqAt.shaped (.list ds) = true) : Eva K (tOp (rInD K) ta tb) σ H (.bool (ds.any fun z => PyData.eqv z a)) :=
  eva_opV ha hb (fun _ => .bl _) fun x y H1 _ dx dy Q q => ⟨a, ds, dx, dy, sa, sb, q⟩
theorem eva_notInD (ha : Eva K ta σ H a) (hb : Eva K tb σ H (.list ds)) (sa : SeqAt.shaped a = true) (sb : SeqAt.shaped (.list ds) = true) : Eva K (tOp (rNotInD K) ta tb) σ H (.bool (!ds.any fun z => PyData.eqv z a)) :=
  eva_opV ha hb (fun _ => .bl _) fun x y H1 _ dx dy Q q => ⟨a, ds, dx, dy, sa, sb, q⟩
/-- ints, bools, texts -/
theorem eva_eqI {i j : Int} (ha : Eva K ta σ H (.int i)) (hb : Eva K tb σ H (.int j)) : Eva K (tOp rEq ta tb) σ H (.bool (decide (i = j))) :=
  eva_opV ha hb (fun _ => .bl _) fun x y H1 _ dx dy Q q => by
    cases dx; cases dy
    refine ⟨rfl, ?_⟩
    have e : decide ((V.int i) = V.int j) = decide (i = j) := decide_eq_decide.mpr ⟨fun h => V.int.inj h, fun h => by rw [h]⟩
    rw [e]; exact q
theorem eva_neI {i j : Int} (ha : Eva K ta σ H (.int i)) (hb : Eva K tb σ H (.int j)) : Eva K (tOp rNe ta tb) σ H (.bool (!decide (i = j))) :=
  eva_opV ha hb (fun _ => .bl _) fun x y H1 _ dx dy Q q => by
    cases dx; cases dy
    refine ⟨rfl, ?_⟩
    have e : decide ((V.int i) = V.int j) = decide (i = j) := decide_eq_decide.mpr ⟨fun h => V.int.inj h, fun h => by rw [h]⟩
    rw [e]; exact q
theorem eva_eqB {i j : Bool} (ha : Eva K ta σ H (.bool i)) (hb : Eva K tb σ H (.bool j)) : Eva K (tOp rEq ta tb) σ H (.bool (decide (i = j))) :=
  eva_opV ha hb (fun _ => .bl _) fun x y H1 _ dx dy Q q => by
    cases dx; cases dy
    refine ⟨rfl, ?_⟩
    have e : decide ((V.bl i) = V.bl j) = decide (i = j) := decide_eq_decide.mpr ⟨fun h => V.bl.inj h, fun h => by rw [h]⟩
    rw [e]; exact q
theorem eva_neB {i j : Bool} (ha : Eva K ta σ H (.bool i)) (hb : Eva K tb σ H (.bool j)) : Eva K (tOp rNe ta tb) σ H (.bool (!decide (i = j))) :=
  eva_opV ha hb (fun _ => .bl _) fun x y H1 _ dx dy Q q => by
    cases dx; cases dy
    refine ⟨rfl, ?_⟩
    have e : decide ((V.bl i) = V.bl j) = decide (i = j) := decide_eq_decide.mpr ⟨fun h => V.bl.inj h, fun h => by rw [h]⟩
    rw [e]; exact q
theorem eva_eqS {i j : Str} (ha : Eva K ta σ H (.str i)) (hb : Eva K tb σ H (.str j)) : Eva K (tOp rEq ta tb) σ H (.bool (decide (i = j))) :=
  eva_opV ha hb (fun _ => .bl _) fun x y H1 _ dx dy Q q => by
    cases dx; cases dy
    refine ⟨rfl, ?_⟩
    have e : decide ((V.str i) = V.str j) = decide (i = j) := decide_eq_decide.mpr ⟨fun h => V.str.inj h, fun h => by rw [h]⟩
    rw [e]; exact q
/-- is None -/
def isNo : PyData → Bool
  | .none => true
  | _ => false
theorem dp_isNo {v : V} (h : Dp K H v d) : decide (v = .non) = isNo d := by
  cases h <;> simp [isNo]
theorem eva_isN (ha : Eva K ta σ H d) : Eva K (tOp (fun x y H Q => y = .non ∧ Q (.bl (decide (x = .non))) H) ta (tC .non)) σ H (.bool (isNo d)) :=
  eva_opV ha eva_non (z := .bl (isNo d)) (fun _ => .bl _) fun x y H1 _ dx dy Q q => by
    cases dy
    exact ⟨rfl, by rw [dp_isNo dx]; exact q⟩
theorem eva_notN (ha : Eva K ta σ H d) : Eva K (tOp (fun x y H Q => y = .non ∧ Q (.bl (!decide (x = .non))) H) ta (tC .non)) σ H (.bool (!isNo d)) :=
  eva_opV ha eva_non (z := .bl (!isNo d)) (fun _ => .bl _) fun x y H1 _ dx dy Q q => by
    cases dy
    exact ⟨rfl, by rw [dp_isNo dx]; exact q⟩
/-- an int in a tuple of ints -/
theorem inV_ints (i : Int) (ns : List Int) : inV (.int i) (ns.map V.int) = decide (i ∈ ns) := by
  unfold inV
  induction ns with
  | nil => simp
  | cons n ns ih =>
    rw [List.map_cons, List.any_cons, ih]
    have e : eqV (.int n) (.int i) = decide (n = i) := by
      show (n == i) = decide (n = i)
      by_cases h : n = i <;> simp [h]
    rw [e]
    by_cases h : n = i
    · subst h; simp
    · have h2 : ¬ i = n := fun q => h q.symm
      simp [h, h2]
theorem eva_inT {i : Int} {ns : List Int} (ha : Eva K ta σ H (.int i)) (hb : Eva K tb σ H (.tuple (ns.map PyData.int))) : Eva K (tOp (rIn K false) ta tb) σ H (.bool (decide (i ∈ ns))) :=
  eva_opV ha hb (fun _ => .bl _) fun x y H1 _ dx dy Q q => by
    cases dx
    obtain ⟨p, xs, rfl, hp, hx⟩ := dp_tup dy
    refine ⟨p, xs, rfl, .inr hp, rfl, dpa_flat hx, ?_⟩
    show Q (.bl (inV (.int i) xs)) H1
    rw [dpa_ints hx, inV_ints]
    exact q
theorem dpa_strs : ∀ {vs : List V} {ns : List Str}, DpAll K H vs (ns.map PyData.str) → vs = ns.map V.str
  | _, [], .nil => rfl
  | _, n :: ns, .cons (.str _) h => by rw [dpa_strs h]; rfl
theorem inV_strs (i : Str) (ns : List Str) : inV (.str i) (ns.map V.str) = decide (i ∈ ns) := by
  unfold inV
  induction ns with
  | nil => simp
  | cons n ns ih =>
    rw [List.map_cons, List.any_cons, ih]
    have e : eqV (.str n) (.str i) = decide (n = i) := by
      show (n == i) = decide (n = i)
      by_cases h : n = i <;> simp [h]
    rw [e]
    by_cases h : n = i
    · subst h; simp
    · have h2 : ¬ i = n := fun q => h q.symm
      simp [h, h2]
theorem eva_inS {i : Str} {ns : List Str} (ha : Eva K ta σ H (.str i)) (hb : Eva K tb σ H (.tuple (ns.map PyData.str))) : Eva K (tOp (rIn K false) ta tb) σ H (.bool (decide (i ∈ ns))) :=
  eva_opV ha hb (fun _ => .bl _) fun x y H1 _ dx dy Q q => by
    cases dx
    obtain ⟨p, xs, rfl, hp, hx⟩ := dp_tup dy
    have ex := dpa_strs hx
    refine ⟨p, xs, rfl, .inr hp, rfl, by rw [ex]; simp [flatV], ?_⟩
    show Q (.bl (inV (.str i) xs)) H1
    rw [ex, inV_strs]
    exact q
/-! ### items, slices, displays -/
theorem ixN_len {α β : Type} {xs : List α} {ys : List β} (h : xs.length = ys.length) (i : Int) : ixN xs.length i = ixN ys.length i := by rw [h]
theorem atI_dpa {vs : List V} {i : Int} (h : DpAll K H vs ds) (ha : atI ds i = some d) : ∃ v, atI vs i = some v ∧ Dp K H v d := by
  unfold atI at ha ⊢
  rw [ixN_len (dpa_len h)]
  cases e : ixN ds.length i with
  | none => rw [e] at ha; cases ha
  | some j =>
    rw [e] at ha
    exact dpa_at h ha
theorem eva_ixT {i : Int} (ha : Eva K ta σ H (.tuple ds)) (hb : Eva K tb σ H (.int i)) (h : atI ds i = some d) : Eva K (tOp (rIx K) ta tb) σ H d :=
  eva_opR ha hb fun x y H1 e dx dy Q q => by
    obtain ⟨p, xs, rfl, hp, hx⟩ := dp_tup dx
    obtain ⟨v, hv, dv⟩ := atI_dpa hx h
    exact .inr (.inl ⟨p, xs, i, v, rfl, dp_int dy, hp, hv, q v H1 (Ex.refl _) dv⟩)
theorem eva_ixL {i : Int} (ha : Eva K ta σ H (.list ds)) (hb : Eva K tb σ H (.int i)) (h : atI ds i = some d) : Eva K (tOp (rIx K) ta tb) σ H d :=
  eva_opR ha hb fun x y H1 e dx dy Q q => by
    obtain ⟨p, xs, rfl, hp, hx⟩ := dp_lst dx
    obtain ⟨v, hv, dv⟩ := atI_dpa hx h
    exact .inl ⟨p, xs, i, v, rfl, dp_int dy, hp, hv, q v H1 (Ex.refl _) dv⟩
theorem cut_from (xs : List V) (n : Nat) : cutV xs (some (n : Int)) none = xs.drop n := by
  unfold cutV
  rw [HT.sIx_nat, HT.sIx_none]
  by_cases h : n ≤ xs.length
  · rw [Nat.min_eq_left h]
    exact List.take_of_length_le (by rw [List.length_drop]; exact Nat.le_refl _)
  · rw [Nat.min_eq_right (by omega), List.drop_of_length_le (by omega), List.drop_of_length_le (by omega)]
    simp
/-- xs[n:] of a list, a new one -/
theorem evl_from {n : Nat} (ha : Eva K ta σ H (.list ds)) : EvaL K (tSl (rSlL K) ta (tPart (tC (.int (n : Int)))) tNoPart) σ H (ds.drop n) := fun H1 e Q q =>
  ha H1 e _ fun x H2 e2 dx => by
    obtain ⟨p, xs, rfl, hp, hx⟩ := dp_lst dx
    refine ⟨n, rfl, p, xs, rfl, hp, fun r hr => ?_⟩
    rw [cut_from]
    refine q r _ _ ?_ (e2.trans (Ex.new hr)) upd_same (dpa_ex (ex_er (Ex.new hr) hr) (dpa_drop n hx))
    exact fresh_back e2 hr
theorem evaa_nil : EvaA K tNil σ H [] := fun H1 _ Q q => q [] H1 (Ex.refl _) .nil
theorem evaa_cons {tr : TA} (h : Eva K ta σ H d) (hr : EvaA K tr σ H ds) : EvaA K (tCons ta tr) σ H (d :: ds) := fun H1 e Q q =>
  h H1 e _ fun v H2 e2 dv => hr H2 (e.trans e2) _ fun vs H3 e3 dvs => q (v :: vs) H3 (e2.trans e3) (.cons (dp_ex e3 dv) dvs)
theorem eva_tup {t' : TA} (h : EvaA K t' σ H ds) (hl : ds.length ≤ 100000 := by simp) : Eva K (tTup t') σ H (.tuple ds) := fun H1 e Q q =>
  h H1 e _ fun vs H2 e2 dvs => ⟨by rw [dpa_len dvs]; exact sz_of hl, fun p hp => q _ _ (e2.trans (Ex.new hp)) (dp_newT upd_same (dpa_ex (Ex.new hp) dvs))⟩
theorem evl_lst {t' : TA} (h : EvaA K t' σ H ds) (hl : ds.length ≤ 100000 := by simp) : EvaL K (tLst t') σ H ds := fun H1 e Q q =>
  h H1 e _ fun vs H2 e2 dvs => ⟨by rw [dpa_len dvs]; exact sz_of hl, fun p hp => q p vs _ (fresh_back e2 hp) (e2.trans (Ex.new hp)) upd_same (dpa_ex (ex_er (Ex.new hp) hp) dvs)⟩
/-! ### truth, ways -/
theorem evt_B {k : Bool} (h : Eva K te σ H (.bool k)) : EvT (tB te) σ H k := fun H1 e Q q => h H1 e _ fun v H2 e2 dv => ⟨k, dp_bl dv, q H2 e2⟩
theorem evt_T {k : Bool} (h : Eva K te σ H (.bool k)) : EvT (tTest te) σ H k := fun H1 e Q q => h H1 e _ fun v H2 e2 dv => ⟨k, dp_bl dv, q H2 e2⟩
theorem eva_and {j k : Bool} (h1 : Eva K ta σ H (.bool j)) (h2 : j = true → Eva K tb σ H (.bool k)) : Eva K (tAndV ta tb) σ H (.bool (j && k)) := fun H1 e Q q => h1 H1 e _ fun x H2 e2 dx => ⟨j, dp_bl dx, by
  cases j with
  | true => exact h2 rfl H2 (e.trans e2) Q fun v H3 e3 dv => q v H3 (e2.trans e3) dv
  | false => exact q _ H2 e2 (.bl false)⟩
theorem eva_or {j k : Bool} (h1 : Eva K ta σ H (.bool j)) (h2 : j = false → Eva K tb σ H (.bool k)) : Eva K (tOrV ta tb) σ H (.bool (j || k)) := fun H1 e Q q => h1 H1 e _ fun x H2 e2 dx => ⟨j, dp_bl dx, by
  cases j with
  | true => exact q _ H2 e2 (.bl true)
  | false => exact h2 rfl H2 (e.trans e2) Q fun v H3 e3 dv => q v H3 (e2.trans e3) dv⟩
theorem eva_not {j : Bool} (h1 : Eva K ta σ H (.bool j)) : Eva K (tNotV ta) σ H (.bool (!j)) := fun H1 e Q q => h1 H1 e _ fun x H2 e2 dx => ⟨j, dp_bl dx, q _ H2 e2 (.bl _)⟩
theorem eva_if {j : Bool} {R : V → Hp → Prop} (h : EvT t σ H j) (h1 : j = true → Evr ta σ H R) (h2 : j = false → Evr tb σ H R) : Evr (tIf t ta tb) σ H R := fun H1 e Q q => h H1 e _ fun H2 e2 => by
  cases j with
  | true => exact h1 rfl H2 (e.trans e2) Q fun v H3 e3 dv => q v H3 (e2.trans e3) dv
  | false => exact h2 rfl H2 (e.trans e2) Q fun v H3 e3 dv => q v H3 (e2.trans e3) dv
theorem evl_if {j : Bool} (h : EvT t σ H j) (h1 : j = true → EvaL K ta σ H ds) (h2 : j = false → EvaL K tb σ H ds) : EvaL K (tIf t ta tb) σ H ds := fun H1 e Q q => h H1 e _ fun H2 e2 => by
  cases j with
  | true => exact h1 rfl H2 (e.trans e2) Q fun p vs H3 n e3 hp dv => q p vs H3 (fresh_back e2 n) (e2.trans e3) hp dv
  | false => exact h2 rfl H2 (e.trans e2) Q fun p vs H3 n e3 hp dv => q p vs H3 (fresh_back e2 n) (e2.trans e3) hp dv
/-- a < b < c -/
theorem eva_chain {r r' : R2} {j k : Bool} (ha : Eva K ta σ H a) (hb : Eva K tb σ H b) (hc : j = true → Eva K tc σ H c)
    (hr : ∀ x y H1, Dp K H1 x a → Dp K H1 y b → ∀ Q : VK, Q (.bl j) H1 → r x y H1 Q) (hr' : j = true → ∀ x y H1, Dp K H1 x b → Dp K H1 y c → ∀ Q : VK, Q (.bl k) H1 → r' x y H1 Q) :
    Eva K (tChain r r' ta tb tc) σ H (.bool (j && k)) := fun H1 e Q q => ha H1 e _ fun x H2 e2 dx => hb H2 (e.trans e2) _ fun y H3 e3 dy => hr x y H3 (dp_ex e3 dx) dy _ ⟨j, rfl, by
  cases j with
  | true => exact hc rfl H3 ((e.trans e2).trans e3) _ fun z H4 e4 dz => hr' rfl y z H4 (dp_ex e4 dy) dz Q (q _ H4 ((e2.trans e3).trans e4) (.bl _))
  | false => exact q _ H3 (e2.trans e3) (.bl false)⟩
/-! ### calls of built-ins -/
theorem eva_cb1 {r : List V → Hp → VK → Prop} {R : V → Hp → Prop} (ha : Eva K ta σ H a) (hr : ∀ x H1, Ex H H1 → Dp K H1 x a → ∀ Q : VK, (∀ v H2, Ex H1 H2 → R v H2 → Q v H2) → r [x] H1 Q) : Evr (tCB r (tCons ta tNil)) σ H R := fun H1 e Q q =>
  ha H1 e _ fun x H2 e2 dx => hr x H2 (e.trans e2) dx Q fun v H3 e3 rv => q v H3 (e2.trans e3) rv
abbrev rLen2 (K : PySem.W.Frag) : List V → Hp → VK → Prop := fun xs H Q => ∃ p ys, xs = [.ref p] ∧ (SqL K H p ys ∨ SqT K H p ys) ∧ Q (.int ys.length) H
theorem eva_lenL (ha : Eva K ta σ H (.list ds)) : Eva K (tCB (rLen2 K) (tCons ta tNil)) σ H (.int (ds.length : Int)) := eva_cb1 ha fun x H1 e dx Q q => by
  obtain ⟨p, xs, rfl, hp, hx⟩ := dp_lst dx
  refine ⟨p, xs, rfl, .inl hp, ?_⟩
  rw [dpa_len hx]
  exact q _ H1 (Ex.refl _) (.int _)
theorem eva_lenT (ha : Eva K ta σ H (.tuple ds)) : Eva K (tCB (rLen2 K) (tCons ta tNil)) σ H (.int (ds.length : Int)) := eva_cb1 ha fun x H1 e dx Q q => by
  obtain ⟨p, xs, rfl, hp, hx⟩ := dp_tup dx
  refine ⟨p, xs, rfl, .inr hp, ?_⟩
  rw [dpa_len hx]
  exact q _ H1 (Ex.refl _) (.int _)
abbrev rTup2 (K : PySem.W.Frag) : List V → Hp → VK → Prop := fun xs H Q => ∃ p ys, xs = [.ref p] ∧ ((SqL K H p ys ∧ ∀ l, H l = none → Q (.ref l) (upd H l (.tup ys))) ∨ (SqT K H p ys ∧ Q (.ref p) H))
theorem eva_tupL (ha : Eva K ta σ H (.list ds)) : Eva K (tCB (rTup2 K) (tCons ta tNil)) σ H (.tuple ds) := eva_cb1 ha fun x H1 e dx Q q => by
  obtain ⟨p, xs, rfl, hp, hx⟩ := dp_lst dx
  exact ⟨p, xs, rfl, .inl ⟨hp, fun l hl => q _ _ (Ex.new hl) (dp_newT upd_same (dpa_ex (Ex.new hl) hx))⟩⟩
abbrev rLst2 (K : PySem.W.Frag) : List V → Hp → VK → Prop := fun xs H Q => ∃ p ys, xs = [.ref p] ∧ (SqL K H p ys ∨ SqT K H p ys) ∧ ∀ l, H l = none → Q (.ref l) (upd H l (.lst ys))
theorem evl_listL (ha : Eva K ta σ H (.list ds)) : EvaL K (tCB (rLst2 K) (tCons ta tNil)) σ H ds := fun H1 e Q q => ha H1 e _ fun x H2 e2 dx => by
  obtain ⟨p, xs, rfl, hp, hx⟩ := dp_lst dx
  exact ⟨p, xs, rfl, .inl hp, fun l hl => q l _ _ (fresh_back e2 hl) (e2.trans (Ex.new hl)) upd_same (dpa_ex (ex_er (Ex.new hl) hl) hx)⟩
theorem evl_listT (ha : Eva K ta σ H (.tuple ds)) : EvaL K (tCB (rLst2 K) (tCons ta tNil)) σ H ds := fun H1 e Q q => ha H1 e _ fun x H2 e2 dx => by
  obtain ⟨p, xs, rfl, hp, hx⟩ := dp_tup dx
  exact ⟨p, xs, rfl, .inr hp, fun l hl => q l _ _ (fresh_back e2 hl) (e2.trans (Ex.new hl)) upd_same (dpa_ex (ex_er (Ex.new hl) hl) hx)⟩
theorem eva_sum {ns : List Int} (ha : Eva K ta σ H (.list (ns.map PyData.int))) : Eva K (tCB (rSum K) (tCons ta tNil)) σ H (.int ns.sum) := eva_cb1 ha fun x H1 e dx Q q => by
  obtain ⟨p, xs, rfl, hp, hx⟩ := dp_lst dx
  rw [dpa_ints hx] at hp
  exact ⟨p, ns, rfl, hp, q _ H1 (Ex.refl _) (.int _)⟩
theorem eva_any {ns : List Bool} (ha : Eva K ta σ H (.list (ns.map PyData.bool))) : Eva K (tCB (rAny K) (tCons ta tNil)) σ H (.bool (ns.any id)) := eva_cb1 ha fun x H1 e dx Q q => by
  obtain ⟨p, xs, rfl, hp, hx⟩ := dp_lst dx
  rw [dpa_bools hx] at hp
  exact ⟨p, ns, rfl, hp, q _ H1 (Ex.refl _) (.bl _)⟩
theorem eva_all {ns : List Bool} (ha : Eva K ta σ H (.list (ns.map PyData.bool))) : Eva K (tCB (rAll K) (tCons ta tNil)) σ H (.bool (ns.all id)) := eva_cb1 ha fun x H1 e dx Q q => by
  obtain ⟨p, xs, rfl, hp, hx⟩ := dp_lst dx
  rw [dpa_bools hx] at hp
  exact ⟨p, ns, rfl, hp, q _ H1 (Ex.refl _) (.bl _)⟩
theorem eva_abs {i : Int} (ha : Eva K ta σ H (.int i)) : Eva K (tCB (fun xs H Q => ∃ i, xs = [.int i] ∧ Q (.int (if i < 0 then -i else i)) H) (tCons ta tNil)) σ H (.int (if i < 0 then -i else i)) := eva_cb1 ha fun x H1 e dx Q q =>
  ⟨i, by rw [dp_int dx], q _ H1 (Ex.refl _) (.int _)⟩
abbrev rInt1 : List V → Hp → VK → Prop := fun xs H Q => (∃ i, xs = [.int i] ∧ Q (.int i) H) ∨ ∃ k, xs = [.bl k] ∧ Q (.int (if k then 1 else 0)) H
theorem eva_int1 {i : Int} (ha : Eva K ta σ H (.int i)) : Eva K (tCB rInt1 (tCons ta tNil)) σ H (.int i) := eva_cb1 ha fun x H1 e dx Q q =>
  .inl ⟨i, by rw [dp_int dx], q _ H1 (Ex.refl _) (.int _)⟩
theorem eva_intB {k : Bool} (ha : Eva K ta σ H (.bool k)) : Eva K (tCB rInt1 (tCons ta tNil)) σ H (.int (if k then 1 else 0)) := eva_cb1 ha fun x H1 e dx Q q =>
  .inr ⟨k, by rw [dp_bl dx], q _ H1 (Ex.refl _) (.int _)⟩
/-- isinstance with a built-in class -/
def tyD : PyData → String
  | .none => "NoneType"
  | .bool _ => "bool"
  | .int _ => "int"
  | .str _ => "str"
  | .list _ => "list"
  | .tuple _ => "tuple"
  | .dict _ => "dict"
theorem tyx_of {v : V} (h : Dp K H v d) : TyX K H v (.type (tyD d)) := by
  cases h with
  | non => exact .base .non
  | bl b => exact .base (.bl b)
  | int i => exact .base (.int i)
  | str x => exact .base (.str x)
  | lst h1 h2 =>
    rcases h1 with (h1 | ⟨o, h1⟩) | ⟨o, its, n, e, c, _⟩
    · exact .base (.lst h1)
    · exact .base (.frz h1)
    · exact .kList e c
  | tup h1 h2 =>
    rcases h1 with (h1 | ⟨o, h1⟩) | ⟨o, its, n, e, c, _⟩
    · exact .base (.tup h1)
    · exact .fTuple h1
    · exact .kTuple e c
theorem eva_isi {T : String} {k : Bool} (ha : Eva K ta σ H d) (hk : kitB (tyD d) T = some k) : Eva K (tCB (rIsi K) (tCons ta (tCons (tC (.ty T)) tNil))) σ H (.bool k) := fun H1 e Q q =>
  ha H1 e _ fun x H2 e2 dx => ⟨x, .ty T, _, _, k, rfl, .ty T, tyx_of dx, kit_ty hk, q _ H2 e2 (.bl k)⟩
/-- t + u of tuples -/
theorem eva_catA (ha : Eva K ta σ H (.tuple ds)) (hb : Eva K tb σ H (.tuple es)) (hl : ds.length + es.length ≤ 100000) : Eva K (tOp (rCatA K) ta tb) σ H (.tuple (ds ++ es)) :=
  eva_opR ha hb fun x y H1 e dx dy Q q => by
    obtain ⟨p, xs, rfl, hp, hx⟩ := dp_tup dx
    obtain ⟨r, ys, rfl, hr, hy⟩ := dp_tup dy
    refine ⟨p, r, xs, ys, rfl, rfl, hp, hr, by rw [dpa_len hx, dpa_len hy]; exact sz_of hl, fun z => ?_, fun z w => ?_, fun z w l hn => ?_⟩
    · subst z
      cases hx
      exact q _ H1 (Ex.refl _) (.tup hr hy)
    · subst w
      cases hy
      exact q _ H1 (Ex.refl _) (by rw [List.append_nil]; exact .tup hp hx)
    · exact q _ _ (Ex.new hn) (dp_newT upd_same (dpa_ex (Ex.new hn) (dpa_app hx hy)))
end
end Cb
set_option Elab.async false
set_option linter.all false
set_option maxRecDepth 100000
set_option maxHeartbeats 4000000
/-! Cb, the layer: statements, promises, comprehensions. -/
namespace Cb
open PySem PySem.Spec PyProof.Rows L2 Evl

section
variable {K : PySem.W.Frag} {σ : L2.St} {H H' : Hp} {p : Addr} {ta tb tc te : TE} {t u : TT} {tz tu tw : TS} {D : Ends} {a b c d : PyData} {ds es : List PyData} {R : V → Hp → Prop}
/-! ### statements -/
theorem s_ret (h : Evr te σ H R) (k : ∀ v H2, Ex H H2 → R v H2 → D.rt v H2) : tRet te D σ H := h H (Ex.refl _) _ k
theorem s_retL (h : EvaL K te σ H ds) (k : ∀ p vs H2, H p = none → Ex H H2 → H2 p = some (.lst vs) → DpAll K (er H2 p) vs ds → D.rt (.ref p) H2) : tRet te D σ H := h H (Ex.refl _) _ k
theorem s_asg {i : Nat} (h : Evr te σ H R) (k : ∀ v H2, Ex H H2 → R v H2 → D.nx (σ.set i (some v)) H2) : tAsg te (gName i) D σ H := h H (Ex.refl _) _ k
theorem s_asgL {i : Nat} (h : EvaL K te σ H ds) (k : ∀ p vs H2, H p = none → Ex H H2 → H2 p = some (.lst vs) → DpAll K (er H2 p) vs ds → D.nx (σ.set i (some (.ref p))) H2) : tAsg te (gName i) D σ H := h H (Ex.refl _) _ k
theorem q_asg {i : Nat} (h : Evr te σ H R) (k : ∀ v H2, Ex H H2 → R v H2 → tz D (σ.set i (some v)) H2) : tSeq (tAsg te (gName i)) tz D σ H := s_asg (D := { D with nx := tz D }) h k
theorem q_asgL {i : Nat} (h : EvaL K te σ H ds) (k : ∀ p vs H2, H p = none → Ex H H2 → H2 p = some (.lst vs) → DpAll K (er H2 p) vs ds → tz D (σ.set i (some (.ref p))) H2) : tSeq (tAsg te (gName i)) tz D σ H := s_asgL (D := { D with nx := tz D }) h k
theorem q_drop (h : Evr te σ H R) (k : ∀ v H2, Ex H H2 → R v H2 → tz D σ H2) : tSeq (tDrop te) tz D σ H := h H (Ex.refl _) _ k
/-- a, b = e1, e2 -/
theorem s_par {i j : Nat} (h : EvaA K (tCons ta (tCons tb tNil)) σ H [a, b]) (k : ∀ v w H2, Ex H H2 → Dp K H2 v a → Dp K H2 w b → D.nx ((σ.set i (some v)).set j (some w)) H2) : tPar i j (tCons ta (tCons tb tNil)) D σ H :=
  h H (Ex.refl _) _ fun vs H2 e dv => by
    obtain ⟨v, w, rfl, h1, h2⟩ := dpa2 dv
    exact ⟨v, w, rfl, k v w H2 e h1 h2⟩
theorem q_par {i j : Nat} (h : EvaA K (tCons ta (tCons tb tNil)) σ H [a, b]) (k : ∀ v w H2, Ex H H2 → Dp K H2 v a → Dp K H2 w b → tz D ((σ.set i (some v)).set j (some w)) H2) : tSeq (tPar i j (tCons ta (tCons tb tNil))) tz D σ H := s_par (D := { D with nx := tz D }) h k
/-- an expression's value, exactly -/
theorem ev_of {v : V} {i : Nat} (h : σ[i]? = some (some v)) : Ev (tVar i) σ H v := ev_var h
/-- xs.append(e) on an own list -/
abbrev tApp (K : PySem.W.Frag) (to te : TE) : TE := tBM K "list" rAppend to (tCons te tNil)
theorem s_app {i : Nat} {l : Addr} {xs : List V} (hv : σ[i]? = some (some (.ref l))) (hl : H l = some (.lst xs)) (h : Evr te σ H R) (hz : xs.length < 100000) (k : ∀ v H2, Ex H H2 → R v H2 → H2 l = some (.lst xs) → D.nx σ (upd H2 l (.lst (xs ++ [v])))) :
    tDrop (tApp K (tVar i) te) D σ H := ⟨.ref l, hv, .inl ⟨rfl, _, .inl (.inl hl)⟩, h H (Ex.refl _) _ fun v H2 e r => ⟨l, xs, v, rfl, rfl, e l _ hl, sz_lt hz, k v H2 e r (e l _ hl)⟩⟩
theorem q_app {i : Nat} {l : Addr} {xs : List V} (hv : σ[i]? = some (some (.ref l))) (hl : H l = some (.lst xs)) (h : Evr te σ H R) (hz : xs.length < 100000) (k : ∀ v H2, Ex H H2 → R v H2 → H2 l = some (.lst xs) → tz D σ (upd H2 l (.lst (xs ++ [v])))) :
    tSeq (tDrop (tApp K (tVar i) te)) tz D σ H := s_app (D := { D with nx := tz D }) hv hl h hz k

/-! ### promises -/
/-- data in, data out -/
def spR (K : PySem.W.Frag) (R : List PyData → PyData → Prop) : Sp := fun vs H Q _ => ∃ ds d, DpAll K H vs ds ∧ R ds d ∧ ∀ v H2, Ex H H2 → Dp K H2 v d → Q v H2
/-- data in, a new list out -/
def spL (K : PySem.W.Frag) (R : List PyData → List PyData → Prop) : Sp := fun vs H Q _ => ∃ ds es, DpAll K H vs ds ∧ R ds es ∧ ∀ p ws H2, H p = none → Ex H H2 → H2 p = some (.lst ws) → DpAll K (er H2 p) ws es → Q (.ref p) H2
theorem eva_call {R : List PyData → PyData → Prop} {E : XK} {t' : TA} (h : EvaA K t' σ H ds) (r : R ds d) : Eva K (tCall (spR K R) [] E t') σ H d := fun H1 e Q q =>
  h H1 e _ fun vs H2 e2 dv => ⟨ds, d, by rw [List.append_nil]; exact dv, r, fun v H3 e3 dv => q v H3 (e2.trans e3) dv⟩
theorem evl_call {R : List PyData → List PyData → Prop} {E : XK} {t' : TA} (h : EvaA K t' σ H ds) (r : R ds es) : EvaL K (tCall (spL K R) [] E t') σ H es := fun H1 e Q q =>
  h H1 e _ fun vs H2 e2 dv => ⟨ds, es, by rw [List.append_nil]; exact dv, r, fun p ws H3 n e3 hp dv => q p ws H3 (fresh_back e2 n) (e2.trans e3) hp dv⟩
end
/-- a def of the module that keeps a promise -/
def Has (P : Program) (w : World) (K : PySem.W.Frag) (mg : Str → Option Value) (base : Heap) (x : Str) (k : Nat) (ps : List Str) (sp : Sp) : Prop :=
  ∃ f fd, mg x = some (.ref f) ∧ PySem.W.keepIn K (.ref f) = true ∧ Binds K fd ps [] ∧ FnOk P w K mg base CX0 k f fd ps sp
theorem Has.mono {P : Program} {w : World} {K : PySem.W.Frag} {mg : Str → Option Value} {base : Heap} {x : Str} {j k : Nat} {ps : List Str} {sp : Sp} (h : Has P w K mg base x j ps sp) (l : j ≤ k) : Has P w K mg base x k ps sp := by
  obtain ⟨f, fd, a, b, c, d⟩ := h
  exact ⟨f, fd, a, b, c, d.mono l⟩
theorem Has.imp {P : Program} {w : World} {K : PySem.W.Frag} {mg : Str → Option Value} {base : Heap} {x : Str} {k : Nat} {ps : List Str} {sp sp' : Sp} (h : Has P w K mg base x k ps sp) (l : ∀ vs H Q E, sp' vs H Q E → sp vs H Q E) : Has P w K mg base x k ps sp' := by
  obtain ⟨f, fd, a, b, c, d⟩ := h
  exact ⟨f, fd, a, b, c, d.imp l⟩
theorem pe_callH {X : Cx} {x : Str} {k : Nat} {ps : List Str} {sp : Sp} {e : Expr} {es : List Expr} {t : TA} {p pos : Pos} (h : Has X.prog X.w X.K X.mg X.base x k ps sp) (hr : Room k X.A) (ha : PA X (e :: es) t) (hg : Gl X x := by rfl) (hd : (x == ("__debug__" : Str)) = false := by decide) (he : starEach (e :: es) X.env = (false, eval e X.env) :: starEach es X.env := by rfl)
    (hpl : (backTo pos (starEach es X.env)).any (·.1) = false := by rfl) : PE X (.Call (.Name x p) (e :: es) [] pos) (tCall sp [] E0 t) := by
  obtain ⟨f, fd, a, b, c, d⟩ := h
  exact pe_call d hr hg a b c .nil pass0 ha hd he hpl
/-- where a def of the text stands -/
def FnAt (K : PySem.W.Frag) (mg : Str → Option Value) (x : Str) (i : Nat) : Prop := ∃ f fd, mg x = some (.ref f) ∧ Fun K x x (topS i) f fd
abbrev cxB (P : Program) (w : World) (K : PySem.W.Frag) (mg : Str → Option Value) (base : Heap) (N : List Str) (x : Str) (i : Nat) (f : Addr) (cdv : Value) (A : Around) (outer : List Env) (s : Shared) (H : Hp) (E : XK) : Cx :=
  (cxOf CX0 P w K mg base N x (defScope (topS i)) f cdv A outer s H E).nox
section
variable {P : Program} {w : World} {K : PySem.W.Frag} {mg : Str → Option Value} {base : Heap} {x : Str} {i k : Nat} {N ps : List Str}
/-- how its arguments bind -/
abbrev Bnd (x : Str) (i : Nat) (ps : List Str) : Prop := ∀ (kV doc pm : Value) (an : Option Addr) (cdv ct : Value) (us : List Value), us.length = ps.length → bindArgs (PySem.W.fnOf x x (defArgs (topS i)) (defBody (topS i)) (defScope (topS i)) .none kV doc pm an cdv ct) ⟨us, []⟩ = pure (ps.zip us)
theorem has_sp {sp : Sp} (F : FnAt K mg x i) (S : FnScope N ps (defScope (topS i))) (hbnd : Bnd x i ps) (hlen : ∀ vs H Q E, sp vs H Q E → vs.length = ps.length)
    (hb : ∀ (f : Addr) (cdv : Value) (A : Around) (outer : List Env) (s : Shared) (H : Hp) (vs : List V) (Q : VK) (E : XK), Room k (A.deeper (envOfC x (defScope (topS i)) s.heap.objs.size f cdv)) → sp vs H Q E →
      ∃ t, PSs (cxB P w K mg base N x i f cdv A outer s H E) (defBody (topS i)) t ∧ t { nx := fun _ H' => Q .non H', rt := Q } (start N vs) H) : Has P w K mg base x (k + 1) ps sp := by
  obtain ⟨f, fd, hm, F⟩ := F
  exact ⟨f, fd, hm, F.kp, F.binds hbnd, F.ok S hlen fun cdv A outer s H vs Q E hr h => hb f cdv A outer s H vs Q E hr h⟩
theorem has_R {R : List PyData → PyData → Prop} (F : FnAt K mg x i) (S : FnScope N ps (defScope (topS i))) (hbnd : Bnd x i ps) (hlen : ∀ ds d, R ds d → ds.length = ps.length)
    (hb : ∀ (f : Addr) (cdv : Value) (A : Around) (outer : List Env) (s : Shared) (H : Hp) (vs : List V) (Q : VK) (E : XK), Room k (A.deeper (envOfC x (defScope (topS i)) s.heap.objs.size f cdv)) →
      ∀ ds d, DpAll K H vs ds → R ds d → (∀ v H2, Ex H H2 → Dp K H2 v d → Q v H2) →
      ∃ t, PSs (cxB P w K mg base N x i f cdv A outer s H E) (defBody (topS i)) t ∧ t { nx := fun _ H' => Q .non H', rt := Q } (start N vs) H) : Has P w K mg base x (k + 1) ps (spR K R) :=
  has_sp F S hbnd (fun vs H Q E h => by
    obtain ⟨ds, d, h1, h2, _⟩ := h
    rw [dpa_len h1]
    exact hlen ds d h2) fun f cdv A outer s H vs Q E hr h => by
    obtain ⟨ds, d, h1, h2, q⟩ := h
    exact hb f cdv A outer s H vs Q E hr ds d h1 h2 q
theorem has_L {R : List PyData → List PyData → Prop} (F : FnAt K mg x i) (S : FnScope N ps (defScope (topS i))) (hbnd : Bnd x i ps) (hlen : ∀ ds d, R ds d → ds.length = ps.length)
    (hb : ∀ (f : Addr) (cdv : Value) (A : Around) (outer : List Env) (s : Shared) (H : Hp) (vs : List V) (Q : VK) (E : XK), Room k (A.deeper (envOfC x (defScope (topS i)) s.heap.objs.size f cdv)) →
      ∀ ds es, DpAll K H vs ds → R ds es → (∀ p ws H2, H p = none → Ex H H2 → H2 p = some (.lst ws) → DpAll K (er H2 p) ws es → Q (.ref p) H2) →
      ∃ t, PSs (cxB P w K mg base N x i f cdv A outer s H E) (defBody (topS i)) t ∧ t { nx := fun _ H' => Q .non H', rt := Q } (start N vs) H) : Has P w K mg base x (k + 1) ps (spL K R) :=
  has_sp F S hbnd (fun vs H Q E h => by
    obtain ⟨ds, d, h1, h2, _⟩ := h
    rw [dpa_len h1]
    exact hlen ds d h2) fun f cdv A outer s H vs Q E hr h => by
    obtain ⟨ds, d, h1, h2, q⟩ := h
    exact hb f cdv A outer s H vs Q E hr ds d h1 h2 q
end
/-! ### the module's constants -/
theorem pe_gInt {X : Cx} {x : Str} {i : Int} {pos : Pos} (h : ∃ t, X.mg x = some (.int i t)) (hg : Gl X x := by rfl) (hd : (x == ("__debug__" : Str)) = false := by decide) : PE X (.Name x pos) (tC (.int i)) := by
  obtain ⟨t, h⟩ := h
  exact pe_glob hg h ⟨t, rfl⟩ hd
theorem pe_gRef {X : Cx} {x : Str} {a : Addr} {pos : Pos} (h : X.mg x = some (.ref a)) (hg : Gl X x := by rfl) (hn : x ≠ "__name__" := by decide) (hd : (x == ("__debug__" : Str)) = false := by decide) : PE X (.Name x pos) (tC (.ref a)) := pe_glob hg h rfl hd
theorem pe_gTy {X : Cx} {x : Str} {T : String} {pos : Pos} (h : X.mg x = none) (hv : bootBuiltins x = some (.type T)) (hg : Gl X x := by rfl) (hn : x ≠ "__name__" := by decide) (hd : (x == ("__debug__" : Str)) = false := by decide) : PE X (.Name x pos) (tC (.ty T)) := pe_bltn hg h hv rfl hn hd

/-! ### comprehensions -/
section
variable {K : PySem.W.Frag} {α : Type}
structure Wk (J : It) (G : Hp → Prop) (g : TG) (xs : List α) (P : α → L2.St → L2.St → Hp → Prop) : Prop where
  goes : ∀ i H, i < xs.length → G H → J.go i H
  stops : ∀ H, G H → J.stop xs.length H
  item : ∀ i (hi : i < xs.length) H x H', G H → J.yld i H x H' → ∀ (σ0 : L2.St) (k : L2.St → Hp → Prop), (∀ σ2 H3, Ex H H3 → P xs[i] σ0 σ2 H3 → k σ2 H3) → g x σ0 H' k
def EvI (wi : TI) (g : TG) (σ : L2.St) (H : Hp) (xs : List α) (P : α → L2.St → L2.St → Hp → Prop) : Prop := ∀ H1, Ex H H1 → ∀ R : It → Hp → Prop, (∀ J H2, Ex H1 H2 → Wk J (Ex H2) g xs P → R J H2) → wi σ H1 R
theorem Paired_app {β γ : Type} {F : β → γ → Prop} : ∀ {l1 : List β} {l2 : List γ} {x : β} {y : γ}, Paired F l1 l2 → F x y → Paired F (l1 ++ [x]) (l2 ++ [y])
  | _, _, _, _, .nil, h => .cons h .nil
  | _, _, _, _, .cons a b, h => .cons a (Paired_app b h)
/-- the general one: what the items stand for is told by R -/
theorem lc_gen {wi : TI} {g : TG} {tt : TT} {te : TE} {vs : List Nat} {σ : L2.St} {H : Hp} {xs : List α} {P : α → L2.St → L2.St → Hp → Prop} {R : α → V → Hp → Prop}
    (hi : EvI wi g σ H xs P) (hz : xs.length < 100000) (f : α → Bool) (hw : ∀ a σ2 H2, a ∈ xs → P a (wipe σ vs) σ2 H2 → wipe σ2 vs = wipe σ vs)
    (ht : ∀ a σ2 H2, a ∈ xs → Ex H H2 → P a (wipe σ vs) σ2 H2 → EvT tt σ2 H2 (f a))
    (he : ∀ a σ2 H2, a ∈ xs → f a = true → Ex H H2 → P a (wipe σ vs) σ2 H2 → Evr te σ2 H2 (R a))
    (hx : ∀ a v H1 H2, R a v H1 → Ex H1 H2 → R a v H2) (hm : ∀ a v H1 q ws, a ∈ xs → R a v H1 → H1 q = some (.lst ws) → R a v (er H1 q)) :
    ∀ H1, Ex H H1 → ∀ Q : VK, (∀ p ws H2, H1 p = none → Ex H1 H2 → H2 p = some (.lst ws) → Paired (fun v a => R a v (er H2 p)) ws (xs.filter f) → Q (.ref p) H2) → tLc wi g tt te vs σ H1 Q := by
  intro H1 e1 Q q
  refine hi H1 e1 _ fun J H2 e2 wk D hD => ?_
  let In : Nat → Hp → Prop := fun i H' => Ex H2 H' ∧ ∃ ws, H' D = some (.lst ws) ∧ ws.length ≤ i ∧ Paired (fun v a => R a v (er H' D)) ws ((xs.take i).filter f)
  refine ⟨fun i m H' => m = xs.length - i ∧ i ≤ xs.length ∧ In i H', ⟨xs.length, by simp, Nat.zero_le _, Ex.new hD, [], upd_same, Nat.le_refl _, .nil⟩, ?_⟩
  rintro i m H3 ⟨rfl, hi, e3, ws, h3, hl, hp⟩
  by_cases hlt : i < xs.length
  · refine .inr ⟨wk.goes i H3 hlt e3, In (i + 1), fun H' p' => ⟨xs.length - (i + 1), by omega, rfl, hlt, p'⟩, fun x H' y => ?_⟩
    refine wk.item i hlt H3 x H' e3 y _ _ fun σ2 H4 e4 hP => ⟨hw _ _ _ (List.getElem_mem hlt) hP, ?_⟩
    have eH4 : Ex H H4 := ((e1.trans e2).trans e3).trans e4
    refine ht _ _ _ (List.getElem_mem hlt) eH4 hP H4 (Ex.refl _) _ fun H5 e5 => ?_
    have tk : xs.take (i + 1) = xs.take i ++ [xs[i]] := by rw [List.take_add_one, List.getElem?_eq_getElem hlt]; rfl
    cases hf : f xs[i] with
    | true =>
      show te σ2 H5 _
      refine he _ _ _ (List.getElem_mem hlt) hf eH4 hP H5 e5 _ fun v H6 e6 r => ?_
      have e36 : Ex H3 H6 := (e4.trans e5).trans e6
      refine ⟨ws, e36 D _ h3, sz_lt (by omega), (e3.trans e36).mut hD, ws ++ [v], upd_same, by simp; omega, ?_⟩
      rw [tk, List.filter_append, List.filter_cons, if_pos hf, er_upd]
      refine Paired_app (Paired.mapP hp fun v a r => hx a v _ _ r (er_mono e36)) ?_
      exact hm _ _ _ _ _ (List.getElem_mem hlt) r (e36 D _ h3)
    | false =>
      show In (i + 1) H5
      have e35 : Ex H3 H5 := e4.trans e5
      refine ⟨e3.trans e35, ws, e35 D _ h3, by omega, ?_⟩
      rw [tk, List.filter_append, List.filter_cons, if_neg (by rw [hf]; decide)]
      rw [List.filter_nil, List.append_nil]
      exact Paired.mapP hp fun v a r => hx a v _ _ r (er_mono e35)
  · have ei : i = xs.length := by omega
    subst ei
    refine .inl ⟨wk.stops H3 e3, q D ws H3 (fresh_back e2 hD) (e2.trans e3) h3 ?_⟩
    rw [List.take_length] at hp
    exact hp
theorem paired_dpa {H : Hp} {e : α → PyData} : ∀ {vs : List V} {xs : List α}, Paired (fun v a => Dp K H v (e a)) vs xs → DpAll K H vs (xs.map e)
  | _, _, .nil => .nil
  | _, _, .cons h t => .cons h (paired_dpa t)
/-- [elt for .. in .. if ..], the items immutable data -/
theorem evl_lc {wi : TI} {g : TG} {tt : TT} {te : TE} {vs : List Nat} {σ : L2.St} {H : Hp} {xs : List α} {P : α → L2.St → L2.St → Hp → Prop} (f : α → Bool) (e : α → PyData)
    (hi : EvI wi g σ H xs P) (hz : xs.length < 100000) (hw : ∀ a σ2 H2, a ∈ xs → P a (wipe σ vs) σ2 H2 → wipe σ2 vs = wipe σ vs)
    (ht : ∀ a σ2 H2, a ∈ xs → Ex H H2 → P a (wipe σ vs) σ2 H2 → EvT tt σ2 H2 (f a))
    (he : ∀ a σ2 H2, a ∈ xs → f a = true → Ex H H2 → P a (wipe σ vs) σ2 H2 → Eva K te σ2 H2 (e a)) (hm : ∀ a ∈ xs, im (e a) = true) : EvaL K (tLc wi g tt te vs) σ H ((xs.filter f).map e) := fun H1 e1 Q q =>
  lc_gen (R := fun a v H => Dp K H v (e a)) hi hz f hw ht he (fun a v H1 H2 r x => dp_ex x r) (fun a v H1 p ws ha r x => dp_tx (tx_er x rfl) r (hm a ha)) H1 e1 Q fun p ws H2 n e2 hp pr => q p ws H2 n e2 hp (paired_dpa pr)
theorem evt_yes {σ : L2.St} {H : Hp} : EvT tYes σ H true := fun H1 _ Q q => q H1 (Ex.refl _)
/-- without a test -/
theorem evl_lc1 {wi : TI} {g : TG} {te : TE} {vs : List Nat} {σ : L2.St} {H : Hp} {xs : List α} {P : α → L2.St → L2.St → Hp → Prop} (e : α → PyData)
    (hi : EvI wi g σ H xs P) (hz : xs.length < 100000) (hw : ∀ a σ2 H2, a ∈ xs → P a (wipe σ vs) σ2 H2 → wipe σ2 vs = wipe σ vs)
    (he : ∀ a σ2 H2, a ∈ xs → Ex H H2 → P a (wipe σ vs) σ2 H2 → Eva K te σ2 H2 (e a)) (hm : ∀ a ∈ xs, im (e a) = true) : EvaL K (tLc wi g tYes te vs) σ H (xs.map e) :=
  (evl_lc (fun _ => true) e hi hz hw (fun _ _ _ _ _ _ => evt_yes) (fun a σ2 H2 h _ x p => he a σ2 H2 h x p) hm).is (by rw [List.filter_eq_self.mpr fun _ _ => rfl])
/-! what is walked -/
section
variable {σ : L2.St} {H : Hp} {tl : TE} {ta : TA} {j k : Nat} {ds : List PyData}
abbrev P1 (K : PySem.W.Frag) (j : Nat) (d : PyData) (σ0 σ2 : L2.St) (H3 : Hp) : Prop := ∃ v, σ2 = σ0.set j (some v) ∧ Dp K H3 v d
abbrev P2 (K : PySem.W.Frag) (j k : Nat) (d : PyData × PyData) (σ0 σ2 : L2.St) (H3 : Hp) : Prop := ∃ v w, σ2 = (σ0.set j (some v)).set k (some w) ∧ Dp K H3 v d.1 ∧ Dp K H3 w d.2
abbrev PN (j : Nat) (i : Nat) (σ0 σ2 : L2.St) (_ : Hp) : Prop := σ2 = σ0.set j (some (.int (i : Int)))
theorem wk_list {H2 : Hp} {a : Addr} {vs : List V} (h : SqL K H2 a vs) (hs : DpAll K H2 vs ds) : Wk (Itl K a) (Ex H2) (gName j) ds (P1 K j) where
  goes i H hi e := by
    have hv : i < vs.length := by rw [dpa_len hs]; exact hi
    exact ⟨vs, vs[i], ex_l e h, by simp [hv]⟩
  stops H e := ⟨vs, ex_l e h, by rw [dpa_len hs]; exact Nat.le_refl _⟩
  item i hi H x H' e y σ0 k q := by
    obtain ⟨rfl, y⟩ := y
    obtain ⟨d, h1, h2⟩ := dpa_get hs (y vs (ex_l e h))
    rw [List.getElem?_eq_getElem hi] at h1
    cases h1
    exact q _ _ (Ex.refl _) ⟨x, rfl, dp_ex e h2⟩
theorem wk_tup {H2 : Hp} {a : Addr} {vs : List V} (h : SqT K H2 a vs) (hs : DpAll K H2 vs ds) : Wk (Itt K a) (Ex H2) (gName j) ds (P1 K j) where
  goes i H hi e := by
    have hv : i < vs.length := by rw [dpa_len hs]; exact hi
    exact ⟨vs, vs[i], ex_t e h, by simp [hv]⟩
  stops H e := ⟨vs, ex_t e h, by rw [dpa_len hs]; exact Nat.le_refl _⟩
  item i hi H x H' e y σ0 k q := by
    obtain ⟨rfl, y⟩ := y
    obtain ⟨d, h1, h2⟩ := dpa_get hs (y vs (ex_t e h))
    rw [List.getElem?_eq_getElem hi] at h1
    cases h1
    exact q _ _ (Ex.refl _) ⟨x, rfl, dp_ex e h2⟩
theorem evi_list (h : Eva K tl σ H (.list ds)) : EvI (iList K tl) (gName j) σ H ds (P1 K j) := fun H1 e R q => h H1 e _ fun v H2 e2 dv => by
  obtain ⟨a, vs, rfl, ha, hs⟩ := dp_lst dv
  exact ⟨a, rfl, ⟨vs, ha⟩, q _ H2 e2 (wk_list ha hs)⟩
theorem evi_tup (h : Eva K tl σ H (.tuple ds)) : EvI (iTup K tl) (gName j) σ H ds (P1 K j) := fun H1 e R q => h H1 e _ fun v H2 e2 dv => by
  obtain ⟨a, vs, rfl, ha, hs⟩ := dp_tup dv
  exact ⟨a, rfl, ⟨vs, ha⟩, q _ H2 e2 (wk_tup ha hs)⟩
/-- a target of two names -/
abbrev g2 (K : PySem.W.Frag) (j k : Nat) : TG := gTup K 2 (gCons (gName j) (gCons (gName k) gNil))
abbrev dpair (p : PyData × PyData) : PyData := .tuple [p.1, p.2]
theorem wk_two {J : It} {G : Hp → Prop} {ps : List (PyData × PyData)} (w : Wk J G (gName 0) (ps.map dpair) (P1 K 0)) : Wk J G (g2 K j k) ps (P2 K j k) where
  goes i H hi e := w.goes i H (by simpa using hi) e
  stops H e := by have := w.stops H e; rwa [List.length_map] at this
  item i hi H x H' e y σ0 kk q := by
    have hi' : i < (ps.map dpair).length := by simpa using hi
    have := w.item i hi' H x H' e y [none] (fun σ2 H3 => Ex H H3 ∧ P1 K 0 (dpair ps[i]) [none] σ2 H3 ∧ H3 = H3) (fun σ2 H3 e3 z => ⟨e3, by simpa using z, rfl⟩)
    obtain ⟨e3, ⟨v, hv, dv⟩, _⟩ := this
    have ev : x = v := by simpa using hv
    subst ev
    obtain ⟨a, xs, rfl, ha, hs⟩ := dp_tup dv
    obtain ⟨u, z, rfl, hu, hz⟩ := dpa2 hs
    exact ⟨a, [u, z], rfl, ha, rfl, u, [z], rfl, z, [], rfl, rfl, q _ _ e3 ⟨u, z, rfl, hu, hz⟩⟩
theorem evi_list2 {ps : List (PyData × PyData)} (h : Eva K tl σ H (.list (ps.map dpair))) : EvI (iList K tl) (g2 K j k) σ H ps (P2 K j k) := fun H1 e R q => h H1 e _ fun v H2 e2 dv => by
  obtain ⟨a, vs, rfl, ha, hs⟩ := dp_lst dv
  exact ⟨a, rfl, ⟨vs, ha⟩, q _ H2 e2 (wk_two (wk_list ha hs))⟩
theorem evi_tup2 {ps : List (PyData × PyData)} (h : Eva K tl σ H (.tuple (ps.map dpair))) : EvI (iTup K tl) (g2 K j k) σ H ps (P2 K j k) := fun H1 e R q => h H1 e _ fun v H2 e2 dv => by
  obtain ⟨a, vs, rfl, ha, hs⟩ := dp_tup dv
  exact ⟨a, rfl, ⟨vs, ha⟩, q _ H2 e2 (wk_two (wk_tup ha hs))⟩
theorem wk_rng {lo : Int} {n : Nat} {G : Hp → Prop} (hlo : lo = 0) : Wk (Itr lo n) G (gName j) (List.range n) (PN j) where
  goes i H hi e := by rw [List.length_range] at hi; exact hi
  stops H e := by rw [List.length_range]; exact Nat.le_refl n
  item i hi H x H' e y σ0 k q := by
    obtain ⟨rfl, rfl⟩ := y
    subst hlo
    refine q _ _ (Ex.refl _) ?_
    show σ0.set j (some (.int (0 + (i : Nat)))) = _
    rw [Int.zero_add, List.getElem_range]
theorem evi_rng {n : Int} (h : EvaA K ta σ H [.int n]) (h0 : 0 ≤ n) (h1 : n ≤ 100000) : EvI (iRng1 ta) (gName j) σ H (List.range n.toNat) (PN j) := fun H1 e R q => h H1 e _ fun vs H2 e2 dv => by
  obtain ⟨v, rfl, dv1⟩ := dpa1 dv
  exact ⟨n, by rw [dp_int dv1], by omega, by omega, q _ H2 e2 (wk_rng rfl)⟩
/-- zip of two lists -/
theorem wk_zip {H2 : Hp} {a b : Addr} {vs ws : List V} {es : List PyData} (ha : SqL K H2 a vs) (hb : SqL K H2 b ws) (hs : DpAll K H2 vs ds) (ht : DpAll K H2 ws es) : Wk (Itz K a b) (Ex H2) (g2 K j k) (ds.zip es) (P2 K j k) where
  goes i H hi e := by
    rw [List.length_zip] at hi
    have hv : i < vs.length := by rw [dpa_len hs]; omega
    have hw : i < ws.length := by rw [dpa_len ht]; omega
    exact ⟨vs, ws, vs[i], ws[i], ex_l e ha, ex_l e hb, by simp [hv], by simp [hw]⟩
  stops H e := ⟨vs, ws, ex_l e ha, ex_l e hb, by
    rw [List.length_zip, dpa_len hs, dpa_len ht]
    omega⟩
  item i hi H x H' e y σ0 kk q := by
    obtain ⟨T, x1, x2, rfl, nT, rfl, f1, f2⟩ := y
    obtain ⟨d1, g1, z1⟩ := dpa_get hs (f1 _ (ex_l e ha))
    obtain ⟨d2, g2, z2⟩ := dpa_get ht (f2 _ (ex_l e hb))
    have hi' := hi
    rw [List.length_zip] at hi'
    rw [List.getElem?_eq_getElem (by omega)] at g1 g2
    cases g1
    cases g2
    have e3 : Ex H (upd H T (.tup [x1, x2])) := Ex.new nT
    refine ⟨T, [x1, x2], rfl, .inl (.inl upd_same), rfl, x1, [x2], rfl, x2, [], rfl, rfl, q _ _ e3 ⟨x1, x2, rfl, ?_, ?_⟩⟩
    · rw [List.getElem_zip]; exact dp_ex (e.trans e3) z1
    · rw [List.getElem_zip]; exact dp_ex (e.trans e3) z2
theorem evi_zip {tb : TE} {es : List PyData} (h : EvaA K (tCons tl (tCons tb tNil)) σ H [.list ds, .list es]) : EvI (iZip K (tCons tl (tCons tb tNil))) (g2 K j k) σ H (ds.zip es) (P2 K j k) := fun H1 e R q => h H1 e _ fun vs H2 e2 dv => by
  obtain ⟨v, w, rfl, h1, h2⟩ := dpa2 dv
  obtain ⟨a, xs, rfl, ha, hs⟩ := dp_lst h1
  obtain ⟨b, ys, rfl, hb, ht⟩ := dp_lst h2
  exact ⟨a, b, xs, ys, rfl, ha, hb, q _ H2 e2 (wk_zip ha hb hs ht)⟩
end
/-! ### loops -/
section
variable {σ : L2.St} {H : Hp} {wi : TI} {g : TG} {xs : List α} {P : α → L2.St → L2.St → Hp → Prop} {tb tz : TS} {D : Ends}
/-- the same as EvI, the source told by G -/
def EvG (wi : TI) (g : TG) (σ : L2.St) (H : Hp) (G : Hp → Prop) (xs : List α) (P : α → L2.St → L2.St → Hp → Prop) : Prop := ∀ H1, Ex H H1 → ∀ R : It → Hp → Prop, (∀ J H2, Ex H1 H2 → Wk J G g xs P → R J H2) → wi σ H1 R
theorem for_gen {J : It} {G : Hp → Prop} (wk : Wk J G g xs P) {σ : L2.St} {H : Hp} (Pv : Nat → L2.St → Hp → Prop) (hG : ∀ i σ' H', i ≤ xs.length → Pv i σ' H' → G H') (h0 : Pv 0 σ H)
    (hs : ∀ i (hi : i < xs.length) σ' H' σ2 H3, Pv i σ' H' → Ex H' H3 → P xs[i] σ' σ2 H3 → tb { D with nx := Pv (i + 1), ct := Pv (i + 1), bk := D.nx } σ2 H3) (hd : ∀ σ' H', Pv xs.length σ' H' → D.nx σ' H') :
    ∃ W : Nat → Nat → L2.St → Hp → Prop, (∃ m, W 0 m σ H) ∧ ∀ i m σ H, W i m σ H → (J.stop i H ∧ D.nx σ H) ∨ (J.go i H ∧ ∃ N : L2.St → Hp → Prop, (∀ σ' H', N σ' H' → ∃ m', m' < m ∧ W (i + 1) m' σ' H') ∧ ∀ x H', J.yld i H x H' → g x σ H' fun σ2 H2 => tb { D with nx := N, ct := N, bk := D.nx } σ2 H2) := by
  refine ⟨fun i m σ H => m = xs.length - i ∧ i ≤ xs.length ∧ Pv i σ H, ⟨xs.length, by simp, Nat.zero_le _, h0⟩, ?_⟩
  rintro i m σ1 H1 ⟨rfl, hi, p⟩
  have gg := hG i σ1 H1 hi p
  by_cases hlt : i < xs.length
  · exact .inr ⟨wk.goes i H1 hlt gg, Pv (i + 1), fun σ' H' p' => ⟨xs.length - (i + 1), by omega, rfl, hlt, p'⟩, fun x H' y => wk.item i hlt H1 x H' gg y _ _ fun σ2 H3 e hP => hs i hlt σ1 H1 σ2 H3 p e hP⟩
  · have e : i = xs.length := by omega
    subst e
    exact .inl ⟨wk.stops H1 gg, hd σ1 H1 p⟩
/-- a loop that stores in lists of its own: the source is told by G -/
theorem s_forG {G : Hp → Prop} (hi : EvG wi g σ H G xs P) (Pv : Nat → L2.St → Hp → Prop) (hG : ∀ i σ' H', i ≤ xs.length → Pv i σ' H' → G H') (h0 : ∀ H1, Ex H H1 → Pv 0 σ H1)
    (hs : ∀ i (hi : i < xs.length) σ' H' σ2 H3, Pv i σ' H' → Ex H' H3 → P xs[i] σ' σ2 H3 → tb { D with nx := Pv (i + 1), ct := Pv (i + 1), bk := D.nx } σ2 H3) (hd : ∀ σ' H', Pv xs.length σ' H' → D.nx σ' H') :
    tFor wi g tb D σ H := hi H (Ex.refl _) _ fun J H2 e2 wk => for_gen wk Pv hG (h0 H2 e2) hs hd
theorem q_forG {G : Hp → Prop} (hi : EvG wi g σ H G xs P) (Pv : Nat → L2.St → Hp → Prop) (hG : ∀ i σ' H', i ≤ xs.length → Pv i σ' H' → G H') (h0 : ∀ H1, Ex H H1 → Pv 0 σ H1)
    (hs : ∀ i (hi : i < xs.length) σ' H' σ2 H3, Pv i σ' H' → Ex H' H3 → P xs[i] σ' σ2 H3 → tb { D with nx := Pv (i + 1), ct := Pv (i + 1), bk := tz D } σ2 H3) (hd : ∀ σ' H', Pv xs.length σ' H' → tz D σ' H') :
    tSeq (tFor wi g tb) tz D σ H := s_forG (D := { D with nx := tz D }) hi Pv hG h0 hs hd
/-- a loop that only makes new things -/
theorem s_forI (hi : EvI wi g σ H xs P) (Pv : Hp → Nat → L2.St → Hp → Prop) (hG : ∀ H2 i σ' H', Pv H2 i σ' H' → Ex H2 H') (h0 : ∀ H2, Ex H H2 → Pv H2 0 σ H2)
    (hs : ∀ H2, Ex H H2 → ∀ i (hi : i < xs.length) σ' H' σ2 H3, Pv H2 i σ' H' → Ex H' H3 → P xs[i] σ' σ2 H3 → tb { D with nx := Pv H2 (i + 1), ct := Pv H2 (i + 1), bk := D.nx } σ2 H3)
    (hd : ∀ H2, Ex H H2 → ∀ σ' H', Pv H2 xs.length σ' H' → D.nx σ' H') :
    tFor wi g tb D σ H := hi H (Ex.refl _) _ fun J H2 e2 wk => for_gen wk (Pv H2) (fun i σ' H' _ p => hG H2 i σ' H' p) (h0 H2 e2) (hs H2 e2) (hd H2 e2)
theorem q_forI (hi : EvI wi g σ H xs P) (Pv : Hp → Nat → L2.St → Hp → Prop) (hG : ∀ H2 i σ' H', Pv H2 i σ' H' → Ex H2 H') (h0 : ∀ H2, Ex H H2 → Pv H2 0 σ H2)
    (hs : ∀ H2, Ex H H2 → ∀ i (hi : i < xs.length) σ' H' σ2 H3, Pv H2 i σ' H' → Ex H' H3 → P xs[i] σ' σ2 H3 → tb { D with nx := Pv H2 (i + 1), ct := Pv H2 (i + 1), bk := tz D } σ2 H3)
    (hd : ∀ H2, Ex H H2 → ∀ σ' H', Pv H2 xs.length σ' H' → tz D σ' H') :
    tSeq (tFor wi g tb) tz D σ H := s_forI (D := { D with nx := tz D }) hi Pv hG h0 hs hd
end
section
variable {σ : L2.St} {H Hb : Hp} {v : V} {i j k : Nat} {ds : List PyData}
/-- a loop over a name: its list is known in a heap Hb that only grows -/
theorem evg_list (hv : σ[i]? = some (some v)) (h : Dp K Hb v (.list ds)) (e : Ex Hb H) : EvG (iList K (tVar i)) (gName j) σ H (Ex Hb) ds (P1 K j) := fun H1 e1 R q => by
  obtain ⟨a, vs, rfl, ha, hs⟩ := dp_lst h
  exact ⟨_, hv, a, rfl, ⟨vs, ex_l (e.trans e1) ha⟩, q _ H1 (Ex.refl _) (wk_list ha hs)⟩
theorem evg_tup (hv : σ[i]? = some (some v)) (h : Dp K Hb v (.tuple ds)) (e : Ex Hb H) : EvG (iTup K (tVar i)) (gName j) σ H (Ex Hb) ds (P1 K j) := fun H1 e1 R q => by
  obtain ⟨a, vs, rfl, ha, hs⟩ := dp_tup h
  exact ⟨_, hv, a, rfl, ⟨vs, ex_t (e.trans e1) ha⟩, q _ H1 (Ex.refl _) (wk_tup ha hs)⟩
theorem evg_rng {ta : TA} {n : Int} {G : Hp → Prop} (h : EvaA K ta σ H [.int n]) (h0 : 0 ≤ n) (h1 : n ≤ 100000) : EvG (iRng1 ta) (gName j) σ H G (List.range n.toNat) (PN j) := fun H1 e R q => h H1 e _ fun vs H2 e2 dv => by
  obtain ⟨v, rfl, dv1⟩ := dpa1 dv
  exact ⟨n, by rw [dp_int dv1], by omega, by omega, q _ H2 e2 (wk_rng rfl)⟩
/-- over a new list of immutable data, a list of one's own at p being changed -/
theorem evg_new {tl : TE} {p : Addr} {o : HO} (h : EvaL K tl σ H ds) (hm : imAll ds = true) (hp : H p = some o) (ho : noTup o = true) (R : It → Hp → Prop) (q : ∀ a H2, a ≠ p → Ex H H2 → Wk (Itl K a) (Ex (er H2 p)) (gName j) ds (P1 K j) → R (Itl K a) H2) : iList K tl σ H R :=
  h H (Ex.refl _) _ fun a vs H2 na e2 ha hs => by
    have ne : a ≠ p := fun z => by rw [z, hp] at na; cases na
    have hx : H2 p = some o := e2 p o hp
    refine ⟨a, rfl, ⟨vs, .inl (.inl ha)⟩, q a H2 ne e2 (wk_list (vs := vs) (.inl (.inl (by rw [er_ne ne]; exact ha))) ?_)⟩
    exact dpa_tx (tx_er hx ho) (dpa_ex er_ex hs) hm
end
end
end Cb
set_option Elab.async false
set_option linter.all false
set_option maxRecDepth 100000
set_option maxHeartbeats 4000000
/-! Cb: the facts of the top by names. -/
namespace Cb
open PySem PySem.Spec PyProof.Rows L2 Evl
/-- the object that a name of the module stands for -/
def refAt (mg : Str → Option Value) (x : Str) : Addr := match mg x with
  | some (.ref a) => a
  | _ => 0
structure Tb (K : PySem.W.Frag) (mg : Str → Option Value) : Prop where
  f_is_integer : FnAt K mg "is_integer" 3
  f_divisor : FnAt K mg "divisor" 4
  f_made : FnAt K mg "made" 5
  f_plus : FnAt K mg "plus" 6
  f_times : FnAt K mg "times" 7
  f_is_less : FnAt K mg "is_less" 8
  f_least_of : FnAt K mg "least_of" 9
  f_greatest_of : FnAt K mg "greatest_of" 10
  f_ascending : FnAt K mg "ascending" 11
  f_middle : FnAt K mg "middle" 12
  f_is_fraction : FnAt K mg "is_fraction" 13
  f_mean_of : FnAt K mg "mean_of" 15
  f_ranked_of : FnAt K mg "ranked_of" 16
  f_value_of : FnAt K mg "value_of" 17
  f_half : FnAt K mg "half" 19
  f_is_within : FnAt K mg "is_within" 29
  f_is_number : FnAt K mg "is_number" 30
  f_are_numbers : FnAt K mg "are_numbers" 31
  f_check_wishes : FnAt K mg "check_wishes" 32
  f_is_person : FnAt K mg "is_person" 33
  f_check_person : FnAt K mg "check_person" 34
  f_all_lots : FnAt K mg "all_lots" 36
  f_ends_for : FnAt K mg "ends_for" 37
  f_corner_of : FnAt K mg "corner_of" 38
  f_corners_of : FnAt K mg "corners_of" 39
  f_wishing : FnAt K mg "wishing" 41
  f_outcome_among : FnAt K mg "outcome_among" 42
  f_outcome_of : FnAt K mg "outcome_of" 43
  f_outcome : FnAt K mg "outcome" 44
  f_are_parts : FnAt K mg "are_parts" 50
  f_is_weighted : FnAt K mg "is_weighted" 51
  f_is_bound : FnAt K mg "is_bound" 52
  f_parts_told : FnAt K mg "parts_told" 53
  f_is_leaf : FnAt K mg "is_leaf" 54
  f_terms_told : FnAt K mg "terms_told" 55
  f_is_logged : FnAt K mg "is_logged" 60
  f_check_log : FnAt K mg "check_log" 61
  f_people_in : FnAt K mg "people_in" 62
  f_check_logged_wishes : FnAt K mg "check_logged_wishes" 63
  f_numbers_in : FnAt K mg "numbers_in" 64
  f_place_of : FnAt K mg "place_of" 65
  f_wish_at : FnAt K mg "wish_at" 66
  f_places_open : FnAt K mg "places_open" 67
  f_bits_of : FnAt K mg "bits_of" 68
  f_lots_for : FnAt K mg "lots_for" 69
  f_levels_of : FnAt K mg "levels_of" 70
  f_is_part : FnAt K mg "is_part" 71
  f_ways_down : FnAt K mg "ways_down" 72
  f_ways_up : FnAt K mg "ways_up" 73
  f_first_way : FnAt K mg "first_way" 74
  f_can_stand : FnAt K mg "can_stand" 75
  f_do_fit : FnAt K mg "do_fit" 76
  f_fits : FnAt K mg "fits" 77
  f_fitting : FnAt K mg "fitting" 78
  f_places : FnAt K mg "places" 79
  f_may_stand : FnAt K mg "may_stand" 80
  f_many_places : FnAt K mg "many_places" 81
  f_l_dice : FnAt K mg "_law_dice" 83
  f_l_draw : FnAt K mg "_law_draw" 84
  f_l_lowest : FnAt K mg "_law_lowest" 85
  f_l_sum : FnAt K mg "_law_sum" 86
  f_l_product : FnAt K mg "_law_product" 87
  f_l_less : FnAt K mg "_law_less" 88
  f_l_sorted : FnAt K mg "_law_sorted" 89
  f_l_number : FnAt K mg "_law_number" 90
  f_l_numbers : FnAt K mg "_law_numbers" 91
  f_l_term : FnAt K mg "_law_term" 92
  f_l_value : FnAt K mg "_law_value" 93
  f_l_lots : FnAt K mg "_law_lots" 94
  f_l_by_size : FnAt K mg "_law_by_size" 95
  f_l_at_ends : FnAt K mg "_law_at_ends" 96
  f_l_corner : FnAt K mg "_law_corner" 97
  f_l_wishing : FnAt K mg "_law_wishing" 98
  f_l_wishing_more : FnAt K mg "_law_wishing_more" 99
  f_l_is_outcome : FnAt K mg "_law_is_outcome" 100
  f_l_flag : FnAt K mg "_law_flag" 101
  f_l_rules : FnAt K mg "_law_rules" 102
  f_l_unlike : FnAt K mg "_law_unlike" 103
  f_l_place : FnAt K mg "_law_place" 104
  f_l_open : FnAt K mg "_law_open" 105
  f_l_all_tuples : FnAt K mg "_law_all_tuples" 106
  f_l_held : FnAt K mg "_law_held" 107
  f_l_fitting : FnAt K mg "_law_fitting" 108
  f_l_is_well : FnAt K mg "_law_is_well" 109
  f_law : FnAt K mg "law" 110
  MOST_PEOPLE : ∃ t, mg "MOST_PEOPLE" = some (.int 6 t)
  MOST_DEEP : ∃ t, mg "MOST_DEEP" = some (.int 8 t)
  MOST_TERMS : ∃ t, mg "MOST_TERMS" = some (.int 60 t)
  MOST_PARTS : ∃ t, mg "MOST_PARTS" = some (.int 8 t)
  MOST_WEIGHT : ∃ t, mg "MOST_WEIGHT" = some (.int 99 t)
  MOST_LOGGED : ∃ t, mg "MOST_LOGGED" = some (.int 4 t)
  MOST_PLACES : ∃ t, mg "MOST_PLACES" = some (.int 20000 t)
  len : mg "len" = none
  range : mg "range" = none
  tuple : mg "tuple" = none
  isinstance : mg "isinstance" = none
  int : mg "int" = none
  bool : mg "bool" = none
  str : mg "str" = none
  abs : mg "abs" = none
  sum : mg "sum" = none
  all : mg "all" = none
  any : mg "any" = none
  list : mg "list" = none
  sorted : mg "sorted" = none
  set : mg "set" = none
  zip : mg "zip" = none
  enumerate : mg "enumerate" = none
  ZERO : mg "ZERO" = some (.ref (refAt mg "ZERO"))
  sZERO : ∀ H, SqT K H (refAt mg "ZERO") [.int 0, .int 1]
  ONE : mg "ONE" = some (.ref (refAt mg "ONE"))
  sONE : ∀ H, SqT K H (refAt mg "ONE") [.int 1, .int 1]
  Rule : mg "Rule" = some (.ref (refAt mg "Rule"))
  cls : Cls K (refAt mg "Rule")
  noP : NoAttr K (refAt mg "Rule") "people"
  noT : NoAttr K (refAt mg "Rule") "term"
  mkr : ∃ f fd, Mk K (refAt mg "Rule") f ∧ Fun K "__init__" "Rule.__init__" (inClass (topS 56) 0) f fd
  tyR : ∀ (H : Hp) (a dx : Addr) (fs : List (Str × V)), H a = some (.ins (refAt mg "Rule") dx fs) → TyOf K H (.ref a) (.ref (refAt mg "Rule"))
  isR : PySem.W.kitOne K (.ref (refAt mg "Rule")) (.ref (refAt mg "Rule")) = some true
end Cb
set_option Elab.async false
set_option linter.all false
set_option maxRecDepth 100000
set_option maxHeartbeats 4000000
/-! Cb, the layer: rules that the layer lacks. -/
namespace Cb
open PySem PySem.Spec PyProof.Rows L2 Evl

theorem paired_at {α β : Type} {F : α → β → Prop} : ∀ {l1 : List α} {l2 : List β} {i : Nat} {a : α} {b : β}, Paired F l1 l2 → l1[i]? = some a → l2[i]? = some b → F a b
  | _, _, _, _, _, .nil, h, _ => by simp at h
  | _, _, 0, _, _, .cons h _, h1, h2 => by
    simp at h1 h2
    rw [← h1, ← h2]
    exact h
  | _, _, i + 1, _, _, .cons _ t, h1, h2 => paired_at (i := i) t (by simpa using h1) (by simpa using h2)
theorem paired_len {α β : Type} {F : α → β → Prop} : ∀ {l1 : List α} {l2 : List β}, Paired F l1 l2 → l1.length = l2.length
  | _, _, .nil => rfl
  | _, _, .cons _ t => by simp [paired_len t]
/-! ### a tuple by 1 -/
theorem tuple_times_one (l : Addr) (its : Array Value) (n : Nat) (dd : Option Addr) (sl : Array (Option Value)) (u : Tok) :
    Meets (Builtin.«tuple.__mul__» ⟨[.ref l, .int 1 u], []⟩) (fun _ R s => s.heap.get? l = some { cls := .type "tuple", dict := dd, data := .seq its n, slots := sl } ∧ R (.ok (.ret (.ref l))) s) :=
  .of_wp fun prog w A R s hh => by
    obtain ⟨hp, g, d, tk, os⟩ := s
    obtain ⟨hl, h⟩ := hh
    have f1 := AutoSeq1.idx_int
    have c0 : (decide ((1 : Int) < -(2 ^ 63)) || decide ((1 : Int) ≥ 2 ^ 63)) = false := by decide
    have c1 : (its.isEmpty || (1 : Int) == 1) = true := by simp
    wp_walk using wpAny_loadPart' hl
    exact ⟨_, rfl, h⟩
/-- t * k, k from 1 on -/
def rRep1 (K : PySem.W.Frag) : R2 := fun x y H Q => ∃ l k xs, x = .ref l ∧ y = .int k ∧ SqT K H l xs ∧ xs ≠ [] ∧ 1 ≤ k ∧ k ≤ 1000 ∧ xs.length ≤ 1000 ∧ (k = 1 → Q (.ref l) H) ∧
  (k ≠ 1 → ∀ p, H p = none → Q (.ref p) (upd H p (.tup (List.replicate k.toNat xs).flatten)))
section
variable {X : Cx}
theorem op_repT1 : OpR X (binaryOp .Mult) (rRep1 X.K) := by
  intro pins s σ H x y v u Q I rx ry h
  obtain ⟨l, k, xs, rfl, rfl, hT, hne, h1, h2, hz, q1, q2⟩ := h
  by_cases hk : k = 1
  · subst hk
    cases rx
    obtain ⟨tk, rfl⟩ := ry
    obtain ⟨its, rv, ⟨⟨cls, dd, data, sl⟩, ho, hc, n, hd⟩, hs⟩ := I.tuple hT
    simp only at hc hd
    subst hc hd
    have isT : s.TypeIs (.ref l) "tuple" := ⟨_, ho, rfl⟩
    refine wpAny_binaryOp_repeat_ref (T := "tuple") (U := "int") (by decide) isT (fun s' => typeIs_int s' 1 tk) noFill_tuple_mul F.fills_int_mul F.slot_int_rmul repeat_tuple
      F.slot_int_index.lookup (call_meets F.slot_int_rmul (typeIs_int s 1 tk) F.entry_int_rmul (F.args_int_rmul_2 _ _) (int_rmul_tuple 1 tk l its.toArray n dd sl) ⟨ho, rfl, isT, ?_⟩)
    exact call_meets F.slot_tuple_mul isT F.entry_tuple_mul (F.args_tuple_mul_2 _ _) (tuple_times_one l its.toArray n dd sl tk) ⟨ho, .ref l, H, I, rfl, q1 rfl⟩
  · exact op_repT pins s σ H _ _ v u Q I rx ry ⟨l, k, xs, rfl, rfl, hT, hne, by omega, h2, hz, q2 hk⟩
/-! ### sorted of less than two things, of tuples of ints of one length -/
def rSort01 (K : PySem.W.Frag) : List V → Hp → VK → Prop := fun vs H Q => ∃ (a : Addr) (xs : List V), vs = [.ref a] ∧ SqL K H a xs ∧ xs.length < 2 ∧ ∀ p, H p = none → Q (.ref p) (upd H p (.lst xs))
theorem perm_short {α : Type} {xs ys : List α} (h : ys.Perm xs) (hl : xs.length < 2) : ys = xs := by
  match xs, hl with
  | [], _ => exact h.eq_nil
  | [x], _ => exact List.perm_singleton.mp h
  | _ :: _ :: _, hl => simp at hl; omega
theorem swo_none : SrtO.Swo (fun (_ _ : Value) => false) where
  asym := fun _ _ h => by cases h
  tr := fun _ _ _ _ _ => rfl
theorem cr_sort01 : CallR X (.builtin "sorted") (rSort01 X.K) := by
  intro pins s σ H vs us Q I r h
  obtain ⟨a, xs, rfl, hs, h2, q⟩ := h
  obtain ⟨its, rv, hl, hz⟩ := I.list hs
  rw [Vals.ref1 r]
  have hlen := rv.length
  refine SrtO.sorted_ord swo_none hl.isList (by omega) (fun z => by omega) fun out _ st => ?_
  obtain ⟨ep, eo⟩ := PyProof.Rows.sortedAll_at s.heap its out.toArray
  have e := perm_short st.perm (by omega)
  subst e
  refine ⟨.ref _, upd H (s.heap.objs.size + 1) (.lst xs), I.laid (t' := s.toks) (fun _ _ => PyProof.Rows.sortedAll_old) (Nat.le_succ _) ⟨by omega, out, ep, rv, eo⟩, rfl, ?_⟩
  exact q _ (I.hok.fresh (Nat.le_succ _))
def rSortX (K : PySem.W.Frag) : List V → Hp → VK → Prop := fun vs H Q => rSort01 K vs H Q ∨ ∃ d B, 1 ≤ d ∧ rSortU K d B vs H Q
theorem cr_sortedL : CallR X (.builtin "sorted") (rSortX X.K) := by
  intro pins s σ H vs us Q I r h
  rcases h with h | ⟨d, B, hd, h⟩
  · exact cr_sort01 pins s σ H vs us Q I r h
  · exact cr_sortT hd pins s σ H vs us Q I r h
/-! ### d.values() of a dict, and the sum of it -/
def valsO (p d : Addr) : HO := .ext fun h => h.get? p = some { cls := .type "dict_values", data := .fields #[.ref d] }
theorem valsO_ok {P : Program} {w : World} {H : Hp} {h : Heap} {p d : Addr} (e : h.get? p = some { cls := .type "dict_values", data := .fields #[.ref d] }) : ObjOk P w H h p (valsO p d) :=
  ⟨e, ⟨_, e⟩, fun _ _ z k => k _ z⟩
def rVals : V → List V → Hp → VK → Prop := fun x xs H Q => ∃ (a : Addr) (kvs : List (L2.Key × V)), x = .ref a ∧ xs = [] ∧ H a = some (.dK kvs) ∧ ∀ p, H p = none → Q (.ref p) (upd H p (valsO p a))
theorem mt_vals : MtR X "dict.values" rVals := by
  intro pins s σ H x xs v us Q I rx rxs h
  obtain ⟨a, kvs, rfl, rfl, ha, q⟩ := h
  cases rx
  cases rxs
  obtain ⟨z, hd, vs', rel, dd⟩ := dk_of I.hok ha
  refine call_meetsIn F.slot_dict_values dd.typeIs F.entry_dict_values (F.args_dict_values_1 _) (meets_dict_values (mixKind X.prog X.w) a hd) ⟨⟨_, dd⟩, ?_⟩
  have nw := I.hok.fresh (Nat.le_refl s.heap.objs.size)
  refine ⟨.ref s.heap.objs.size, upd H s.heap.objs.size (valsO s.heap.objs.size a), I.laid (t' := s.toks) (fun _ _ e => Heap.get?_push_of_some _ e) (Nat.le_refl _) (valsO_ok (Heap.get?_push_size _ rfl)), rfl, ?_⟩
  exact q _ nw
theorem preSum_sum (ns : List Int) : ∀ j, j ≤ ns.length → preSum (fun i => ns.getD i 0) j = (ns.take j).sum
  | 0, _ => rfl
  | j + 1, h => by
    have hj : j < ns.length := h
    rw [preSum, preSum_sum ns j (by omega), List.take_add_one, List.getElem?_eq_getElem hj, List.getD_eq_getElem?_getD, List.getElem?_eq_getElem hj, List.sum_append]
    simp
def rSumVals : List V → Hp → VK → Prop := fun vs H Q => ∃ (p a : Addr) (kvs : List (L2.Key × V)) (ns : List Int), vs = [.ref p] ∧ H p = some (valsO p a) ∧ H a = some (.dK kvs) ∧ kvs.map (·.2) = ns.map V.int ∧
  (∀ j, j < ns.length → InLong (ns.getD j 0) ∧ InLong (ns.take (j + 1)).sum) ∧ Q (.int ns.sum) H
theorem cr_sumVals (hcl : X.calm = true) : CallR X (.builtin "sum") rSumVals := by
  intro pins s σ H vs us Q I r h
  obtain ⟨p, a, kvs, ns, rfl, hp, ha, hv, hin, q⟩ := h
  rw [Vals.ref1 r]
  have view : s.heap.get? p = some { cls := .type "dict_values", data := .fields #[.ref a] } := (show ObjOk X.prog X.w H s.heap p (valsO p a) from I.hok p _ hp).1
  obtain ⟨z, hd, ws, rel, o, es, ep, dd⟩ := dk_of I.hok ha
  have dat : s.heap.DictAt (mixKind X.prog X.w) a ws ep := ⟨o, es, dd⟩
  have hlw : kvs.length = ws.length := Paired.length rel
  have hln : kvs.length = ns.length := by have := congrArg List.length hv; simpa using this
  refine call_sum_walk (wpAny_pyIter_values (d := a) (knd := mixKind X.prog X.w) ⟨_, view, rfl, rfl⟩ dat ?_)
  have hcalm := I.ok.hd hcl
  have ne : a ≠ s.heap.objs.size := Nat.ne_of_lt (I.hok.lt ha)
  refine ⟨s.heap.objs.size, _, _, _, _, _, fun i => ns.getD i 0, rfl, Walks.dictValues (knd := mixKind X.prog X.w) (by simp [hcalm]) s.heap.objs.size a ne ws ep, ⟨⟨_, Heap.get?_push_size _ rfl, rfl, rfl⟩, dat.push _⟩, ?_, ?_, ?_, ?_⟩
  · intro b hb
    rw [Heap.size_push]
    have e : b = s.heap.objs.size ∨ b = a := by simpa using hb
    rcases e with e | e
    · rw [e]; exact Nat.lt_succ_self _
    · rw [e]; exact Nat.lt_succ_of_lt (I.hok.lt ha)
  · rintro i v ⟨k, hk⟩
    have hi : i < ws.length := (List.getElem?_eq_some_iff.mp hk).1
    obtain ⟨u, hu, ru⟩ : ∃ u, kvs[i]? = some u ∧ RelV u.2 v := by
      have hik : i < kvs.length := by omega
      refine ⟨kvs[i], List.getElem?_eq_getElem hik, ?_⟩
      have := paired_at rel (i := i) (List.getElem?_eq_getElem hik) hk
      exact this.2
    have e2 : (kvs.map (·.2))[i]? = some u.2 := by rw [List.getElem?_map, hu]; rfl
    rw [hv, List.getElem?_map] at e2
    have hin2 : i < ns.length := by omega
    rw [List.getElem?_eq_getElem hin2] at e2
    have e3 : V.int ns[i] = u.2 := Option.some.inj e2
    rw [← e3] at ru
    obtain ⟨t, rfl⟩ := ru
    exact ⟨t, by show _ = Value.int (ns.getD i 0) t; rw [List.getD_eq_getElem?_getD, List.getElem?_eq_getElem hin2]; rfl⟩
  · intro j hj
    have hj' : j < ns.length := by omega
    refine ⟨(hin j hj').1, ?_⟩
    rw [preSum_sum ns (j + 1) hj']
    exact (hin j hj').2
  · intro h' tk t' hk
    have e : preSum (fun i => ns.getD i 0) ws.length = ns.sum := by
      rw [preSum_sum ns _ (by omega), List.take_of_length_le (by omega)]
    rw [e]
    refine ⟨.int ns.sum, H, I.kept (t' := tk) fun b u hb => hk b u ?_ (Heap.get?_push_of_some _ hb), ⟨_, rfl⟩, q⟩
    intro hm
    have : b = s.heap.objs.size := by simpa using hm
    exact absurd (Heap.lt_size hb) (by rw [this]; exact Nat.lt_irrefl _)
end
/-! ### enumerate of a tuple -/
def tupIt (t : Addr) : Obj := { cls := .type "tuple_iterator", data := .fields #[.ref t, .int 0 0] }
def enO (it : Addr) : Obj := { cls := .type "enumerate", data := .fields #[.none, .bool false, .ref it, rawInt 0, .none, .none] }
theorem enum_new_tup (t : Addr) (its : Array Value) (n : Nat) (dct : Option Addr) (sl : Array (Option Value)) :
    Meets (Builtin.«enumerate.__new__» ⟨[.type "enumerate", .ref t], []⟩) (fun _ R s => s.heap.get? t = some { cls := .type "tuple", dict := dct, data := .seq its n, slots := sl } ∧
      R (.ok (.ret (.ref (s.heap.push (tupIt t)).objs.size))) { s with heap := (s.heap.push (tupIt t)).push (enO s.heap.objs.size) }) :=
  .of_wp fun prog w A R s hh => by
    obtain ⟨hp, g, d, tk, os⟩ := s
    obtain ⟨ht, h⟩ := hh
    have e0 := sub_enumerate
    have isT : Heap.IsTuple (Shared.heap ⟨hp, g, d, tk, os⟩) t its := ⟨_, ht, rfl, n, rfl⟩
    wp_walk using AutoSeq1.wpAny_loadPart' ht
    refine wpAny_stack_any fun stk => wpAny_pure ?_
    split
    · rename_i c _ _ _ _ _
      cases (c == Value.type "enumerate") <;> (wp_walk using AutoSeq1.wpAny_loadPart' ht, wpAny_pyIter_tuple isT; exact ⟨_, rfl, h⟩)
    · wp_walk using AutoSeq1.wpAny_loadPart' ht, wpAny_pyIter_tuple isT
      exact ⟨_, rfl, h⟩
theorem enum_call_tup {prog : Program} {w : World} {A : Around} {E : Value → Shared → Prop} {s : Shared} {t : Addr} {its : Array Value} {Q : Value → Shared → Prop} (ht : s.heap.IsTuple t its)
    (h : ∀ h', IsEnum h' (s.heap.objs.size + 1) s.heap.objs.size 0 .none → h'.IsTupleIter s.heap.objs.size t 0 → (∀ b o, s.heap.get? b = some o → h'.get? b = some o) → Q (.ref (s.heap.objs.size + 1)) { s with heap := h' }) :
    wpAny (model prog w) A (call (.type "enumerate") [.ref t]) Q E s := by
  obtain ⟨⟨c, dct, dt, sl⟩, hl, hc, n, hd⟩ := ht
  simp only at hc hd
  subst hc hd
  have hz : (s.heap.push (tupIt t)).objs.size = s.heap.objs.size + 1 := Heap.size_push ..
  have he : IsEnum ((s.heap.push (tupIt t)).push (enO s.heap.objs.size)) (s.heap.objs.size + 1) s.heap.objs.size 0 .none := by
    have z := Heap.get?_push_size (s.heap.push (tupIt t)) (o := enO s.heap.objs.size) rfl
    rw [hz] at z
    exact z
  refine callType_new F.called_enumerate (by decide) (F.typeCall_enumerate_1 _) (F.newCall_enumerate_1 _) (fun obj => F.args_object_init_2 obj _) F.entry_enumerate_new (enum_new_tup t its n dct sl) ⟨hl, ?_⟩
  show _ ∧ _
  rw [hz]
  exact ⟨⟨_, he, rfl⟩, h _ he ⟨_, Heap.get?_push_of_some _ (Heap.get?_push_size _ rfl), rfl, rfl⟩ fun b o x => Heap.get?_push_of_some _ (Heap.get?_push_of_some _ x)⟩
/-- the tuple at a as it stands at each turn, each item in a new pair -/
def IteT (K : PySem.W.Frag) (a : Addr) : It where
  go i H := ∃ (xs : List V) (x : V), SqT K H a xs ∧ xs[i]? = some x
  yld i H v H' := ∃ T x, v = .ref T ∧ H T = none ∧ H' = upd H T (.tup [.int (i : Nat), x]) ∧ ∀ xs, SqT K H a xs → xs[i]? = some x
  stop i H := ∃ xs : List V, SqT K H a xs ∧ xs.length = i
theorem sqt_inj {X : Cx} {pins : List (Addr × Obj)} {σ : L2.St} {H : Hp} {s : Shared} {a : Addr} {xs ys : List V} (I : Inv X pins σ H s) (h1 : SqT X.K H a xs) (h2 : SqT X.K H a ys) : xs = ys := I.tuple_inj h1 h2
end Cb
set_option Elab.async false
set_option linter.all false
set_option maxRecDepth 100000
set_option maxHeartbeats 4000000
/-! Cb, the layer: enumerate of a tuple, walked. -/
namespace Cb
open PySem PySem.Spec PyProof.Rows L2 Evl
/-- where such an enumeration stands -/
def EnT (e it a : Addr) (i : Nat) (h : Heap) : Prop := (∃ old, IsEnum h e it ((i : Nat) : Int) old) ∧ h.IsTupleIter it a i ∧ e ≠ it ∧ a ≠ it ∧ a ≠ e
theorem turn_enT {P : Program} {w : World} {K : PySem.W.Frag} {elts : List Expr} {kk : Nat} {tpos : Pos} (a e it : Addr) : Turn P w K (.Tuple elts kk tpos) (IteT K a) [e, it] e (EnT e it a) where
  mem := List.mem_cons_self
  obj := by
    rintro i h ⟨⟨old, he⟩, ⟨o, ho, hc, hd⟩, _⟩ b hb
    rcases List.mem_cons.mp hb with z | z
    · subst z
      exact ⟨_, he, fun v q => by cases q⟩
    · rw [List.mem_singleton.mp z]
      refine ⟨o, ho, fun v q => ?_⟩
      rw [hd] at q
      cases q
  keep := by
    rintro i h h' ⟨⟨old, he⟩, hi, ne⟩ k
    exact ⟨⟨old, k e (by simp) _ he⟩, hi.at fun o q => k it (by simp) o q, ne⟩
  item := by
    intro X hP hw hK hc i pins s σ H E I hf st hg
    subst hP hw hK
    obtain ⟨⟨old, he⟩, hit, ne1, ne2, ne3⟩ := st
    obtain ⟨xs, x, hq, hx⟩ := hg
    obtain ⟨its, rv, pt, hz⟩ := I.tuple hq
    obtain ⟨u, hu, ru⟩ := rv.get hx
    have isT : s.heap.IsTuple a its.toArray := pt
    have le : e < s.heap.objs.size := Heap.lt_size he
    have li : it < s.heap.objs.size := by obtain ⟨_, q, _⟩ := hit; exact Heap.lt_size q
    have hil : i < its.toArray.size := by
      have := (List.getElem?_eq_some_iff.mp hu).1
      simpa using this
    have hcm := I.ok.hd hc
    refine wpAny_pyNext_enum_itemC (Draws.tuple (prog := X.prog) (w := X.w) (A := X.A.in1) (by simp [hcm]) it a ne2 its.toArray) he ⟨hit, isT⟩ hil ne1 (by simp only [List.mem_cons, List.not_mem_nil, or_false, not_or]; exact ⟨ne1, fun q => ne3 q.symm⟩) fun y h1 tk hy ho st1 hT hsz hk => ?_
    have ey : y = u := by
      have h2 : its[i]? = some y := by simpa using hy
      rw [hu] at h2
      exact (Option.some.inj h2).symm
    subst ey
    refine ⟨_, rfl, wpAny_letOwnedTupleGo_enum (s := { s with heap := h1, toks := tk + 1 }) ho fun h2 he2 sb => ?_⟩
    have hT2 : h2.get? s.heap.objs.size = some { cls := .type "tuple", data := .seq #[.int i tk, y] } := (sb.2 _ (Nat.ne_of_gt le)).trans hT
    have two : 2 ≤ sizeLine := by decide
    have nw : ObjOk X.prog X.w (upd H s.heap.objs.size (.tup [.int (i : Nat), x])) h2 s.heap.objs.size (.tup [.int (i : Nat), x]) := ⟨two, [.int i tk, y], .cons ⟨tk, rfl⟩ (.cons ru .nil), ⟨_, hT2, rfl, _, rfl⟩⟩
    have kp : ∀ b ob, b ∉ [e, it] → s.heap.get? b = some ob → h2.get? b = some ob := fun b ob hb q => by
      simp only [List.mem_cons, List.not_mem_nil, or_false, not_or] at hb
      exact (sb.2 b hb.1).trans (hk b ob hb.1 hb.2 q)
    have I1 : Inv X pins σ (upd H s.heap.objs.size (.tup [.int (i : Nat), x])) { s with heap := h2, toks := tk + 1 } := I.turnedNew (ch := [e, it]) kp hf (Nat.le_refl _) nw
    refine ⟨.ref s.heap.objs.size, _, I1, rfl, ⟨_, x, rfl, I.hok.fresh (Nat.le_refl _), rfl, fun ys hy => by rw [sqt_inj I hy hq]; exact hx⟩, ⟨⟨y, ?_⟩, st1.1.at fun o q => (sb.2 it ne1.symm).trans q, ne1, ne2, ne3⟩, fun b hb => ?_⟩
    · rw [show ((i + 1 : Nat) : Int) = (i : Int) + 1 by omega]
      exact he2
    · have lb : b < s.heap.objs.size := by
        rcases List.mem_cons.mp hb with z | z
        · rw [z]; exact le
        · rw [List.mem_singleton.mp z]; exact li
      rw [upd_ne (Nat.ne_of_lt lb)]
      exact (hf b hb).1
  done := by
    intro X hP hw hK hc i pins s σ H E I hf st hg
    subst hP hw hK
    obtain ⟨⟨old, he⟩, hit, ne1, ne2, ne3⟩ := st
    obtain ⟨xs, hq, hx⟩ := hg
    obtain ⟨its, rv, pt, hz⟩ := I.tuple hq
    have hcm := I.ok.hd hc
    have hl := rv.length
    have isT : s.heap.IsTuple a its.toArray := pt
    have en : its.toArray.size = i := by rw [List.size_toArray]; omega
    have hit2 : s.heap.IsTupleIter it a its.toArray.size := by rw [en]; exact hit
    refine wpAny_pyNext_enum_endD (Draws.tuple (prog := X.prog) (w := X.w) (A := X.A.in1) (by simp [hcm]) it a ne2 its.toArray) he ⟨hit2, isT⟩ fun h1 ex => ⟨rfl, ?_⟩
    obtain ⟨f0, f1, f2, f3, f4, f5⟩ := hf it (by simp)
    exact I.turned (t' := s.toks) (fun b o hb q => ex b o hb q) f0 f1 f3 f4 f5
  self := fun A i s Q E st h => by
    obtain ⟨⟨old, he⟩, _⟩ := st
    exact wpAny_pyIter_enum he h
def iEnumT (K : PySem.W.Frag) (ta : TA) : TI := fun σ H R => ta σ H fun vs H1 => ∃ a xs, vs = [.ref a] ∧ SqT K H1 a xs ∧ R (IteT K a) H1
theorem pi_enumT {X : Cx} {e : Expr} {ta : TA} {p pos tpos : Pos} {elts : List Expr} {kk : Nat} (hg : Gl X "enumerate") (hm : X.mg "enumerate" = none) (ha : PA X [e] ta) (hs : starEach [e] X.env = [(false, eval e X.env)] := by rfl) :
    PI X (.Tuple elts kk tpos) (.Call (.Name "enumerate" p) [e] [] pos) (iEnumT X.K ta) := by
  refine ⟨fun pins s σ H R I h => Call_ (ld_blt I hg hm boot_enumerate (PyProof.Rows.callWith_type1 (thn (ha.run pos pins s σ H _ I h) fun us s1 ⟨vs, H1, I1, r1, a, xs, ex, hq, q⟩ => ?_) hs rfl))⟩
  subst ex
  rw [Vals.ref1 r1]
  obtain ⟨its, rv, pt, hz⟩ := I1.tuple hq
  have isT : s1.heap.IsTuple a its.toArray := pt
  have la : a < s1.heap.objs.size := by obtain ⟨_, q, _⟩ := isT; exact Heap.lt_size q
  refine enum_call_tup isT fun h1 he hit hk => wpAny_pyIter_enum he ?_
  have I2 : Inv X pins σ H1 { s1 with heap := h1 } := I1.kept (t' := s1.toks) hk
  refine ⟨s1.heap.objs.size + 1, [s1.heap.objs.size + 1, s1.heap.objs.size], _, _, H1, rfl, I2, turn_enT a (s1.heap.objs.size + 1) s1.heap.objs.size, ⟨⟨.none, he⟩, hit, Nat.succ_ne_self _, Nat.ne_of_lt la, Nat.ne_of_lt (Nat.lt_succ_of_lt la)⟩, fun b hb => ?_, q⟩
  have lb : s1.heap.objs.size ≤ b := by
    rcases List.mem_cons.mp hb with z | z
    · rw [z]; exact Nat.le_succ _
    · rw [List.mem_singleton.mp z]; exact Nat.le_refl _
  exact I1.fpOk lb (I1.hok.fresh lb)
section
variable {K : PySem.W.Frag} {σ : L2.St} {H : Hp} {te : TE} {j k : Nat} {ds : List PyData}
abbrev PE2 (K : PySem.W.Frag) (j k : Nat) (d : PyData × Nat) (σ0 σ2 : L2.St) (H3 : Hp) : Prop := ∃ w, σ2 = (σ0.set j (some (.int (d.2 : Int)))).set k (some w) ∧ Dp K H3 w d.1
theorem wk_enumT {H2 : Hp} {a : Addr} {vs : List V} (h : SqT K H2 a vs) (hs : DpAll K H2 vs ds) : Wk (IteT K a) (Ex H2) (g2 K j k) ds.zipIdx (PE2 K j k) where
  goes i H hi e := by
    have hv : i < vs.length := by rw [dpa_len hs]; simpa using hi
    exact ⟨vs, vs[i], ex_t e h, by simp [hv]⟩
  stops H e := ⟨vs, ex_t e h, by rw [dpa_len hs]; simp⟩
  item i hi H x H' e y σ0 kk q := by
    obtain ⟨T, z, rfl, nT, rfl, f⟩ := y
    obtain ⟨d, h1, h2⟩ := dpa_get hs (f vs (ex_t e h))
    have hi' : i < ds.length := by simpa using hi
    rw [List.getElem?_eq_getElem hi'] at h1
    cases h1
    have e3 : Ex H (upd H T (.tup [.int (i : Nat), z])) := Ex.new nT
    refine ⟨T, [.int (i : Nat), z], rfl, .inl (.inl upd_same), rfl, .int (i : Nat), [z], rfl, z, [], rfl, rfl, q _ _ e3 ⟨z, ?_, ?_⟩⟩
    · rw [List.getElem_zipIdx, Nat.zero_add]
    · rw [List.getElem_zipIdx]; exact dp_ex (e.trans e3) h2
theorem evi_enumT (h : Eva K te σ H (.tuple ds)) : EvI (iEnumT K (tCons te tNil)) (g2 K j k) σ H ds.zipIdx (PE2 K j k) := fun H1 e R q => h H1 e _ fun v H2 e2 dv => by
  obtain ⟨a, vs, rfl, ha, hs⟩ := dp_tup dv
  exact ⟨a, vs, rfl, ha, q _ H2 e2 (wk_enumT ha hs)⟩
end
/-! ### what the further rules give for data -/
section
variable {K : PySem.W.Frag} {σ : L2.St} {H : Hp} {ta tb : TE} {d : PyData}
/-- (d,) * k -/
theorem eva_rep1 {k : Int} (ha : Eva K ta σ H (.tuple [d])) (hb : Eva K tb σ H (.int k)) (h1 : 1 ≤ k) (h2 : k ≤ 1000) : Eva K (tOp (rRep1 K) ta tb) σ H (.tuple (List.replicate k.toNat d)) :=
  eva_opR ha hb fun x y H1 e dx dy Q q => by
    obtain ⟨p, xs, rfl, hp, hx⟩ := dp_tup dx
    obtain ⟨v, rfl, hv⟩ := dpa1 hx
    refine ⟨p, k, [v], rfl, dp_int dy, hp, by simp, h1, h2, by simp, fun hk => ?_, fun _ r hr => ?_⟩
    · subst hk
      exact q _ H1 (Ex.refl _) (.tup hp (dpa_one hv))
    · have ef : (List.replicate k.toNat [v]).flatten = List.replicate k.toNat v := by simp
      rw [ef]
      refine q _ _ (Ex.new hr) (dp_newT upd_same ?_)
      have hv2 := dp_ex (Ex.new (o := .tup (List.replicate k.toNat v)) hr) hv
      generalize k.toNat = n at *
      clear ef h1 h2
      have : ∀ m, DpAll K (upd H1 r (.tup (List.replicate n v))) (List.replicate m v) (List.replicate m d) := fun m => by
        induction m with
        | zero => exact .nil
        | succ m ih => exact .cons hv2 ih
      exact this n
end
end Cb
set_option Elab.async false
set_option linter.all false
set_option maxRecDepth 100000
set_option maxHeartbeats 8000000
/-! Cb, the layer: comprehensions that make dicts whose keys are tuples. -/
namespace Cb
open PySem PySem.Spec PyProof.Rows L2 Evl
/-- how a pair is stored in the dict at D: from a heap to a heap -/
abbrev PutW := Hp → Addr → V → V → Hp → Prop
/-- the store does what it says, wherever one stands with this program and this written part -/
def PutOk (X : Cx) (Pt : PutW) : Prop := ∀ (Y : Cx), Y.prog = X.prog → Y.w = X.w → Y.K = X.K → Y.A = X.A → ∀ (pins : List (Addr × Obj)) (σ : L2.St) (H H' : Hp) (s : Shared) (E : Value → Shared → Prop) (D : Addr) (y z : V) (u r : Value) (Q : Unit → Shared → Prop),
  Inv Y pins σ H s → RelV y u → RelV z r → Pt H D y z H' → (∀ s', Inv Y pins σ H' s' → Q () s') → wpAny (model Y.prog Y.w) Y.A (dictSet D u r) Q E s
/-- {k: v for target in iter if ..}: D the new dict, E0 D what it is at first -/
def tDcG (E0 : Addr → HO) (Pt : PutW) (wi : TI) (g : TG) (tt : TT) (tk tv : TE) (vs : List Nat) : TE := fun σ H Q => wi σ H fun J H1 => ∀ D, H1 D = none → ∃ W : Nat → Nat → Hp → Prop, (∃ m, W 0 m (upd H1 D (E0 D))) ∧ ∀ i m H, W i m H →
  (J.stop i H ∧ Q (.ref D) H) ∨ (J.go i H ∧ ∃ Nx : Hp → Prop, (∀ H', Nx H' → ∃ m', m' < m ∧ W (i + 1) m' H') ∧ ∀ x H', J.yld i H x H' → g x (wipe σ vs) H' fun σ2 H2 => wipe σ2 vs = wipe σ vs ∧ tt σ2 H2 fun b H3 =>
    if b = true then tk σ2 H3 fun y H4 => tv σ2 H4 fun z H5 => ∃ H6, Pt H5 D y z H6 ∧ Nx H6 else Nx H3)
section
variable {X : Cx}
theorem dcg_core {E0 : Addr → HO} {Pt : PutW} {pins : List (Addr × Obj)} {s : Shared} {σ : L2.St} {H : Hp} {Q : VK} {kx vx tg iter : Expr} {ifs : List Expr} {scope : Scope} {own : List (Str × Nat)} {pos pos' : Pos} {wi : TI} {g : TG} {tt : TT} {tk tv : TE} {use : Option (Value → Sem Unit)} {Qf : Value → Shared → Prop}
    (hnew : ∀ (P : Program) (w : World) (H : Hp) (h : Heap), sysModules < h.objs.size → ObjOk P w H (h.push { cls := .type "dict", data := .dict #[] }) h.objs.size (E0 h.objs.size)) (hset : PutOk X Pt)
    (calm : X.calm = true) (uniq : X.N.Nodup) (I : Inv X pins σ H s) (walk : PI X tg iter wi) (ok : BlkOk X.N X.env.scope scope own)
    (wg : ∀ (s : Shared) (H : Hp) (C : Addr) (cl : List (Str × Addr)) (fp : List Addr), PG (X.blk s H scope (compEnvC scope cl C X.env) fp) tg g) (wt : ∀ (s : Shared) (H : Hp) (C : Addr) (cl : List (Str × Addr)) (fp : List Addr), PTs (X.blk s H scope (compEnvC scope cl C X.env) fp) ifs tt)
    (wk : ∀ (s : Shared) (H : Hp) (C : Addr) (cl : List (Str × Addr)) (fp : List Addr), PE (X.blk s H scope (compEnvC scope cl C X.env) fp) kx tk)
    (wv : ∀ (s : Shared) (H : Hp) (C : Addr) (cl : List (Str × Addr)) (fp : List Addr), PE (X.blk s H scope (compEnvC scope cl C X.env) fp) vx tv) (plain : ∀ x, foldedSetIterable iter X.env x = pure x)
    (h : tDcG E0 Pt wi g tt tk tv (own.map (·.2)) σ H Q)
    (fin : ∀ D C s' m H', Inv X pins σ H' s' → Q (.ref D) H' → s'.heap.Ns C m → FpOk X pins H' C → compPost (model X.prog X.w) X.A X.xe use Qf (.ref D) C (.ok .next) s') :
    wpAny (model X.prog X.w) X.A (comprehension (.DictComp kx vx [⟨tg, iter, ifs, 0⟩] scope pos) scope X.env pos' newDict false (eval iter X.env) use) Qf X.xe s := by
  have cells : ∀ y ∈ scope.names, y.2 = .free → ∃ c, X.env.cells.lookup y.1 = some c := fun y hy e => (ok.free y hy e).elim (fun k => I.ok.has _ (.inl k)) fun k => I.ok.has _ (.inr k)
  refine wpAny_comprehension_free (use := use) rfl plain (closure_ok cells) ok.kind (fun y hy e => by rw [ok.uniq y hy, e]) (thn (walk.run pins s σ H _ I h) fun _ sa ha => thn ha fun _ sb hb => ?_)
  obtain ⟨it, fp, tn, J, Hb, e, Ib, tu, tb, fb, q⟩ := hb
  subst e
  refine wpAny_newObj_type (newEnv_comp ?_)
  obtain ⟨D, hD⟩ : ∃ D, D = sb.heap.objs.size := ⟨_, rfl⟩
  have nD : Hb D = none := Ib.hok.fresh (Nat.le_of_eq hD.symm)
  obtain ⟨W, ⟨m0, w0⟩, turn⟩ := q D nD
  obtain ⟨sc, esc⟩ : ∃ sc : Shared, sc = { sb with heap := sb.heap.push { cls := .type "dict", data := .dict #[] } } := ⟨_, rfl⟩
  have eh : sc.heap = sb.heap.push { cls := .type "dict", data := .dict #[] } := by rw [esc]
  obtain ⟨Hc, eHc⟩ : ∃ Hc, Hc = upd Hb D (E0 D) := ⟨_, rfl⟩
  have Ic : Inv X pins σ Hc sc := by
    rw [esc, eHc, hD]
    exact Ib.laid (t' := sb.toks) (fun b o e => Heap.get?_push_of_some _ e) (Nat.le_refl _) (hnew _ _ _ _ Ib.big)
  have old : ∀ b ∈ fp, b < sb.heap.objs.size := fun b hb => by
    obtain ⟨o, e, _⟩ := tu.obj _ _ tb b hb
    exact Heap.lt_size e
  have fc : ∀ b ∈ fp, FpOk X pins Hc b ∧ b < sc.heap.objs.size := fun b hb => by
    have lt := old b hb
    have nb : b ≠ D := by rw [hD]; exact Nat.ne_of_lt lt
    have z : Hc b = none := by rw [eHc, upd_ne nb]; exact (fb b hb).1
    exact ⟨⟨z, (fb b hb).2⟩, by rw [eh, Heap.size_push]; exact Nat.lt_succ_of_lt lt⟩
  have tc : tn 0 sc.heap := tu.keep _ _ _ tb fun b _ o e => by rw [eh]; exact Heap.get?_push_of_some _ e
  have start := block_start Ic ok uniq fc
  rw [← hD, ← esc]
  have gG := wg sc Hc sc.heap.objs.size (cellsFrom (sc.heap.objs.size + 1) scope.names (cloFrom X.env.cells scope.names [])) fp
  have gT := wt sc Hc sc.heap.objs.size (cellsFrom (sc.heap.objs.size + 1) scope.names (cloFrom X.env.cells scope.names [])) fp
  have gK := wk sc Hc sc.heap.objs.size (cellsFrom (sc.heap.objs.size + 1) scope.names (cloFrom X.env.cells scope.names [])) fp
  have gV := wv sc Hc sc.heap.objs.size (cellsFrom (sc.heap.objs.size + 1) scope.names (cloFrom X.env.cells scope.names [])) fp
  show codeAny _ _ (.compStart (.DictComp kx vx [⟨tg, iter, ifs, 0⟩] scope pos) 0 (.ref it) (.ref D) (compEnvC scope (cellsFrom (sc.heap.objs.size + 1) scope.names (cloFrom X.env.cells scope.names [])) sc.heap.objs.size X.env)) (compPost (model X.prog X.w) X.A X.xe use Qf (.ref D) sc.heap.objs.size) { sc with heap := pushCells (sc.heap.push { cls := .type "dict", data := .dict #[] }) scope.names }
  have none_fp : ∀ b ∈ fp, Hc b = none := fun b hb => (fc b hb).1.1
  generalize ece : compEnvC scope (cellsFrom (sc.heap.objs.size + 1) scope.names (cloFrom X.env.cells scope.names [])) sc.heap.objs.size X.env = ce at start gG gT gK gV ⊢
  have loc : ce.locals = sc.heap.objs.size := by subst ece; rfl
  rw [← eHc] at w0
  generalize esd : ({ sc with heap := pushCells (sc.heap.push { cls := .type "dict", data := .dict #[] }) scope.names } : Shared) = sd at start ⊢
  have td : tn 0 sd.heap := tu.keep _ _ _ tc fun b _ o e => by rw [← esd]; exact pushCells_keeps _ _ _ _ (Heap.get?_push_of_some _ e)
  have still : ∀ {σ' : L2.St} {H' : Hp} {s' : Shared}, Inv (X.blk sc Hc scope ce fp) [] σ' H' s' → (∀ b ∈ fp, H' b = none) → ∀ b ∈ fp, FpOk (X.blk sc Hc scope ce fp) [] H' b := fun {σ' H' s'} J' hn b hb =>
    ⟨hn b hb, (J'.ok.exf b hb).1, J'.ok.exfs b hb, .inl hb, fun x c e => (J'.ok.exf b hb).2 x c e, fun p hp => absurd (show p ∈ ([] : List (Addr × Obj)) ++ [] from hp) (by simp)⟩
  have loop : codeAny (model X.prog X.w) X.A (.compLoop (.DictComp kx vx [⟨tg, iter, ifs, 0⟩] scope pos) 0 (.ref it) (.ref D) ce) (compPost (model X.prog X.w) X.A X.xe use Qf (.ref D) sc.heap.objs.size) sd := by
    refine compLoop_anyD (fun n s' => ∃ i H', Inv (X.blk sc Hc scope ce fp) [] (wipe σ (own.map (·.2))) H' s' ∧ tn i s'.heap ∧ (∀ b ∈ fp, H' b = none) ∧ W i n H') ?_ m0 ⟨0, Hc, start, td, none_fp, w0⟩
    rintro n s5 ⟨i, H5, I5, t5, n5, w5⟩
    rcases turn i n H5 w5 with ⟨stop, qq⟩ | ⟨go, Nx, less, step⟩
    · refine thnF (tu.done (X.blk sc Hc scope ce fp) rfl rfl rfl calm i [] s5 _ H5 (fun _ _ => False) I5 (still I5 n5) t5 stop) fun r s6 ⟨hr, I6⟩ => ?_
      subst hr
      have I7 : Inv X pins σ H5 s6 := Ic.call' (ch := fp) I6.os I6.base I6.hok I6.bare fun b hb => ⟨(fc b hb).1.2.2.2.1, (fc b hb).1.2.1, (fc b hb).1.2.2.2.2.1, (fc b hb).1.2.2.2.2.2⟩
      have nC : H5 sc.heap.objs.size = none := by
        have z : H5 ce.locals = none := I6.free
        rwa [loc] at z
      obtain ⟨m, hn, _⟩ := I6.loc
      have hn2 : s6.heap.Ns ce.locals m := hn
      rw [loc] at hn2
      exact fin D sc.heap.objs.size s6 m H5 I7 qq hn2 (Ic.fpOk (Nat.le_refl _) nC)
    · refine thnF (tu.item (X.blk sc Hc scope ce fp) rfl rfl rfl calm i [] s5 _ H5 (fun _ _ => False) I5 (still I5 n5) t5 go) fun r s6 ⟨u, hr, h6⟩ => ?_
      subst hr
      refine thnF h6 fun _ s7 ⟨x, H7, I7, r7, y7, t7, n7⟩ => ?_
      refine thnF (gG.run _ s7 _ H7 x u _ (I7.pinned (still I7 n7) (tu.obj _ _ t7)) r7 (step x H7 y7)) fun _ s8 ⟨σ8, H8, I8, hw8, q8⟩ => ?_
      refine thnF (gT.run _ s8 σ8 H8 _ I8 q8) fun b s9 ⟨H9, I9, q9⟩ => ?_
      have back : ∀ {s' : Shared} {H' : Hp}, Inv (X.blk sc Hc scope ce fp) ([] ++ pinsAt fp s7.heap) σ8 H' s' → Nx H' → ∃ m, m < n ∧ ∃ i H', Inv (X.blk sc Hc scope ce fp) [] (wipe σ (own.map (·.2))) H' s' ∧ tn i s'.heap ∧ (∀ b ∈ fp, H' b = none) ∧ W i m H' := fun {s' H'} J' nx => by
        obtain ⟨m', hm, w'⟩ := less H' nx
        have stay : ∀ b ∈ fp, ∀ o, s7.heap.get? b = some o → s'.heap.get? b = some o ∧ H' b = none := fun b hb o e => by
          have z := J'.pin (b, o) (List.mem_append_right _ (List.mem_append_right _ (mem_pinsAt hb e)))
          exact ⟨z.1, z.2.1⟩
        have len : (wipe σ (own.map (·.2))).length = σ8.length := by rw [← hw8, wipe_length]
        refine ⟨m', hm, i + 1, H', (J'.unpinned (pins := [])).weak len (fun j v e => ?_), tu.keep _ _ _ t7 fun b hb o e => (stay b hb o e).1, fun b hb => ?_, w'⟩
        · rw [← hw8] at e
          exact (wipe_some e).1
        · obtain ⟨o, e, _⟩ := tu.obj _ _ t7 b hb
          exact (stay b hb o e).2
      cases b with
      | false =>
        rw [if_neg Bool.false_ne_true] at q9 ⊢
        exact back I9 q9
      | true =>
        rw [if_pos rfl] at q9 ⊢
        refine thnF (gK.run _ s9 σ8 H9 _ I9 q9) fun z s10 ⟨yk, H10, I10, r10, q10⟩ => ?_
        refine thnF (gV.run _ s10 σ8 H10 _ I10 q10) fun z2 s11 ⟨yv, H11, I11, r11, H12, pt, nx⟩ => ?_
        exact hset (X.blk sc Hc scope ce fp) rfl rfl rfl rfl _ σ8 H11 H12 s11 _ D yk yv z z2 _ I11 r10 r11 pt fun s12 I12 => back I12 nx
  exact codeAny_compStart_dict loop (tu.self X.A 0 _ _ _ td loop)
theorem pe_dcG {E0 : Addr → HO} {Pt : PutW} {kx vx tg iter : Expr} {ifs : List Expr} {scope : Scope} {own : List (Str × Nat)} {pos : Pos} {wi : TI} {g : TG} {tt : TT} {tk tv : TE}
    (hnew : ∀ (P : Program) (w : World) (H : Hp) (h : Heap), sysModules < h.objs.size → ObjOk P w H (h.push { cls := .type "dict", data := .dict #[] }) h.objs.size (E0 h.objs.size)) (hset : PutOk X Pt)
    (calm : X.calm = true) (uniq : X.N.Nodup) (walk : PI X tg iter wi) (ok : BlkOk X.N X.env.scope scope own)
    (wg : ∀ (s : Shared) (H : Hp) (C : Addr) (cl : List (Str × Addr)) (fp : List Addr), PG (X.blk s H scope (compEnvC scope cl C X.env) fp) tg g) (wt : ∀ (s : Shared) (H : Hp) (C : Addr) (cl : List (Str × Addr)) (fp : List Addr), PTs (X.blk s H scope (compEnvC scope cl C X.env) fp) ifs tt)
    (wk : ∀ (s : Shared) (H : Hp) (C : Addr) (cl : List (Str × Addr)) (fp : List Addr), PE (X.blk s H scope (compEnvC scope cl C X.env) fp) kx tk)
    (wv : ∀ (s : Shared) (H : Hp) (C : Addr) (cl : List (Str × Addr)) (fp : List Addr), PE (X.blk s H scope (compEnvC scope cl C X.env) fp) vx tv) (plain : ∀ x, foldedSetIterable iter X.env x = pure x := by intro _; rfl) :
    PE X (.DictComp kx vx [⟨tg, iter, ifs, 0⟩] scope pos) (tDcG E0 Pt wi g tt tk tv (own.map (·.2))) := by
  refine ⟨fun pins s σ H Q I h => ?_⟩
  rw [arm_eval_DictComp]
  refine dcg_core hnew hset calm uniq I walk ok wg wt wk wv plain h fun D C s' m H' I' q hn f => ⟨m, hn, fun h'' sb => ?_⟩
  exact ⟨.ref D, H', I'.turned (t' := s'.toks) (fun b o hb e => (sb.2 b hb).trans e) f.1 f.2.1 f.2.2.2.1 f.2.2.2.2.1 f.2.2.2.2.2, rfl, q⟩
end
end Cb
set_option Elab.async false
set_option linter.all false
set_option maxRecDepth 100000
set_option maxHeartbeats 8000000
/-! Cb, the layer: set(..) of a list of ints, sorted of it. -/
namespace Cb
open PySem PySem.Spec PyProof.Rows L2 Evl
/-- a set that is just made -/
abbrev set0 (w : World) : Obj := { cls := .type "set", dict := none, data := .set #[] 0 (.fresh 0 0 (!w.params.followText "set-order")) }
section
variable {P : Program} {w : World} {A : Around} {E : Value → Shared → Prop} {s : Shared}
theorem set_of_list {l : Addr} {its : Array Value} (ns : List Int) {Q : Value → Shared → Prop} (calm : A.handled = none) (hl : s.heap.IsList l its) (hi : IntsAre its.toList ns) (room : ns.length + 1 < scanBound)
    (h : ∀ (h' : Heap) (tk c : Nat), SetR w h' s.heap.objs.size (fun j => decide (j ∈ ns)) c → (∀ b o, s.heap.get? b = some o → h'.get? b = some o) → Q (.ref s.heap.objs.size) { s with heap := h', toks := tk }) :
    wpAny (model P w) A (call (.type "set") [.ref l]) Q E s := by
  have size : its.size = ns.length := by
    have z := IntsAre.length hi
    rwa [Array.length_toList] at z
  obtain ⟨mroC, mroT, mroE⟩ := F.called_set.mro
  have k1 := F.called_set.made
  have k2 := F.called_set.sub
  have k3 := F.called_set.notType
  have k4 := F.called_set.canCreate
  have k5 := F.typeCall_set_1 (.ref l)
  refine wpAny_call (codeAny_of_tree ?_)
  show wpAny _ _ (callAny (.type "set") _) _ _ _
  refine wpAny_pure ⟨Code.quiet_builtin _ (by decide +kernel), codeAny_builtin F.entry_type_call ?_⟩
  rw [Around.under_plain (weight_type_call_type "set" [.ref l] []) rfl]
  repeat (any_goals (first | assumption | wp_step))
  refine codeAny_mono (code_set_led1 (.ref l) (E := E) (Q₁ := fun ob s1 => ob = .ref s.heap.objs.size ∧ s1 = { s with heap := s.heap.push (set0 w) }) ⟨rfl, rfl⟩) fun r s1 hr => ?_
  cases r with
  | error e => exact hr
  | ok fl =>
    cases fl with
    | ret ob =>
      obtain ⟨rfl, rfl⟩ := hr
      have at0 : (s.heap.push (set0 w)).get? s.heap.objs.size = some (set0 w) := Heap.get?_push_size _ rfl
      have ty0 : Shared.TypeIs { s with heap := s.heap.push (set0 w) } (.ref s.heap.objs.size) "set" := ⟨_, at0, rfl⟩
      have k6 := F.called_set.init.lookup
      have k7 := F.called_set.init.bind (.ref s.heap.objs.size)
      repeat (any_goals (first | assumption | wp_step))
      refine codeAny_mono (codeAny_call_builtin (R := wants (fun r s2 => r = .none ∧ ∃ h' tk c, s2 = { s with heap := h', toks := tk } ∧ SetR w h' s.heap.objs.size (fun j => decide (j ∈ ns)) c ∧ (∀ b o, s.heap.get? b = some o → h'.get? b = some o)) E)
        F.called_set.init.plain F.entry_set_init (check_set_init_1 ty0 ?_)) fun r2 s2 hr2 => ?_
      · obtain ⟨⟨lc, ld, ldt, lsl⟩, lo, lcl, ln, ldat⟩ := hl
        simp only at lcl ldat
        subst lcl
        subst ldat
        have lo2 : (s.heap.push (set0 w)).get? l = some { cls := .type "list", dict := ld, data := .seq its ln, slots := lsl } := Heap.get?_push_of_some _ lo
        have k8 := F.sub_list_set
        have k9 := F.sub_list_frozenset
        have ka : (Value.type "list" == Value.type "dict") = false := by decide
        have isL : (s.heap.push (set0 w)).IsList l its := ⟨_, lo2, rfl, ln, rfl⟩
        unfold Builtin.«set.__init__» noKeywords Builtin.Frozenset.updateFrom
        generalize hPI : pyIter = PI
        wp_walk
        subst hPI
        refine wpAny_pyIter_list isL (wpAny_bind (wpAny_runValue ?_))
        have ll : l < s.heap.objs.size := Heap.lt_size lo
        have c3 : A.in1.in1.in1.handled = none := by simp [calm]
        have z1 : (s.heap.push (set0 w)).objs.size = s.heap.objs.size + 1 := Heap.size_push ..
        have n1 : l ≠ (s.heap.push (set0 w)).objs.size := by rw [z1]; exact Nat.ne_of_lt (Nat.lt_succ_of_lt ll)
        have n2 : s.heap.objs.size ∉ [(s.heap.push (set0 w)).objs.size, l] := by
          rw [z1]
          intro hm
          rcases List.mem_cons.mp hm with e | e
          · exact absurd e (Nat.ne_of_lt (Nat.lt_succ_self _))
          · exact absurd (List.mem_singleton.mp e) (Nat.ne_of_gt ll)
        have val : ∀ (i : Nat) (v : Value), its[i]? = some v → ∃ k t, ns[i]? = some k ∧ v = .int k t := fun i v hv => by
          have hin : i < ns.length := by rw [← size]; exact (Array.getElem?_eq_some_iff.mp hv).1
          obtain ⟨t, e⟩ := PyProof.Rows.IntsAre.int_at hi i v (by rw [Array.getElem?_toList]; exact hv)
          rw [List.getD_eq_getElem?_getD, List.getElem?_eq_getElem hin] at e
          exact ⟨ns[i], t, List.getElem?_eq_getElem hin, e⟩
        refine set_update_ints ((Walks.list c3 _ l n1 its).toS) s.heap.objs.size n2 ns size room val (its.size - 0) 0 _ (by omega) (Nat.zero_le _) ⟨⟨_, Heap.get?_push_size _ rfl, rfl, rfl⟩, (isL.push _)⟩ ?first ?last
        case first => exact ⟨0, Nat.le_refl 0, setR_new_at (Heap.get?_push_of_some _ at0)⟩
        case last =>
          intro s3 c4 mv _ R3
          obtain ⟨h3, g3, d3, t3, o3⟩ := s3
          have eg : g3 = s.gens := mv.gens
          have ed : d3 = s.drawn := mv.drawn
          have eo : o3 = s.os := mv.os
          subst eg
          subst ed
          subst eo
          show wpAny _ _ _ _ _ _
          refine wpAny_pure ?_
          show wpAny _ _ (ret Value.none) _ _ _
          refine wpAny_pure ⟨rfl, h3, t3, c4, rfl, R3, fun b o e => ?_⟩
          have lb : b < s.heap.objs.size := Heap.lt_size e
          refine mv.heap b o (fun hm => ?_) (Heap.get?_push_of_some _ (Heap.get?_push_of_some _ e))
          rcases List.mem_cons.mp hm with e1 | e1
          · exact absurd e1 (Nat.ne_of_lt lb)
          · have e2 := List.mem_singleton.mp e1
            rw [z1] at e2
            exact absurd e2 (Nat.ne_of_lt (Nat.lt_succ_of_lt lb))
      · cases r2 with
        | error e => exact hr2
        | ok fl2 =>
          cases fl2 with
          | ret rr =>
            obtain ⟨rfl, h2, t2, c2, rfl, R2, kp⟩ := hr2
            repeat (any_goals (first | assumption | wp_step))
            exact h _ _ _ R2 kp
          | _ => exact hr2
    | _ => exact hr
end
def rSetI (K : PySem.W.Frag) (w : World) : List V → Hp → VK → Prop := fun xs H Q => ∃ (a : Addr) (ns : List Int), xs = [.ref a] ∧ SqL K H a (ns.map V.int) ∧ ns.length ≤ 4000 ∧ (∀ k ∈ ns, 0 ≤ k ∧ k < 60) ∧
  ∀ p c, H p = none → c < 64 → Q (.ref p) (upd H p (SetO w p (fun j => decide (j ∈ ns)) c))
theorem few_ints {ks : List Int} (hn : ks.Nodup) (h : ∀ k ∈ ks, 0 ≤ k ∧ k < 60) : ks.length ≤ 60 := by
  have z := List.Nodup.length_le_of_subset (l₂ := (List.range 60).map Int.ofNat) hn fun k hk => by
    obtain ⟨h1, h2⟩ := h k hk
    exact List.mem_map.mpr ⟨k.toNat, List.mem_range.mpr (by omega), Int.toNat_of_nonneg h1⟩
  simpa using z
theorem cr_setI {X : Cx} (hcl : X.calm = true) : CallR X (.type "set") (rSetI X.K X.w) := by
  intro pins s σ H vs us Q I r h
  obtain ⟨a, ns, rfl, hs, h4, hr, q⟩ := h
  obtain ⟨its, rv, hl, hz⟩ := I.list hs
  rw [Vals.ref1 r]
  have hcm := I.ok.hd hcl
  have hi := rv.ints
  refine set_of_list ns hcm hl.isList (by simpa using hi) (by unfold scanBound; omega) fun h' tk c R kp => ?_
  have cs : c < 64 := by
    obtain ⟨o, es, ep, t, ho, hex, hdt, g, nd, hm, hb, hf, hn, _⟩ := R
    have := few_ints nd fun k hk => by
      have := (hm k).mpr hk
      exact hr k (of_decide_eq_true this)
    rw [List.length_map, Array.length_toList] at this
    omega
  refine ⟨.ref s.heap.objs.size, upd H s.heap.objs.size (SetO X.w s.heap.objs.size (fun j => decide (j ∈ ns)) c), I.laid (t' := tk) kp (Nat.le_refl _) (setO_new R), rfl, ?_⟩
  exact q _ c (I.hok.fresh (Nat.le_refl _)) cs
/-- the unlike ones, ascending -/
def usort (ns : List Int) : List Int := ((List.range 60).map Int.ofNat).filter fun k => decide (k ∈ ns)
theorem asc_unique : ∀ {xs ys : List Int}, xs.Pairwise (· < ·) → ys.Pairwise (· < ·) → (∀ k, k ∈ xs ↔ k ∈ ys) → xs = ys := fun {xs ys} h1 h2 h => by
  have n1 : xs.Nodup := h1.imp fun {a b} q => by omega
  have n2 : ys.Nodup := h2.imp fun {a b} q => by omega
  have p := (List.perm_ext_iff_of_nodup n1 n2).mpr h
  exact List.Perm.eq_of_pairwise (le := (· < ·)) (fun a b _ _ x y => by omega) h1 h2 p
theorem usort_asc (ns : List Int) : (usort ns).Pairwise (· < ·) := by
  refine List.Pairwise.filter _ ?_
  rw [List.pairwise_map]
  refine List.Pairwise.imp (fun {a b} h => ?_) List.pairwise_lt_range
  show (a : Int) < (b : Int)
  omega
theorem usort_mem {ns : List Int} (h : ∀ k ∈ ns, 0 ≤ k ∧ k < 60) (k : Int) : k ∈ usort ns ↔ k ∈ ns := by
  unfold usort
  rw [List.mem_filter]
  constructor
  · rintro ⟨_, h2⟩
    exact of_decide_eq_true h2
  · intro hk
    obtain ⟨h1, h2⟩ := h k hk
    exact ⟨List.mem_map.mpr ⟨k.toNat, List.mem_range.mpr (by omega), Int.toNat_of_nonneg h1⟩, decide_eq_true hk⟩
section
variable {K : PySem.W.Frag} {w : World} {σ : L2.St} {H : Hp} {ta : TE}
/-- sorted(set(xs)) -/
theorem evl_sortSet {ns : List Int} (ha : Eva K ta σ H (.list (ns.map PyData.int))) (hl : ns.length ≤ 4000) (hr : ∀ k ∈ ns, 0 ≤ k ∧ k < 60) :
    EvaL K (tCB (rSortedSet w) (tCons (tCB (rSetI K w) (tCons ta tNil)) tNil)) σ H ((usort ns).map PyData.int) := fun H1 e Q q => ha H1 e _ fun v H2 e2 dv => by
  obtain ⟨a, xs, rfl, hx, hs⟩ := dp_lst dv
  rw [dpa_ints hs] at hx
  refine ⟨a, ns, rfl, hx, hl, hr, fun p c hp hc => ⟨p, _, c, rfl, upd_same, hc, fun ms r h1 h2 _ hn => ?_⟩⟩
  have em : ms = usort ns := asc_unique h1 (usort_asc ns) fun k => by
    rw [h2, usort_mem hr]
    exact decide_eq_true_iff
  subst em
  have e3 : Ex H2 (upd H2 p (SetO w p (fun j => decide (j ∈ ns)) c)) := Ex.new hp
  refine q r ((usort ns).map V.int) _ (fresh_back (e2.trans e3) hn) ((e2.trans e3).trans (Ex.new hn)) upd_same ?_
  exact dpa_ofints _
end
end Cb
set_option Elab.async false
set_option linter.all false
set_option maxRecDepth 100000
set_option maxHeartbeats 8000000
/-! Cb, the layer: what is stored in such dicts, the list of their keys. -/
namespace Cb
open PySem PySem.Spec PyProof.Rows L2 Evl
/-! ### keys that the heap tracks -/
def PutT : PutW := fun H D y z H' => ∃ kvs k b, H D = some (.dT kvs) ∧ y = .ref b ∧ H b = some (.tup (k.map kV)) ∧ kvs.length < sizeLine ∧ H' = upd H D (.dT (putK kvs k z))
theorem dictTH_empty (P : Program) (w : World) (H : Hp) (h : Heap) (hb : sysModules < h.objs.size) : ObjOk P w H (h.push { cls := .type "dict", data := .dict #[] }) h.objs.size (.dT []) := dt_empty h hb
section
variable {X : Cx}
theorem putT_ok (hu : X.A.units < cLine) : PutOk X PutT := by
  intro Y eP ew eK eA pins σ H H' s E D y z u r Q I ry rz pt h
  obtain ⟨kvs, k, b, hD, rfl, hb, hl, rfl⟩ := pt
  cases ry
  obtain ⟨hz, hd, xs, rel, dd⟩ := dt_of I.hok hD
  have lx : xs.length ≤ sizeLine := by rw [← Paired.length rel]; exact hz
  have ll := length_putK kvs k z
  refine wpAny_dictSet_heap (hsz := lx) (show Y.A.units < cLine by rw [eA]; exact hu) (key_of I.hok hb) dd fun h' dd' hs => h _ ?_
  obtain ⟨q, es, ep, hq, h2, h3, h4, _, h5⟩ := dd'
  refine d_write I (by rw [hD]; trivial) hs ⟨q, hq⟩ ⟨by omega, hd, _, (rel.put k hb rz).keeps fun c ys ec => ?_, q, es, ep, hq, h2, h3, h4, h5⟩
  have ne : c ≠ D := ne_of ec hD (fun e => by cases e)
  rw [upd_ne ne]
  exact ec
end
/-! ### keys that may stand in the written part, all values True -/
abbrev tkd (P : Program) (w : World) : HeapKind P w (List L2.Key) := tupleKind (mixKind P w)
def triOf (e : List L2.Key × Addr) : List L2.Key × Addr × Value := (e.1, e.2, .bool true)
def numO (P : Program) (w : World) (d : Addr) (kas : List (List L2.Key × Addr)) : HO := .ext fun h =>
  (∃ o es ep, h.get? d = some o ∧ o.ExactDict ∧ o.data = .dict es ep ∧ es.toList = (kas.map triOf).map (entryOfKey (tkd P w)) ∧ (kas.map (·.1)).Nodup) ∧ (d == sysModules) = false
def putN (kas : List (List L2.Key × Addr)) (k : List L2.Key) (b : Addr) : List (List L2.Key × Addr) := if (kas.any fun e => decide (e.1 = k)) = true then kas else kas ++ [(k, b)]
def PutN (P : Program) (w : World) (K : PySem.W.Frag) : PutW := fun H D y z H' => ∃ kas k b, H D = some (numO P w D kas) ∧ y = .ref b ∧ z = .bl true ∧ SqT K H b (k.map kV) ∧ (∀ e ∈ kas, SqT K H e.2 (e.1.map kV)) ∧ kas.length < sizeLine ∧
  H' = upd H D (numO P w D (putN kas k b))
theorem numO_ok {P : Program} {w : World} {H : Hp} {h : Heap} {d : Addr} {kas : List (List L2.Key × Addr)}
    (e : (∃ o es ep, h.get? d = some o ∧ o.ExactDict ∧ o.data = .dict es ep ∧ es.toList = (kas.map triOf).map (entryOfKey (tkd P w)) ∧ (kas.map (·.1)).Nodup) ∧ (d == sysModules) = false) : ObjOk P w H h d (numO P w d kas) := by
  obtain ⟨⟨o, es, ep, ho, r⟩, hd⟩ := e
  refine ⟨⟨⟨o, es, ep, ho, r⟩, hd⟩, ⟨o, ho⟩, fun h1 h2 z k => ?_⟩
  obtain ⟨⟨o1, es1, ep1, ho1, r1⟩, _⟩ := z
  exact ⟨⟨o1, es1, ep1, k _ ho1, r1⟩, hd⟩
theorem numO_empty (P : Program) (w : World) (H : Hp) (h : Heap) (hb : sysModules < h.objs.size) : ObjOk P w H (h.push { cls := .type "dict", data := .dict #[] }) h.objs.size (numO P w h.objs.size []) :=
  numO_ok ⟨⟨_, #[], 0, Heap.get?_push_size _ rfl, ⟨rfl, rfl, rfl⟩, rfl, rfl, .nil⟩, beq_eq_false_iff_ne.mpr (Ne.symm (Nat.ne_of_lt hb))⟩
theorem keys_tri (kas : List (List L2.Key × Addr)) : (kas.map triOf).map (·.1) = kas.map (·.1) := by
  rw [List.map_map]
  rfl
theorem stored_tri (kas : List (List L2.Key × Addr)) (k : List L2.Key) (b : Addr) : storedH (kas.map triOf) k b (.bool true) = (putN kas k b).map triOf := by
  unfold putN
  cases e : atKey (kas.map triOf) k with
  | none =>
    have hn : ¬ (kas.any fun e => decide (e.1 = k)) = true := by
      intro hm
      obtain ⟨x, hx, ex⟩ := List.any_eq_true.mp hm
      have : (atKey (kas.map triOf) k).isSome = true := by
        unfold atKey
        rw [Option.isSome_map, List.find?_isSome]
        exact ⟨triOf x, List.mem_map.mpr ⟨x, hx, rfl⟩, decide_eq_true (show x.1 = k from of_decide_eq_true ex)⟩
      rw [e] at this
      cases this
    rw [storedH_new e, if_neg hn, List.map_append]
    rfl
  | some p =>
    have hm : (kas.any fun e => decide (e.1 = k)) = true := by
      have : (atKey (kas.map triOf) k).isSome = true := by rw [e]; rfl
      unfold atKey at this
      rw [Option.isSome_map, List.find?_isSome] at this
      obtain ⟨t, ht, q⟩ := this
      obtain ⟨x, hx, ex⟩ := List.mem_map.mp ht
      refine List.any_eq_true.mpr ⟨x, hx, ?_⟩
      rw [← ex] at q
      exact decide_eq_true (show x.1 = k from of_decide_eq_true q)
    rw [storedH_old e, if_pos hm]
    have : ∀ l : List (List L2.Key × Addr), (l.map triOf).map (putAt k (.bool true)) = l.map triOf := fun l => by
      rw [List.map_map]
      refine List.map_congr_left fun x _ => ?_
      show putAt k (.bool true) (triOf x) = triOf x
      unfold putAt triOf
      split <;> rfl
    exact this kas
section
variable {X : Cx} {pins : List (Addr × Obj)} {σ : L2.St} {H : Hp} {s : Shared}
theorem key_sq {ks : List L2.Key} {b : Addr} (I : Inv X pins σ H s) (h : SqT X.K H b (ks.map kV)) : (tkd X.prog X.w).is s.heap ks b := by
  obtain ⟨its, rv, ⟨o, h1, h2, n, h3⟩, _⟩ := I.tuple h
  exact ⟨o, its.toArray, n, h1, h2, h3, by simpa using items_are rv⟩
theorem num_dd {d : Addr} {kas : List (List L2.Key × Addr)} (I : Inv X pins σ H s) (hd : H d = some (numO X.prog X.w d kas)) (hk : ∀ e ∈ kas, SqT X.K H e.2 (e.1.map kV)) : s.heap.DictOfH (tkd X.prog X.w) d (kas.map triOf) ∧ (d == sysModules) = false := by
  obtain ⟨⟨o, es, ep, ho, h2, h3, h4, h5⟩, h6⟩ := (show ObjOk X.prog X.w H s.heap d (numO X.prog X.w d kas) from I.hok d _ hd).1
  refine ⟨⟨o, es, ep, ho, h2, h3, h4, fun x hx => ?_, by rw [keys_tri]; exact h5⟩, h6⟩
  obtain ⟨e, he, rfl⟩ := List.mem_map.mp hx
  exact key_sq I (hk e he)
theorem putN_ok (hu : X.A.units < cLine) : PutOk X (PutN X.prog X.w X.K) := by
  intro Y eP ew eK eA pins σ H H' s E D y z u r Q I ry rz pt h
  rw [← eP, ← ew, ← eK] at pt
  obtain ⟨kas, k, b, hD, rfl, rfl, hb, hk, hl, rfl⟩ := pt
  cases ry
  cases rz
  obtain ⟨dd, hd⟩ := num_dd I hD hk
  refine wpAny_dictSet_heap (hsz := by rw [List.length_map]; omega) (show Y.A.units < cLine by rw [eA]; exact hu) (key_sq I hb) dd fun h' dd' hs => h _ ?_
  obtain ⟨q, es, ep, hq, h2, h3, h4, _, h5⟩ := dd'
  rw [stored_tri] at h4 h5
  rw [keys_tri] at h5
  exact d_write I (by rw [hD]; trivial) hs ⟨q, hq⟩ (numO_ok ⟨⟨q, es, ep, hq, h2, h3, h4, h5⟩, hd⟩)
end
/-- list(d) of such a dict -/
def rListN (P : Program) (w : World) : List V → Hp → VK → Prop := fun xs H Q => ∃ d kas, xs = [.ref d] ∧ H d = some (numO P w d kas) ∧ kas.length ≤ 1000 ∧ ∀ p, H p = none → Q (.ref p) (upd H p (.lst (kas.map fun e => V.ref e.2)))
theorem cr_listN {X : Cx} (hc : X.calm = true) : CallR X (.type "list") (rListN X.prog X.w) := by
  intro pins s σ H xs us Q I r h
  obtain ⟨d, kas, rfl, hd, hlen, q⟩ := h
  rw [Vals.ref1 r]
  obtain ⟨⟨o, es, ep, ho, hx, hdt, he, hn⟩, hs⟩ := (show ObjOk X.prog X.w H s.heap d (numO X.prog X.w d kas) from I.hok d _ hd).1
  have l1 : es.size = kas.length := by
    have z := congrArg List.length he
    simpa using z
  refine PySem.W.kdl_call (kdl_raw hs hx hdt) (I.ok.hd hc) ho (by rw [l1, sizeLine_eq]; omega) fun h' tk acc c' kp e it => ?_
  have size : acc.size = kas.length := by rw [it.1]; exact l1
  have items : acc.toList = kas.map fun e => Value.ref e.2 := by
    apply List.ext_getElem?
    intro j
    rw [List.getElem?_map]
    by_cases hj : j < kas.length
    · have hja : j < acc.size := by omega
      obtain ⟨en, hen, hv⟩ := it.2 j acc[j] (Array.getElem?_eq_getElem hja)
      have z : es.toList[j]? = ((kas.map triOf).map (entryOfKey (tkd X.prog X.w)))[j]? := by rw [he]
      rw [Array.getElem?_toList, hen, List.getElem?_map, List.getElem?_map, List.getElem?_eq_getElem hj] at z
      have e2 : en = entryOfKey (tkd X.prog X.w) (triOf kas[j]) := Option.some.inj z
      rw [List.getElem?_eq_getElem hj, Array.getElem?_toList, Array.getElem?_eq_getElem hja, hv, e2]
      rfl
    · rw [List.getElem?_eq_none (by simp; omega), List.getElem?_eq_none (by omega)]
      rfl
  have rv : Vals (kas.map fun e => V.ref e.2) acc.toList := by
    rw [items]
    clear items size l1 he hlen q hd hn
    induction kas with
    | nil => exact .nil
    | cons x r ih => exact .cons rfl ih
  refine ⟨.ref s.heap.objs.size, _, I.laid (t' := tk) (o := .lst (kas.map fun e => V.ref e.2)) kp (Nat.le_refl _) ?_, rfl, q _ (I.hok.fresh (Nat.le_refl _))⟩
  exact ⟨by rw [List.length_map, sizeLine_eq]; omega, acc.toList, c', rv, by rw [Array.toArray_toList]; exact e⟩
end Cb
set_option Elab.async false
set_option linter.all false
set_option maxRecDepth 100000
set_option maxHeartbeats 4000000
/-! Cb, the layer: the rules that name the written part, with the part given (they stand within comprehensions too). -/
namespace Cb
open PySem PySem.Spec PyProof.Rows L2 Evl
section
variable (K : PySem.W.Frag) {X : Cx}
theorem ix_seqK (h : X.K = K := by rfl) : IxR X (rIx K) := h ▸ ix_seq
theorem op_in_seqK (h : X.K = K := by rfl) : OpR X (compareOp .In) (rIn K false) := h ▸ op_in_seq
theorem op_notIn_seqK (h : X.K = K := by rfl) : OpR X (compareOp .NotIn) (rIn K true) := h ▸ op_notIn_seq
theorem op_eqDK (hu : X.A.units + 64 < cLine) (h : X.K = K := by rfl) : OpR X (compareOp .Eq) (rEqD K) := h ▸ op_eqD hu
theorem op_neDK (hu : X.A.units + 64 < cLine) (h : X.K = K := by rfl) : OpR X (compareOp .NotEq) (rNeD K) := h ▸ op_neD hu
theorem op_inDK (hu : X.A.units + 65 < cLine) (h : X.K = K := by rfl) : OpR X (compareOp .In) (rInD K) := h ▸ op_inD hu
theorem op_notInDK (hu : X.A.units + 65 < cLine) (h : X.K = K := by rfl) : OpR X (compareOp .NotIn) (rNotInD K) := h ▸ op_notInD hu
theorem op_catAK (h : X.K = K := by rfl) : OpR X (binaryOp .Add) (rCatA K) := h ▸ op_catA
theorem op_repTK (h : X.K = K := by rfl) : OpR X (binaryOp .Mult) (rRep1 K) := h ▸ op_repT1
theorem call_lenK (h : X.K = K := by rfl) : CallR X (.builtin "len") (rLen2 K) := h ▸ call_len_seq
theorem call_tupleK (h : X.K = K := by rfl) : CallR X (.type "tuple") (rTup2 K) := h ▸ call_tuple_of
theorem call_listK (h : X.K = K := by rfl) : CallR X (.type "list") (rLst2 K) := h ▸ call_list_of
theorem call_isiKK (h : X.K = K := by rfl) : CallR X (.builtin "isinstance") (rIsi K) := h ▸ call_isi
theorem cr_sumK (hc : X.calm = true := by rfl) (h : X.K = K := by rfl) : CallR X (.builtin "sum") (rSum K) := h ▸ cr_sum hc
theorem cr_anyK (hc : X.calm = true := by rfl) (h : X.K = K := by rfl) : CallR X (.builtin "any") (rAny K) := h ▸ cr_any hc
theorem cr_allK (hc : X.calm = true := by rfl) (h : X.K = K := by rfl) : CallR X (.builtin "all") (rAll K) := h ▸ cr_all hc
theorem cr_sortedK (h : X.K = K := by rfl) : CallR X (.builtin "sorted") (rSortX K) := h ▸ cr_sortedL
theorem cr_setK (w : World) (hc : X.calm = true := by rfl) (h : X.K = K := by rfl) (hw : X.w = w := by rfl) : CallR X (.type "set") (rSetI K w) := h ▸ hw ▸ cr_setI hc
theorem sl_listK (h : X.K = K := by rfl) : SlR X (rSlL K) := h ▸ sl_list
theorem mt_indexK (hu : X.A.units + 65 < cLine) (h : X.K = K := by rfl) : MtR X "list.index" (rIndexD K) := h ▸ mt_indexD hu
variable {e : Expr} {te : TE} {tg : Expr} {pos apos cpos p tpos : Pos} {ta : TA} {f : Str} {elts : List Expr} {kk : Nat}
theorem pe_fldK (ha : PE X e te) (h : X.K = K := by rfl) (hb : attributeBase e f X.env (eval e X.env) = eval e X.env := by rfl) : PE X (.Attribute e f pos) (tFld K te f) := h ▸ pe_fld ha hb
theorem pi_listK (ha : PE X e te) (h : X.K = K := by rfl) : PI X tg e (iList K te) := h ▸ pi_list ha
theorem pi_tupK (ha : PE X e te) (h : X.K = K := by rfl) : PI X tg e (iTup K te) := h ▸ pi_tup ha
theorem pi_enumTK (hg : Gl X "enumerate") (hm : X.mg "enumerate" = none) (ha : PA X [e] ta) (h : X.K = K := by rfl) (hs : starEach [e] X.env = [(false, eval e X.env)] := by rfl) :
    PI X (.Tuple elts kk tpos) (.Call (.Name "enumerate" p) [e] [] pos) (iEnumT K ta) := h ▸ pi_enumT hg hm ha hs
end
theorem hu65 {A : Around} {k : Nat} (hr : Room k A) : A.units + 65 < cLine := by
  have := hr.un
  omega
end Cb
set_option Elab.async false
set_option linter.all false
set_option maxRecDepth 100000
set_option maxHeartbeats 4000000
/-! Cb, defs 1: integers, fractions. -/
namespace Cb
open PySem PySem.Spec PyProof.Rows L2 Evl
/-! ### what is shown by looking: the value of a name, step by step back through the heaps -/
local macro_rules | `(tactic| walk_at "dp") => `(tactic| first | assumption | (refine dp_ex (by assumption) ?_; walk_at "dp"))
section
variable {P : Program} {w : World} {K : PySem.W.Frag} {mg : Str → Option Value} {base : Heap}
theorem sc_is_integer : FnScope ["thing"] ["thing"] (defScope (topS 3)) := ⟨rfl, rfl, rfl, by decide +kernel, rfl, by decide +kernel, by decide +kernel⟩
theorem bn_is_integer : Bnd "is_integer" 3 ["thing"] := fun _ _ _ _ _ _ us hl => match us, hl with | [_], _ => rfl
def rIsInt (ds : List PyData) (d : PyData) : Prop := ∃ x b, ds = [x] ∧ kitB (tyD x) "int" = some b ∧ (b = true → kitB (tyD x) "bool" = some (!b)) ∧ d = .bool b
theorem has_is_integer {k : Nat} (T : Tb K mg) : Has P w K mg base "is_integer" (k + 1) ["thing"] (spR K rIsInt) := by
  refine has_R T.f_is_integer sc_is_integer bn_is_integer (fun ds d h => by obtain ⟨x, b, rfl, _⟩ := h; rfl) fun f cdv A outer s H vs Q E hr ds d hds h q => ?_
  obtain ⟨x, b, rfl, h1, h2, rfl⟩ := h
  obtain ⟨v, rfl, hv⟩ := dpa1 hds
  refine ⟨_, (pss_one (ps_ret (pe_and (pe_callB (call_isiKK K) (by rfl) T.isinstance (by decide +kernel) (pa_cons (pv 0) (pa_cons (pe_gTy (T := "int") T.int (by decide +kernel)) pa_nil))) (pe_one (pe_not (pe_callB (call_isiKK K) (by rfl) T.isinstance (by decide +kernel) (pa_cons (pv 0) (pa_cons (pe_gTy (T := "bool") T.bool (by decide +kernel)) pa_nil)))))))), ?_⟩
  have e1 : Eva K (tVar 0) (start ["thing"] [v]) H x := eva_var rfl hv
  refine s_ret (eva_is (eva_and (eva_isi e1 h1) fun hb => eva_not (eva_isi e1 (h2 hb))) ?_) q
  cases b <;> rfl
end
/-! ### fractions -/
abbrev eQ (q : Q) : PyData := .tuple [.int q.1, .int q.2]
/-- parts of at most 4000 bits -/
structure Sm (q : Q) : Prop where
  pos : 0 < q.2
  b1 : q.1.natAbs < 2 ^ 4000
  b2 : q.2.natAbs < 2 ^ 4000
theorem cmul {i j : Int} (hi : i.natAbs < 2 ^ 4000) (hj : j.natAbs < 2 ^ 4000) : CMulW i j := wide_mul hi hj (by decide) (by decide) (by decide)
theorem atI0 {a : PyData} {l : List PyData} : atI (a :: l) 0 = some a := atI_nat (j := 0) rfl
theorem atI1 {a b : PyData} {l : List PyData} : atI (a :: b :: l) 1 = some b := atI_nat (j := 1) rfl
theorem atI2 {a b c : PyData} {l : List PyData} : atI (a :: b :: c :: l) 2 = some c := atI_nat (j := 2) rfl
theorem atI3 {a b c d : PyData} {l : List PyData} : atI (a :: b :: c :: d :: l) 3 = some d := atI_nat (j := 3) rfl
section
variable {K : PySem.W.Frag} {σ : L2.St} {H : Hp} {te : TE} {q : Q}
/-- q[0], q[1] -/
theorem eva_q0 (h : Eva K te σ H (eQ q)) : Eva K (tOp (rIx K) te (tC (.int 0))) σ H (.int q.1) := eva_ixT h eva_int atI0
theorem eva_q1 (h : Eva K te σ H (eQ q)) : Eva K (tOp (rIx K) te (tC (.int 1))) σ H (.int q.2) := eva_ixT h eva_int atI1
end
section
variable {P : Program} {w : World} {K : PySem.W.Frag} {mg : Str → Option Value} {base : Heap}
theorem sc_divisor : FnScope ["one", "other"] ["one", "other"] (defScope (topS 4)) := ⟨rfl, rfl, rfl, by decide +kernel, rfl, by decide +kernel, by decide +kernel⟩
theorem bn_divisor : Bnd "divisor" 4 ["one", "other"] := fun _ _ _ _ _ _ us hl => match us, hl with | [_, _], _ => rfl
def rDivisor (ds : List PyData) (d : PyData) : Prop := ∃ i j : Int, ds = [.int i, .int j] ∧ d = .int (Int.gcd i j : Int)
theorem abs_nat (i : Int) : (if i < 0 then -i else i) = ((i.natAbs : Nat) : Int) := by split <;> omega
theorem has_divisor {k : Nat} (T : Tb K mg) : Has P w K mg base "divisor" (k + 1) ["one", "other"] (spR K rDivisor) := by
  refine has_R T.f_divisor sc_divisor bn_divisor (fun ds d h => by obtain ⟨i, j, rfl, _⟩ := h; rfl) fun f cdv A outer s H vs Q E hr ds d hds h q => ?_
  obtain ⟨i, j, rfl, rfl⟩ := h
  obtain ⟨v1, v2, rfl, h1, h2⟩ := dpa2 hds
  refine ⟨_, (pss_cons (ps_par (i := 0) (j := 1) (by rfl) sc_divisor.nd rfl rfl (by decide) rfl rfl (pa_cons (pe_callB call_abs (by rfl) T.abs (by decide +kernel) (pa_cons (pv 0) pa_nil)) (pa_cons (pe_callB call_abs (by rfl) T.abs (by decide +kernel) (pa_cons (pv 1) pa_nil)) pa_nil)) (by rfl))
      (pss_cons (ps_while PassesOwn.never (pt_cmpR op_gt (pv 1) pe_int (nomark _)) (pss_one (ps_par (i := 0) (j := 1) (by rfl) sc_divisor.nd rfl rfl (by decide) rfl rfl (pa_cons (pv 1) (pa_cons (pe_op op_mod (pv 0) (pv 1)) pa_nil)) (by rfl))))
      (pss_one (ps_ret (pv 0))))), ?_⟩
  refine q_par (evaa_cons (eva_abs (eva_var rfl h1)) (evaa_cons (eva_abs (eva_var rfl h2)) evaa_nil)) fun v w H2 e dv dw => ?_
  rw [abs_nat] at dv dw
  cases dv
  cases dw
  refine Evl.q_while (fun m σ' H' => ∃ a b : Nat, σ' = [some (.int a), some (.int b)] ∧ Ex H H' ∧ m = b ∧ Nat.gcd a b = Int.gcd i j) j.natAbs ⟨i.natAbs, j.natAbs, rfl, e, rfl, rfl⟩ fun m σ' H' hW => ?_
  obtain ⟨a, b, rfl, e', rfl, hg⟩ := hW
  refine ⟨_, evt_T (K := K) (eva_B0 (eva_var rfl (.int _)) eva_int), fun hb H1 e1 => ?_, fun hb H1 e1 => ?_⟩
  · have hb' : 0 < m := by have := of_decide_eq_true hb; omega
    refine ⟨_, fun σ2 H2 h => h, s_par (K := K) (evaa_cons (eva_var rfl (.int _)) (evaa_cons (eva_I (eva_var rfl (.int _)) (eva_var rfl (.int _)) (by show (0 : Int) < m; omega)) evaa_nil)) fun v w H3 e3 dv dw => ?_⟩
    cases dv
    cases dw
    refine ⟨a % m, Nat.mod_lt _ hb', m, a % m, ?_, (e'.trans e1).trans e3, rfl, ?_⟩
    · show [some (V.int (m : Int)), some (V.int ((a : Int) % (m : Int)))] = _
      rw [Int.natCast_emod]
    · rw [← hg, Nat.gcd_comm a m, Nat.gcd_rec m a, Nat.gcd_comm]
  · have hb' : m = 0 := by have := of_decide_eq_false hb; omega
    subst hb'
    rw [Nat.gcd_zero_right] at hg
    subst hg
    exact s_ret (eva_var rfl (.int _)) fun v H2 e2 dv => q v H2 ((e'.trans e1).trans e2) dv
theorem sc_made : FnScope ["top", "bottom", "common"] ["top", "bottom"] (defScope (topS 5)) := ⟨rfl, rfl, rfl, by decide +kernel, rfl, by decide +kernel, by decide +kernel⟩
theorem bn_made : Bnd "made" 5 ["top", "bottom"] := fun _ _ _ _ _ _ us hl => match us, hl with | [_, _], _ => rfl
def rMade (ds : List PyData) (d : PyData) : Prop := ∃ i j : Int, ds = [.int i, .int j] ∧ 0 < j ∧ j.natAbs < 2 ^ 9000 ∧ d = eQ (lowest i j)
theorem gcd_small {i j : Int} (hj : 0 < j) (hb : j.natAbs < 2 ^ 9000) : CDivW i (Int.gcd i j : Int) ∧ CDivW j (Int.gcd i j : Int) := by
  have h1 : 0 < Int.gcd i j := gcd_pos hj
  have h2 : Int.gcd i j ≤ j.natAbs := Nat.le_of_dvd (by omega) (Nat.gcd_dvd_right ..)
  have h3 : ((Int.gcd i j : Nat) : Int).natAbs < 2 ^ 9000 := by rw [Int.natAbs_natCast]; exact Nat.lt_of_le_of_lt h2 hb
  exact ⟨wide_div (by omega) h3 (by decide) (by decide), wide_div (by omega) h3 (by decide) (by decide)⟩
theorem has_made {k : Nat} (T : Tb K mg) (h_divisor : Has P w K mg base "divisor" k ["one", "other"] (spR K rDivisor)) : Has P w K mg base "made" (k + 1) ["top", "bottom"] (spR K rMade) := by
  refine has_R T.f_made sc_made bn_made (fun ds d h => by obtain ⟨i, j, rfl, _⟩ := h; rfl) fun f cdv A outer s H vs Q E hr ds d hds h q => ?_
  obtain ⟨i, j, rfl, hj, hb, rfl⟩ := h
  obtain ⟨v1, v2, rfl, h1, h2⟩ := dpa2 hds
  refine ⟨_, (pss_cons (ps_set (i := 2) sc_made.nd rfl (by first | exact Or.inl rfl | exact Or.inr rfl) (pe_callH h_divisor hr (pa_cons (pv 0) (pa_cons (pv 1) pa_nil))))
      (pss_cons (ps_if (pt_cmpR op_lt (pv 1) pe_int (nomark _)) (pss_one (ps_set (i := 2) sc_made.nd rfl (by first | exact Or.inl rfl | exact Or.inr rfl) (pe_un un_neg (pv 2)))) pss_nil)
      (pss_one (ps_ret (pe_tup (pa_cons (pe_op op_fdivW (pv 0) (pv 2)) (pa_cons (pe_op op_fdivW (pv 1) (pv 2)) pa_nil))))))), ?_⟩
  refine q_asg (eva_call (evaa_cons (eva_var rfl h1) (evaa_cons (eva_var rfl h2) evaa_nil)) ⟨i, j, rfl, rfl⟩) fun v H2 e dv => ?_
  cases h1
  cases h2
  refine Evl.q_when (evt_T (K := K) (eva_B0 (eva_var rfl (.int _)) eva_int)) (fun hb => ?_) (fun _ H3 e3 => ?_)
  · have := of_decide_eq_true hb
    omega
  refine s_ret (eva_tup (evaa_cons (eva_I (eva_var rfl (.int _)) (eva_var rfl (dp_ex e3 dv)) (gcd_small hj hb).1) (evaa_cons (eva_I (eva_var rfl (.int _)) (eva_var rfl (dp_ex e3 dv)) (gcd_small hj hb).2) evaa_nil))) fun v H4 e4 dv => q v H4 ((e.trans e3).trans e4) dv
theorem sc_plus : FnScope ["one", "other"] ["one", "other"] (defScope (topS 6)) := ⟨rfl, rfl, rfl, by decide +kernel, rfl, by decide +kernel, by decide +kernel⟩
theorem bn_plus : Bnd "plus" 6 ["one", "other"] := fun _ _ _ _ _ _ us hl => match us, hl with | [_, _], _ => rfl
def rPlus (ds : List PyData) (d : PyData) : Prop := ∃ x y : Q, ds = [eQ x, eQ y] ∧ Sm x ∧ Sm y ∧ d = eQ (qadd x y)
theorem pow_two_le {a b : Nat} (h : a ≤ b) : 2 ^ a ≤ 2 ^ b := Nat.pow_le_pow_right (by decide) h
theorem mul_small {i j : Int} (hi : i.natAbs < 2 ^ 4000) (hj : j.natAbs < 2 ^ 4000) : (i * j).natAbs < 2 ^ 9000 := Nat.lt_of_lt_of_le (wide_lt hi hj) (pow_two_le (by decide))
theorem has_plus {k : Nat} (T : Tb K mg) (h_made : Has P w K mg base "made" k ["top", "bottom"] (spR K rMade)) : Has P w K mg base "plus" (k + 1) ["one", "other"] (spR K rPlus) := by
  refine has_R T.f_plus sc_plus bn_plus (fun ds d h => by obtain ⟨i, j, rfl, _⟩ := h; rfl) fun f cdv A outer s H vs Q E hr ds d hds h q => ?_
  obtain ⟨x, y, rfl, hx, hy, rfl⟩ := h
  obtain ⟨v1, v2, rfl, h1, h2⟩ := dpa2 hds
  refine ⟨_, (pss_one (ps_ret (pe_callH h_made hr (pa_cons (pe_op op_add (pe_op op_mulW (pe_ix (ix_seqK K) (pv 0) pe_int (fun _ _ => rfl)) (pe_ix (ix_seqK K) (pv 1) pe_int (fun _ _ => rfl))) (pe_op op_mulW (pe_ix (ix_seqK K) (pv 1) pe_int (fun _ _ => rfl)) (pe_ix (ix_seqK K) (pv 0) pe_int (fun _ _ => rfl)))) (pa_cons (pe_op op_mulW (pe_ix (ix_seqK K) (pv 0) pe_int (fun _ _ => rfl)) (pe_ix (ix_seqK K) (pv 1) pe_int (fun _ _ => rfl))) pa_nil))))), ?_⟩
  have e1 : Eva K (tVar 0) (start ["one", "other"] [v1, v2]) H (eQ x) := eva_var rfl h1
  have e2 : Eva K (tVar 1) (start ["one", "other"] [v1, v2]) H (eQ y) := eva_var rfl h2
  exact s_ret (eva_call (evaa_cons (eva_I0 (eva_I (eva_q0 e1) (eva_q1 e2) (cmul hx.b1 hy.b2)) (eva_I (eva_q0 e2) (eva_q1 e1) (cmul hy.b1 hx.b2))) (evaa_cons (eva_I (eva_q1 e1) (eva_q1 e2) (cmul hx.b2 hy.b2)) evaa_nil)) ⟨_, _, rfl, Int.mul_pos hx.pos hy.pos, mul_small hx.b2 hy.b2, rfl⟩) q
theorem sc_times : FnScope ["one", "other"] ["one", "other"] (defScope (topS 7)) := ⟨rfl, rfl, rfl, by decide +kernel, rfl, by decide +kernel, by decide +kernel⟩
theorem bn_times : Bnd "times" 7 ["one", "other"] := fun _ _ _ _ _ _ us hl => match us, hl with | [_, _], _ => rfl
def rTimes (ds : List PyData) (d : PyData) : Prop := ∃ x y : Q, ds = [eQ x, eQ y] ∧ Sm x ∧ Sm y ∧ d = eQ (qmul x y)
theorem has_times {k : Nat} (T : Tb K mg) (h_made : Has P w K mg base "made" k ["top", "bottom"] (spR K rMade)) : Has P w K mg base "times" (k + 1) ["one", "other"] (spR K rTimes) := by
  refine has_R T.f_times sc_times bn_times (fun ds d h => by obtain ⟨i, j, rfl, _⟩ := h; rfl) fun f cdv A outer s H vs Q E hr ds d hds h q => ?_
  obtain ⟨x, y, rfl, hx, hy, rfl⟩ := h
  obtain ⟨v1, v2, rfl, h1, h2⟩ := dpa2 hds
  refine ⟨_, (pss_one (ps_ret (pe_callH h_made hr (pa_cons (pe_op op_mulW (pe_ix (ix_seqK K) (pv 0) pe_int (fun _ _ => rfl)) (pe_ix (ix_seqK K) (pv 1) pe_int (fun _ _ => rfl))) (pa_cons (pe_op op_mulW (pe_ix (ix_seqK K) (pv 0) pe_int (fun _ _ => rfl)) (pe_ix (ix_seqK K) (pv 1) pe_int (fun _ _ => rfl))) pa_nil))))), ?_⟩
  have e1 : Eva K (tVar 0) (start ["one", "other"] [v1, v2]) H (eQ x) := eva_var rfl h1
  have e2 : Eva K (tVar 1) (start ["one", "other"] [v1, v2]) H (eQ y) := eva_var rfl h2
  exact s_ret (eva_call (evaa_cons (eva_I (eva_q0 e1) (eva_q0 e2) (cmul hx.b1 hy.b1)) (evaa_cons (eva_I (eva_q1 e1) (eva_q1 e2) (cmul hx.b2 hy.b2)) evaa_nil)) ⟨_, _, rfl, Int.mul_pos hx.pos hy.pos, mul_small hx.b2 hy.b2, rfl⟩) q
theorem sc_is_less : FnScope ["one", "other"] ["one", "other"] (defScope (topS 8)) := ⟨rfl, rfl, rfl, by decide +kernel, rfl, by decide +kernel, by decide +kernel⟩
theorem bn_is_less : Bnd "is_less" 8 ["one", "other"] := fun _ _ _ _ _ _ us hl => match us, hl with | [_, _], _ => rfl
def rLess (ds : List PyData) (d : PyData) : Prop := ∃ x y : Q, ds = [eQ x, eQ y] ∧ Sm x ∧ Sm y ∧ d = .bool (less x y)
theorem has_is_less {k : Nat} (T : Tb K mg) : Has P w K mg base "is_less" (k + 1) ["one", "other"] (spR K rLess) := by
  refine has_R T.f_is_less sc_is_less bn_is_less (fun ds d h => by obtain ⟨i, j, rfl, _⟩ := h; rfl) fun f cdv A outer s H vs Q E hr ds d hds h q => ?_
  obtain ⟨x, y, rfl, hx, hy, rfl⟩ := h
  obtain ⟨v1, v2, rfl, h1, h2⟩ := dpa2 hds
  refine ⟨_, (pss_one (ps_ret (pe_cmpR op_lt (pe_op op_mulW (pe_ix (ix_seqK K) (pv 0) pe_int (fun _ _ => rfl)) (pe_ix (ix_seqK K) (pv 1) pe_int (fun _ _ => rfl))) (pe_op op_mulW (pe_ix (ix_seqK K) (pv 1) pe_int (fun _ _ => rfl)) (pe_ix (ix_seqK K) (pv 0) pe_int (fun _ _ => rfl))) (nomark _)))), ?_⟩
  have e1 : Eva K (tVar 0) (start ["one", "other"] [v1, v2]) H (eQ x) := eva_var rfl h1
  have e2 : Eva K (tVar 1) (start ["one", "other"] [v1, v2]) H (eQ y) := eva_var rfl h2
  exact s_ret (eva_B0 (eva_I (eva_q0 e1) (eva_q1 e2) (cmul hx.b1 hy.b2)) (eva_I (eva_q0 e2) (eva_q1 e1) (cmul hy.b1 hx.b2))) q
end
end Cb
set_option Elab.async false
set_option linter.all false
set_option maxRecDepth 100000
set_option maxHeartbeats 4000000
/-! Cb, defs 2: the least, the greatest, sorting, means. -/
namespace Cb
open PySem PySem.Spec PyProof.Rows L2 Evl
/-- a fraction in lowest terms, of parts that are not too large -/
structure Fq (q : Q) : Prop where
  sm : Sm q
  frc : Frc q
theorem im_eQ (q : Q) : im (eQ q) = true := rfl
theorem ims_eQ (xs : List Q) : imAll (xs.map eQ) = true := imAll_map eQ im_eQ xs
theorem atN {ds : List PyData} {d : PyData} {j : Nat} (h : ds[j]? = some d) : atI ds (j : Int) = some d := atI_nat h
theorem map_get {α : Type} {f : α → PyData} {xs : List α} {j : Nat} (h : j < xs.length) : (xs.map f)[j]? = some (f xs[j]) := by simp [h]
section
variable {P : Program} {w : World} {K : PySem.W.Frag} {mg : Str → Option Value} {base : Heap}
theorem sc_least_of : FnScope ["fractions", "found", "fraction"] ["fractions"] (defScope (topS 9)) := ⟨rfl, rfl, rfl, by decide +kernel, rfl, by decide +kernel, by decide +kernel⟩
theorem bn_least_of : Bnd "least_of" 9 ["fractions"] := fun _ _ _ _ _ _ us hl => match us, hl with | [_], _ => rfl
def rLeast (ds : List PyData) (d : PyData) : Prop := ∃ xs : List Q, ds = [.list (xs.map eQ)] ∧ 0 < xs.length ∧ (∀ x ∈ xs, Fq x) ∧ d = eQ (nth xs 0)
theorem has_least_of {k : Nat} (T : Tb K mg) (h_is_less : Has P w K mg base "is_less" k ["one", "other"] (spR K rLess)) : Has P w K mg base "least_of" (k + 1) ["fractions"] (spR K rLeast) := by
  refine has_R T.f_least_of sc_least_of bn_least_of (fun ds d h => by obtain ⟨i, rfl, _⟩ := h; rfl) fun f cdv A outer s H vs Q E hr ds d hds h q => ?_
  obtain ⟨xs, rfl, h0, hf, rfl⟩ := h
  obtain ⟨v1, rfl, h1⟩ := dpa1 hds
  obtain ⟨x, r, rfl⟩ : ∃ x r, xs = x :: r := by cases xs with | nil => cases h0 | cons x r => exact ⟨x, r, rfl⟩
  rw [← leastF_nth fun y hy => (hf y hy).frc] at q
  refine ⟨_, (pss_cons (ps_set (i := 1) sc_least_of.nd rfl (by first | exact Or.inl rfl | exact Or.inr rfl) (pe_ix (ix_seqK K) (pv 0) pe_int (fun _ _ => rfl)))
      (pss_cons (ps_for PassesOwn.never rfl (pi_listK K (pe_slice (sl_listK K) (pv 0) (po_some pe_int) po_none)) (pg_name (i := 2) sc_least_of.nd rfl (by first | exact Or.inl rfl | exact Or.inr rfl)) (pss_one (ps_if (pt_val (pe_callH h_is_less hr (pa_cons (pv 2) (pa_cons (pv 1) pa_nil)))) (pss_one (ps_set (i := 1) sc_least_of.nd rfl (by first | exact Or.inl rfl | exact Or.inr rfl) (pv 2))) pss_nil)))
      (pss_one (ps_ret (pv 1))))), ?_⟩
  refine q_asg (eva_ixL (eva_var rfl h1) eva_int atI0) fun v H2 e dv => ?_
  have es : ((x :: r).map eQ).drop 1 = r.map eQ := rfl
  refine q_forI (evi_list (evl_from (n := 1) (eva_var rfl (dp_ex e h1))).eva) (fun H3 i σ' H' => Ex H3 H' ∧ ∃ v z, σ' = [some v1, some v, z] ∧ Dp K H' v (eQ (leastF x (r.take i)))) (fun _ _ _ _ h => h.1) (fun H3 e3 => ⟨Ex.refl _, v, none, rfl, dp_ex e3 dv⟩) ?_ ?_
  · intro H3 e3 i hi σ' H' σ2 H4 hP e4 hp
    obtain ⟨eb, u, z, rfl, hu⟩ := hP
    obtain ⟨y, rfl, hy⟩ := hp
    have hi' : i < r.length := by simpa using hi
    have ey : (List.drop 1 ((x :: r).map eQ))[i] = eQ r[i] := by simp
    rw [ey] at hy
    have fy : Fq r[i] := hf _ (by simp)
    have fm : Fq (leastF x (r.take i)) := by
      have := (leastF_ok (r.take i) x (hf x (by simp)).sm.pos (fun y hy => (hf y (by simp [List.mem_of_mem_take hy])).sm.pos)).1
      exact hf _ (by
        rcases List.mem_cons.mp this with e | e
        · rw [e]; simp
        · simp [List.mem_of_mem_take e])
    have en : leastF x (r.take (i + 1)) = if less r[i] (leastF x (r.take i)) then r[i] else leastF x (r.take i) := by
      rw [take_snoc hi', leastF_snoc]
    refine Evl.s_when (evt_B (K := K) (eva_call (evaa_cons (eva_var rfl hy) (evaa_cons (eva_var rfl (dp_ex e4 hu)) evaa_nil)) ⟨_, _, rfl, fy.sm, fm.sm, rfl⟩)) (fun hb H5 e5 => ?_) (fun hb H5 e5 => ?_)
    · refine s_asg (eva_var (K := K) rfl (dp_ex e5 hy)) fun v H6 e6 dv => ⟨(eb.trans e4).trans (e5.trans e6), v, _, rfl, ?_⟩
      rw [en, hb]; exact dv
    · refine ⟨(eb.trans e4).trans e5, u, _, rfl, ?_⟩
      rw [en, hb]; exact dp_ex (e4.trans e5) hu
  · intro H3 e3 σ' H' hP
    obtain ⟨eb, u, z, rfl, hu⟩ := hP
    refine s_ret (eva_var (K := K) rfl hu) fun v H4 e4 dv => q v H4 ((e.trans e3).trans (eb.trans e4)) ?_
    have el : (List.drop 1 ((x :: r).map eQ)).length = r.length := by simp
    rw [el, List.take_length] at dv
    exact dv
theorem sc_greatest_of : FnScope ["fractions", "found", "fraction"] ["fractions"] (defScope (topS 10)) := ⟨rfl, rfl, rfl, by decide +kernel, rfl, by decide +kernel, by decide +kernel⟩
theorem bn_greatest_of : Bnd "greatest_of" 10 ["fractions"] := fun _ _ _ _ _ _ us hl => match us, hl with | [_], _ => rfl
def rGreatest (ds : List PyData) (d : PyData) : Prop := ∃ xs : List Q, ds = [.list (xs.map eQ)] ∧ 0 < xs.length ∧ (∀ x ∈ xs, Fq x) ∧ d = eQ (nth xs (xs.length - 1))
theorem has_greatest_of {k : Nat} (T : Tb K mg) (h_is_less : Has P w K mg base "is_less" k ["one", "other"] (spR K rLess)) : Has P w K mg base "greatest_of" (k + 1) ["fractions"] (spR K rGreatest) := by
  refine has_R T.f_greatest_of sc_greatest_of bn_greatest_of (fun ds d h => by obtain ⟨i, rfl, _⟩ := h; rfl) fun f cdv A outer s H vs Q E hr ds d hds h q => ?_
  obtain ⟨xs, rfl, h0, hf, rfl⟩ := h
  obtain ⟨v1, rfl, h1⟩ := dpa1 hds
  obtain ⟨x, r, rfl⟩ : ∃ x r, xs = x :: r := by cases xs with | nil => cases h0 | cons x r => exact ⟨x, r, rfl⟩
  rw [show (x :: r).length - 1 = r.length from rfl, ← greatF_nth fun y hy => (hf y hy).frc] at q
  refine ⟨_, (pss_cons (ps_set (i := 1) sc_greatest_of.nd rfl (by first | exact Or.inl rfl | exact Or.inr rfl) (pe_ix (ix_seqK K) (pv 0) pe_int (fun _ _ => rfl)))
      (pss_cons (ps_for PassesOwn.never rfl (pi_listK K (pe_slice (sl_listK K) (pv 0) (po_some pe_int) po_none)) (pg_name (i := 2) sc_greatest_of.nd rfl (by first | exact Or.inl rfl | exact Or.inr rfl)) (pss_one (ps_if (pt_val (pe_callH h_is_less hr (pa_cons (pv 1) (pa_cons (pv 2) pa_nil)))) (pss_one (ps_set (i := 1) sc_greatest_of.nd rfl (by first | exact Or.inl rfl | exact Or.inr rfl) (pv 2))) pss_nil)))
      (pss_one (ps_ret (pv 1))))), ?_⟩
  refine q_asg (eva_ixL (eva_var rfl h1) eva_int atI0) fun v H2 e dv => ?_
  have es : ((x :: r).map eQ).drop 1 = r.map eQ := rfl
  refine q_forI (evi_list (evl_from (n := 1) (eva_var rfl (dp_ex e h1))).eva) (fun H3 i σ' H' => Ex H3 H' ∧ ∃ v z, σ' = [some v1, some v, z] ∧ Dp K H' v (eQ (greatF x (r.take i)))) (fun _ _ _ _ h => h.1) (fun H3 e3 => ⟨Ex.refl _, v, none, rfl, dp_ex e3 dv⟩) ?_ ?_
  · intro H3 e3 i hi σ' H' σ2 H4 hP e4 hp
    obtain ⟨eb, u, z, rfl, hu⟩ := hP
    obtain ⟨y, rfl, hy⟩ := hp
    have hi' : i < r.length := by simpa using hi
    have ey : (List.drop 1 ((x :: r).map eQ))[i] = eQ r[i] := by simp
    rw [ey] at hy
    have fy : Fq r[i] := hf _ (by simp)
    have fm : Fq (greatF x (r.take i)) := by
      have := (greatF_ok (r.take i) x (hf x (by simp)).sm.pos (fun y hy => (hf y (by simp [List.mem_of_mem_take hy])).sm.pos)).1
      exact hf _ (by
        rcases List.mem_cons.mp this with e | e
        · rw [e]; simp
        · simp [List.mem_of_mem_take e])
    have en : greatF x (r.take (i + 1)) = if less (greatF x (r.take i)) r[i] then r[i] else greatF x (r.take i) := by
      rw [take_snoc hi', greatF_snoc]
    refine Evl.s_when (evt_B (K := K) (eva_call (evaa_cons (eva_var rfl (dp_ex e4 hu)) (evaa_cons (eva_var rfl hy) evaa_nil)) ⟨_, _, rfl, fm.sm, fy.sm, rfl⟩)) (fun hb H5 e5 => ?_) (fun hb H5 e5 => ?_)
    · refine s_asg (eva_var (K := K) rfl (dp_ex e5 hy)) fun v H6 e6 dv => ⟨(eb.trans e4).trans (e5.trans e6), v, _, rfl, ?_⟩
      rw [en, hb]; exact dv
    · refine ⟨(eb.trans e4).trans e5, u, _, rfl, ?_⟩
      rw [en, hb]; exact dp_ex (e4.trans e5) hu
  · intro H3 e3 σ' H' hP
    obtain ⟨eb, u, z, rfl, hu⟩ := hP
    refine s_ret (eva_var (K := K) rfl hu) fun v H4 e4 dv => q v H4 ((e.trans e3).trans (eb.trans e4)) ?_
    have el : (List.drop 1 ((x :: r).map eQ)).length = r.length := by simp
    rw [el, List.take_length] at dv
    exact dv
end
end Cb
set_option Elab.async false
set_option linter.all false
set_option maxRecDepth 100000
set_option maxHeartbeats 4000000
/-! Cb, defs 3: sorting, checks of numbers, means. -/
namespace Cb
open PySem PySem.Spec PyProof.Rows L2 Evl
theorem VOk.fq {b : Nat} {q : Q} (h : VOk b q) (hb : b ≤ 3000) : Fq q := by
  have h2 := (h.mono hb).bot
  have hp := h.num.pos
  have hl := h.num.lo
  have hh := h.num.hi
  have e1 : (2 : Nat) ^ 3000 < 2 ^ 4000 := Nat.pow_lt_pow_right (by decide) (by decide)
  have e2 : ((2 : Int) ^ 3000) = ((2 ^ 3000 : Nat) : Int) := by rw [Int.natCast_pow]; rfl
  rw [e2] at h2
  exact ⟨⟨hp, by omega, by omega⟩, h.num.frc⟩
section
variable {P : Program} {w : World} {K : PySem.W.Frag} {mg : Str → Option Value} {base : Heap}
theorem sc_ascending : FnScope ["fractions", "found", "fraction", "at"] ["fractions"] (defScope (topS 11)) := ⟨rfl, rfl, rfl, by decide +kernel, rfl, by decide +kernel, by decide +kernel⟩
theorem bn_ascending : Bnd "ascending" 11 ["fractions"] := fun _ _ _ _ _ _ us hl => match us, hl with | [_], _ => rfl
def rAsc (ds es : List PyData) : Prop := ∃ xs : List Q, ds = [.list (xs.map eQ)] ∧ xs.length ≤ 1000 ∧ (∀ x ∈ xs, Fq x) ∧ es = (srt xs).map eQ
theorem has_ascending {k : Nat} (T : Tb K mg) (h_is_less : Has P w K mg base "is_less" k ["one", "other"] (spR K rLess)) : Has P w K mg base "ascending" (k + 1) ["fractions"] (spL K rAsc) := by
  refine has_L T.f_ascending sc_ascending bn_ascending (fun ds d h => by obtain ⟨i, rfl, _⟩ := h; rfl) fun f cdv A outer s H vs Q E hr ds d hds h q => ?_
  obtain ⟨xs, rfl, hlen, hf, rfl⟩ := h
  obtain ⟨v1, rfl, h1⟩ := dpa1 hds
  refine ⟨_, (pss_cons (ps_set (i := 1) sc_ascending.nd rfl (by first | exact Or.inl rfl | exact Or.inr rfl) (pe_lst pa_nil))
      (pss_cons (ps_for PassesOwn.never rfl (pi_listK K (pv 0)) (pg_name (i := 2) sc_ascending.nd rfl (by first | exact Or.inl rfl | exact Or.inr rfl)) (pss_cons (ps_set (i := 3) sc_ascending.nd rfl (by first | exact Or.inl rfl | exact Or.inr rfl) (pe_callB (call_lenK K) (by rfl) T.len (by decide +kernel) (pa_cons (pv 1) pa_nil)))
      (pss_cons (ps_while PassesOwn.never (PW.pt (pw_and (pt_cmpR op_gt (pv 3) pe_int (nomark _)) (pw_and1 (pt_val (pe_callH h_is_less hr (pa_cons (pv 2) (pa_cons (pe_ix (ix_seqK K) (pv 1) (pe_op op_sub (pv 3) pe_int) (fun _ _ => rfl)) pa_nil))))))) (pss_one (ps_aug (i := 3) sc_ascending.nd rfl (by first | exact Or.inl rfl | exact Or.inr rfl) pe_int ip_sub)))
      (pss_one (ps_expr (pe_bm PySem.F.plainAttrs_list PySem.F.slot_list_insert PySem.F.type_list_insert mt_insert (pv 1) (pa_cons (pv 3) (pa_cons (pv 2) pa_nil))))))))
      (pss_one (ps_ret (pv 1))))), ?_⟩
  refine q_asgL (evl_lst (K := K) evaa_nil) fun p ws H2 np e hp dw => ?_
  cases dw
  refine q_forG (evg_list rfl h1 e) (fun i σ' H' => ∃ ws z a, σ' = [some v1, some (.ref p), z, a] ∧ Ex H H' ∧ H' p = some (.lst ws) ∧ DpAll K H' ws ((srt (xs.take i)).map eQ)) (fun i σ' H' _ hP => by obtain ⟨_, _, _, _, hP, _⟩ := hP; exact hP)
    (fun H3 e3 => ⟨[], none, none, rfl, e.trans e3, e3 p _ hp, .nil⟩) ?_ ?_
  · intro i hi σ' H' σ2 H3 hP e3 hp'
    obtain ⟨ws, z, a, rfl, eb, hpl, hd⟩ := hP
    obtain ⟨y, rfl, hy⟩ := hp'
    have hi' : i < xs.length := by simpa using hi
    rw [show (xs.map eQ)[i] = eQ xs[i] by simp] at hy
    have fx : Fq xs[i] := hf _ (List.getElem_mem _)
    have hpl3 := e3 p _ hpl
    have hd3 := dpa_ex e3 hd
    generalize hacc : srt (xs.take i) = acc at hd hd3
    have hasc : Asc acc := by rw [← hacc]; exact srt_asc _
    have facc : ∀ z ∈ acc, Fq z := fun z hz => hf z (List.mem_of_mem_take (srt_mem.mp (by rw [hacc]; exact hz)))
    have lacc : acc.length ≤ 1000 := by rw [← hacc, srt_len]; simp; omega
    refine q_asg (eva_lenL (eva_var rfl (dp_newL hpl3 hd3))) fun v H4 e4 dv => ?_
    cases dv
    refine Evl.q_while (fun m σ' H' => ∃ n : Nat, σ' = [some v1, some (.ref p), some y, some (.int (n : Int))] ∧ Ex H4 H' ∧ m = n ∧ n ≤ acc.length ∧ ∀ j (h : j < acc.length), n ≤ j → toR xs[i] < toR acc[j]) acc.length ⟨acc.length, by simp [L2.start], Ex.refl _, rfl, Nat.le_refl _, fun j h h' => by omega⟩ fun m σ' H' hW => ?_
    obtain ⟨n, rfl, e5, rfl, hn, hgt⟩ := hW
    have hp5 : H' p = some (.lst ws) := e5 p _ (e4 p _ hpl3)
    have hd5 : DpAll K H' ws (acc.map eQ) := dpa_ex (e4.trans e5) hd3
    have hy5 : Dp K H' y (eQ xs[i]) := dp_ex (e4.trans e5) hy
    have test : EvT (tAnd (tTest (tOp (rI0 fun i j => V.bl (decide (j < i))) (tVar 3) (tC (V.int 0)))) (tB (tCall (spR K rLess) [] E0 (tCons (tVar 2) (tCons (tOp (rIx K) (tVar 1) (tOp (rI0 fun i j => V.int (i - j)) (tVar 3) (tC (V.int 1)))) tNil)))))
        [some v1, some (.ref p), some y, some (.int (m : Int))] H' (decide ((0 : Int) < m) && less xs[i] (acc.getD (m - 1) (0, 1))) := by
      refine Evl.et_and (evt_T (K := K) (eva_B0 (eva_var rfl (.int _)) eva_int)) fun hb => ?_
      have hb' : 0 < m := by have := of_decide_eq_true hb; omega
      have hm : m - 1 < acc.length := by omega
      have eg : acc.getD (m - 1) (0, 1) = acc[m - 1] := by rw [List.getD_eq_getElem?_getD, List.getElem?_eq_getElem hm]; rfl
      rw [eg]
      refine evt_B (K := K) (eva_call (evaa_cons (eva_var rfl hy5) (evaa_cons (eva_ixL (eva_var rfl (dp_newL hp5 hd5)) (eva_I0 (eva_var rfl (.int _)) eva_int) ?_) evaa_nil)) ⟨_, _, rfl, fx.sm, (facc _ (List.getElem_mem hm)).sm, rfl⟩)
      rw [show (m : Int) - 1 = ((m - 1 : Nat) : Int) by omega]
      exact atN (map_get hm)
    refine ⟨_, test, fun hb H6 e6 => ?_, fun hb H6 e6 => ?_⟩
    · obtain ⟨hb1, hb2⟩ := Bool.and_eq_true_iff.mp hb
      have hb' : 0 < m := by have := of_decide_eq_true hb1; omega
      have hm : m - 1 < acc.length := by omega
      refine ⟨_, fun σ2 H2 h => h, Evl.s_aug (f := fun i j => i - j) (a := (m : Int)) (b := 1) rfl Evl.ev_c fun H7 e7 => ⟨m - 1, by omega, m - 1, ?_, (e5.trans e6).trans e7, rfl, by omega, fun j h hj => ?_⟩⟩
      · show [some v1, some (.ref p), some y, some (.int ((m : Int) - 1))] = _
        rw [show (m : Int) - 1 = ((m - 1 : Nat) : Int) by omega]
      · by_cases hjm : j = m - 1
        · subst hjm
          have eg : acc.getD (m - 1) (0, 1) = acc[m - 1] := by rw [List.getD_eq_getElem?_getD, List.getElem?_eq_getElem hm]; rfl
          rw [eg, less_iff fx.sm.pos (facc _ (List.getElem_mem hm)).sm.pos] at hb2
          exact of_decide_eq_true hb2
        · exact hgt j h (by omega)
    · have hp6 := e6 p _ hp5
      have hd6 := dpa_ex e6 hd5
      have hy6 := dp_ex e6 hy5
      have hlw : ws.length = acc.length := by rw [dpa_len hd]; simp
      have eins : acc.take m ++ [xs[i]] ++ acc.drop m = insK xs[i] acc := insK_at _ _ _ hasc hn hgt fun hm hp => by
        intro hlt
        have eg : acc.getD (m - 1) (0, 1) = acc[m - 1] := by rw [List.getD_eq_getElem?_getD, List.getElem?_eq_getElem hm]; rfl
        rw [eg, less_iff fx.sm.pos (facc _ (List.getElem_mem hm)).sm.pos, decide_eq_true hlt, Bool.and_true] at hb
        have := of_decide_eq_false hb
        omega
      refine ⟨.ref p, rfl, .inl ⟨rfl, _, .inl (.inl hp6)⟩, .int (m : Int), rfl, y, rfl, p, ws, m, y, rfl, rfl, hp6, sz_lt (by omega), by omega, by omega, ?_⟩
      refine ⟨_, some y, some (.int (m : Int)), rfl, ((eb.trans e3).trans (e4.trans (e5.trans e6))).mut np, upd_same, ?_⟩
      rw [take_snoc hi', srt_snoc, hacc, ← eins]
      simp only [List.map_append, List.map_take, List.map_drop, List.map_cons, List.map_nil, Int.toNat_natCast]
      refine dpa_mut (dpa_app (dpa_app (dpa_take m hd6) (dpa_one hy6)) (dpa_drop m hd6)) ?_ hp6 rfl
      rw [← List.map_take, ← List.map_drop]
      exact imAll_app (imAll_app (ims_eQ _) (ims_eQ [xs[i]])) (ims_eQ _)
  · intro σ' H' hP
    obtain ⟨ws, z, a, rfl, eb, hpl, hd⟩ := hP
    have el : (xs.map eQ).length = xs.length := by simp
    rw [el, List.take_length] at hd
    refine ⟨.ref p, rfl, q p ws H' np eb hpl (dpa_tx (tx_er hpl rfl) hd (ims_eQ _))⟩
theorem sc_middle : FnScope ["one", "two", "three"] ["one", "two", "three"] (defScope (topS 12)) := ⟨rfl, rfl, rfl, by decide +kernel, rfl, by decide +kernel, by decide +kernel⟩
theorem bn_middle : Bnd "middle" 12 ["one", "two", "three"] := fun _ _ _ _ _ _ us hl => match us, hl with | [_, _, _], _ => rfl
def rMiddle (ds : List PyData) (d : PyData) : Prop := ∃ x y z : Q, ds = [eQ x, eQ y, eQ z] ∧ Fq x ∧ Fq y ∧ Fq z ∧ d = eQ (nth [x, y, z] 1)
theorem has_middle {k : Nat} (T : Tb K mg) (h_ascending : Has P w K mg base "ascending" k ["fractions"] (spL K rAsc)) : Has P w K mg base "middle" (k + 1) ["one", "two", "three"] (spR K rMiddle) := by
  refine has_R T.f_middle sc_middle bn_middle (fun ds d h => by obtain ⟨_, _, _, rfl, _⟩ := h; rfl) fun f cdv A outer s H vs Q E hr ds d hds h q => ?_
  obtain ⟨x, y, z, rfl, hx, hy, hz, rfl⟩ := h
  obtain ⟨v1, v2, v3, rfl, h1, h2, h3⟩ := dpa3 hds
  refine ⟨_, (pss_one (ps_ret (pe_ix (ix_seqK K) (pe_callH h_ascending hr (pa_cons (pe_lst (pa_cons (pv 0) (pa_cons (pv 1) (pa_cons (pv 2) pa_nil)))) pa_nil)) pe_int (fun _ _ => rfl)))), ?_⟩
  have hl : (srt [x, y, z]).length = 3 := srt_len _
  refine s_ret (eva_ixL (evl_call (es := (srt [x, y, z]).map eQ) (evaa_cons (EvaL.eva (evl_lst (ds := [x, y, z].map eQ) (evaa_cons (eva_var rfl h1) (evaa_cons (eva_var rfl h2) (evaa_cons (eva_var rfl h3) evaa_nil))))) evaa_nil) ⟨[x, y, z], rfl, by simp, by simp [hx, hy, hz], rfl⟩).eva eva_int ?_) q
  rw [nth_get (by omega : 1 < (srt [x, y, z]).length)]
  exact atN (j := 1) (map_get (by omega))
theorem sc_is_fraction : FnScope ["thing", "part"] ["thing"] (defScope (topS 13)) := ⟨rfl, rfl, rfl, by decide +kernel, rfl, by decide +kernel, by decide +kernel⟩
theorem bn_is_fraction : Bnd "is_fraction" 13 ["thing"] := fun _ _ _ _ _ _ us hl => match us, hl with | [_], _ => rfl
def rIsNum (ds : List PyData) (d : PyData) : Prop := ∃ x : Q, ds = [eQ x] ∧ Num x ∧ d = .bool true
theorem kb_ii : kitB "int" "int" = some true := by decide +kernel
theorem kb_ib : kitB "int" "bool" = some false := by decide +kernel
theorem kb_bb : kitB "bool" "bool" = some true := by decide +kernel
theorem kb_tt : kitB "tuple" "tuple" = some true := by decide +kernel
theorem kb_ll : kitB "list" "list" = some true := by decide +kernel
theorem kb_ss : kitB "str" "str" = some true := by decide +kernel
theorem isint_i (i : Int) : rIsInt [.int i] (.bool true) := ⟨_, true, rfl, kb_ii, fun _ => kb_ib, rfl⟩
theorem has_is_fraction {k : Nat} (T : Tb K mg) (h_is_integer : Has P w K mg base "is_integer" k ["thing"] (spR K rIsInt)) (h_divisor : Has P w K mg base "divisor" k ["one", "other"] (spR K rDivisor)) : Has P w K mg base "is_fraction" (k + 1) ["thing"] (spR K rIsNum) := by
  refine has_R T.f_is_fraction sc_is_fraction bn_is_fraction (fun ds d h => by obtain ⟨_, rfl, _⟩ := h; rfl) fun f cdv A outer s H vs Q E hr ds d hds h q => ?_
  obtain ⟨x, rfl, hx, rfl⟩ := h
  obtain ⟨v1, rfl, h1⟩ := dpa1 hds
  refine ⟨_, (pss_cons (ps_if (PW.pt (pw_or (pt_not (pt_val (pe_callB (call_isiKK K) (by rfl) T.isinstance (by decide +kernel) (pa_cons (pv 0) (pa_cons (pe_gTy (T := "tuple") T.tuple (by decide +kernel)) pa_nil))))) (pw_or (pt_cmpR op_ne (pe_callB (call_lenK K) (by rfl) T.len (by decide +kernel) (pa_cons (pv 0) pa_nil)) pe_int (nomark _)) (pw_or1 (pt_not (pt_val (pe_callB (cr_allK K) (by rfl) T.all (by decide +kernel) (pa_cons (pe_lc (own := [("part", 1)]) (g := (gName 1)) (tt := tYes) rfl sc_is_fraction.nd (pi_tupK K (pv 0)) (blkOk_by (N := ["thing", "part"]) (sc := defScope (topS 13)) (by decide +kernel)) (fun _ _ _ _ _ => (pg_name (i := 1) sc_is_fraction.nd rfl (by first | exact Or.inl rfl | exact Or.inr rfl))) (fun _ _ _ _ _ => pts_nil) (fun _ _ _ _ _ => (pe_callH h_is_integer hr (pa_cons (pv 1) pa_nil)))) pa_nil)))))))) (pss_one (ps_ret pe_bl)) pss_nil)
      (pss_one (ps_ret (pe_and (pe_cmpR op_ge (pe_ix (ix_seqK K) (pv 0) pe_int (fun _ _ => rfl)) pe_int (nomark _)) (pe_one (pe_cmpR op_eq (pe_callH h_divisor hr (pa_cons (pe_ix (ix_seqK K) (pv 0) pe_int (fun _ _ => rfl)) (pa_cons (pe_ix (ix_seqK K) (pv 0) pe_int (fun _ _ => rfl)) pa_nil))) pe_int (nomark _))))))), ?_⟩
  have e1 : Eva K (tVar 0) (start ["thing", "part"] [v1]) H (eQ x) := eva_var rfl h1
  refine Evl.q_when (b := false) (Evl.et_is (Evl.et_or (Evl.et_not (evt_B (K := K) (eva_isi e1 (k := true) kb_tt))) fun _ => Evl.et_or (evt_T (K := K) (eva_neI (eva_lenT e1) eva_int)) fun _ => Evl.et_not (evt_B (K := K) (eva_all (ns := [true, true]) (EvaL.eva (evl_lc1 (fun _ => .bool true) (evi_tup e1) (by simp) (fun a σ2 H2 _ hp => ?_) (fun a σ2 H2 ha ex hp => ?_) (fun _ _ => rfl)))))) ?_) (fun hb => by cases hb) (fun _ H2 e2 => ?_)
  · obtain ⟨v, rfl, _⟩ := hp; rfl
  · obtain ⟨v, rfl, hv⟩ := hp
    have : ∃ i, a = .int i := by simp at ha; rcases ha with e | e <;> exact ⟨_, e⟩
    obtain ⟨i, rfl⟩ := this
    exact eva_call (evaa_cons (eva_var rfl hv) evaa_nil) (isint_i i)
  · rfl
  · have e2' := e1.mono e2
    refine s_ret (eva_is (eva_and (eva_B0 (eva_q1 e2') eva_int) fun _ => eva_eqI (eva_call (evaa_cons (eva_q0 e2') (evaa_cons (eva_q1 e2') evaa_nil)) ⟨_, _, rfl, rfl⟩) eva_int) ?_) fun v H3 e3 dv => q v H3 (e2.trans e3) dv
    rw [hx.cop]
    have := hx.pos
    simp; omega
end
end Cb
set_option Elab.async false
set_option linter.all false
set_option maxRecDepth 100000
set_option maxHeartbeats 4000000
/-! Cb, defs 4: checks, means, the values of terms. -/
namespace Cb
open PySem PySem.Spec PyProof.Rows L2 Evl
section
variable {K : PySem.W.Frag} {α β : Type} {σ : L2.St} {H : Hp} {wi : TI} {g : TG}
theorem Wk.map {J : It} {G : Hp → Prop} {f : α → β} {xs : List α} {P : β → L2.St → L2.St → Hp → Prop} (w : Wk J G g (xs.map f) P) : Wk J G g xs (fun a => P (f a)) where
  goes i H hi e := w.goes i H (by simpa using hi) e
  stops H e := by have := w.stops H e; rwa [List.length_map] at this
  item i hi H x H' e y σ0 k q := w.item i (by simpa using hi) H x H' e y σ0 k fun σ2 H3 e3 p => q σ2 H3 e3 (by simpa using p)
theorem EvI.map {f : α → β} {xs : List α} {P : β → L2.St → L2.St → Hp → Prop} (h : EvI wi g σ H (xs.map f) P) : EvI wi g σ H xs (fun a => P (f a)) := fun H1 e R q => h H1 e R fun J H2 e2 w => q J H2 e2 w.map
end
section
variable {K : PySem.W.Frag} {σ : L2.St} {H : Hp} {ta tb tc : TE} {a b c : Int}
/-- a < b < c of ints -/
theorem eva_chainI {g1 g2 : Int → Int → Bool} (ha : Eva K ta σ H (.int a)) (hb : Eva K tb σ H (.int b)) (hc : Eva K tc σ H (.int c)) :
    Eva K (tChain (rI0 fun i j => .bl (g1 i j)) (rI0 fun i j => .bl (g2 i j)) ta tb tc) σ H (.bool (g1 a b && g2 b c)) :=
  eva_chain ha hb (fun _ => hc) (fun x y H1 dx dy Q q => ⟨a, b, dp_int dx, dp_int dy, q⟩) (fun _ x y H1 dx dy Q q => ⟨b, c, dp_int dx, dp_int dy, q⟩)
end
section
variable {P : Program} {w : World} {K : PySem.W.Frag} {mg : Str → Option Value} {base : Heap}
theorem dp_zero (T : Tb K mg) (H : Hp) : Dp K H (.ref (refAt mg "ZERO")) (eQ (0, 1)) := .tup (T.sZERO H) (.cons (.int 0) (.cons (.int 1) .nil))
theorem dp_one (T : Tb K mg) (H : Hp) : Dp K H (.ref (refAt mg "ONE")) (eQ (1, 1)) := .tup (T.sONE H) (.cons (.int 1) (.cons (.int 1) .nil))
theorem sc_is_within : FnScope ["thing", "least", "most"] ["thing", "least", "most"] (defScope (topS 29)) := ⟨rfl, rfl, rfl, by decide +kernel, rfl, by decide +kernel, by decide +kernel⟩
theorem bn_is_within : Bnd "is_within" 29 ["thing", "least", "most"] := fun _ _ _ _ _ _ us hl => match us, hl with | [_, _, _], _ => rfl
def rWithin (ds : List PyData) (d : PyData) : Prop := ∃ x l m : Int, ds = [.int x, .int l, .int m] ∧ d = .bool (decide (l ≤ x) && decide (x ≤ m))
theorem has_is_within {k : Nat} (T : Tb K mg) (h_is_integer : Has P w K mg base "is_integer" k ["thing"] (spR K rIsInt)) : Has P w K mg base "is_within" (k + 1) ["thing", "least", "most"] (spR K rWithin) := by
  refine has_R T.f_is_within sc_is_within bn_is_within (fun ds d h => by obtain ⟨_, _, _, rfl, _⟩ := h; rfl) fun f cdv A outer s H vs Q E hr ds d hds h q => ?_
  obtain ⟨x, l, m, rfl, rfl⟩ := h
  obtain ⟨v1, v2, v3, rfl, h1, h2, h3⟩ := dpa3 hds
  refine ⟨_, (pss_one (ps_ret (pe_and (pe_callH h_is_integer hr (pa_cons (pv 0) pa_nil)) (pe_one (pe_chain op_le op_le (pv 1) (pv 0) (pv 2)))))), ?_⟩
  exact s_ret (eva_is (eva_and (eva_call (evaa_cons (eva_var rfl h1) evaa_nil) (isint_i x)) fun _ => eva_chainI (eva_var rfl h2) (eva_var rfl h1) (eva_var rfl h3)) (by rw [Bool.true_and])) q
theorem sc_is_number : FnScope ["thing"] ["thing"] (defScope (topS 30)) := ⟨rfl, rfl, rfl, by decide +kernel, rfl, by decide +kernel, by decide +kernel⟩
theorem bn_is_number : Bnd "is_number" 30 ["thing"] := fun _ _ _ _ _ _ us hl => match us, hl with | [_], _ => rfl
theorem has_is_number {k : Nat} (T : Tb K mg) (h_is_fraction : Has P w K mg base "is_fraction" k ["thing"] (spR K rIsNum)) : Has P w K mg base "is_number" (k + 1) ["thing"] (spR K rIsNum) := by
  refine has_R T.f_is_number sc_is_number bn_is_number (fun ds d h => by obtain ⟨_, rfl, _⟩ := h; rfl) fun f cdv A outer s H vs Q E hr ds d hds h q => ?_
  obtain ⟨x, rfl, hx, rfl⟩ := h
  obtain ⟨v1, rfl, h1⟩ := dpa1 hds
  refine ⟨_, (pss_one (ps_ret (pe_and (pe_callH h_is_fraction hr (pa_cons (pv 0) pa_nil)) (pe_one (pe_chain op_le op_le pe_int (pe_ix (ix_seqK K) (pv 0) pe_int (fun _ _ => rfl)) (pe_ix (ix_seqK K) (pv 0) pe_int (fun _ _ => rfl))))))), ?_⟩
  have e1 : Eva K (tVar 0) (start ["thing"] [v1]) H (eQ x) := eva_var rfl h1
  refine s_ret (eva_is (eva_and (eva_call (evaa_cons e1 evaa_nil) ⟨x, rfl, hx, rfl⟩) fun _ => eva_chainI eva_int (eva_q0 e1) (eva_q1 e1)) ?_) q
  have a := hx.lo
  have b := hx.hi
  simp only [Bool.true_and, PyData.bool.injEq, Bool.and_eq_true, decide_eq_true_eq]
  exact ⟨a, b⟩
theorem sc_are_numbers : FnScope ["thing", "many", "part"] ["thing", "many"] (defScope (topS 31)) := ⟨rfl, rfl, rfl, by decide +kernel, rfl, by decide +kernel, by decide +kernel⟩
theorem bn_are_numbers : Bnd "are_numbers" 31 ["thing", "many"] := fun _ _ _ _ _ _ us hl => match us, hl with | [_, _], _ => rfl
abbrev eW (b : List Q) : PyData := .tuple (b.map eQ)
def rAreNums (ds : List PyData) (d : PyData) : Prop := ∃ b : List Q, ds = [eW b, .int (b.length : Int)] ∧ b.length ≤ 1000 ∧ (∀ q ∈ b, Num q) ∧ d = .bool true
theorem all_true {α : Type} (xs : List α) : (xs.map fun _ => true).all id = true := by simp
theorem has_are_numbers {k : Nat} (T : Tb K mg) (h_is_number : Has P w K mg base "is_number" k ["thing"] (spR K rIsNum)) : Has P w K mg base "are_numbers" (k + 1) ["thing", "many"] (spR K rAreNums) := by
  refine has_R T.f_are_numbers sc_are_numbers bn_are_numbers (fun ds d h => by obtain ⟨_, rfl, _⟩ := h; rfl) fun f cdv A outer s H vs Q E hr ds d hds h q => ?_
  obtain ⟨b, rfl, hl, hb, rfl⟩ := h
  obtain ⟨v1, v2, rfl, h1, h2⟩ := dpa2 hds
  refine ⟨_, (pss_one (ps_ret (pe_and (pe_callB (call_isiKK K) (by rfl) T.isinstance (by decide +kernel) (pa_cons (pv 0) (pa_cons (pe_gTy (T := "tuple") T.tuple (by decide +kernel)) pa_nil))) (pe_and (pe_cmpR op_eq (pe_callB (call_lenK K) (by rfl) T.len (by decide +kernel) (pa_cons (pv 0) pa_nil)) (pv 1) (nomark _)) (pe_one (pe_callB (cr_allK K) (by rfl) T.all (by decide +kernel) (pa_cons (pe_lc (own := [("part", 2)]) (g := (gName 2)) (tt := tYes) rfl sc_are_numbers.nd (pi_tupK K (pv 0)) (blkOk_by (N := ["thing", "many", "part"]) (sc := defScope (topS 31)) (by decide +kernel)) (fun _ _ _ _ _ => (pg_name (i := 2) sc_are_numbers.nd rfl (by first | exact Or.inl rfl | exact Or.inr rfl))) (fun _ _ _ _ _ => pts_nil) (fun _ _ _ _ _ => (pe_callH h_is_number hr (pa_cons (pv 2) pa_nil)))) pa_nil))))))), ?_⟩
  have e1 : Eva K (tVar 0) (start ["thing", "many", "part"] [v1, v2]) H (eW b) := eva_var rfl h1
  have ec : Eva K (tLc (iTup K (tVar 0)) (gName 2) tYes (tCall (spR K rIsNum) [] E0 (tCons (tVar 2) tNil)) [2]) (start ["thing", "many", "part"] [v1, v2]) H (.list ((b.map fun _ => true).map PyData.bool)) := by
    refine EvaL.eva (EvaL.is (evl_lc1 (xs := b) (fun _ => .bool true) (evi_tup e1).map (by omega) (fun a σ2 H2 _ hp => ?_) (fun a σ2 H2 ha ex hp => ?_) (fun _ _ => rfl)) (by rw [List.map_map]; rfl))
    · obtain ⟨v, rfl, _⟩ := hp; rfl
    · obtain ⟨v, rfl, hv⟩ := hp
      exact eva_call (evaa_cons (eva_var rfl hv) evaa_nil) ⟨a, rfl, hb a ha, rfl⟩
  refine s_ret (eva_is (eva_and (eva_isi e1 (k := true) kb_tt) fun _ => eva_and (eva_eqI (eva_lenT e1) (eva_var rfl h2)) fun _ => eva_all ec) ?_) q
  rw [all_true]
  simp
theorem sc_mean_of : FnScope ["weights", "numbers", "total", "weight", "number"] ["weights", "numbers"] (defScope (topS 15)) := ⟨rfl, rfl, rfl, by decide +kernel, rfl, by decide +kernel, by decide +kernel⟩
theorem bn_mean_of : Bnd "mean_of" 15 ["weights", "numbers"] := fun _ _ _ _ _ _ us hl => match us, hl with | [_, _], _ => rfl
def rMean (ds : List PyData) (d : PyData) : Prop := ∃ (ws : List Int) (xs : List Q) (bs : List Nat), ds = [.list (ws.map PyData.int), .list (xs.map eQ)] ∧ ws.length = xs.length ∧ bs.length = xs.length ∧ (∀ v ∈ ws, 1 ≤ v ∧ v ≤ 99) ∧ 0 < xs.length ∧ xs.length ≤ 8 ∧ bs.sum ≤ 2500 ∧
  (∀ i (h : i < xs.length) (h' : i < bs.length), VOk bs[i] xs[i]) ∧ d = eQ (meanF ws xs)
theorem one_pos2 {v : Int} : 0 < ((v, 1) : Q).2 := Int.one_pos
theorem sm_int {v : Int} (h : 1 ≤ v ∧ v ≤ 1000) : Sm (v, 1) := by
  have e : (2 : Nat) ^ 10 ≤ 2 ^ 4000 := pow_two_le (by decide)
  refine ⟨one_pos2, Nat.lt_of_lt_of_le (show v.natAbs < 2 ^ 10 by omega) e, Nat.lt_of_lt_of_le (show (1 : Int).natAbs < 2 ^ 10 by decide) e⟩
theorem rat_top {q : Q} {n : Int} (hp : 0 < q.2) (h0 : 0 ≤ toR q) (h : toR q ≤ (n : Rat)) : 0 ≤ q.1 ∧ q.1 ≤ n * q.2 := by
  have a := toR_lt (x := q) (y := (0, 1)) hp (by decide)
  have b := toR_lt (x := (n, 1)) (y := q) one_pos2 hp
  rw [toR_zero] at a
  rw [toR_int] at b
  have a' : ¬ toR q < 0 := by grind
  have b' : ¬ (n : Rat) < toR q := by grind
  rw [a] at a'
  rw [b] at b'
  simp only [Int.zero_mul, Int.mul_one, Int.not_lt] at a' b'
  exact ⟨a', b'⟩
theorem sm_of {q : Q} {n : Int} {b : Nat} (hp : 0 < q.2) (h0 : 0 ≤ toR q) (h : toR q ≤ (n : Rat)) (hn : 0 ≤ n ∧ n ≤ 1024) (hb : q.2 ≤ 2 ^ b) (hb2 : b ≤ 3900) : Sm q := by
  obtain ⟨t0, t1⟩ := rat_top hp h0 h
  have e10 : (2 : Int) ^ 10 = 1024 := by decide
  have n10 : n ≤ 2 ^ 10 := by omega
  have e : q.1 ≤ 2 ^ (10 + b) := Int.le_trans t1 (mul_le_pow hn.1 (by omega) n10 hb)
  have c1 : (2 : Int) ^ (10 + b) = ((2 ^ (10 + b) : Nat) : Int) := by rw [Int.natCast_pow]; rfl
  have c2 : (2 : Int) ^ b = ((2 ^ b : Nat) : Int) := by rw [Int.natCast_pow]; rfl
  have d1 : 2 ^ (10 + b) < 2 ^ 4000 := Nat.pow_lt_pow_right (by decide) (by omega)
  have d2 : 2 ^ b < 2 ^ 4000 := Nat.pow_lt_pow_right (by decide) (by omega)
  rw [c1] at e
  rw [c2] at hb
  refine ⟨hp, Nat.lt_of_le_of_lt ?_ d1, Nat.lt_of_le_of_lt ?_ d2⟩ <;> omega
/-- the start of such a sum, known -/
theorem mt_take {ws : List Int} {xs : List Q} {bs : List Nat} (hl : ws.length = xs.length) (hb : bs.length = xs.length) (hx : ∀ i (h : i < xs.length) (h' : i < bs.length), VOk bs[i] xs[i]) (i : Nat) (hi : i ≤ xs.length) :
    MT ((ws.zip xs).take i) (bs.take i).sum := by
  refine mt_all i _ _ (by simp; omega) (by simp; omega) fun j h h' => ?_
  simp only [List.length_take, List.length_zip] at h h'
  have := hx j (by omega) (by omega)
  simp only [List.getElem_take, List.getElem_zip]
  exact ⟨this.num.pos, this.bot⟩
theorem sum_take_le (l : List Nat) (i : Nat) : (l.take i).sum ≤ l.sum := by
  have := congrArg List.sum (List.take_append_drop i l)
  rw [List.sum_append] at this
  omega
theorem mt_sm {ws : List Int} {xs : List Q} {bs : List Nat} (hl : ws.length = xs.length) (hb : bs.length = xs.length) (hw : ∀ v ∈ ws, 1 ≤ v ∧ v ≤ 99) (h8 : xs.length ≤ 8) (hs : bs.sum ≤ 2500) (hx : ∀ i (h : i < xs.length) (h' : i < bs.length), VOk bs[i] xs[i]) (i : Nat) (hi : i ≤ xs.length) :
    Sm (meanT ((ws.zip xs).take i)) := by
  have m := mt_take hl hb hx i hi
  have hz : (ws.zip xs).take i = (ws.take i).zip (xs.take i) := by unfold List.zip; rw [List.take_zipWith]
  have hw' : ∀ v ∈ ws.take i, 1 ≤ v ∧ v ≤ 99 := fun v hv => hw v (List.mem_of_mem_take hv)
  have v := m.val
  rw [hz] at v
  have up := zip_sum_le (ws := ws.take i) (xs := xs.take i) (ys := List.replicate i (1, 1)) (by simp; omega) (by simp; omega) hw' (fun j a b => by
    rw [List.getElem_replicate, toR_one, List.getElem_take]
    have hj : j < xs.length := by simp at a; omega
    exact (hx j hj (by omega)).num.r1)
  have lo := zip_sum_le (ws := ws.take i) (xs := List.replicate i (0, 1)) (ys := xs.take i) (by simp; omega) (by simp; omega) hw' (fun j a b => by
    rw [List.getElem_replicate, toR_zero, List.getElem_take]
    have hj : j < xs.length := by simp at b; omega
    exact (hx j hj (by omega)).num.r0)
  rw [zip_const (xs := List.replicate i (1, 1)) (by simp; omega) 1 (fun x hx => by rw [List.eq_of_mem_replicate hx, toR_one])] at up
  rw [zip_const (xs := List.replicate i (0, 1)) (by simp; omega) 0 (fun x hx => by rw [List.eq_of_mem_replicate hx, toR_zero])] at lo
  rw [← v, ← hz] at up lo
  have s1 := sum_le99 hw'
  have s0 : 0 ≤ (ws.take i).sum := by
    cases i with
    | zero => simp
    | succ i =>
      by_cases c : (ws.take (i + 1)).length = 0
      · rw [List.eq_nil_of_length_eq_zero c]; simp
      · have := sum_pos hw' (by omega); omega
  have l1 : ((ws.take i).length : Int) ≤ 8 := by simp; omega
  refine sm_of (n := (ws.take i).sum) (b := (bs.take i).sum) m.frc.pos (by grind) (by grind) ⟨s0, by omega⟩ m.bot (by have := sum_take_le bs i; omega)
theorem has_mean_of {k : Nat} (T : Tb K mg) (h_plus : Has P w K mg base "plus" k ["one", "other"] (spR K rPlus)) (h_times : Has P w K mg base "times" k ["one", "other"] (spR K rTimes)) (h_made : Has P w K mg base "made" k ["top", "bottom"] (spR K rMade)) :
    Has P w K mg base "mean_of" (k + 1) ["weights", "numbers"] (spR K rMean) := by
  refine has_R T.f_mean_of sc_mean_of bn_mean_of (fun ds d h => by obtain ⟨_, _, _, rfl, _⟩ := h; rfl) fun f cdv A outer s H vs Q E hr ds d hds h q => ?_
  obtain ⟨ws, xs, bs, rfl, hl, hb, hw, h0, h8, hs, hx, rfl⟩ := h
  obtain ⟨v1, v2, rfl, h1, h2⟩ := dpa2 hds
  refine ⟨_, (pss_cons (ps_set (i := 2) sc_mean_of.nd rfl (by first | exact Or.inl rfl | exact Or.inr rfl) (pe_gRef T.ZERO))
      (pss_cons (ps_for PassesOwn.never rfl (pi_zip (by rfl) T.zip (pa_cons (pv 0) (pa_cons (pv 1) pa_nil))) (pg_tup rfl (pgs_cons (pg_name (i := 3) sc_mean_of.nd rfl (by first | exact Or.inl rfl | exact Or.inr rfl)) (pgs_cons (pg_name (i := 4) sc_mean_of.nd rfl (by first | exact Or.inl rfl | exact Or.inr rfl)) pgs_nil))) (pss_one (ps_set (i := 2) sc_mean_of.nd rfl (by first | exact Or.inl rfl | exact Or.inr rfl) (pe_callH h_plus hr (pa_cons (pv 2) (pa_cons (pe_callH h_times hr (pa_cons (pe_tup (pa_cons (pv 3) (pa_cons pe_int pa_nil))) (pa_cons (pv 4) pa_nil))) pa_nil))))))
      (pss_one (ps_ret (pe_callH h_times hr (pa_cons (pv 2) (pa_cons (pe_callH h_made hr (pa_cons pe_int (pa_cons (pe_callB (cr_sumK K) (by rfl) T.sum (by decide +kernel) (pa_cons (pv 0) pa_nil)) pa_nil))) pa_nil))))))), ?_⟩
  refine q_asg (eva_c (K := K) (dp_zero T _)) fun v H2 e dv => ?_
  have h1' := dp_ex e h1
  have h2' := dp_ex e h2
  have src : EvI (iZip K (tCons (tVar 0) (tCons (tVar 1) tNil))) (g2 K 3 4) ((start ["weights", "numbers", "total", "weight", "number"] [v1, v2]).set 2 (some v)) H2 (ws.zip xs) (fun p => P2 K 3 4 (.int p.1, eQ p.2)) := by
    have z := evi_zip (K := K) (j := 3) (k := 4) (σ := (start ["weights", "numbers", "total", "weight", "number"] [v1, v2]).set 2 (some v)) (evaa_cons (eva_var (i := 0) rfl h1') (evaa_cons (eva_var (i := 1) rfl h2') evaa_nil))
    rw [List.zip_map] at z
    exact z.map
  have hz : (ws.zip xs).length = xs.length := by simp; omega
  refine q_forI src (fun H3 i σ' H' => Ex H3 H' ∧ ∃ t y z, σ' = [some v1, some v2, some t, y, z] ∧ Dp K H' t (eQ (meanT ((ws.zip xs).take i)))) (fun _ _ _ _ h => h.1) (fun H3 e3 => ⟨Ex.refl _, v, none, none, rfl, dp_ex e3 dv⟩) ?_ ?_
  · intro H3 e3 i hi σ' H' σ2 H4 hP e4 hp
    obtain ⟨eb, t, y, z, rfl, ht⟩ := hP
    obtain ⟨a, c, rfl, ha, hc⟩ := hp
    have hi' : i < xs.length := by omega
    have iw : i < ws.length := by omega
    have eg : (ws.zip xs)[i] = (ws[i], xs[i]) := by rw [List.getElem_zip]
    rw [eg] at ha hc
    have w1 := hw _ (List.getElem_mem iw)
    have xok := hx i hi' (by omega)
    have bi : bs[i] ≤ 2500 := Nat.le_trans (le_sum (List.getElem_mem _)) hs
    have fx := (xok.fq (by omega)).sm
    have sT := mt_sm hl hb hw h8 hs hx i (by omega)
    have pw : 0 < (Prod.mk ws[i] (1 : Int)).2 := one_pos2
    have sP : Sm (qmul (ws[i], 1) xs[i]) := by
      have tv := qmul_toR pw xok.num.pos
      rw [toR_int] at tv
      have r0 := xok.num.r0
      have r1 := xok.num.r1
      have wi : (1 : Rat) ≤ (ws[i] : Rat) := by exact_mod_cast w1.1
      refine sm_of (n := ws[i]) (b := bs[i]) (qmul_frc pw xok.num.pos).pos ?_ ?_ ⟨by omega, by omega⟩ ?_ (by omega)
      · rw [tv]; exact Rat.mul_nonneg (by grind) r0
      · rw [tv]
        have := Rat.mul_le_mul_of_nonneg_left r1 (show (0 : Rat) ≤ (ws[i] : Rat) by grind)
        grind
      · have := lowest_le (t := ws[i] * xs[i].1) (b := 1 * xs[i].2) (by have := xok.num.pos; omega)
        have e1 : (qmul (ws[i], 1) xs[i]).2 = (lowest (ws[i] * xs[i].1) (1 * xs[i].2)).2 := rfl
        rw [e1]
        have := xok.bot
        omega
    refine s_asg (eva_call (evaa_cons (eva_var rfl (dp_ex e4 ht)) (evaa_cons (eva_call (evaa_cons (eva_tup (ds := [.int ws[i], .int 1]) (evaa_cons (eva_var rfl ha) (evaa_cons eva_int evaa_nil))) (evaa_cons (eva_var rfl hc) evaa_nil)) ⟨(ws[i], 1), xs[i], rfl, sm_int (by omega), fx, rfl⟩) evaa_nil)) ⟨_, _, rfl, sT, sP, rfl⟩) fun v5 H5 e5 dv5 => ?_
    refine ⟨(eb.trans e4).trans e5, v5, _, _, rfl, ?_⟩
    rw [take_snoc hi, eg, meanT_snoc]
    exact dv5
  · intro H3 e3 σ' H' hP
    obtain ⟨eb, t, y, z, rfl, ht⟩ := hP
    rw [List.take_length] at ht
    have sT := mt_sm hl hb hw h8 hs hx xs.length (Nat.le_refl _)
    rw [List.take_of_length_le (by omega)] at sT
    have sp := sum_pos hw (by omega)
    have sl := sum_le99 hw
    have lw : (ws.length : Int) ≤ 8 := by omega
    have sS : Sm (1, ws.sum) := by
      have e10 : (2 : Nat) ^ 10 ≤ 2 ^ 4000 := pow_two_le (by decide)
      exact ⟨sp, Nat.lt_of_lt_of_le (show (1 : Int).natAbs < 2 ^ 10 by decide) e10, Nat.lt_of_lt_of_le (show ws.sum.natAbs < 2 ^ 10 by omega) e10⟩
    have em : Dp K H' v1 (.list (ws.map PyData.int)) := dp_ex (e3.trans eb) h1'
    refine s_ret (eva_call (evaa_cons (eva_var rfl ht) (evaa_cons (eva_call (evaa_cons eva_int (evaa_cons (eva_sum (eva_var rfl em)) evaa_nil)) ⟨1, ws.sum, rfl, sp, Nat.lt_of_lt_of_le (show ws.sum.natAbs < 2 ^ 10 by omega) (pow_two_le (by decide)), rfl⟩) evaa_nil)) ?_) fun v5 H5 e5 dv5 => q v5 H5 ((e.trans e3).trans (eb.trans e5)) dv5
    rw [lowest_one]
    exact ⟨_, _, rfl, sT, sS, rfl⟩
end
end Cb
set_option Elab.async false
set_option linter.all false
set_option maxRecDepth 100000
set_option maxHeartbeats 8000000
/-! Cb, defs 5: the values of terms. -/
namespace Cb
open PySem PySem.Spec PyProof.Rows L2 Evl
/-! ### terms as data -/
mutual
def eT : Tm → PyData
  | .bid k => .tuple [.str "bid", .int (k : Int)]
  | .fixed q => .tuple [.str "fixed", eQ q]
  | .nd (.mean ws) ts => .tuple [.str "mean", .tuple ((ws.zip (eTs ts)).map fun p => .tuple [.int p.1, p.2])]
  | .nd .least ts => .tuple [.str "least", .tuple (eTs ts)]
  | .nd .greatest ts => .tuple [.str "greatest", .tuple (eTs ts)]
  | .nd (.ranked k) ts => .tuple [.str "ranked", .int (k : Int), .tuple (eTs ts)]
  | .nd (.between lo hi) ts => .tuple (.str "between" :: eQ lo :: eQ hi :: eTs ts)
def eTs : List Tm → List PyData
  | [] => []
  | t :: ts => eT t :: eTs ts
end
theorem eTs_map : ∀ ts : List Tm, eTs ts = ts.map eT
  | [] => by simp [eTs]
  | t :: ts => by simp [eTs, eTs_map ts]
theorem imAll_zip {ws : List Int} {ds : List PyData} (h : imAll ds = true) : imAll ((ws.zip ds).map fun p => PyData.tuple [.int p.1, p.2]) = true := by
  induction ds generalizing ws with
  | nil => simp [imAll]
  | cons d ds ih =>
    cases ws with
    | nil => simp [imAll]
    | cons w ws =>
      simp only [imAll, Bool.and_eq_true] at h
      simp only [List.zip_cons_cons, List.map_cons, imAll, im, Bool.and_eq_true, h.1, ih h.2, and_self, Bool.and_true]
mutual
theorem im_eT : ∀ t : Tm, im (eT t) = true
  | .bid k => by simp [eT, im, imAll]
  | .fixed q => by simp [eT, im, imAll]
  | .nd (.mean ws) ts => by
    have := imAll_zip (ws := ws) (im_eTs ts)
    simp only [eT, im, imAll, this, Bool.and_true]
  | .nd .least ts => by simp [eT, im, imAll, im_eTs ts]
  | .nd .greatest ts => by simp [eT, im, imAll, im_eTs ts]
  | .nd (.ranked k) ts => by simp [eT, im, imAll, im_eTs ts]
  | .nd (.between lo hi) ts => by simp [eT, im, imAll, im_eTs ts]
theorem im_eTs : ∀ ts : List Tm, imAll (eTs ts) = true
  | [] => by simp [eTs, imAll]
  | t :: ts => by simp [eTs, imAll, im_eT t, im_eTs ts]
end
theorem atI_neg1 {l : List PyData} {d : PyData} : atI (l ++ [d]) (-1) = some d := atI_last l d
section
variable {P : Program} {w : World} {K : PySem.W.Frag} {mg : Str → Option Value} {base : Heap}
theorem sc_ranked_of : FnScope ["k", "numbers"] ["k", "numbers"] (defScope (topS 16)) := ⟨rfl, rfl, rfl, by decide +kernel, rfl, by decide +kernel, by decide +kernel⟩
theorem bn_ranked_of : Bnd "ranked_of" 16 ["k", "numbers"] := fun _ _ _ _ _ _ us hl => match us, hl with | [_, _], _ => rfl
def rRanked (ds : List PyData) (d : PyData) : Prop := ∃ (k : Nat) (xs : List Q), ds = [.int (k : Int), .list (xs.map eQ)] ∧ 1 ≤ k ∧ k ≤ xs.length ∧ xs.length ≤ 1000 ∧ (∀ x ∈ xs, Fq x) ∧ d = eQ (nth xs (xs.length - k))
theorem has_ranked_of {k : Nat} (T : Tb K mg) (h_ascending : Has P w K mg base "ascending" k ["fractions"] (spL K rAsc)) : Has P w K mg base "ranked_of" (k + 1) ["k", "numbers"] (spR K rRanked) := by
  refine has_R T.f_ranked_of sc_ranked_of bn_ranked_of (fun ds d h => by obtain ⟨_, _, rfl, _⟩ := h; rfl) fun f cdv A outer s H vs Q E hr ds d hds h q => ?_
  obtain ⟨j, xs, rfl, h1, h2, hl, hf, rfl⟩ := h
  obtain ⟨v1, v2, rfl, d1, d2⟩ := dpa2 hds
  refine ⟨_, (pss_one (ps_ret (pe_ix (ix_seqK K) (pe_callH h_ascending hr (pa_cons (pv 1) pa_nil)) (pe_op op_sub (pe_callB (call_lenK K) (by rfl) T.len (by decide +kernel) (pa_cons (pv 1) pa_nil)) (pv 0)) (fun _ _ => rfl)))), ?_⟩
  have hs : xs.length - j < (srt xs).length := by rw [srt_len]; omega
  refine s_ret (eva_ixL (evl_call (es := (srt xs).map eQ) (evaa_cons (eva_var rfl d2) evaa_nil) ⟨xs, rfl, hl, hf, rfl⟩).eva (eva_I0 (eva_lenL (eva_var rfl d2)) (eva_var rfl d1)) ?_) q
  rw [nth_get hs, List.length_map, show (xs.length : Int) - (j : Int) = ((xs.length - j : Nat) : Int) by omega]
  exact atN (map_get hs)
theorem sc_value_of : FnScope ["term", "bids", "word", "weight", "part", "numbers"] ["term", "bids"] (defScope (topS 17)) := ⟨rfl, rfl, rfl, by decide +kernel, rfl, by decide +kernel, by decide +kernel⟩
theorem bn_value_of : Bnd "value_of" 17 ["term", "bids"] := fun _ _ _ _ _ _ us hl => match us, hl with | [_, _], _ => rfl
/-- terms at most m deep, for n people -/
def rVal (n m : Nat) (ds : List PyData) (d : PyData) : Prop := ∃ (b : List Q) (t : Tm), ds = [eT t, eW b] ∧ BOk n b ∧ WT n t ∧ cnt t ≤ 60 ∧ dpt t ≤ m ∧ d = eQ (val b t)
theorem bts_le {ts : List Tm} {op : Op} (h : cnt (.nd op ts) ≤ 60) : bts ts ≤ 1200 := by
  have := bts_cnts ts
  simp only [cnt] at h
  omega
theorem cnt_mem {ts : List Tm} {t : Tm} (h : t ∈ ts) : cnt t ≤ cnts ts := by
  rw [cnts_sum]
  exact le_sum (List.mem_map.mpr ⟨t, h, rfl⟩)
theorem num2_fq {q : Q} (h : Num q) (hb : q.2 ≤ 2 ^ 20) : Fq q := (VOk.mk h hb).fq (by decide)
theorem has_value_of {k n : Nat} (T : Tb K mg) (h_mean : Has P w K mg base "mean_of" k ["weights", "numbers"] (spR K rMean)) (h_mid : Has P w K mg base "middle" k ["one", "two", "three"] (spR K rMiddle))
    (h_rank : Has P w K mg base "ranked_of" k ["k", "numbers"] (spR K rRanked)) (h_lea : Has P w K mg base "least_of" k ["fractions"] (spR K rLeast)) (h_gre : Has P w K mg base "greatest_of" k ["fractions"] (spR K rGreatest)) :
    ∀ m, Has P w K mg base "value_of" (k + m + 1) ["term", "bids"] (spR K (rVal n m))
  | 0 => by
    refine has_R T.f_value_of sc_value_of bn_value_of (fun ds d h => by obtain ⟨_, _, rfl, _⟩ := h; rfl) fun f cdv A outer s H vs Q E hr ds d hds h q => ?_
    obtain ⟨b, t, _, _, _, _, hm, _⟩ := h
    cases t <;> simp [dpt] at hm
  | m + 1 => by
    have h_value_of := has_value_of (n := n) T h_mean h_mid h_rank h_lea h_gre m
    have h_mean_of := h_mean.mono (show k ≤ k + m + 1 by omega)
    have h_middle := h_mid.mono (show k ≤ k + m + 1 by omega)
    have h_ranked_of := h_rank.mono (show k ≤ k + m + 1 by omega)
    have h_least_of := h_lea.mono (show k ≤ k + m + 1 by omega)
    have h_greatest_of := h_gre.mono (show k ≤ k + m + 1 by omega)
    refine has_R T.f_value_of sc_value_of bn_value_of (fun ds d h => by obtain ⟨_, _, rfl, _⟩ := h; rfl) fun f cdv A outer s H vs Q E hr ds d hds h q => ?_
    obtain ⟨b, t, rfl, hb, hw, hc, hm, rfl⟩ := h
    obtain ⟨v1, v2, rfl, d1, d2⟩ := dpa2 hds
    refine ⟨_, (pss_cons (ps_set (i := 2) sc_value_of.nd rfl (by first | exact Or.inl rfl | exact Or.inr rfl) (pe_ix (ix_seqK K) (pv 0) pe_int (fun _ _ => rfl)))
      (pss_cons (ps_if (pt_cmpR op_eq (pv 2) pe_str (nomark _)) (pss_one (ps_ret (pe_ix (ix_seqK K) (pv 1) (pe_ix (ix_seqK K) (pv 0) pe_int (fun _ _ => rfl)) (fun _ _ => rfl)))) pss_nil)
      (pss_cons (ps_if (pt_cmpR op_eq (pv 2) pe_str (nomark _)) (pss_one (ps_ret (pe_ix (ix_seqK K) (pv 0) pe_int (fun _ _ => rfl)))) pss_nil)
      (pss_cons (ps_if (pt_cmpR op_eq (pv 2) pe_str (nomark _)) (pss_one (ps_ret (pe_callH h_mean_of hr (pa_cons (pe_lc (own := [("weight", 3), ("part", 4)]) (g := (g2 K 3 4)) (tt := tYes) rfl sc_value_of.nd (pi_tupK K (pe_ix (ix_seqK K) (pv 0) pe_int (fun _ _ => rfl))) (blkOk_by (N := ["term", "bids", "word", "weight", "part", "numbers"]) (sc := defScope (topS 17)) (by decide +kernel)) (fun _ _ _ _ _ => (pg_tup rfl (pgs_cons (pg_name (i := 3) sc_value_of.nd rfl (by first | exact Or.inl rfl | exact Or.inr rfl)) (pgs_cons (pg_name (i := 4) sc_value_of.nd rfl (by first | exact Or.inl rfl | exact Or.inr rfl)) pgs_nil)))) (fun _ _ _ _ _ => pts_nil) (fun _ _ _ _ _ => (pv 3))) (pa_cons (pe_lc (own := [("weight", 3), ("part", 4)]) (g := (g2 K 3 4)) (tt := tYes) rfl sc_value_of.nd (pi_tupK K (pe_ix (ix_seqK K) (pv 0) pe_int (fun _ _ => rfl))) (blkOk_by (N := ["term", "bids", "word", "weight", "part", "numbers"]) (sc := defScope (topS 17)) (by decide +kernel)) (fun _ _ _ _ _ => (pg_tup rfl (pgs_cons (pg_name (i := 3) sc_value_of.nd rfl (by first | exact Or.inl rfl | exact Or.inr rfl)) (pgs_cons (pg_name (i := 4) sc_value_of.nd rfl (by first | exact Or.inl rfl | exact Or.inr rfl)) pgs_nil)))) (fun _ _ _ _ _ => pts_nil) (fun _ _ _ _ _ => (pe_callH h_value_of hr (pa_cons (pv 4) (pa_cons (pv 1) pa_nil))))) pa_nil))))) pss_nil)
      (pss_cons (ps_if (pt_cmpR op_eq (pv 2) pe_str (nomark _)) (pss_one (ps_ret (pe_callH h_middle hr (pa_cons (pe_ix (ix_seqK K) (pv 0) pe_int (fun _ _ => rfl)) (pa_cons (pe_ix (ix_seqK K) (pv 0) pe_int (fun _ _ => rfl)) (pa_cons (pe_callH h_value_of hr (pa_cons (pe_ix (ix_seqK K) (pv 0) pe_int (fun _ _ => rfl)) (pa_cons (pv 1) pa_nil))) pa_nil)))))) pss_nil)
      (pss_cons (ps_setLc (i := 5) (own := [("part", 4)]) (g := (gName 4)) (tt := tYes) rfl sc_value_of.nd rfl rfl (sw_true rfl rfl rfl (by decide +kernel)) (pi_tupK K (pe_ix (ix_seqK K) (pv 0) (pe_un un_neg pe_int) (fun _ _ => rfl))) (blkOk_by (N := ["term", "bids", "word", "weight", "part", "numbers"]) (sc := defScope (topS 17)) (by decide +kernel)) (fun _ _ _ _ _ => (pg_name (i := 4) sc_value_of.nd rfl (by first | exact Or.inl rfl | exact Or.inr rfl))) (fun _ _ _ _ _ => pts_nil) (fun _ _ _ _ _ => (pe_callH h_value_of hr (pa_cons (pv 4) (pa_cons (pv 1) pa_nil)))))
      (pss_cons (ps_if (pt_cmpR op_eq (pv 2) pe_str (nomark _)) (pss_one (ps_ret (pe_callH h_ranked_of hr (pa_cons (pe_ix (ix_seqK K) (pv 0) pe_int (fun _ _ => rfl)) (pa_cons (pv 5) pa_nil))))) pss_nil)
      (pss_one (ps_ret (pe_ifExp (pt_cmpR op_eq (pv 2) pe_str (nomark _)) (pe_callH h_least_of hr (pa_cons (pv 5) pa_nil)) (pe_callH h_greatest_of hr (pa_cons (pv 5) pa_nil)))))))))))), ?_⟩
    have nb : ∀ {x y : Str} {D : Ends} {σ : L2.St} {H1 : Hp} {u z : TS}, decide (x = y) = false → σ[2]? = some (some (.str x)) → (∀ H2, Ex H1 H2 → z D σ H2) → tSeq (tIfS (tTest (tOp rEq (tVar 2) (tC (.str y)))) u tNext) z D σ H1 := fun {x y D σ H1 u z} hne hv hz =>
      Evl.q_when (evt_T (K := K) (eva_eqS (eva_var hv (.str x)) eva_str)) (fun e => by rw [hne] at e; cases e) fun _ H2 e2 => hz H2 e2
    have yes : ∀ {x : Str} {D : Ends} {σ : L2.St} {H1 : Hp} {u z : TS}, σ[2]? = some (some (.str x)) → (∀ H2, Ex H1 H2 → u { D with nx := z D } σ H2) → tSeq (tIfS (tTest (tOp rEq (tVar 2) (tC (.str x)))) u tNext) z D σ H1 := fun {x D σ H1 u z} hv hu =>
      Evl.q_when (evt_T (K := K) (eva_eqS (eva_var hv (.str x)) eva_str)) (fun _ H2 e2 => hu H2 e2) (fun e => by rw [decide_eq_true rfl] at e; cases e)
    have hdec : ∀ {x y : Str}, x ≠ y → decide (x = y) = false := fun h => decide_eq_false h
    cases t with
    | bid j =>
      simp only [eT] at d1
      simp only [WT] at hw
      refine q_asg (eva_ixT (eva_var rfl d1) eva_int atI0) fun v H2 e dv => ?_
      cases dv
      refine yes rfl fun H3 e3 => ?_
      have hj : j < b.length := by rw [hb.1]; exact hw
      refine s_ret (eva_ixT (eva_var rfl (dp_ex (e.trans e3) d2)) (eva_ixT (eva_var rfl (dp_ex (e.trans e3) d1)) eva_int atI1) (atN (map_get hj))) fun v H4 e4 dv => q v H4 ((e.trans e3).trans e4) ?_
      simp only [val]
      rw [List.getD_eq_getElem?_getD, List.getElem?_eq_getElem hj]
      exact dv
    | fixed x =>
      simp only [eT] at d1
      refine q_asg (eva_ixT (eva_var rfl d1) eva_int atI0) fun v H2 e dv => ?_
      cases dv
      refine nb (hdec (by decide +kernel)) rfl fun H3 e3 => ?_
      refine yes rfl fun H4 e4 => ?_
      refine s_ret (eva_ixT (eva_var rfl (dp_ex (e.trans (e3.trans e4)) d1)) eva_int atI1) fun v H5 e5 dv => q v H5 ((e.trans (e3.trans e4)).trans e5) ?_
      simp only [val]
      exact dv
    | nd op ts =>
      have hbt := bts_le hc
      simp only [WT] at hw
      obtain ⟨ho, h0, h8, hs⟩ := hw
      simp only [dpt] at hm
      have hcs : cnts ts ≤ 60 := by simp only [cnt] at hc; omega
      have rcl : ∀ t ∈ ts, rVal n m [eT t, eW b] (eQ (val b t)) := fun t ht => ⟨b, t, rfl, hb, wts_mem hs ht, Nat.le_trans (cnt_mem ht) hcs, dpts_le.mp (show dpts ts ≤ m by omega) t ht, rfl⟩
      have hv : ∀ t ∈ ts, VOk (bt t) (val b t) := fun t ht => val_ok hb t (wts_mem hs ht)
      have hfq : ∀ x ∈ ts.map (val b), Fq x := fun x hx => by
        obtain ⟨t, ht, rfl⟩ := List.mem_map.mp hx
        have : bt t ≤ bts ts := by rw [bts_sum]; exact le_sum (List.mem_map.mpr ⟨t, ht, rfl⟩)
        exact (hv t ht).fq (by omega)
      rw [val_nd] at q
      -- the values of the parts, by the comprehension over term[-1]
      have nums : ∀ {hd : List PyData} {H2 : Hp} {w0 : V}, Dp K H2 v1 (.tuple (hd ++ [.tuple (ts.map eT)])) → Dp K H2 v2 (eW b) →
          EvaL K (tLc (iTup K (tOp (rIx K) (tVar 0) (tUn (rU fun i => .int (-i)) (tC (.int 1))))) (gName 3) tYes (tCall (spR K (rVal n m)) [] E0 (tCons (tVar 3) (tCons (tVar 1) tNil))) [3]) [some v1, some v2, some w0, none, none, none] H2 ((ts.map (val b)).map eQ) := fun {hd H2 w0} e1 e2 => by
        refine (evl_lc1 (xs := ts) (fun t => eQ (val b t)) (evi_tup (ds := ts.map eT) (eva_ixT (eva_var rfl e1) (eva_neg eva_int) atI_neg1)).map (by omega) (fun a σ2 H2 _ hp => ?_) (fun a σ2 H3 ha ex hp => ?_) (fun _ _ => rfl)).is (by rw [List.map_map]; rfl)
        · obtain ⟨v, rfl, _⟩ := hp; rfl
        · obtain ⟨v, rfl, hv⟩ := hp
          exact eva_call (evaa_cons (eva_var rfl hv) (evaa_cons (eva_var rfl (dp_ex ex e2)) evaa_nil)) (rcl a ha)
      cases op with
      | mean ws =>
        simp only [eT, eTs_map] at d1
        have zm : ((ws.zip (ts.map eT)).map fun p => PyData.tuple [.int p.1, p.2]) = ((ws.zip ts).map fun p => ((PyData.int p.1, eT p.2) : PyData × PyData)).map dpair := by
          rw [List.zip_map_right, List.map_map, List.map_map]
          rfl
        rw [zm] at d1
        refine q_asg (eva_ixT (eva_var rfl d1) eva_int atI0) fun v H2 e dv => ?_
        cases dv
        refine nb (hdec (by decide +kernel)) rfl fun H3 e3 => nb (hdec (by decide +kernel)) rfl fun H4 e4 => yes rfl fun H5 e5 => ?_
        have ee := e.trans (e3.trans (e4.trans e5))
        have d1' := dp_ex ee d1
        have d2' := dp_ex ee d2
        have hl : ws.length = ts.length := ho.1
        have src : EvI (iTup K (tOp (rIx K) (tVar 0) (tC (.int 1)))) (g2 K 3 4) [some v1, some v2, some (.str "mean"), none, none, none] H5 (ws.zip ts) (fun p => P2 K 3 4 (.int p.1, eT p.2)) := (evi_tup2 (eva_ixT (eva_var rfl d1') eva_int atI1)).map
        have lz : (ws.zip ts).length < 100000 := by rw [List.length_zip]; omega
        have c1 : EvaL K (tLc (iTup K (tOp (rIx K) (tVar 0) (tC (.int 1)))) (g2 K 3 4) tYes (tVar 3) [3, 4]) [some v1, some v2, some (.str "mean"), none, none, none] H5 (ws.map PyData.int) := by
          refine (evl_lc1 (fun p => .int p.1) src lz (fun a σ2 H2 _ hp => ?_) (fun a σ2 H3 ha ex hp => ?_) (fun _ _ => rfl)).is ?_
          · obtain ⟨v, w, rfl, _⟩ := hp; rfl
          · obtain ⟨v, w, rfl, hv, _⟩ := hp
            exact eva_var rfl hv
          · have z : (ws.zip ts).map Prod.fst = ws := List.map_fst_zip (by omega)
            conv => rhs; rw [← z]
            rw [List.map_map]
            rfl
        have c2 : EvaL K (tLc (iTup K (tOp (rIx K) (tVar 0) (tC (.int 1)))) (g2 K 3 4) tYes (tCall (spR K (rVal n m)) [] E0 (tCons (tVar 4) (tCons (tVar 1) tNil))) [3, 4]) [some v1, some v2, some (.str "mean"), none, none, none] H5 ((ts.map (val b)).map eQ) := by
          refine (evl_lc1 (fun p => eQ (val b p.2)) src lz (fun a σ2 H2 _ hp => ?_) (fun a σ2 H3 ha ex hp => ?_) (fun _ _ => rfl)).is ?_
          · obtain ⟨v, w, rfl, _⟩ := hp; rfl
          · obtain ⟨v, w, rfl, hv, hw⟩ := hp
            exact eva_call (evaa_cons (eva_var rfl hw) (evaa_cons (eva_var rfl (dp_ex ex d2')) evaa_nil)) (rcl a.2 (List.of_mem_zip ha).2)
          · have z : (ws.zip ts).map Prod.snd = ts := List.map_snd_zip (by omega)
            conv => rhs; rw [← z]
            rw [List.map_map, List.map_map]
            rfl
        refine s_ret (eva_call (evaa_cons c1.eva (evaa_cons c2.eva evaa_nil)) ⟨ws, ts.map (val b), ts.map bt, rfl, by simp [hl], by simp, ho.2, by simpa using h0, by simpa using h8, by rw [← bts_sum]; omega, fun i a c => ?_, rfl⟩) fun v H6 e6 dv => q v H6 (ee.trans e6) dv
        simp only [List.getElem_map]
        exact hv _ (List.getElem_mem _)
      | between lo hi =>
        obtain ⟨h1, hlo, hhi, bl, bh, _⟩ := ho
        obtain ⟨t, rfl⟩ := List.length_eq_one_iff.mp h1
        simp only [eT, eTs] at d1
        refine q_asg (eva_ixT (eva_var rfl d1) eva_int atI0) fun v H2 e dv => ?_
        cases dv
        refine nb (hdec (by decide +kernel)) rfl fun H3 e3 => nb (hdec (by decide +kernel)) rfl fun H4 e4 => nb (hdec (by decide +kernel)) rfl fun H5 e5 => yes rfl fun H6 e6 => ?_
        have ee := e.trans ((e3.trans (e4.trans e5)).trans e6)
        have d1' := dp_ex ee d1
        have d2' := dp_ex ee d2
        have fx : Fq (val b t) := hfq _ (by simp)
        refine s_ret (eva_call (evaa_cons (eva_ixT (eva_var rfl d1') eva_int atI1) (evaa_cons (eva_ixT (eva_var rfl d1') eva_int atI2) (evaa_cons (eva_call (evaa_cons (eva_ixT (eva_var rfl d1') eva_int atI3) (evaa_cons (eva_var rfl d2') evaa_nil)) (rcl t (by simp))) evaa_nil))) ⟨lo, hi, val b t, rfl, num2_fq hlo bl, num2_fq hhi bh, fx, rfl⟩) fun v H7 e7 dv => q v H7 (ee.trans e7) dv
      | least =>
        simp only [eT, eTs_map] at d1
        refine q_asg (eva_ixT (eva_var rfl d1) eva_int atI0) fun v H2 e dv => ?_
        cases dv
        refine nb (hdec (by decide +kernel)) rfl fun H3 e3 => nb (hdec (by decide +kernel)) rfl fun H4 e4 => nb (hdec (by decide +kernel)) rfl fun H5 e5 => nb (hdec (by decide +kernel)) rfl fun H6 e6 => ?_
        have ee := e.trans ((e3.trans (e4.trans e5)).trans e6)
        refine q_asg (nums (hd := [.str "least"]) (dp_ex ee d1) (dp_ex ee d2)).eva fun v H7 e7 dv => ?_
        refine nb (hdec (by decide +kernel)) rfl fun H8 e8 => ?_
        refine s_ret (eva_if (j := true) (evt_is (evt_T (K := K) (eva_eqS (eva_var rfl (.str _)) eva_str)) (decide_eq_true rfl)) (fun _ => eva_call (evaa_cons (eva_var rfl (dp_ex e8 dv)) evaa_nil) ⟨ts.map (val b), rfl, by simpa using h0, hfq, rfl⟩) (fun h => by cases h)) fun v H9 e9 dv => q v H9 (ee.trans ((e7.trans e8).trans e9)) dv
      | greatest =>
        simp only [eT, eTs_map] at d1
        refine q_asg (eva_ixT (eva_var rfl d1) eva_int atI0) fun v H2 e dv => ?_
        cases dv
        refine nb (hdec (by decide +kernel)) rfl fun H3 e3 => nb (hdec (by decide +kernel)) rfl fun H4 e4 => nb (hdec (by decide +kernel)) rfl fun H5 e5 => nb (hdec (by decide +kernel)) rfl fun H6 e6 => ?_
        have ee := e.trans ((e3.trans (e4.trans e5)).trans e6)
        refine q_asg (nums (hd := [.str "greatest"]) (dp_ex ee d1) (dp_ex ee d2)).eva fun v H7 e7 dv => ?_
        refine nb (hdec (by decide +kernel)) rfl fun H8 e8 => ?_
        refine s_ret (eva_if (j := false) (evt_is (evt_T (K := K) (eva_eqS (eva_var rfl (.str _)) eva_str)) (hdec (by decide +kernel))) (fun h => by cases h) (fun _ => eva_call (evaa_cons (eva_var rfl (dp_ex e8 dv)) evaa_nil) ⟨ts.map (val b), rfl, by simpa using h0, hfq, rfl⟩)) fun v H9 e9 dv => q v H9 (ee.trans ((e7.trans e8).trans e9)) dv
      | ranked j =>
        simp only [eT, eTs_map] at d1
        refine q_asg (eva_ixT (eva_var rfl d1) eva_int atI0) fun v H2 e dv => ?_
        cases dv
        refine nb (hdec (by decide +kernel)) rfl fun H3 e3 => nb (hdec (by decide +kernel)) rfl fun H4 e4 => nb (hdec (by decide +kernel)) rfl fun H5 e5 => nb (hdec (by decide +kernel)) rfl fun H6 e6 => ?_
        have ee := e.trans ((e3.trans (e4.trans e5)).trans e6)
        refine q_asg (nums (hd := [.str "ranked", .int (j : Int)]) (dp_ex ee d1) (dp_ex ee d2)).eva fun v H7 e7 dv => ?_
        refine yes rfl fun H8 e8 => ?_
        refine s_ret (eva_call (evaa_cons (eva_ixT (eva_var rfl (dp_ex (ee.trans (e7.trans e8)) d1)) eva_int atI1) (evaa_cons (eva_var rfl (dp_ex e8 dv)) evaa_nil)) ⟨j, ts.map (val b), rfl, ho.1, by simpa using ho.2, by simp; omega, hfq, rfl⟩) fun v H9 e9 dv => q v H9 (ee.trans ((e7.trans e8).trans e9)) dv
end
end Cb
set_option Elab.async false
set_option linter.all false
set_option maxRecDepth 100000
set_option maxHeartbeats 8000000
/-! Cb, defs 6: rules as objects, corners, outcomes. -/
namespace Cb
open PySem PySem.Spec PyProof.Rows L2 Evl
/-! ### rules as objects -/
def RuleR (K : PySem.W.Frag) (C : Addr) (H : Hp) (v : V) (n : Nat) (t : Tm) : Prop := ∃ a dx fs vt, v = .ref a ∧ H a = some (.ins C dx fs) ∧ fs.lookup ("people" : Str) = some (.int (n : Int)) ∧ fs.lookup ("term" : Str) = some vt ∧ Dp K H vt (eT t)
theorem rule_ex {K : PySem.W.Frag} {C : Addr} {H H' : Hp} {v : V} {n : Nat} {t : Tm} (e : Ex H H') (h : RuleR K C H v n t) : RuleR K C H' v n t := by
  obtain ⟨a, dx, fs, vt, rfl, h1, h2, h3, h4⟩ := h
  exact ⟨a, dx, fs, vt, rfl, e _ _ h1, h2, h3, dp_ex e h4⟩
/-- a rule and data in, data out -/
def spU (K : PySem.W.Frag) (C : Addr) (R : Nat → Tm → List PyData → PyData → Prop) : Sp := fun vs H Q _ => ∃ n t r rest ds d, vs = r :: rest ∧ RuleR K C H r n t ∧ DpAll K H rest ds ∧ R n t ds d ∧ ∀ v H2, Ex H H2 → Dp K H2 v d → Q v H2
section
variable {K : PySem.W.Frag} {C : Addr} {σ : L2.St} {H : Hp} {te : TE} {ta : TA} {n : Nat} {t : Tm} {ds : List PyData} {d : PyData}
theorem evr_var {R : V → Hp → Prop} {i : Nat} {v : V} (hv : σ[i]? = some (some v)) (h : ∀ H1, Ex H H1 → R v H1) : Evr (tVar i) σ H R := fun H1 e Q q => ⟨v, hv, q v H1 (Ex.refl _) (h H1 e)⟩
theorem evr_rule {i : Nat} {v : V} (hv : σ[i]? = some (some v)) (h : RuleR K C H v n t) : Evr (tVar i) σ H (fun v H' => RuleR K C H' v n t) := evr_var hv fun H1 e => rule_ex e h
theorem eva_people (hc : Cls K C) (hn : NoAttr K C "people") (h : Evr te σ H (fun v H' => RuleR K C H' v n t)) : Eva K (tFld K te "people") σ H (.int (n : Int)) := fun H1 e Q q => h H1 e _ fun v H2 e2 r => by
  obtain ⟨a, dx, fs, vt, rfl, h1, h2, h3, h4⟩ := r
  exact ⟨a, C, dx, fs, _, rfl, h1, hc, hn, h2, q _ H2 e2 (.int _)⟩
theorem eva_term (hc : Cls K C) (hn : NoAttr K C "term") (h : Evr te σ H (fun v H' => RuleR K C H' v n t)) : Eva K (tFld K te "term") σ H (eT t) := fun H1 e Q q => h H1 e _ fun v H2 e2 r => by
  obtain ⟨a, dx, fs, vt, rfl, h1, h2, h3, h4⟩ := r
  exact ⟨a, C, dx, fs, _, rfl, h1, hc, hn, h3, q _ H2 e2 h4⟩
theorem eva_callU {R : Nat → Tm → List PyData → PyData → Prop} {E : XK} (hr : Evr te σ H (fun v H' => RuleR K C H' v n t)) (ha : EvaA K ta σ H ds) (r : R n t ds d) : Eva K (tCall (spU K C R) [] E (tCons te ta)) σ H d := fun H1 e Q q =>
  hr H1 e _ fun v H2 e2 rv => ha H2 (e.trans e2) _ fun vs H3 e3 dv => ⟨n, t, v, vs, ds, d, by rw [List.append_nil], rule_ex e3 rv, dv, r, fun u H4 e4 du => q u H4 ((e2.trans e3).trans e4) du⟩
end
section
variable {P : Program} {w : World} {K : PySem.W.Frag} {mg : Str → Option Value} {base : Heap} {x : Str} {i k : Nat} {N ps : List Str}
abbrev RuleC (mg : Str → Option Value) : Addr := refAt mg "Rule"
theorem has_U {R : Nat → Tm → List PyData → PyData → Prop} (F : FnAt K mg x i) (S : FnScope N ps (defScope (topS i))) (hbnd : Bnd x i ps) (hlen : ∀ n t ds d, R n t ds d → ds.length + 1 = ps.length)
    (hb : ∀ (f : Addr) (cdv : Value) (A : Around) (outer : List Env) (s : Shared) (H : Hp) (r : V) (vs : List V) (Q : VK) (E : XK), Room k (A.deeper (envOfC x (defScope (topS i)) s.heap.objs.size f cdv)) →
      ∀ n t ds d, RuleR K (RuleC mg) H r n t → DpAll K H vs ds → R n t ds d → (∀ v H2, Ex H H2 → Dp K H2 v d → Q v H2) →
      ∃ t, PSs (cxB P w K mg base N x i f cdv A outer s H E) (defBody (topS i)) t ∧ t { nx := fun _ H' => Q .non H', rt := Q } (start N (r :: vs)) H) : Has P w K mg base x (k + 1) ps (spU K (RuleC mg) R) :=
  has_sp F S hbnd (fun vs H Q E h => by
    obtain ⟨n, t, r, rest, ds, d, rfl, _, h1, h2, _⟩ := h
    rw [List.length_cons, dpa_len h1]
    exact hlen n t ds d h2) fun f cdv A outer s H vs Q E hr h => by
    obtain ⟨n, t, r, rest, ds, d, rfl, h0, h1, h2, q⟩ := h
    exact hb f cdv A outer s H r rest Q E hr n t ds d h0 h1 h2 q
end
/-! ### lots as data -/
abbrev zi (l : List Nat) : List Int := l.map fun (n : Nat) => (n : Int)
abbrev eL (l : List Nat) : PyData := .tuple ((zi l).map PyData.int)
theorem zi_mem {i : Nat} {l : List Nat} : (i : Int) ∈ zi l ↔ i ∈ l := by
  constructor
  · intro h
    obtain ⟨a, ha, e⟩ := List.mem_map.mp h
    have : a = i := by omega
    rwa [← this]
  · intro h
    exact List.mem_map.mpr ⟨i, h, rfl⟩
section
variable {P : Program} {w : World} {K : PySem.W.Frag} {mg : Str → Option Value} {base : Heap}
theorem sc_half : FnScope ["one", "other"] ["one", "other"] (defScope (topS 19)) := ⟨rfl, rfl, rfl, by decide +kernel, rfl, by decide +kernel, by decide +kernel⟩
theorem bn_half : Bnd "half" 19 ["one", "other"] := fun _ _ _ _ _ _ us hl => match us, hl with | [_, _], _ => rfl
def rHalf (ds : List PyData) (d : PyData) : Prop := ∃ x y : Q, ds = [eQ x, eQ y] ∧ VOk 1250 x ∧ VOk 1250 y ∧ d = eQ (qmul (qadd x y) (1, 2))
theorem qadd_sm {x y : Q} (hx : VOk 1250 x) (hy : VOk 1250 y) : Sm (qadd x y) ∧ (qadd x y).2 ≤ 2 ^ 2500 := by
  have f := qadd_frc hx.num.pos hy.num.pos
  have v := qadd_toR hx.num.pos hy.num.pos
  have b : (qadd x y).2 ≤ 2 ^ 2500 := Int.le_trans (lowest_le (Int.mul_pos hx.num.pos hy.num.pos)) (mul_le_pow (m := 1250) (n := 1250) (by have := hx.num.pos; omega) (by have := hy.num.pos; omega) hx.bot hy.bot)
  refine ⟨sm_of (n := 2) (b := 2500) f.pos ?_ ?_ (by omega) b (by omega), b⟩
  · have := hx.num.r0; have := hy.num.r0; grind
  · have := hx.num.r1; have := hy.num.r1
    have e : ((2 : Int) : Rat) = 2 := rfl
    rw [v, e]; grind
theorem sm_two : Sm (1, 2) := by
  have e : (2 : Nat) ^ 10 ≤ 2 ^ 4000 := pow_two_le (by decide)
  exact ⟨by decide, Nat.lt_of_lt_of_le (show (1 : Int).natAbs < 2 ^ 10 by decide) e, Nat.lt_of_lt_of_le (show (2 : Int).natAbs < 2 ^ 10 by decide) e⟩
theorem has_half {k : Nat} (T : Tb K mg) (h_plus : Has P w K mg base "plus" k ["one", "other"] (spR K rPlus)) (h_times : Has P w K mg base "times" k ["one", "other"] (spR K rTimes)) (h_made : Has P w K mg base "made" k ["top", "bottom"] (spR K rMade)) :
    Has P w K mg base "half" (k + 1) ["one", "other"] (spR K rHalf) := by
  refine has_R T.f_half sc_half bn_half (fun ds d h => by obtain ⟨_, _, rfl, _⟩ := h; rfl) fun f cdv A outer s H vs Q E hr ds d hds h q => ?_
  obtain ⟨x, y, rfl, hx, hy, rfl⟩ := h
  obtain ⟨v1, v2, rfl, h1, h2⟩ := dpa2 hds
  refine ⟨_, (pss_one (ps_ret (pe_callH h_times hr (pa_cons (pe_callH h_plus hr (pa_cons (pv 0) (pa_cons (pv 1) pa_nil))) (pa_cons (pe_callH h_made hr (pa_cons pe_int (pa_cons pe_int pa_nil))) pa_nil))))), ?_⟩
  refine s_ret (eva_call (evaa_cons (eva_call (evaa_cons (eva_var rfl h1) (evaa_cons (eva_var rfl h2) evaa_nil)) ⟨x, y, rfl, (hx.fq (by decide)).sm, (hy.fq (by decide)).sm, rfl⟩) (evaa_cons (eva_call (d := eQ (1, 2)) (evaa_cons eva_int (evaa_cons eva_int evaa_nil)) ⟨1, 2, rfl, by decide, Nat.lt_of_lt_of_le (show (2 : Int).natAbs < 2 ^ 10 by decide) (pow_two_le (by decide)), by rw [lowest_one]⟩) evaa_nil)) ⟨_, _, rfl, (qadd_sm hx hy).1, sm_two, rfl⟩) q
theorem sc_ends_for : FnScope ["lows", "highs", "lot", "person", "low"] ["lows", "highs", "lot"] (defScope (topS 37)) := ⟨rfl, rfl, rfl, by decide +kernel, rfl, by decide +kernel, by decide +kernel⟩
theorem bn_ends_for : Bnd "ends_for" 37 ["lows", "highs", "lot"] := fun _ _ _ _ _ _ us hl => match us, hl with | [_, _, _], _ => rfl
def rEnds (ds : List PyData) (d : PyData) : Prop := ∃ (n : Nat) (lot : List Nat), ds = [eW (List.replicate n (0, 1)), eW (List.replicate n (1, 1)), eL lot] ∧ n ≤ 1000 ∧ d = eW (ends n lot)
theorem zipIdx_rep {α : Type} (n : Nat) (x : α) : (List.replicate n x).zipIdx = (List.range n).map fun i => (x, i) := by
  apply List.ext_getElem
  · simp
  · intro i h1 h2
    simp
theorem has_ends_for {k : Nat} (T : Tb K mg) : Has P w K mg base "ends_for" (k + 1) ["lows", "highs", "lot"] (spR K rEnds) := by
  refine has_R T.f_ends_for sc_ends_for bn_ends_for (fun ds d h => by obtain ⟨_, _, rfl, _⟩ := h; rfl) fun f cdv A outer s H vs Q E hr ds d hds h q => ?_
  obtain ⟨n, lot, rfl, hn, rfl⟩ := h
  obtain ⟨v1, v2, v3, rfl, h1, h2, h3⟩ := dpa3 hds
  refine ⟨_, (pss_one (ps_ret (pe_callTy (call_tupleK K) (by rfl) T.tuple (by decide +kernel) (pa_cons (pe_lc (own := [("person", 3), ("low", 4)]) (g := (g2 K 3 4)) (tt := tYes) rfl sc_ends_for.nd (pi_enumTK K (by rfl) T.enumerate (pa_cons (pv 0) pa_nil)) (blkOk_by (N := ["lows", "highs", "lot", "person", "low"]) (sc := defScope (topS 37)) (by decide +kernel)) (fun _ _ _ _ _ => (pg_tup rfl (pgs_cons (pg_name (i := 3) sc_ends_for.nd rfl (by first | exact Or.inl rfl | exact Or.inr rfl)) (pgs_cons (pg_name (i := 4) sc_ends_for.nd rfl (by first | exact Or.inl rfl | exact Or.inr rfl)) pgs_nil)))) (fun _ _ _ _ _ => pts_nil) (fun _ _ _ _ _ => (pe_ifExp (pt_cmpR (op_in_seqK K) (pv 3) (pv 2) (by rfl)) (pe_ix (ix_seqK K) (pv 1) (pv 3) (fun _ _ => rfl)) (pv 4)))) pa_nil)))), ?_⟩
  have src : EvI (iEnumT K (tCons (tVar 0) tNil)) (g2 K 3 4) (start ["lows", "highs", "lot", "person", "low"] [v1, v2, v3]) H (List.range n) (fun i => PE2 K 3 4 (eQ (0, 1), i)) := by
    have z := evi_enumT (K := K) (j := 3) (k := 4) (eva_var (σ := start ["lows", "highs", "lot", "person", "low"] [v1, v2, v3]) (i := 0) rfl h1)
    rw [List.map_replicate, zipIdx_rep] at z
    exact z.map
  refine s_ret (eva_tupL (EvaL.eva (EvaL.is (evl_lc1 (fun i => eQ (if i ∈ lot then (1, 1) else (0, 1))) src (by simp; omega) (fun a σ2 H2 _ hp => ?_) (fun a σ2 H2 ha ex hp => ?_) (fun _ _ => rfl)) (by unfold ends; rw [List.map_map]; rfl)))) q
  · obtain ⟨w, rfl, _⟩ := hp; rfl
  · obtain ⟨w, rfl, hw⟩ := hp
    have ha' : a < n := List.mem_range.mp ha
    refine eva_if (j := decide (a ∈ lot)) (evt_is (evt_T (K := K) (eva_inT (i := (a : Int)) (ns := zi lot) (eva_var rfl (.int _)) (eva_var rfl (dp_ex ex h3)))) (decide_eq_decide.mpr zi_mem)) (fun hj => ?_) (fun hj => ?_)
    · rw [if_pos (of_decide_eq_true hj)]
      refine eva_ixT (eva_var rfl (dp_ex ex h2)) (eva_var rfl (.int _)) ?_
      rw [List.map_replicate]
      exact atN (by simp [ha'])
    · rw [if_neg (of_decide_eq_false hj)]
      exact eva_var rfl hw
theorem sc_wishing : FnScope ["wishes", "number", "person", "wish"] ["wishes", "number"] (defScope (topS 41)) := ⟨rfl, rfl, rfl, by decide +kernel, rfl, by decide +kernel, by decide +kernel⟩
theorem bn_wishing : Bnd "wishing" 41 ["wishes", "number"] := fun _ _ _ _ _ _ us hl => match us, hl with | [_, _], _ => rfl
def rWish (ds : List PyData) (d : PyData) : Prop := ∃ (b : List Q) (y : Q), ds = [eW b, eQ y] ∧ b.length ≤ 1000 ∧ (∀ q ∈ b, Fq q) ∧ Fq y ∧ d = eL (wishing b y)
theorem has_wishing {k : Nat} (T : Tb K mg) (h_is_less : Has P w K mg base "is_less" k ["one", "other"] (spR K rLess)) : Has P w K mg base "wishing" (k + 1) ["wishes", "number"] (spR K rWish) := by
  refine has_R T.f_wishing sc_wishing bn_wishing (fun ds d h => by obtain ⟨_, _, rfl, _⟩ := h; rfl) fun f cdv A outer s H vs Q E hr ds d hds h q => ?_
  obtain ⟨b, y, rfl, hl, hb, hy, rfl⟩ := h
  obtain ⟨v1, v2, rfl, h1, h2⟩ := dpa2 hds
  refine ⟨_, (pss_one (ps_ret (pe_callTy (call_tupleK K) (by rfl) T.tuple (by decide +kernel) (pa_cons (pe_lc (own := [("person", 2), ("wish", 3)]) (g := (g2 K 2 3)) rfl sc_wishing.nd (pi_enumTK K (by rfl) T.enumerate (pa_cons (pv 0) pa_nil)) (blkOk_by (N := ["wishes", "number", "person", "wish"]) (sc := defScope (topS 41)) (by decide +kernel)) (fun _ _ _ _ _ => (pg_tup rfl (pgs_cons (pg_name (i := 2) sc_wishing.nd rfl (by first | exact Or.inl rfl | exact Or.inr rfl)) (pgs_cons (pg_name (i := 3) sc_wishing.nd rfl (by first | exact Or.inl rfl | exact Or.inr rfl)) pgs_nil)))) (fun _ _ _ _ _ => pts_one (pt_not (pt_val (pe_callH h_is_less hr (pa_cons (pv 3) (pa_cons (pv 1) pa_nil)))))) (fun _ _ _ _ _ => (pv 2))) pa_nil)))), ?_⟩
  have src : EvI (iEnumT K (tCons (tVar 0) tNil)) (g2 K 2 3) (start ["wishes", "number", "person", "wish"] [v1, v2]) H b.zipIdx (fun p => PE2 K 2 3 (eQ p.1, p.2)) := by
    have z := evi_enumT (K := K) (j := 2) (k := 3) (eva_var (σ := start ["wishes", "number", "person", "wish"] [v1, v2]) (i := 0) rfl h1)
    rw [List.zipIdx_map] at z
    exact z.map
  refine s_ret (eva_tupL (EvaL.eva (EvaL.is (evl_lc (fun p => !less p.1 y) (fun p => .int (p.2 : Int)) src (by simp; omega) (fun a σ2 H2 _ hp => ?_) (fun a σ2 H2 ha ex hp => ?_) (fun a σ2 H2 ha hf ex hp => ?_) (fun _ _ => rfl)) (by unfold wishing; simp [List.map_map, Function.comp_def])))) q
  · obtain ⟨w, rfl, _⟩ := hp; rfl
  · obtain ⟨w, rfl, hw⟩ := hp
    have ma : a.1 ∈ b := by
      obtain ⟨u, i⟩ := a
      exact (List.mem_zipIdx ha).2.2 ▸ List.getElem_mem _
    exact Evl.et_not (evt_B (K := K) (eva_call (evaa_cons (eva_var rfl hw) (evaa_cons (eva_var rfl (dp_ex ex h2)) evaa_nil)) ⟨a.1, y, rfl, (hb _ ma).sm, hy.sm, rfl⟩))
  · obtain ⟨w, rfl, hw⟩ := hp
    exact eva_var rfl (.int _)
end
end Cb
set_option Elab.async false
set_option linter.all false
set_option maxRecDepth 100000
set_option maxHeartbeats 8000000
/-! Cb, defs 7: corners, outcomes, checks of wishes. -/
namespace Cb
open PySem PySem.Spec PyProof.Rows L2 Evl
theorem WOk.fq {n : Nat} {b : List Q} (h : WOk n b) : ∀ q ∈ b, Fq q := fun q hq => (h.2 q hq).fq (by decide)
theorem heldAt_fq {n : Nat} {t : Tm} {w : List Q} {x : Q} (h : RT n t) (hx : Fq x) : Fq (heldAt n t w x) := by
  have hm : heldAt n t w x ∈ [cor n t (wishing w x), x] := nth_mem (by simp)
  rcases List.mem_cons.mp hm with e | e
  · rw [e]; exact (cor_ok h.wt h.cnt _).fq (by decide)
  · rw [List.mem_singleton.mp e]; exact hx
section
variable {P : Program} {w : World} {K : PySem.W.Frag} {mg : Str → Option Value} {base : Heap}
theorem sc_corner_of : FnScope ["rule", "lot"] ["rule", "lot"] (defScope (topS 38)) := ⟨rfl, rfl, rfl, by decide +kernel, rfl, by decide +kernel, by decide +kernel⟩
theorem bn_corner_of : Bnd "corner_of" 38 ["rule", "lot"] := fun _ _ _ _ _ _ us hl => match us, hl with | [_, _], _ => rfl
def rCorner (n : Nat) (t : Tm) (ds : List PyData) (d : PyData) : Prop := ∃ lot, ds = [eL lot] ∧ RT n t ∧ d = eQ (cor n t lot)
theorem rep_zero (n : Nat) : eW (List.replicate n (0, 1)) = .tuple (List.replicate ((n : Int)).toNat (eQ (0, 1))) := by simp
theorem rep_one (n : Nat) : eW (List.replicate n (1, 1)) = .tuple (List.replicate ((n : Int)).toNat (eQ (1, 1))) := by simp
section
variable {σ : L2.St} {H : Hp} {te : TE} {n : Nat}
theorem eva_zeros (T : Tb K mg) (h : Eva K te σ H (.int (n : Int))) (h1 : 1 ≤ n) (h2 : n ≤ 6) : Eva K (tOp (rRep1 K) (tTup (tCons (tC (.ref (refAt mg "ZERO"))) tNil)) te) σ H (eW (List.replicate n (0, 1))) :=
  eva_is (eva_rep1 (eva_tup (evaa_cons (eva_c (dp_zero T H)) evaa_nil)) h (by omega) (by omega)) (rep_zero n).symm
theorem eva_ones (T : Tb K mg) (h : Eva K te σ H (.int (n : Int))) (h1 : 1 ≤ n) (h2 : n ≤ 6) : Eva K (tOp (rRep1 K) (tTup (tCons (tC (.ref (refAt mg "ONE"))) tNil)) te) σ H (eW (List.replicate n (1, 1))) :=
  eva_is (eva_rep1 (eva_tup (evaa_cons (eva_c (dp_one T H)) evaa_nil)) h (by omega) (by omega)) (rep_one n).symm
end
theorem has_corner_of {k : Nat} (T : Tb K mg) (h_val : ∀ n, Has P w K mg base "value_of" k ["term", "bids"] (spR K (rVal n 5))) (h_ends_for : Has P w K mg base "ends_for" k ["lows", "highs", "lot"] (spR K rEnds)) :
    Has P w K mg base "corner_of" (k + 1) ["rule", "lot"] (spU K (RuleC mg) rCorner) := by
  refine has_U T.f_corner_of sc_corner_of bn_corner_of (fun n t ds d h => by obtain ⟨_, rfl, _⟩ := h; rfl) fun f cdv A outer s H r vs Q E hr n t ds d h0 hds h q => ?_
  obtain ⟨lot, rfl, ht, rfl⟩ := h
  obtain ⟨v1, rfl, h1⟩ := dpa1 hds
  have h_value_of := h_val n
  refine ⟨_, (pss_one (ps_ret (pe_callH h_value_of hr (pa_cons (pe_fldK K (pv 0)) (pa_cons (pe_callH h_ends_for hr (pa_cons (pe_op (op_repTK K) (pe_tup (pa_cons (pe_gRef T.ZERO) pa_nil)) (pe_fldK K (pv 0))) (pa_cons (pe_op (op_repTK K) (pe_tup (pa_cons (pe_gRef T.ONE) pa_nil)) (pe_fldK K (pv 0))) (pa_cons (pv 1) pa_nil)))) pa_nil))))), ?_⟩
  have er := evr_rule (σ := start ["rule", "lot"] [r, v1]) (i := 0) rfl h0
  have ep := eva_people T.cls T.noP er
  refine s_ret (eva_call (evaa_cons (eva_term T.cls T.noT er) (evaa_cons (eva_call (evaa_cons (eva_zeros T ep ht.n1 ht.n6) (evaa_cons (eva_ones T ep ht.n1 ht.n6) (evaa_cons (eva_var rfl h1) evaa_nil))) ⟨n, lot, rfl, by have := ht.n6; omega, rfl⟩) evaa_nil)) ⟨_, t, rfl, ends_ok n lot, ht.wt, ht.cnt, ht.dpt, rfl⟩) q
theorem sc_outcome_among : FnScope ["rule", "wishes", "lows", "highs", "found", "wish", "held"] ["rule", "wishes", "lows", "highs"] (defScope (topS 42)) := ⟨rfl, rfl, rfl, by decide +kernel, rfl, by decide +kernel, by decide +kernel⟩
theorem bn_outcome_among : Bnd "outcome_among" 42 ["rule", "wishes", "lows", "highs"] := fun _ _ _ _ _ _ us hl => match us, hl with | [_, _, _, _], _ => rfl
def rAmong (n : Nat) (t : Tm) (ds : List PyData) (d : PyData) : Prop := ∃ b, ds = [eW b, eW (List.replicate n (0, 1)), eW (List.replicate n (1, 1))] ∧ RT n t ∧ WOk n b ∧ d = eQ (outc n t b)
theorem has_outcome_among {k : Nat} (T : Tb K mg) (h_val : ∀ n, Has P w K mg base "value_of" k ["term", "bids"] (spR K (rVal n 5))) (h_ends_for : Has P w K mg base "ends_for" k ["lows", "highs", "lot"] (spR K rEnds))
    (h_wishing : Has P w K mg base "wishing" k ["wishes", "number"] (spR K rWish)) (h_least_of : Has P w K mg base "least_of" k ["fractions"] (spR K rLeast)) (h_greatest_of : Has P w K mg base "greatest_of" k ["fractions"] (spR K rGreatest)) :
    Has P w K mg base "outcome_among" (k + 1) ["rule", "wishes", "lows", "highs"] (spU K (RuleC mg) rAmong) := by
  refine has_U T.f_outcome_among sc_outcome_among bn_outcome_among (fun n t ds d h => by obtain ⟨_, rfl, _⟩ := h; rfl) fun f cdv A outer s H r vs Q E hr n t ds d h0 hds h q => ?_
  obtain ⟨b, rfl, ht, hb, rfl⟩ := h
  obtain ⟨v1, v2, v3, rfl, h1, h2, h3⟩ := dpa3 hds
  have h_value_of := h_val n
  refine ⟨_, (pss_cons (ps_set (i := 4) sc_outcome_among.nd rfl (by first | exact Or.inl rfl | exact Or.inr rfl) (pe_lst (pa_cons (pe_callH h_value_of hr (pa_cons (pe_fldK K (pv 0)) (pa_cons (pv 2) pa_nil))) pa_nil)))
      (pss_cons (ps_for PassesOwn.never rfl (pi_tupK K (pv 1)) (pg_name (i := 5) sc_outcome_among.nd rfl (by first | exact Or.inl rfl | exact Or.inr rfl)) (pss_cons (ps_set (i := 6) sc_outcome_among.nd rfl (by first | exact Or.inl rfl | exact Or.inr rfl) (pe_callH h_value_of hr (pa_cons (pe_fldK K (pv 0)) (pa_cons (pe_callH h_ends_for hr (pa_cons (pv 2) (pa_cons (pv 3) (pa_cons (pe_callH h_wishing hr (pa_cons (pv 1) (pa_cons (pv 5) pa_nil))) pa_nil)))) pa_nil))))
      (pss_one (ps_expr (pe_bm PySem.F.plainAttrs_list PySem.F.slot_list_append PySem.F.type_list_append mt_append (pv 4) (pa_cons (pe_callH h_least_of hr (pa_cons (pe_lst (pa_cons (pv 6) (pa_cons (pv 5) pa_nil))) pa_nil)) pa_nil))))))
      (pss_one (ps_ret (pe_callH h_greatest_of hr (pa_cons (pv 4) pa_nil)))))), ?_⟩
  have hn6 := ht.n6
  have c0 : eW (List.replicate n (0, 1)) = eW (ends n []) := by rw [ends_nil]
  refine q_asgL (evl_lst (ds := [eQ (cor n t [])]) (evaa_cons (eva_call (evaa_cons (eva_term T.cls T.noT (evr_rule (i := 0) rfl h0)) (evaa_cons (eva_is (eva_var rfl h2) c0) evaa_nil)) ⟨_, t, rfl, ends_ok n [], ht.wt, ht.cnt, ht.dpt, rfl⟩) evaa_nil)) fun p ws H2 np e hp hd => ?_
  refine q_forG (evg_tup rfl h1 e) (fun i σ' H' => ∃ ws z a, σ' = [some r, some v1, some v2, some v3, some (.ref p), z, a] ∧ Ex H H' ∧ H' p = some (.lst ws) ∧ DpAll K H' ws ((cor n t [] :: (b.take i).map (heldAt n t b)).map eQ)) (fun i σ' H' _ hP => by obtain ⟨_, _, _, _, hP, _⟩ := hP; exact hP)
    (fun H3 e3 => ⟨ws, none, none, rfl, e.trans e3, e3 p _ hp, dpa_ex e3 (dpa_ex er_ex hd)⟩) ?_ ?_
  · intro i hi σ' H' σ2 H3 hP e3 hp'
    obtain ⟨ws, z, a, rfl, eb, hpl, hd⟩ := hP
    obtain ⟨y, rfl, hy⟩ := hp'
    have hi' : i < b.length := by simpa using hi
    rw [show (b.map eQ)[i] = eQ b[i] by simp] at hy
    have fx : Fq b[i] := hb.fq _ (List.getElem_mem _)
    have e13 := eb.trans e3
    have lw : ws.length ≤ 7 := by
      rw [dpa_len hd]
      have := hb.1
      simp; omega
    refine q_asg (eva_call (d := eQ (cor n t (wishing b b[i]))) (evaa_cons (eva_term T.cls T.noT (evr_rule (i := 0) rfl (rule_ex e13 h0))) (evaa_cons (eva_call (evaa_cons (eva_var rfl (dp_ex e13 h2)) (evaa_cons (eva_var rfl (dp_ex e13 h3)) (evaa_cons (eva_call (evaa_cons (eva_var rfl (dp_ex e13 h1)) (evaa_cons (eva_var rfl hy) evaa_nil)) ⟨b, _, rfl, by rw [hb.1]; omega, hb.fq, fx, rfl⟩) evaa_nil))) ⟨n, _, rfl, by omega, rfl⟩) evaa_nil)) ⟨_, t, rfl, ends_ok n _, ht.wt, ht.cnt, ht.dpt, rfl⟩) fun v H4 e4 dv => ?_
    have hpl4 := e4 p _ (e3 p _ hpl)
    refine s_app rfl hpl4 (eva_call (d := eQ (heldAt n t b b[i])) (evaa_cons (EvaL.eva (evl_lst (ds := [cor n t (wishing b b[i]), b[i]].map eQ) (evaa_cons (eva_var rfl dv) (evaa_cons (eva_var rfl (dp_ex e4 hy)) evaa_nil)))) evaa_nil) ⟨_, rfl, by simp, fun x hx => by
      rcases List.mem_cons.mp hx with e | e
      · rw [e]; exact (cor_ok ht.wt ht.cnt _).fq (by decide)
      · rw [List.mem_singleton.mp e]; exact fx, rfl⟩) (by omega) fun v' H5 e5 dv' hp5 => ?_
    refine ⟨_, some y, some v, rfl, (e13.trans (e4.trans e5)).mut np, upd_same, ?_⟩
    rw [take_snoc hi', List.map_append, ← List.cons_append, List.map_append]
    exact dpa_mut (dpa_app (dpa_ex (e3.trans (e4.trans e5)) hd) (dpa_one dv')) (imAll_app (ims_eQ _) (ims_eQ [heldAt n t b b[i]])) hp5 rfl
  · intro σ' H' hP
    obtain ⟨ws, z, a, rfl, eb, hpl, hd⟩ := hP
    have el : (b.map eQ).length = b.length := by simp
    rw [el, List.take_length] at hd
    refine s_ret (eva_call (evaa_cons (eva_var rfl (dp_newL hpl hd)) evaa_nil) ⟨_, rfl, by simp, fun x hx => ?_, by simp only [List.length_cons, List.length_map, Nat.add_sub_cancel]; rfl⟩) fun v H4 e4 dv => q v H4 (eb.trans e4) dv
    rcases List.mem_cons.mp hx with e | e
    · rw [e]; exact (cor_ok ht.wt ht.cnt _).fq (by decide)
    · obtain ⟨y, hy, rfl⟩ := List.mem_map.mp e
      exact heldAt_fq ht (hb.fq y hy)
theorem sc_outcome_of : FnScope ["rule", "wishes"] ["rule", "wishes"] (defScope (topS 43)) := ⟨rfl, rfl, rfl, by decide +kernel, rfl, by decide +kernel, by decide +kernel⟩
theorem bn_outcome_of : Bnd "outcome_of" 43 ["rule", "wishes"] := fun _ _ _ _ _ _ us hl => match us, hl with | [_, _], _ => rfl
def rOutc (n : Nat) (t : Tm) (ds : List PyData) (d : PyData) : Prop := ∃ b, ds = [eW b] ∧ RT n t ∧ WOk n b ∧ d = eQ (outc n t b)
theorem has_outcome_of {k : Nat} (T : Tb K mg) (h_outcome_among : Has P w K mg base "outcome_among" k ["rule", "wishes", "lows", "highs"] (spU K (RuleC mg) rAmong)) : Has P w K mg base "outcome_of" (k + 1) ["rule", "wishes"] (spU K (RuleC mg) rOutc) := by
  refine has_U T.f_outcome_of sc_outcome_of bn_outcome_of (fun n t ds d h => by obtain ⟨_, rfl, _⟩ := h; rfl) fun f cdv A outer s H r vs Q E hr n t ds d h0 hds h q => ?_
  obtain ⟨b, rfl, ht, hb, rfl⟩ := h
  obtain ⟨v1, rfl, h1⟩ := dpa1 hds
  refine ⟨_, (pss_one (ps_ret (pe_callH h_outcome_among hr (pa_cons (pv 0) (pa_cons (pv 1) (pa_cons (pe_op (op_repTK K) (pe_tup (pa_cons (pe_gRef T.ZERO) pa_nil)) (pe_fldK K (pv 0))) (pa_cons (pe_op (op_repTK K) (pe_tup (pa_cons (pe_gRef T.ONE) pa_nil)) (pe_fldK K (pv 0))) pa_nil))))))), ?_⟩
  have er := evr_rule (σ := start ["rule", "wishes"] [r, v1]) (i := 0) rfl h0
  have ep := eva_people T.cls T.noP er
  exact s_ret (eva_callU er (evaa_cons (eva_var rfl h1) (evaa_cons (eva_zeros T ep ht.n1 ht.n6) (evaa_cons (eva_ones T ep ht.n1 ht.n6) evaa_nil))) ⟨b, rfl, ht, hb, rfl⟩) q
theorem sc_check_wishes : FnScope ["rule", "thing"] ["rule", "thing"] (defScope (topS 32)) := ⟨rfl, rfl, rfl, by decide +kernel, rfl, by decide +kernel, by decide +kernel⟩
theorem bn_check_wishes : Bnd "check_wishes" 32 ["rule", "thing"] := fun _ _ _ _ _ _ us hl => match us, hl with | [_, _], _ => rfl
def rChkW (n : Nat) (t : Tm) (ds : List PyData) (d : PyData) : Prop := ∃ b, ds = [eW b] ∧ RT n t ∧ WOk n b ∧ d = .none
theorem has_check_wishes {k : Nat} (T : Tb K mg) (h_are_numbers : Has P w K mg base "are_numbers" k ["thing", "many"] (spR K rAreNums)) : Has P w K mg base "check_wishes" (k + 1) ["rule", "thing"] (spU K (RuleC mg) rChkW) := by
  refine has_U T.f_check_wishes sc_check_wishes bn_check_wishes (fun n t ds d h => by obtain ⟨_, rfl, _⟩ := h; rfl) fun f cdv A outer s H r vs Q E hr n t ds d h0 hds h q => ?_
  obtain ⟨b, rfl, ht, hb, rfl⟩ := h
  obtain ⟨v1, rfl, h1⟩ := dpa1 hds
  refine ⟨_, (pss_one (ps_if (pt_not (pt_val (pe_callH h_are_numbers hr (pa_cons (pv 1) (pa_cons (pe_fldK K (pv 0)) pa_nil))))) (pss_one ps_never) pss_nil)), ?_⟩
  have er := evr_rule (σ := start ["rule", "thing"] [r, v1]) (i := 0) rfl h0
  have hn6 := ht.n6
  exact Evl.s_when (Evl.et_not (evt_B (K := K) (eva_call (evaa_cons (eva_var rfl h1) (evaa_cons (eva_is (eva_people T.cls T.noP er) (by rw [← hb.1])) evaa_nil)) ⟨b, rfl, by rw [hb.1]; omega, fun x hx => (hb.2 x hx).num, rfl⟩))) (fun h => by cases h) fun _ H2 e2 => q .non H2 e2 .non
theorem sc_outcome : FnScope ["rule", "wishes"] ["rule", "wishes"] (defScope (topS 44)) := ⟨rfl, rfl, rfl, by decide +kernel, rfl, by decide +kernel, by decide +kernel⟩
theorem bn_outcome : Bnd "outcome" 44 ["rule", "wishes"] := fun _ _ _ _ _ _ us hl => match us, hl with | [_, _], _ => rfl
theorem has_outcome {k : Nat} (T : Tb K mg) (h_check_wishes : Has P w K mg base "check_wishes" k ["rule", "thing"] (spU K (RuleC mg) rChkW)) (h_outcome_of : Has P w K mg base "outcome_of" k ["rule", "wishes"] (spU K (RuleC mg) rOutc)) :
    Has P w K mg base "outcome" (k + 1) ["rule", "wishes"] (spU K (RuleC mg) rOutc) := by
  refine has_U T.f_outcome sc_outcome bn_outcome (fun n t ds d h => by obtain ⟨_, rfl, _⟩ := h; rfl) fun f cdv A outer s H r vs Q E hr n t ds d h0 hds h q => ?_
  obtain ⟨b, rfl, ht, hb, rfl⟩ := h
  obtain ⟨v1, rfl, h1⟩ := dpa1 hds
  refine ⟨_, (pss_cons (ps_expr (pe_callH h_check_wishes hr (pa_cons (pv 0) (pa_cons (pv 1) pa_nil))))
      (pss_one (ps_ret (pe_callH h_outcome_of hr (pa_cons (pv 0) (pa_cons (pv 1) pa_nil)))))), ?_⟩
  refine q_drop (eva_callU (K := K) (evr_rule (i := 0) rfl h0) (evaa_cons (eva_var rfl h1) evaa_nil) ⟨b, rfl, ht, hb, rfl⟩) fun v H2 e2 _ => ?_
  exact s_ret (eva_callU (evr_rule (i := 0) rfl (rule_ex e2 h0)) (evaa_cons (eva_var rfl (dp_ex e2 h1)) evaa_nil) ⟨b, rfl, ht, hb, rfl⟩) fun v H3 e3 dv => q v H3 (e2.trans e3) dv
theorem sc_is_person : FnScope ["rule", "thing"] ["rule", "thing"] (defScope (topS 33)) := ⟨rfl, rfl, rfl, by decide +kernel, rfl, by decide +kernel, by decide +kernel⟩
theorem bn_is_person : Bnd "is_person" 33 ["rule", "thing"] := fun _ _ _ _ _ _ us hl => match us, hl with | [_, _], _ => rfl
def rIsPer (n : Nat) (t : Tm) (ds : List PyData) (d : PyData) : Prop := ∃ i : Int, ds = [.int i] ∧ d = .bool (decide (0 ≤ i) && decide (i ≤ (n : Int) - 1))
theorem has_is_person {k : Nat} (T : Tb K mg) (h_is_within : Has P w K mg base "is_within" k ["thing", "least", "most"] (spR K rWithin)) : Has P w K mg base "is_person" (k + 1) ["rule", "thing"] (spU K (RuleC mg) rIsPer) := by
  refine has_U T.f_is_person sc_is_person bn_is_person (fun n t ds d h => by obtain ⟨_, rfl, _⟩ := h; rfl) fun f cdv A outer s H r vs Q E hr n t ds d h0 hds h q => ?_
  obtain ⟨i, rfl, rfl⟩ := h
  obtain ⟨v1, rfl, h1⟩ := dpa1 hds
  refine ⟨_, (pss_one (ps_ret (pe_callH h_is_within hr (pa_cons (pv 1) (pa_cons pe_int (pa_cons (pe_op op_sub (pe_fldK K (pv 0)) pe_int) pa_nil)))))), ?_⟩
  exact s_ret (eva_call (evaa_cons (eva_var rfl h1) (evaa_cons eva_int (evaa_cons (eva_I0 (eva_people T.cls T.noP (evr_rule (i := 0) rfl h0)) eva_int) evaa_nil))) ⟨i, 0, _, rfl, rfl⟩) q
theorem sc_check_person : FnScope ["rule", "thing"] ["rule", "thing"] (defScope (topS 34)) := ⟨rfl, rfl, rfl, by decide +kernel, rfl, by decide +kernel, by decide +kernel⟩
theorem bn_check_person : Bnd "check_person" 34 ["rule", "thing"] := fun _ _ _ _ _ _ us hl => match us, hl with | [_, _], _ => rfl
def rChkPer (n : Nat) (t : Tm) (ds : List PyData) (d : PyData) : Prop := ∃ i : Int, ds = [.int i] ∧ 0 ≤ i ∧ i < n ∧ d = .none
theorem has_check_person {k : Nat} (T : Tb K mg) (h_is_person : Has P w K mg base "is_person" k ["rule", "thing"] (spU K (RuleC mg) rIsPer)) : Has P w K mg base "check_person" (k + 1) ["rule", "thing"] (spU K (RuleC mg) rChkPer) := by
  refine has_U T.f_check_person sc_check_person bn_check_person (fun n t ds d h => by obtain ⟨_, rfl, _⟩ := h; rfl) fun f cdv A outer s H r vs Q E hr n t ds d h0 hds h q => ?_
  obtain ⟨i, rfl, g0, g1, rfl⟩ := h
  obtain ⟨v1, rfl, h1⟩ := dpa1 hds
  refine ⟨_, (pss_one (ps_if (pt_not (pt_val (pe_callH h_is_person hr (pa_cons (pv 0) (pa_cons (pv 1) pa_nil))))) (pss_one ps_never) pss_nil)), ?_⟩
  refine Evl.s_when (Evl.et_not (evt_B (K := K) (eva_callU (evr_rule (i := 0) rfl h0) (evaa_cons (eva_var rfl h1) evaa_nil) ⟨i, rfl, rfl⟩))) (fun h => ?_) fun _ H2 e2 => q .non H2 e2 .non
  have : (decide (0 ≤ i) && decide (i ≤ (n : Int) - 1)) = true := by simp; omega
  rw [this] at h
  cases h
end
end Cb
set_option Elab.async false
set_option linter.all false
set_option maxRecDepth 100000
set_option maxHeartbeats 8000000
/-! Cb, the layer: lists of tuples that are keys, tables. -/
namespace Cb
open PySem PySem.Spec PyProof.Rows L2 Evl
/-- tuples of one's own stay -/
def Ty (H H' : Hp) : Prop := ∀ b xs, H b = some (.tup xs) → H' b = some (.tup xs)
theorem Ty.of {H H' : Hp} (e : Ex H H') : Ty H H' := fun b xs h => e b _ h
theorem Ty.trans {H1 H2 H3 : Hp} (a : Ty H1 H2) (b : Ty H2 H3) : Ty H1 H3 := fun c xs h => b c xs (a c xs h)
theorem Ty.upd {H : Hp} {p : Addr} {o u : HO} (h : H p = some u) (hu : noTup u = true) : Ty H (L2.upd H p o) := fun b xs r => by
  have ne : b ≠ p := fun q => by
    subst q
    rw [h] at r; cases r; cases hu
  rw [upd_ne ne]; exact r
theorem Ty.er {H : Hp} {p : Addr} {u : HO} (h : H p = some u) (hu : noTup u = true) : Ty H (er H p) := fun b xs r => by
  have ne : b ≠ p := fun q => by
    subst q
    rw [h] at r; cases r; cases hu
  rw [er_ne ne]; exact r
/-- a tuple of small ints, in the heap -/
def Tp (l : List Nat) (v : V) (H : Hp) : Prop := ∃ b, v = .ref b ∧ H b = some (.tup ((zi l).map V.int))
theorem Tp.ty {l : List Nat} {v : V} {H H' : Hp} (e : Ty H H') (h : Tp l v H) : Tp l v H' := by
  obtain ⟨b, rfl, h⟩ := h
  exact ⟨b, rfl, e b _ h⟩
theorem Tp.dp {K : PySem.W.Frag} {l : List Nat} {v : V} {H : Hp} (h : Tp l v H) : Dp K H v (eL l) := by
  obtain ⟨b, rfl, h⟩ := h
  exact dp_newT h (dpa_ofints _)
abbrev PT (H : Hp) (ws : List V) (ls : List (List Nat)) : Prop := Paired (fun v l => Tp l v H) ws ls
theorem PT.ty {ws : List V} {ls : List (List Nat)} {H H' : Hp} (e : Ty H H') (h : PT H ws ls) : PT H' ws ls := Paired.mapP h fun v l r => r.ty e
theorem paired_app {α β : Type} {F : α → β → Prop} : ∀ {l1 m1 : List α} {l2 m2 : List β}, Paired F l1 l2 → Paired F m1 m2 → Paired F (l1 ++ m1) (l2 ++ m2)
  | _, _, _, _, .nil, h => h
  | _, _, _, _, .cons a b, h => .cons a (paired_app b h)
theorem paired_get {α β : Type} {F : α → β → Prop} : ∀ {l1 : List α} {l2 : List β} {i : Nat} {a : α}, Paired F l1 l2 → l1[i]? = some a → ∃ b, l2[i]? = some b ∧ F a b
  | _, _, _, _, .nil, h => by simp at h
  | _, _, 0, _, .cons h _, e => by simp at e; subst e; exact ⟨_, rfl, h⟩
  | _, _, i + 1, _, .cons _ t, e => by
    obtain ⟨b, h1, h2⟩ := paired_get (i := i) t (by simpa using e)
    exact ⟨b, by simpa using h1, h2⟩
theorem paired_perm {α β : Type} {F : α → β → Prop} {xs ys : List α} (p : ys.Perm xs) : ∀ {ls : List β}, Paired F xs ls → ∃ ls', ls'.Perm ls ∧ Paired F ys ls' := by
  induction p with
  | nil => intro ls h; exact ⟨ls, .refl _, h⟩
  | cons x p ih =>
    intro ls h
    cases h with
    | cons a t =>
      obtain ⟨l, p1, p2⟩ := ih t
      exact ⟨_, p1.cons _, .cons a p2⟩
  | swap x y l =>
    intro ls h
    cases h with
    | cons a t =>
      cases t with
      | cons b t => exact ⟨_, .swap _ _ _, .cons b (.cons a t)⟩
  | trans p1 p2 ih1 ih2 =>
    intro ls h
    obtain ⟨l, q1, q2⟩ := ih2 h
    obtain ⟨m, r1, r2⟩ := ih1 q2
    exact ⟨m, r1.trans q1, r2⟩
theorem paired_pw {α β : Type} {F : α → β → Prop} {R : α → α → Prop} {S : β → β → Prop} (hRS : ∀ a b x y, F a x → F b y → R a b → S x y) : ∀ {xs : List α} {ls : List β}, Paired F xs ls → xs.Pairwise R → ls.Pairwise S
  | _, _, .nil, _ => .nil
  | a :: xs, x :: ls, .cons h t, p => by
    obtain ⟨p1, p2⟩ := List.pairwise_cons.mp p
    refine List.pairwise_cons.mpr ⟨fun y hy => ?_, paired_pw hRS t p2⟩
    obtain ⟨i, hi, e⟩ := List.getElem_of_mem hy
    have hx : i < xs.length := by rw [paired_len t]; exact hi
    exact hRS a xs[i] x y h (paired_at t (List.getElem?_eq_getElem hx) (by rw [← e]; exact List.getElem?_eq_getElem hi)) (p1 _ (List.getElem_mem hx))
theorem code_lcode : ∀ l : List Nat, TS.code 10 (zi l) = (lcode l : Int)
  | [] => rfl
  | d :: r => by
    show (d : Int) * 10 ^ (zi r).length + TS.code 10 (zi r) = _
    rw [code_lcode r, List.length_map]
    show _ = (((d * 10 ^ r.length + lcode r : Nat)) : Int)
    rw [Int.natCast_add, Int.natCast_mul, Int.natCast_pow]
    rfl
/-- what evaluates to such a list, a new one -/
def EvP (te : TE) (σ : L2.St) (H : Hp) (ls : List (List Nat)) : Prop := ∀ H1, Ex H H1 → ∀ Q : VK, (∀ p ws H2, H1 p = none → Ex H1 H2 → H2 p = some (.lst ws) → PT H2 ws ls → Q (.ref p) H2) → te σ H1 Q
section
variable {K : PySem.W.Frag} {σ : L2.St} {H : Hp} {ta tb te : TE} {l m : List Nat}
theorem evr_tp {i : Nat} {v : V} (hv : σ[i]? = some (some v)) (h : Tp l v H) : Evr (tVar i) σ H (Tp l) := evr_var hv fun H1 e => h.ty (.of e)
theorem evr_dp (h : Evr te σ H (Tp l)) : Eva K te σ H (eL l) := Evr.imp h fun _ _ _ r => r.dp
theorem evr_catTp (ha : Evr ta σ H (Tp l)) (hb : Evr tb σ H (Tp m)) (hl : l.length + m.length ≤ 1000) : Evr (tOp (rCatA K) ta tb) σ H (Tp (l ++ m)) := fun H1 e Q q =>
  ha H1 e _ fun x H2 e2 dx => hb H2 (e.trans e2) _ fun y H3 e3 dy => by
    obtain ⟨a, rfl, ha'⟩ := dx
    obtain ⟨b, rfl, hb'⟩ := dy
    have ha3 := e3 a _ ha'
    refine ⟨a, b, _, _, rfl, rfl, .inl (.inl ha3), .inl (.inl hb'), by simp; exact sz_of (by omega), fun z => ?_, fun z w => ?_, fun z w p hn => ?_⟩
    · have : l = [] := by simpa using z
      subst this
      exact q _ H3 (e2.trans e3) ⟨b, rfl, hb'⟩
    · have : m = [] := by simpa using w
      subst this
      exact q _ H3 (e2.trans e3) ⟨a, rfl, by rw [List.append_nil]; exact ha3⟩
    · refine q _ _ ((e2.trans e3).trans (Ex.new hn)) ⟨p, rfl, ?_⟩
      rw [upd_same, show zi (l ++ m) = zi l ++ zi m from List.map_append .., List.map_append]
theorem evr_oneTp {i : Nat} (ha : Eva K ta σ H (.int (i : Int))) : Evr (tTup (tCons ta tNil)) σ H (Tp [i]) := fun H1 e Q q =>
  ha H1 e _ fun v H2 e2 dv => ⟨by simp; exact sz_of (by omega), fun p hp => q _ _ (e2.trans (Ex.new hp)) ⟨p, rfl, by rw [upd_same, dp_int dv]; rfl⟩⟩
theorem evr_nilTp : Evr (tTup tNil) σ H (Tp []) := fun H1 e Q q => ⟨by simp, fun p hp => q _ _ (Ex.new hp) ⟨p, rfl, by rw [upd_same]; rfl⟩⟩
/-- tuple(xs) of ints -/
theorem evr_tupLTp (ha : Eva K ta σ H (.list ((zi l).map PyData.int))) : Evr (tCB (rTup2 K) (tCons ta tNil)) σ H (Tp l) := eva_cb1 ha fun x H1 e dx Q q => by
  obtain ⟨p, xs, rfl, hp, hx⟩ := dp_lst dx
  refine ⟨p, xs, rfl, .inl ⟨hp, fun r hr => q _ _ (Ex.new hr) ⟨r, rfl, ?_⟩⟩⟩
  rw [upd_same, dpa_ints hx]
/-- [x] of such a tuple -/
theorem evp_lst1 (ha : Evr ta σ H (Tp l)) : EvP (tLst (tCons ta tNil)) σ H [l] := fun H1 e Q q =>
  ha H1 e _ fun v H2 e2 dv => ⟨by simp; exact sz_of (by omega), fun p hp => q p _ _ (fresh_back e2 hp) (e2.trans (Ex.new hp)) upd_same (.cons (dv.ty (.of (Ex.new hp))) .nil)⟩
theorem s_asgP {i : Nat} {D : Ends} {ls : List (List Nat)} (h : EvP te σ H ls) (k : ∀ p ws H2, H p = none → Ex H H2 → H2 p = some (.lst ws) → PT H2 ws ls → D.nx (σ.set i (some (.ref p))) H2) : tAsg te (gName i) D σ H := h H (Ex.refl _) _ k
theorem q_asgP {i : Nat} {D : Ends} {tz : TS} {ls : List (List Nat)} (h : EvP te σ H ls) (k : ∀ p ws H2, H p = none → Ex H H2 → H2 p = some (.lst ws) → PT H2 ws ls → tz D (σ.set i (some (.ref p))) H2) : tSeq (tAsg te (gName i)) tz D σ H := s_asgP (D := { D with nx := tz D }) h k
/-- a list of such tuples, sorted -/
theorem evp_sorted {i s : Nat} {a : Addr} {ws : List V} {ls : List (List Nat)} (hv : σ[i]? = some (some (.ref a))) (ha : H a = some (.lst ws)) (hp : PT H ws ls) (h1 : (1 ≤ s ∧ ws.length < 64) ∨ ws.length < 2) (hl : ∀ l ∈ ls, l.length = s ∧ ∀ x ∈ l, x < 10) :
    EvP (tCB (rSortX K) (tCons (tVar i) tNil)) σ H (sortL ls) := fun H1 e Q q => ⟨_, hv, by
  have ha1 := e a _ ha
  have hp1 := hp.ty (.of e)
  have hlen := paired_len hp
  rcases h1 with ⟨h1, h2⟩ | h2
  · refine .inr ⟨s, 10, h1, a, ws, rfl, .inl (.inl ha1), h2, fun x hx => ?_, fun ys p pm pw hn => ?_⟩
    · obtain ⟨j, hj, rfl⟩ := List.getElem_of_mem hx
      obtain ⟨l, g1, b, g2, g3⟩ := paired_get hp1 (List.getElem?_eq_getElem hj)
      obtain ⟨g4, g5⟩ := hl l (List.mem_of_getElem? g1)
      refine ⟨zi l, ⟨b, g2, .inl (.inl g3)⟩, by simp [g4], fun m hm => ?_⟩
      obtain ⟨y, hy, rfl⟩ := List.mem_map.mp hm
      have := g5 y hy
      omega
    · obtain ⟨ls', p1, p2⟩ := paired_perm pm hp1
      have srt' : ls'.Pairwise fun x y => lcode x ≤ lcode y := paired_pw (fun u v x y hu hv' hc => by
        obtain ⟨b, rfl, hb⟩ := hu
        obtain ⟨c, rfl, hc'⟩ := hv'
        have := hc (zi x) (zi y) ⟨b, rfl, .inl (.inl hb)⟩ ⟨c, rfl, .inl (.inl hc')⟩
        rw [code_lcode, code_lcode] at this
        omega) p2 pw
      have el : ls' = sortL ls := List.Perm.eq_of_pairwise (le := fun x y => lcode x ≤ lcode y) (fun x y hx hy c1 c2 => by
        obtain ⟨a1, a2⟩ := hl x (p1.mem_iff.mp hx)
        obtain ⟨b1, b2⟩ := hl y ((sortL_perm ls).mem_iff.mp hy)
        exact lcode_inj (by omega) a2 b2 (by omega)) srt' (sortL_asc ls) (p1.trans (sortL_perm ls).symm)
      exact q p ys _ hn (Ex.new hn) upd_same (el ▸ PT.ty (.of (Ex.new hn)) p2)
  · refine .inl ⟨a, ws, rfl, .inl (.inl ha1), h2, fun p hn => ?_⟩
    have el : sortL ls = ls := perm_short (sortL_perm ls) (by omega)
    exact q p ws _ hn (Ex.new hn) upd_same (el.symm ▸ hp1.ty (.of (Ex.new hn)))⟩
/-- l.extend(e) on an own list, e a list in the heap -/
abbrev tExt (K : PySem.W.Frag) (to te : TE) : TE := tBM K "list" rExtend to (tCons te tNil)
theorem s_ext {i : Nat} {p : Addr} {xs : List V} {D : Ends} (hv : σ[i]? = some (some (.ref p))) (hl : H p = some (.lst xs)) (h : ∀ Q : VK, (∀ a zs H2, Ex H H2 → H2 a = some (.lst zs) → xs.length + zs.length ≤ 100000 → D.nx σ (upd H2 p (.lst (xs ++ zs))) → Q (.ref a) H2) → te σ H Q) : tDrop (tExt K (tVar i) te) D σ H :=
  ⟨.ref p, hv, .inl ⟨rfl, _, .inl (.inl hl)⟩, h _ fun a zs H2 e ha hz q => ⟨p, a, xs, zs, rfl, rfl, e p _ hl, ha, sz_of hz, q⟩⟩
end
/-! ### walks over own lists, items as they are -/
section
variable {K : PySem.W.Frag} {σ : L2.St} {H : Hp}
abbrev PV (j : Nat) (x : V) (σ0 σ2 : L2.St) (_ : Hp) : Prop := σ2 = σ0.set j (some x)
theorem wk_own {q : Addr} {vs : List V} {j : Nat} {G : Hp → Prop} (h : ∀ H, G H → SqL K H q vs) : Wk (Itl K q) G (gName j) vs (PV j) where
  goes i H hi e := ⟨vs, vs[i], h H e, by simp [hi]⟩
  stops H e := ⟨vs, h H e, Nat.le_refl _⟩
  item i hi H x H' e y σ0 k r := by
    obtain ⟨rfl, y⟩ := y
    have z := y vs (h _ e)
    rw [List.getElem?_eq_getElem hi] at z
    cases z
    exact r _ _ (Ex.refl _) rfl
abbrev PF {α : Type} (F : V → α → Hp → Prop) (j : Nat) (a : α) (σ0 σ2 : L2.St) (H3 : Hp) : Prop := ∃ v, σ2 = σ0.set j (some v) ∧ F v a H3
/-- the items told by a relation -/
theorem wk_ownR {α : Type} {F : V → α → Hp → Prop} {q : Addr} {vs : List V} {xs : List α} {j : Nat} {G : Hp → Prop} (h : ∀ H, G H → SqL K H q vs ∧ Paired (fun v a => F v a H) vs xs) : Wk (Itl K q) G (gName j) xs (PF F j) where
  goes i H hi e := by
    obtain ⟨h1, h2⟩ := h H e
    have hv : i < vs.length := by rw [paired_len h2]; exact hi
    exact ⟨vs, vs[i], h1, by simp [hv]⟩
  stops H e := by
    obtain ⟨h1, h2⟩ := h H e
    exact ⟨vs, h1, by rw [paired_len h2]; exact Nat.le_refl _⟩
  item i hi H x H' e y σ0 k r := by
    obtain ⟨rfl, y⟩ := y
    obtain ⟨h1, h2⟩ := h _ e
    obtain ⟨b, g1, g2⟩ := paired_get h2 (y vs h1)
    rw [List.getElem?_eq_getElem hi] at g1
    cases g1
    exact r _ _ (Ex.refl _) ⟨x, rfl, g2⟩
theorem wk_ownT {α : Type} {F : V → α → Hp → Prop} {q : Addr} {vs : List V} {xs : List α} {j : Nat} {G : Hp → Prop} (h : ∀ H, G H → SqT K H q vs ∧ Paired (fun v a => F v a H) vs xs) : Wk (Itt K q) G (gName j) xs (PF F j) where
  goes i H hi e := by
    obtain ⟨h1, h2⟩ := h H e
    have hv : i < vs.length := by rw [paired_len h2]; exact hi
    exact ⟨vs, vs[i], h1, by simp [hv]⟩
  stops H e := by
    obtain ⟨h1, h2⟩ := h H e
    exact ⟨vs, h1, by rw [paired_len h2]; exact Nat.le_refl _⟩
  item i hi H x H' e y σ0 k r := by
    obtain ⟨rfl, y⟩ := y
    obtain ⟨h1, h2⟩ := h _ e
    obtain ⟨b, g1, g2⟩ := paired_get h2 (y vs h1)
    rw [List.getElem?_eq_getElem hi] at g1
    cases g1
    exact r _ _ (Ex.refl _) ⟨x, rfl, g2⟩
/-- over a named list -/
theorem evg_ownR {α : Type} {F : V → α → Hp → Prop} {i j : Nat} {q : Addr} {vs : List V} {xs : List α} {G : Hp → Prop} (hv : σ[i]? = some (some (.ref q))) (hq : SqL K H q vs) (h : ∀ H, G H → SqL K H q vs ∧ Paired (fun v a => F v a H) vs xs) : EvG (iList K (tVar i)) (gName j) σ H G xs (PF F j) := fun H1 e R r =>
  ⟨_, hv, q, rfl, ⟨vs, ex_l e hq⟩, r _ H1 (Ex.refl _) (wk_ownR h)⟩
end
end Cb
set_option Elab.async false
set_option linter.all false
set_option maxRecDepth 100000
set_option maxHeartbeats 8000000
/-! Cb, the layer: dict comprehensions as steps, dicts as tables. -/
namespace Cb
open PySem PySem.Spec PyProof.Rows L2 Evl
/-- plain keys -/
def PutI : PutW := fun H D y z H' => ∃ kvs k, y = kV k ∧ H D = some (.dK kvs) ∧ kvs.length < sizeLine ∧ H' = upd H D (.dK (putK kvs k z))
theorem dictIH_empty (P : Program) (w : World) (H : Hp) (h : Heap) (hb : sysModules < h.objs.size) : ObjOk P w H (h.push { cls := .type "dict", data := .dict #[] }) h.objs.size (.dK []) := dk_empty h hb
section
variable {X : Cx}
theorem putI_ok : PutOk X PutI := by
  intro Y eP ew eK eA pins σ H H' s E D y z u r Q I ry rz pt h
  obtain ⟨kvs, k, rfl, hD, hl, rfl⟩ := pt
  exact d_dictSet I hD hl ry rz h
/-- name = {..} on one line, the name a local -/
theorem ps_setDcG {E0 : Addr → HO} {Pt : PutW} {i : Nat} {y : Str} {py : Pos} {kx vx tg iter : Expr} {ifs : List Expr} {scope : Scope} {own : List (Str × Nat)} {pos spos : Pos} {wi : TI} {g : TG} {tt : TT} {tk tv : TE}
    (hnew : ∀ (P : Program) (w : World) (H : Hp) (h : Heap), sysModules < h.objs.size → ObjOk P w H (h.push { cls := .type "dict", data := .dict #[] }) h.objs.size (E0 h.objs.size)) (hset : PutOk X Pt)
    (calm : X.calm = true) (uniq : X.N.Nodup) (hy : X.N[i]? = some y) (hyl : X.env.scope.names.lookup y = some .local)
    (hsw : swapsWith (.DictComp kx vx [⟨tg, iter, ifs, 0⟩] scope pos) (some (.Name y py)) spos.line X.env = pure true) (walk : PI X tg iter wi) (ok : BlkOk X.N X.env.scope scope own)
    (wg : ∀ (s : Shared) (H : Hp) (C : Addr) (cl : List (Str × Addr)) (fp : List Addr), PG (X.blk s H scope (compEnvC scope cl C X.env) fp) tg g) (wt : ∀ (s : Shared) (H : Hp) (C : Addr) (cl : List (Str × Addr)) (fp : List Addr), PTs (X.blk s H scope (compEnvC scope cl C X.env) fp) ifs tt)
    (wk : ∀ (s : Shared) (H : Hp) (C : Addr) (cl : List (Str × Addr)) (fp : List Addr), PE (X.blk s H scope (compEnvC scope cl C X.env) fp) kx tk)
    (wv : ∀ (s : Shared) (H : Hp) (C : Addr) (cl : List (Str × Addr)) (fp : List Addr), PE (X.blk s H scope (compEnvC scope cl C X.env) fp) vx tv) (plain : ∀ x, foldedSetIterable iter X.env x = pure x := by intro _; rfl) :
    PS X (.Assign [.Name y py] (.DictComp kx vx [⟨tg, iter, ifs, 0⟩] scope pos) spos) (tAsg (tDcG E0 Pt wi g tt tk tv (own.map (·.2))) (gName i)) := by
  refine ⟨fun pins s σ H D I h => ?_⟩
  rw [exec_Assign_Name_used _ _ _ _ hsw]
  refine wpAny_bind (wpAny_standAt (wpAny_bind ?_))
  show wpAny _ X.A (do let _ ← comprehension (.DictComp kx vx [⟨tg, iter, ifs, 0⟩] scope pos) scope X.env (firstIterPos [⟨tg, iter, ifs, 0⟩] pos) newDict false (eval iter X.env) (some (assign (.Name y py) X.env))) _ _ s
  have h : tDcG E0 Pt wi g tt tk tv (own.map (·.2)) σ H (fun x H1 => gName i x σ H1 D.nx) := h
  refine wpAny_bind (thn (dcg_core (Qf := fun _ s' => SP X pins D .next s') hnew hset calm uniq I walk ok wg wt wk wv plain h fun L C s' m H' I' q hn f => ?_) fun _ s' hq => wpAny_pure (wpAny_pure hq))
  show wpAny _ _ (assign (.Name y py) X.env (.ref L)) _ _ _
  refine wpAny_assign_Name (store_ok2 (v := V.ref L) I' uniq hy (.inl hyl) rfl (fun s2 I2 ⟨a, sb, ha⟩ => ?_) (.inr hyl))
  obtain ⟨f0, f1, f2, f3, f4, f5⟩ := f
  have away : C ≠ a := ha.elim (fun z => z ▸ f1) fun z e => f4 y a z e.symm
  refine ⟨m, hn.sameBut sb away, fun h3 sb3 => ?_⟩
  exact ⟨_, H', I2.turned (t' := s2.toks) (fun b o hb e => (sb3.2 b hb).trans e) f0 f1 f3 f4 f5, q⟩
theorem sw_trueD {kx vx : Expr} {gs : List Comprehension} {scope : Scope} {pos py : Pos} {y : Str} {l : Nat} {env : Env} (hk : env.scope.kind = .function) (hy : env.scope.names.lookup y = some .local) (hl : (py.line == pos.line) = true)
    (ha : (scope.names.any fun (n, k) => n == y && (k == .local || k == .cell)) = false) : swapsWith (.DictComp kx vx gs scope pos) (some (.Name y py)) l env = pure true := by
  have ky : env.kindOf y = some .local := hy
  have hb : env.blockKind = .function := by unfold Env.blockKind; rw [hk]; rfl
  show (pure _ : Sem Bool) = _
  rw [hb, ky]
  have hl' : (py.line == (Expr.DictComp kx vx gs scope pos).pos.line) = true := hl
  rw [hl', ha]
  rfl
end
/-- the loop of such a comprehension -/
theorem dc_gen {α : Type} {J : It} {G : Hp → Prop} {g : TG} {xs : List α} {P : α → L2.St → L2.St → Hp → Prop} (wk : Wk J G g xs P) {E0 : Addr → HO} {Pt : PutW} {tt : TT} {tk tv : TE} {vs : List Nat} {σ : L2.St} {H1 : Hp} {D : Addr} {Q : VK} (Pv : Nat → Hp → Prop)
    (hG : ∀ i H', i ≤ xs.length → Pv i H' → G H') (h0 : Pv 0 (upd H1 D (E0 D))) (hw : ∀ a σ2 H2, a ∈ xs → P a (wipe σ vs) σ2 H2 → wipe σ2 vs = wipe σ vs)
    (hs : ∀ i (hi : i < xs.length) H' σ2 H3, Pv i H' → Ex H' H3 → P xs[i] (wipe σ vs) σ2 H3 → tt σ2 H3 fun b H4 => if b = true then tk σ2 H4 fun y H5 => tv σ2 H5 fun z H6 => ∃ H7, Pt H6 D y z H7 ∧ Pv (i + 1) H7 else Pv (i + 1) H4)
    (hd : ∀ H', Pv xs.length H' → Q (.ref D) H') :
    ∃ W : Nat → Nat → Hp → Prop, (∃ m, W 0 m (upd H1 D (E0 D))) ∧ ∀ i m H, W i m H →
      (J.stop i H ∧ Q (.ref D) H) ∨ (J.go i H ∧ ∃ Nx : Hp → Prop, (∀ H', Nx H' → ∃ m', m' < m ∧ W (i + 1) m' H') ∧ ∀ x H', J.yld i H x H' → g x (wipe σ vs) H' fun σ2 H2 => wipe σ2 vs = wipe σ vs ∧ tt σ2 H2 fun b H3 =>
        if b = true then tk σ2 H3 fun y H4 => tv σ2 H4 fun z H5 => ∃ H6, Pt H5 D y z H6 ∧ Nx H6 else Nx H3) := by
  refine ⟨fun i m H => m = xs.length - i ∧ i ≤ xs.length ∧ Pv i H, ⟨xs.length, by simp, Nat.zero_le _, h0⟩, ?_⟩
  rintro i m H ⟨rfl, hi, p⟩
  have gg := hG i H hi p
  by_cases hlt : i < xs.length
  · refine .inr ⟨wk.goes i H hlt gg, Pv (i + 1), fun H' p' => ⟨xs.length - (i + 1), by omega, rfl, hlt, p'⟩, fun x H' y => ?_⟩
    exact wk.item i hlt H x H' gg y _ _ fun σ2 H3 e hP => ⟨hw _ _ _ (List.getElem_mem hlt) hP, hs i hlt H σ2 H3 p e hP⟩
  · have e : i = xs.length := by omega
    subst e
    exact .inl ⟨wk.stops H gg, hd H p⟩
theorem hu0 {A : Around} {k : Nat} (hr : Room k A) : A.units < cLine := by
  have := hr.un
  omega
theorem hu1 {A : Around} {k : Nat} (hr : Room k A) : A.units + 1 < cLine := by
  have := hr.un
  omega
theorem numE (P : Program) (w : World) (P' : Program) (w' : World) (H : Hp) (h : Heap) (hb : sysModules < h.objs.size) : ObjOk P' w' H (h.push { cls := .type "dict", data := .dict #[] }) h.objs.size (numO P w h.objs.size []) := numO_empty P w H h hb
theorem pe_revLK (K : PySem.W.Frag) {X : Cx} {e : Expr} {te : TE} {k : Nat} {p1 p2 p3 pos : Pos} (he : PE X e te) (h : X.K = K := by rfl) : PE X (.Subscript e (.Slice none none (some (.UnaryOp .USub (.Constant (.int 1) k p1) p2)) p3) pos) (tRevL K te) := h ▸ pe_revL he
/-- the table of a rule's corners -/
abbrev keyL (l : List Nat) : List L2.Key := (zi l).map Sum.inl
theorem keyL_V (l : List Nat) : (keyL l).map kV = (zi l).map V.int := by
  rw [List.map_map]
  rfl
theorem keyL_inj : ∀ {l m : List Nat}, keyL l = keyL m → l = m
  | [], [], _ => rfl
  | [], b :: m, h => by simp at h
  | a :: l, [], h => by simp at h
  | a :: l, b :: m, h => by
    simp only [keyL, zi, List.map_cons, List.cons.injEq, Sum.inl.injEq] at h
    rw [keyL_inj h.2, show a = b by omega]
def TabG (K : PySem.W.Frag) (H : Hp) (d : Addr) (ls : List (List Nat)) (f : List Nat → Q) : Prop := ∃ kvs, H d = some (.dT kvs) ∧ kvs.length ≤ ls.length ∧ ∀ lot ∈ ls, ∃ v, valV kvs (keyL lot) = some v ∧ Dp K H v (eQ (f lot))
theorem tab_ex {K : PySem.W.Frag} {H H' : Hp} {d : Addr} {ls : List (List Nat)} {f : List Nat → Q} (e : Ex H H') (h : TabG K H d ls f) : TabG K H' d ls f := by
  obtain ⟨kvs, h1, h2, h3⟩ := h
  refine ⟨kvs, e d _ h1, h2, fun lot hl => ?_⟩
  obtain ⟨v, a, b⟩ := h3 lot hl
  exact ⟨v, a, dp_ex e b⟩
/-- put one more -/
theorem tab_put {K : PySem.W.Frag} {H : Hp} {d : Addr} {kvs : List (List L2.Key × V)} {ls : List (List Nat)} {f : List Nat → Q} {lot : List Nat} {v : V} (h1 : H d = some (.dT kvs)) (h2 : kvs.length ≤ ls.length) (h3 : ∀ lot ∈ ls, ∃ v, valV kvs (keyL lot) = some v ∧ Dp K H v (eQ (f lot)))
    (hv : Dp K H v (eQ (f lot))) : TabG K (upd H d (.dT (putK kvs (keyL lot) v))) d (ls ++ [lot]) f := by
  refine ⟨_, upd_same, ?_, fun m hm => ?_⟩
  · have := length_putK kvs (keyL lot) v
    rw [List.length_append, List.length_singleton]
    omega
  · rw [valV_put]
    by_cases e : m = lot
    · subst e
      exact ⟨v, if_pos rfl, dp_mut hv rfl h1 rfl⟩
    · have hm' : m ∈ ls := by
        rcases List.mem_append.mp hm with q | q
        · exact q
        · exact absurd (List.mem_singleton.mp q) e
      obtain ⟨u, a, b⟩ := h3 m hm'
      exact ⟨u, by rw [if_neg (fun q => e (keyL_inj q))]; exact a, dp_mut b rfl h1 rfl⟩
theorem tab_new {K : PySem.W.Frag} {H : Hp} {d : Addr} {f : List Nat → Q} : TabG K (upd H d (.dT [])) d [] f := ⟨[], upd_same, Nat.le_refl _, fun _ h => by cases h⟩
/-- a table that is read -/
theorem eva_tab {K : PySem.W.Frag} {σ : L2.St} {H : Hp} {td ty : TE} {ls : List (List Nat)} {f : List Nat → Q} {lot : List Nat} (hd : Evr td σ H fun v H' => ∃ d, v = .ref d ∧ TabG K H' d ls f) (hk : Evr ty σ H (Tp lot)) (hl : lot ∈ ls) : Eva K (tDGet td ty) σ H (eQ (f lot)) := fun H1 e Q q =>
  hd H1 e _ fun x H2 e2 ⟨d, ed, tab⟩ => hk H2 (e.trans e2) _ fun y H3 e3 ⟨b, eb, hb⟩ => by
    subst ed
    subst eb
    obtain ⟨kvs, h1, _, h3⟩ := tab
    obtain ⟨v, a, dv⟩ := h3 lot hl
    refine ⟨d, v, rfl, .inr ⟨kvs, keyL lot, b, .inl (e3 d _ h1), rfl, by rw [keyL_V]; exact hb, a.symm⟩, q v H3 (e2.trans e3) (dp_ex e3 dv)⟩
end Cb
set_option Elab.async false
set_option linter.all false
set_option maxRecDepth 100000
set_option maxHeartbeats 8000000
/-! Cb, defs 8: all lots, tables of corners. -/
namespace Cb
open PySem PySem.Spec PyProof.Rows L2 Evl
section
variable {P : Program} {w : World} {K : PySem.W.Frag} {mg : Str → Option Value} {base : Heap}
/-- a number in, a new list of lots out -/
def spLots (F : Nat → List (List Nat)) : Sp := fun vs H Q _ => ∃ n : Nat, vs = [.int (n : Int)] ∧ n ≤ 6 ∧ ∀ p ws H2, H p = none → Ex H H2 → H2 p = some (.lst ws) → PT H2 ws (F n) → Q (.ref p) H2
theorem evp_lots {σ : L2.St} {H : Hp} {te : TE} {n : Nat} {F : Nat → List (List Nat)} {E : XK} (h : Eva K te σ H (.int (n : Int))) (hn : n ≤ 6) : EvP (tCall (spLots F) [] E (tCons te tNil)) σ H (F n) := fun H1 e Q q =>
  h H1 e _ fun v H2 e2 dv => ⟨n, by rw [dp_int dv]; rfl, hn, fun p ws H3 np e3 hp hw => q p ws H3 (fresh_back e2 np) (e2.trans e3) hp hw⟩
theorem ext_len (n : Nat) (l : List Nat) : (ext n l).length ≤ n := by
  unfold ext
  rw [List.length_map]
  exact Nat.le_trans (List.length_filter_le _ _) (by simp)
theorem atI_neg1' {l : List Int} (h : l ≠ []) : atI (l.map PyData.int) (-1) = some (.int (l.getLastD 0)) := by
  rcases List.eq_nil_or_concat l with e | ⟨r, z, e⟩
  · exact absurd e h
  · subst e
    rw [List.concat_eq_append, List.map_append, List.map_singleton, atI_neg1]
    simp
theorem zi_lastD (l : List Nat) : (zi l).getLastD 0 = ((l.getLastD 0 : Nat) : Int) := by
  rcases List.eq_nil_or_concat l with e | ⟨r, z, e⟩
  · subst e; rfl
  · subst e
    simp
theorem sc_all_lots : FnScope ["many", "found", "level", "size", "longer", "lot", "person"] ["many"] (defScope (topS 36)) := ⟨rfl, rfl, rfl, by decide +kernel, rfl, by decide +kernel, by decide +kernel⟩
theorem bn_all_lots : Bnd "all_lots" 36 ["many"] := fun _ _ _ _ _ _ us hl => match us, hl with | [_], _ => rfl
theorem flat_take {α β : Type} (f : α → List β) {xs : List α} {i : Nat} (h : i < xs.length) : (xs.take (i + 1)).flatMap f = (xs.take i).flatMap f ++ f xs[i] := by
  rw [take_snoc h, List.flatMap_append, List.flatMap_singleton]
theorem flat_few {n s i : Nat} (hn : n ≤ 6) : (((lvl n s).take i).flatMap (ext n)).length ≤ 1000 := by
  have h1 : ∀ L : List (List Nat), (L.flatMap (ext n)).length ≤ L.length * 6 := fun L => by
    induction L with
    | nil => simp
    | cons a L ih =>
      rw [List.flatMap_cons, List.length_append, List.length_cons, Nat.add_mul]
      have := ext_len n a
      omega
  have h2 := h1 ((lvl n s).take i)
  have h3 := lvl_len hn s
  have h4 : ((lvl n s).take i).length ≤ (lvl n s).length := by rw [List.length_take]; omega
  have : ((lvl n s).take i).length * 6 ≤ 64 * 6 := Nat.mul_le_mul_right 6 (by omega)
  omega
theorem has_all_lots {k : Nat} (T : Tb K mg) : Has P w K mg base "all_lots" (k + 1) ["many"] (spLots allLots) := by
  refine has_sp T.f_all_lots sc_all_lots bn_all_lots (fun vs H Q E h => by obtain ⟨_, rfl, _⟩ := h; rfl) fun f cdv A outer s H vs Q E hr h => ?_
  obtain ⟨n, rfl, hn, q⟩ := h
  refine ⟨_, (pss_cons (ps_set (i := 1) sc_all_lots.nd rfl (by first | exact Or.inl rfl | exact Or.inr rfl) (pe_lst (pa_cons (pe_tup pa_nil) pa_nil)))
      (pss_cons (ps_set (i := 2) sc_all_lots.nd rfl (by first | exact Or.inl rfl | exact Or.inr rfl) (pe_lst (pa_cons (pe_tup pa_nil) pa_nil)))
      (pss_cons (ps_for PassesOwn.never rfl (pi_range1 (by rfl) T.range (pa_cons (pv 0) pa_nil)) (pg_name (i := 3) sc_all_lots.nd rfl (by first | exact Or.inl rfl | exact Or.inr rfl)) (pss_cons (ps_set (i := 4) sc_all_lots.nd rfl (by first | exact Or.inl rfl | exact Or.inr rfl) (pe_lst pa_nil))
      (pss_cons (ps_for PassesOwn.never rfl (pi_listK K (pv 2)) (pg_name (i := 5) sc_all_lots.nd rfl (by first | exact Or.inl rfl | exact Or.inr rfl)) (pss_one (ps_expr (pe_bm PySem.F.plainAttrs_list PySem.F.slot_list_extend PySem.F.type_list_extend mt_extend (pv 4) (pa_cons (pe_lc (own := [("person", 6)]) (g := (gName 6)) rfl sc_all_lots.nd (pi_range1 (by rfl) T.range (pa_cons (pv 0) pa_nil)) (blkOk_by (N := ["many", "found", "level", "size", "longer", "lot", "person"]) (sc := defScope (topS 36)) (by decide +kernel)) (fun _ _ _ _ _ => (pg_name (i := 6) sc_all_lots.nd rfl (by first | exact Or.inl rfl | exact Or.inr rfl))) (fun _ _ _ _ _ => pts_one (PW.pt (pw_or (pt_cmpR op_eq (pe_callB (call_lenK K) (by rfl) T.len (by decide +kernel) (pa_cons (pv 5) pa_nil)) pe_int (nomark _)) (pw_or1 (pt_cmpR op_gt (pv 6) (pe_ix (ix_seqK K) (pv 5) (pe_un un_neg pe_int) (fun _ _ => rfl)) (nomark _)))))) (fun _ _ _ _ _ => (pe_op (op_catAK K) (pv 5) (pe_tup (pa_cons (pv 6) pa_nil))))) pa_nil)))))
      (pss_cons (ps_set (i := 2) sc_all_lots.nd rfl (by first | exact Or.inl rfl | exact Or.inr rfl) (pe_callB (cr_sortedK K) (by rfl) T.sorted (by decide +kernel) (pa_cons (pv 4) pa_nil)))
      (pss_one (ps_expr (pe_bm PySem.F.plainAttrs_list PySem.F.slot_list_extend PySem.F.type_list_extend mt_extend (pv 1) (pa_cons (pv 2) pa_nil))))))))
      (pss_one (ps_ret (pv 1)))))), ?_⟩
  refine q_asgP (evp_lst1 evr_nilTp) fun p fs H2 np e2 hp hf => ?_
  refine q_asgP (evp_lst1 evr_nilTp) fun l0 ls0 H3 nl e3 hl0 hls0 => ?_
  have pl : p ≠ l0 := fun z => by rw [z, nl] at hp; cases hp
  refine q_forG (evg_rng (G := fun _ => True) (evaa_cons (eva_var (K := K) rfl (.int (n : Int))) evaa_nil) (by omega) (by omega))
    (fun i σ' H' => ∃ l fs ls z1 z2 z3, σ' = [some (.int (n : Int)), some (.ref p), some (.ref l), z1, z2, z3, none] ∧ Ex H H' ∧ H' p = some (.lst fs) ∧ PT H' fs (lots n i) ∧ H' l = some (.lst ls) ∧ PT H' ls (lvl n i) ∧ p ≠ l) (fun _ _ _ _ _ => trivial)
    (fun H4 e4 => ⟨l0, fs, ls0, none, none, none, rfl, (e2.trans e3).trans e4, e4 p _ (e3 p _ hp), hf.ty (.of (e3.trans e4)), e4 l0 _ hl0, hls0.ty (.of e4), pl⟩) ?_ ?_
  · intro i hi σ' H' σ2 H4 hP e4 hp'
    obtain ⟨l, fs, ls, z1, z2, z3, rfl, eb, hpf, hff, hlf, hlls, npl⟩ := hP
    cases hp'
    have hi' : i < n := by simpa using hi
    refine q_asgL (evl_lst (K := K) evaa_nil) fun r ws H5 nr e5 hr5 dw => ?_
    cases dw
    have e45 := e4.trans e5
    have hp5 := e45 p _ hpf
    have hl5 := e45 l _ hlf
    have rp : p ≠ r := fun z => by rw [z] at hpf; have := e4 r _ hpf; rw [nr] at this; cases this
    have rl : l ≠ r := fun z => by rw [z] at hlf; have := e4 r _ hlf; rw [nr] at this; cases this
    have hf5 := hff.ty (.of e45)
    have hls5 := hlls.ty (.of e45)
    have lf : ls.length = (lvl n i).length := paired_len hlls
    have lv := lvl_len hn i
    -- the inner loop
    refine q_forG (evg_ownR (K := K) (F := fun v l H => Tp l v H) (xs := lvl n i) (G := fun H' => H' l = some (.lst ls) ∧ PT H' ls (lvl n i)) rfl (.inl (.inl hl5)) (fun H' h => ⟨.inl (.inl h.1), h.2⟩))
      (fun j σ' H' => ∃ ws z, σ' = [some (.int (n : Int)), some (.ref p), some (.ref l), some (.int ((List.range (n : Int).toNat)[i] : Nat)), some (.ref r), z, none] ∧ Ex H H' ∧ H' p = some (.lst fs) ∧ PT H' fs (lots n i) ∧ H' l = some (.lst ls) ∧ PT H' ls (lvl n i) ∧ H' r = some (.lst ws) ∧ PT H' ws (((lvl n i).take j).flatMap (ext n)))
      (fun j σ' H' _ h => by obtain ⟨_, _, _, _, _, _, h1, h2, _⟩ := h; exact ⟨h1, h2⟩)
      (fun H6 e6 => ⟨[], z3, rfl, eb.trans (e45.trans e6), e6 p _ hp5, hf5.ty (.of e6), e6 l _ hl5, hls5.ty (.of e6), e6 r _ hr5, .nil⟩) ?_ ?_
    · intro j hj σ' H' σ2 H6 hP e6 hp'
      obtain ⟨ws, z, rfl, eb2, jp, jf, jl, jls, jr, jw⟩ := hP
      obtain ⟨v, rfl, tv⟩ := hp'
      have lj : IsLot n (lvl n i)[j] := ((lvl_mem n i _).mp (List.getElem_mem hj)).1
      generalize hlot : (lvl n i)[j] = lot at tv lj
      have dw : ws.length ≤ 1000 := by rw [paired_len jw]; exact flat_few hn
      refine s_ext rfl (e6 r _ jr) fun Q' q' => ?_
      have src := evi_rng (j := 6) (evaa_cons (eva_var (K := K) (σ := [some (.int (n : Int)), some (.ref p), some (.ref l), some (.int ((List.range (n : Int).toNat)[i] : Nat)), some (.ref r), some v, none]) (H := H6) (i := 0) rfl (.int (n : Int))) evaa_nil) (by omega) (by omega)
      have lotlen := isLot_len lj
      refine lc_gen (R := fun a v H => Tp (lot ++ [a]) v H) src (by simp; omega) (fun a => lot.isEmpty || decide (lot.getLastD 0 < a)) (fun a σ2 H2 _ hp => by cases hp; rfl) (fun a σ2 H2 _ ex hp => ?_) (fun a σ2 H2 _ _ ex hp => ?_) (fun a v H1 H2 h e => h.ty (.of e)) (fun a v H1 q ws _ h hq => h.ty (.er hq rfl)) H6 (Ex.refl _) _ fun a zs H7 na e7 ha pz => ?_
      · cases hp
        have tv2 := tv.ty (.of ex)
        refine Evl.et_is (Evl.et_or (evt_T (K := K) (eva_eqI (eva_lenT (eva_var rfl tv2.dp)) eva_int)) fun hb => evt_T (K := K) (eva_B0 (eva_var rfl (.int (a : Int))) (eva_ixT (eva_var rfl tv2.dp) (eva_neg eva_int) (atI_neg1' fun z => ?_)))) ?_
        · have : decide ((((zi lot).map PyData.int).length : Int) = 0) = true := by rw [z]; rfl
          rw [this] at hb; cases hb
        · rw [zi_lastD]
          have e1 : decide ((((zi lot).map PyData.int).length : Int) = 0) = lot.isEmpty := by
            cases lot with
            | nil => rfl
            | cons x r => simp; omega
          rw [e1]
          congr 1
          exact decide_eq_decide.mpr (by omega)
      · cases hp
        have tv2 := tv.ty (.of ex)
        exact evr_catTp (evr_tp rfl tv2) (evr_oneTp (eva_var (K := K) rfl (.int (a : Int)))) (by simp; omega)
      · have hz : zs.length ≤ 6 := by
          rw [paired_len pz]
          refine Nat.le_trans (List.length_filter_le _ _) ?_
          simp; omega
        have nl : ∀ b, H6 b ≠ none → b ≠ a := fun b hb z => hb (by rw [z]; exact na)
        have pz' : PT H7 zs (ext n lot) := by
          refine PT.ty (.of (er_ex (p := a))) ?_
          show Paired (fun v l => Tp l v (er H7 a)) zs (((List.range n).filter _).map _)
          clear q' hz ha
          have : (n : Int).toNat = n := by omega
          rw [this] at pz
          generalize ((List.range n).filter fun a => lot.isEmpty || decide (lot.getLastD 0 < a)) = L at pz ⊢
          induction pz with
          | nil => exact .nil
          | cons h _ ih => exact .cons h ih
        refine q' a zs H7 e7 ha (by omega) ?_
        have jr7 := e7 r _ (e6 r _ jr)
        have ty7 : Ty H7 (upd H7 r (.lst (ws ++ zs))) := .upd jr7 rfl
        have e67 := e6.trans e7
        refine ⟨_, some v, rfl, (eb2.trans e67).mut ?_, ?_, (jf.ty (.of e67)).ty ty7, ?_, (jls.ty (.of e67)).ty ty7, upd_same, ?_⟩
        · exact fresh_back (eb.trans e4) nr
        · rw [upd_ne rp]; exact e67 p _ jp
        · rw [upd_ne rl]; exact e67 l _ jl
        · rw [flat_take (ext n) hj]
          rw [hlot]
          exact paired_app ((jw.ty (.of e67)).ty ty7) (pz'.ty ty7)
    · intro σ' H' hP
      obtain ⟨ws, z, rfl, eb2, jp, jf, jl, jls, jr, jw⟩ := hP
      rw [List.take_length] at jw
      have el : lvl n (i + 1) = sortL ((lvl n i).flatMap (ext n)) := rfl
      have ll := lvl_len hn (i + 1)
      have lw : ws.length < 64 := by rw [paired_len jw, ← (sortL_perm _).length_eq]; exact ll
      refine q_asgP (evp_sorted (s := i + 1) rfl jr jw (.inl ⟨by omega, lw⟩) fun l hl => ?_) fun l2 ls2 H6 nl2 e6 hl2 hls2 => ?_
      · have := (lvl_mem n (i + 1) l).mp (by rw [el]; exact (sortL_perm _).mem_iff.mpr hl)
        exact ⟨this.2, fun x hx => by have := this.1.2 x hx; omega⟩
      · rw [← el] at hls2
        have jp6 := e6 p _ jp
        have pl2 : p ≠ l2 := fun z => by rw [z, nl2] at jp; cases jp
        have ff : fs.length ≤ 64 := by rw [paired_len jf]; exact few_lots hn (lots_nodup n i) fun l h => ((lots_mem n i l).mp h).1
        have fl : ls2.length < 64 := by rw [paired_len hls2]; exact ll
        have ty6 : Ty H6 (upd H6 p (.lst (fs ++ ls2))) := .upd jp6 rfl
        refine s_ext rfl jp6 fun Q' q' => ⟨_, rfl, q' l2 ls2 H6 (Ex.refl _) hl2 (by omega) ?_⟩
        exact ⟨l2, _, ls2, _, _, _, rfl, (eb2.trans e6).mut np, upd_same, paired_app ((jf.ty (.of e6)).ty ty6) (hls2.ty ty6), by rw [upd_ne (Ne.symm pl2)]; exact hl2, hls2.ty ty6, pl2⟩
  · intro σ' H' hP
    obtain ⟨l, fs, ls, z1, z2, z3, rfl, eb, hpf, hff, hlf, hlls, npl⟩ := hP
    rw [List.length_range] at hff
    have : (n : Int).toNat = n := by omega
    rw [this] at hff
    exact ⟨_, rfl, q p fs H' np eb hpf hff⟩
theorem sc_corners_of : FnScope ["rule", "lot"] ["rule"] (defScope (topS 39)) := ⟨rfl, rfl, rfl, by decide +kernel, rfl, by decide +kernel, by decide +kernel⟩
theorem bn_corners_of : Bnd "corners_of" 39 ["rule"] := fun _ _ _ _ _ _ us hl => match us, hl with | [_], _ => rfl
/-- a rule in, the table of its corners out -/
def spTab (K : PySem.W.Frag) (C : Addr) : Sp := fun vs H Q _ => ∃ n t r, vs = [r] ∧ RuleR K C H r n t ∧ RT n t ∧ ∀ d H2, H d = none → Ex H H2 → TabG K H2 d (allLots n) (cor n t) → Q (.ref d) H2
theorem has_corners_of {k : Nat} (T : Tb K mg) (h_all_lots : Has P w K mg base "all_lots" k ["many"] (spLots allLots)) (h_corner_of : Has P w K mg base "corner_of" k ["rule", "lot"] (spU K (RuleC mg) rCorner)) :
    Has P w K mg base "corners_of" (k + 1) ["rule"] (spTab K (RuleC mg)) := by
  refine has_sp T.f_corners_of sc_corners_of bn_corners_of (fun vs H Q E h => by obtain ⟨_, _, _, rfl, _⟩ := h; rfl) fun f cdv A outer s H vs Q E hr h => ?_
  obtain ⟨n, t, r, rfl, h0, ht, q⟩ := h
  refine ⟨_, (pss_one (ps_ret (pe_dcG (E0 := fun _ => .dT []) (Pt := PutT) (own := [("lot", 1)]) (g := (gName 1)) (tt := tYes) (fun _ _ _ _ h => dictTH_empty _ _ _ _ h) (putT_ok (hu0 hr)) rfl sc_corners_of.nd (pi_listK K (pe_callH h_all_lots hr (pa_cons (pe_fldK K (pv 0)) pa_nil))) (blkOk_by (N := ["rule", "lot"]) (sc := defScope (topS 39)) (by decide +kernel)) (fun _ _ _ _ _ => (pg_name (i := 1) sc_corners_of.nd rfl (by first | exact Or.inl rfl | exact Or.inr rfl))) (fun _ _ _ _ _ => pts_nil) (fun _ _ _ _ _ => (pv 1)) (fun _ _ _ _ _ => (pe_callH h_corner_of hr (pa_cons (pv 0) (pa_cons (pv 1) pa_nil))))))), ?_⟩
  refine evp_lots (eva_people T.cls T.noP (evr_rule (i := 0) rfl h0)) ht.n6 H (Ex.refl _) _ fun l ls H1 nl e1 hl hls => ⟨l, rfl, ⟨ls, .inl (.inl hl)⟩, fun D hD => ?_⟩
  have few := few_lots ht.n6 (allLots_nodup n) fun l h => allLots_mem.mp h
  refine dc_gen (E0 := fun _ => .dT []) (Pt := PutT) (D := D) (Q := Q) (wk_ownR (K := K) (j := 1) (F := fun v l H => Tp l v H) (xs := allLots n) (G := fun H' => H' l = some (.lst ls) ∧ PT H' ls (allLots n)) fun H' h => ⟨.inl (.inl h.1), h.2⟩) (fun i H' => Ex H1 H' ∧ TabG K H' D ((allLots n).take i) (cor n t)) (fun i H' _ h => ⟨h.1 l _ hl, hls.ty (.of h.1)⟩) ?_ (fun a σ2 H2 _ hp => ?_) (fun i hi H' σ2 H3 hP e3 hp => ?_) fun H' hP => ?_
  · exact ⟨Ex.new hD, tab_new⟩
  · obtain ⟨v, rfl, _⟩ := hp; rfl
  · obtain ⟨eb, tab⟩ := hP
    obtain ⟨v, rfl, tv⟩ := hp
    show tVar 1 _ H3 fun y H5 => _
    refine ⟨v, rfl, ?_⟩
    have e13 := (e1.trans eb).trans e3
    refine eva_callU (evr_rule (i := 0) rfl (rule_ex e13 h0)) (evaa_cons (eva_var rfl tv.dp) evaa_nil) ⟨_, rfl, ht, rfl⟩ H3 (Ex.refl _) _ fun z H6 e6 dz => ?_
    obtain ⟨kvs, k1, k2, k3⟩ := tab_ex (e3.trans e6) tab
    obtain ⟨b, rfl, hb⟩ := tv
    refine ⟨_, ⟨kvs, keyL _, b, k1, rfl, by rw [keyL_V]; exact e6 b _ hb, ?_, rfl⟩, ((eb.trans e3).trans e6).mut hD, ?_⟩
    · rw [List.length_take] at k2
      rw [sizeLine_eq]
      omega
    · rw [take_snoc hi]
      exact tab_put k1 k2 k3 dz
  · obtain ⟨eb, tab⟩ := hP
    rw [List.take_length] at tab
    exact q D H' (fresh_back e1 hD) (e1.trans eb) tab
/-- corners_of(rule) -/
def EvTb (K : PySem.W.Frag) (te : TE) (σ : L2.St) (H : Hp) (ls : List (List Nat)) (f : List Nat → Q) : Prop := ∀ H1, Ex H H1 → ∀ Q : VK, (∀ d H2, H1 d = none → Ex H1 H2 → TabG K H2 d ls f → Q (.ref d) H2) → te σ H1 Q
theorem evtb_corners {σ : L2.St} {H : Hp} {te : TE} {n : Nat} {t : Tm} {C : Addr} {E : XK} (h : Evr te σ H (fun v H' => RuleR K C H' v n t)) (ht : RT n t) : EvTb K (tCall (spTab K C) [] E (tCons te tNil)) σ H (allLots n) (cor n t) := fun H1 e Q q =>
  h H1 e _ fun v H2 e2 rv => ⟨n, t, v, rfl, rv, ht, fun d H3 nd e3 tab => q d H3 (fresh_back e2 nd) (e2.trans e3) tab⟩
end
end Cb
set_option Elab.async false
set_option linter.all false
set_option maxRecDepth 100000
set_option maxHeartbeats 8000000
/-! Cb, defs 9: logs, their numbers, places and wishes. -/
namespace Cb
open PySem PySem.Spec PyProof.Rows L2 Evl
/-! ### logs as data -/
def PairR (K : PySem.W.Frag) (C : Addr) (n : Nat) (H : Hp) (v : V) (p : Tm × Q) : Prop := ∃ b r u, v = .ref b ∧ SqT K H b [r, u] ∧ RuleR K C H r n p.1 ∧ Dp K H u (eQ p.2)
def LogR (K : PySem.W.Frag) (C : Addr) (n : Nat) (H : Hp) (v : V) (log : Log) : Prop := ∃ a vs, v = .ref a ∧ SqT K H a vs ∧ Paired (fun v p => PairR K C n H v p) vs log
section
variable {K : PySem.W.Frag} {C : Addr} {H H' : Hp} {v : V} {n : Nat} {log : Log} {p : Tm × Q} {σ : L2.St} {te : TE} {ta : TA} {j k : Nat} {ds : List PyData} {d : PyData}
theorem pair_ex (e : Ex H H') (h : PairR K C n H v p) : PairR K C n H' v p := by
  obtain ⟨b, r, u, rfl, h1, h2, h3⟩ := h
  exact ⟨b, r, u, rfl, ex_t e h1, rule_ex e h2, dp_ex e h3⟩
theorem log_ex (e : Ex H H') (h : LogR K C n H v log) : LogR K C n H' v log := by
  obtain ⟨a, vs, rfl, h1, h2⟩ := h
  exact ⟨a, vs, rfl, ex_t e h1, Paired.mapP h2 fun v p r => pair_ex e r⟩
theorem evr_log {i : Nat} (hv : σ[i]? = some (some v)) (h : LogR K C n H v log) : Evr (tVar i) σ H (fun v H' => LogR K C n H' v log) := evr_var hv fun H1 e => log_ex e h
abbrev PL (K : PySem.W.Frag) (C : Addr) (n j k : Nat) (p : Tm × Q) (σ0 σ2 : L2.St) (H3 : Hp) : Prop := ∃ r u, σ2 = (σ0.set j (some r)).set k (some u) ∧ RuleR K C H3 r n p.1 ∧ Dp K H3 u (eQ p.2)
theorem evi_log1 (h : Evr te σ H (fun v H' => LogR K C n H' v log)) : EvI (iTup K te) (gName j) σ H log (PF (fun v p H => PairR K C n H v p) j) := fun H1 e R q => h H1 e _ fun v H2 e2 lv => by
  obtain ⟨a, vs, rfl, ha, hp⟩ := lv
  exact ⟨a, rfl, ⟨vs, ha⟩, q _ H2 e2 (wk_ownT fun H' e' => ⟨ex_t e' ha, Paired.mapP hp fun v p r => pair_ex e' r⟩)⟩
theorem evi_log (h : Evr te σ H (fun v H' => LogR K C n H' v log)) : EvI (iTup K te) (g2 K j k) σ H log (PL K C n j k) := fun H1 e R q => h H1 e _ fun v H2 e2 lv => by
  obtain ⟨a, vs, rfl, ha, hp⟩ := lv
  refine ⟨a, rfl, ⟨vs, ha⟩, q _ H2 e2 ?_⟩
  have wk : Wk (Itt K a) (Ex H2) (gName 0) log (PF (fun v p H => PairR K C n H v p) 0) := wk_ownT fun H' e' => ⟨ex_t e' ha, Paired.mapP hp fun v p r => pair_ex e' r⟩
  refine ⟨wk.goes, wk.stops, fun i hi H x H' e y σ0 kk q => ?_⟩
  obtain ⟨e3, v, hv, dv⟩ := wk.item i hi H x H' e y [none] (fun σ2 H3 => Ex H H3 ∧ PF (fun v p H => PairR K C n H v p) 0 log[i] [none] σ2 H3) (fun σ2 H3 e3 z => ⟨e3, z⟩)
  have ev : x = v := by simpa using hv
  subst ev
  obtain ⟨b, r, u, rfl, h1, h2, h3⟩ := dv
  exact ⟨b, [r, u], rfl, h1, rfl, r, [u], rfl, u, [], rfl, rfl, q _ _ e3 ⟨r, u, rfl, h2, h3⟩⟩
/-- log[0], pair[0], pair[1] -/
theorem evr_log0 (h : Evr te σ H (fun v H' => LogR K C n H' v (p :: log))) : Evr (tOp (rIx K) te (tC (.int 0))) σ H (fun v H' => PairR K C n H' v p) := fun H1 e Q q => h H1 e _ fun v H2 e2 lv => by
  obtain ⟨a, vs, rfl, ha, hp⟩ := lv
  cases hp with
  | cons h1 h2 => exact .inr (.inl ⟨a, _, 0, _, rfl, rfl, ha, by simp [atI, ixN], q _ H2 e2 h1⟩)
theorem evr_pair0 (h : Evr te σ H (fun v H' => PairR K C n H' v p)) : Evr (tOp (rIx K) te (tC (.int 0))) σ H (fun v H' => RuleR K C H' v n p.1) := fun H1 e Q q => h H1 e _ fun v H2 e2 lv => by
  obtain ⟨b, r, u, rfl, h1, h2, h3⟩ := lv
  exact .inr (.inl ⟨b, _, 0, r, rfl, rfl, h1, rfl, q _ H2 e2 h2⟩)
theorem eva_pair1 (h : Evr te σ H (fun v H' => PairR K C n H' v p)) : Eva K (tOp (rIx K) te (tC (.int 1))) σ H (eQ p.2) := fun H1 e Q q => h H1 e _ fun v H2 e2 lv => by
  obtain ⟨b, r, u, rfl, h1, h2, h3⟩ := lv
  exact .inr (.inl ⟨b, _, 1, u, rfl, rfl, h1, rfl, q _ H2 e2 h3⟩)
theorem tyx_sqt {a : Addr} {xs : List V} (h1 : SqT K H a xs) : TyX K H (.ref a) (.type "tuple") := by
  rcases h1 with (h1 | ⟨o, h1⟩) | ⟨o, its, n, e, c, _⟩
  · exact .base (.tup h1)
  · exact .fTuple h1
  · exact .kTuple e c
/-- isinstance, the thing told by a relation -/
theorem eva_isiR {R : V → Hp → Prop} {c : V} {u t : Value} {b : Bool} (ha : Evr te σ H R) (hc : ClsV c u) (ht : ∀ v H', R v H' → TyX K H' v t) (hk : PySem.W.kitOne K t u = some b) : Eva K (tCB (rIsi K) (tCons te (tCons (tC c) tNil))) σ H (.bool b) := fun H1 e Q q =>
  ha H1 e _ fun x H2 e2 rx => ⟨x, c, t, u, b, rfl, hc, ht x H2 rx, hk, q _ H2 e2 (.bl b)⟩
theorem eva_lenR {R : V → Hp → Prop} {m : Nat} (ha : Evr te σ H R) (ht : ∀ v H', R v H' → ∃ a xs, v = .ref a ∧ (SqL K H' a xs ∨ SqT K H' a xs) ∧ xs.length = m) : Eva K (tCB (rLen2 K) (tCons te tNil)) σ H (.int (m : Int)) := fun H1 e Q q =>
  ha H1 e _ fun x H2 e2 rx => by
    obtain ⟨a, xs, rfl, h1, h2⟩ := ht x H2 rx
    exact ⟨a, xs, rfl, h1, by rw [h2]; exact q _ H2 e2 (.int _)⟩
/-! promises over logs -/
def spG (K : PySem.W.Frag) (C : Addr) (R : Nat → Log → List PyData → PyData → Prop) : Sp := fun vs H Q _ => ∃ n log r rest ds d, vs = r :: rest ∧ LogR K C n H r log ∧ LogOk n log ∧ DpAll K H rest ds ∧ R n log ds d ∧ ∀ v H2, Ex H H2 → Dp K H2 v d → Q v H2
def spGL (K : PySem.W.Frag) (C : Addr) (R : Nat → Log → List PyData → List PyData → Prop) : Sp := fun vs H Q _ => ∃ n log r rest ds es, vs = r :: rest ∧ LogR K C n H r log ∧ LogOk n log ∧ DpAll K H rest ds ∧ R n log ds es ∧ ∀ p ws H2, H p = none → Ex H H2 → H2 p = some (.lst ws) → DpAll K (er H2 p) ws es → Q (.ref p) H2
theorem eva_callG {R : Nat → Log → List PyData → PyData → Prop} {E : XK} (hr : Evr te σ H (fun v H' => LogR K C n H' v log)) (ha : EvaA K ta σ H ds) (ok : LogOk n log) (r : R n log ds d) : Eva K (tCall (spG K C R) [] E (tCons te ta)) σ H d := fun H1 e Q q =>
  hr H1 e _ fun v H2 e2 rv => ha H2 (e.trans e2) _ fun vs H3 e3 dv => ⟨n, log, v, vs, ds, d, by rw [List.append_nil], log_ex e3 rv, ok, dv, r, fun u H4 e4 du => q u H4 ((e2.trans e3).trans e4) du⟩
theorem evl_callG {R : Nat → Log → List PyData → List PyData → Prop} {E : XK} {es : List PyData} (hr : Evr te σ H (fun v H' => LogR K C n H' v log)) (ha : EvaA K ta σ H ds) (ok : LogOk n log) (r : R n log ds es) : EvaL K (tCall (spGL K C R) [] E (tCons te ta)) σ H es := fun H1 e Q q =>
  hr H1 e _ fun v H2 e2 rv => ha H2 (e.trans e2) _ fun vs H3 e3 dv => ⟨n, log, v, vs, ds, es, by rw [List.append_nil], log_ex e3 rv, ok, dv, r, fun p ws H4 np e4 hp du => q p ws H4 (fresh_back (e2.trans e3) np) ((e2.trans e3).trans e4) hp du⟩
end
section
variable {P : Program} {w : World} {K : PySem.W.Frag} {mg : Str → Option Value} {base : Heap} {x : Str} {i k : Nat} {N ps : List Str}
theorem has_G {R : Nat → Log → List PyData → PyData → Prop} (F : FnAt K mg x i) (S : FnScope N ps (defScope (topS i))) (hbnd : Bnd x i ps) (hlen : ∀ n t ds d, R n t ds d → ds.length + 1 = ps.length)
    (hb : ∀ (f : Addr) (cdv : Value) (A : Around) (outer : List Env) (s : Shared) (H : Hp) (r : V) (vs : List V) (Q : VK) (E : XK), Room k (A.deeper (envOfC x (defScope (topS i)) s.heap.objs.size f cdv)) →
      ∀ n log ds d, LogR K (RuleC mg) n H r log → LogOk n log → DpAll K H vs ds → R n log ds d → (∀ v H2, Ex H H2 → Dp K H2 v d → Q v H2) →
      ∃ t, PSs (cxB P w K mg base N x i f cdv A outer s H E) (defBody (topS i)) t ∧ t { nx := fun _ H' => Q .non H', rt := Q } (start N (r :: vs)) H) : Has P w K mg base x (k + 1) ps (spG K (RuleC mg) R) :=
  has_sp F S hbnd (fun vs H Q E h => by
    obtain ⟨n, t, r, rest, ds, d, rfl, _, _, h1, h2, _⟩ := h
    rw [List.length_cons, dpa_len h1]
    exact hlen n t ds d h2) fun f cdv A outer s H vs Q E hr h => by
    obtain ⟨n, t, r, rest, ds, d, rfl, h0, ok, h1, h2, q⟩ := h
    exact hb f cdv A outer s H r rest Q E hr n t ds d h0 ok h1 h2 q
theorem has_GL {R : Nat → Log → List PyData → List PyData → Prop} (F : FnAt K mg x i) (S : FnScope N ps (defScope (topS i))) (hbnd : Bnd x i ps) (hlen : ∀ n t ds d, R n t ds d → ds.length + 1 = ps.length)
    (hb : ∀ (f : Addr) (cdv : Value) (A : Around) (outer : List Env) (s : Shared) (H : Hp) (r : V) (vs : List V) (Q : VK) (E : XK), Room k (A.deeper (envOfC x (defScope (topS i)) s.heap.objs.size f cdv)) →
      ∀ n log ds es, LogR K (RuleC mg) n H r log → LogOk n log → DpAll K H vs ds → R n log ds es → (∀ p ws H2, H p = none → Ex H H2 → H2 p = some (.lst ws) → DpAll K (er H2 p) ws es → Q (.ref p) H2) →
      ∃ t, PSs (cxB P w K mg base N x i f cdv A outer s H E) (defBody (topS i)) t ∧ t { nx := fun _ H' => Q .non H', rt := Q } (start N (r :: vs)) H) : Has P w K mg base x (k + 1) ps (spGL K (RuleC mg) R) :=
  has_sp F S hbnd (fun vs H Q E h => by
    obtain ⟨n, t, r, rest, ds, d, rfl, _, _, h1, h2, _⟩ := h
    rw [List.length_cons, dpa_len h1]
    exact hlen n t ds d h2) fun f cdv A outer s H vs Q E hr h => by
    obtain ⟨n, t, r, rest, ds, d, rfl, h0, ok, h1, h2, q⟩ := h
    exact hb f cdv A outer s H r rest Q E hr n t ds d h0 ok h1 h2 q
end
section
variable {P : Program} {w : World} {K : PySem.W.Frag} {mg : Str → Option Value} {base : Heap}
theorem sc_is_logged : FnScope ["thing"] ["thing"] (defScope (topS 60)) := ⟨rfl, rfl, rfl, by decide +kernel, rfl, by decide +kernel, by decide +kernel⟩
theorem bn_is_logged : Bnd "is_logged" 60 ["thing"] := fun _ _ _ _ _ _ us hl => match us, hl with | [_], _ => rfl
/-- a pair of a log -/
def spIsL (K : PySem.W.Frag) (C : Addr) : Sp := fun vs H Q _ => ∃ n p r, vs = [r] ∧ PairR K C n H r p ∧ Num p.2 ∧ ∀ v H2, Ex H H2 → Dp K H2 v (.bool true) → Q v H2
theorem has_is_logged {k : Nat} (T : Tb K mg) (h_is_number : Has P w K mg base "is_number" k ["thing"] (spR K rIsNum)) : Has P w K mg base "is_logged" (k + 1) ["thing"] (spIsL K (RuleC mg)) := by
  refine has_sp T.f_is_logged sc_is_logged bn_is_logged (fun vs H Q E h => by obtain ⟨_, _, _, rfl, _⟩ := h; rfl) fun f cdv A outer s H vs Q E hr h => ?_
  obtain ⟨n, p, r, rfl, h0, hp, q⟩ := h
  refine ⟨_, (pss_one (ps_ret (pe_and (pe_callB (call_isiKK K) (by rfl) T.isinstance (by decide +kernel) (pa_cons (pv 0) (pa_cons (pe_gTy (T := "tuple") T.tuple (by decide +kernel)) pa_nil))) (pe_and (pe_cmpR op_eq (pe_callB (call_lenK K) (by rfl) T.len (by decide +kernel) (pa_cons (pv 0) pa_nil)) pe_int (nomark _)) (pe_and (pe_callB (call_isiKK K) (by rfl) T.isinstance (by decide +kernel) (pa_cons (pe_ix (ix_seqK K) (pv 0) pe_int (fun _ _ => rfl)) (pa_cons (pe_gRef T.Rule) pa_nil))) (pe_one (pe_callH h_is_number hr (pa_cons (pe_ix (ix_seqK K) (pv 0) pe_int (fun _ _ => rfl)) pa_nil)))))))), ?_⟩
  have er : Evr (tVar 0) (start ["thing"] [r]) H (fun v H' => PairR K (RuleC mg) n H' v p) := evr_var rfl fun H1 e => pair_ex e h0
  refine s_ret (eva_is (eva_and (eva_isiR er (.ty "tuple") (fun v H' h => by obtain ⟨b, r, u, rfl, h1, _⟩ := h; exact tyx_sqt h1) (kit_ty kb_tt)) fun _ => eva_and (eva_eqI (eva_lenR (m := 2) er fun v H' h => by obtain ⟨b, r, u, rfl, h1, _⟩ := h; exact ⟨_, _, rfl, .inr h1, rfl⟩) eva_int) fun _ => eva_and (eva_isiR (evr_pair0 er) (.own _) (fun v H' h => by obtain ⟨a, dx, fs, vt, rfl, h1, _⟩ := h; exact .base (T.tyR H' a dx fs h1)) T.isR) fun _ => eva_call (evaa_cons (eva_pair1 er) evaa_nil) ⟨p.2, rfl, hp, rfl⟩) ?_) q
  rfl
theorem eva_isL {σ : L2.St} {H : Hp} {te : TE} {n : Nat} {p : Tm × Q} {C : Addr} {E : XK} (h : Evr te σ H (fun v H' => PairR K C n H' v p)) (hp : Num p.2) : Eva K (tCall (spIsL K C) [] E (tCons te tNil)) σ H (.bool true) := fun H1 e Q q =>
  h H1 e _ fun v H2 e2 rv => ⟨n, p, v, rfl, rv, hp, fun u H3 e3 du => q u H3 (e2.trans e3) du⟩
theorem sc_people_in : FnScope ["log"] ["log"] (defScope (topS 62)) := ⟨rfl, rfl, rfl, by decide +kernel, rfl, by decide +kernel, by decide +kernel⟩
theorem bn_people_in : Bnd "people_in" 62 ["log"] := fun _ _ _ _ _ _ us hl => match us, hl with | [_], _ => rfl
def rPeo (n : Nat) (log : Log) (ds : List PyData) (d : PyData) : Prop := ds = [] ∧ d = .int (n : Int)
theorem has_people_in {k : Nat} (T : Tb K mg) : Has P w K mg base "people_in" (k + 1) ["log"] (spG K (RuleC mg) rPeo) := by
  refine has_G T.f_people_in sc_people_in bn_people_in (fun n t ds d h => by obtain ⟨rfl, _⟩ := h; rfl) fun f cdv A outer s H r vs Q E hr n log ds d h0 ok hds h q => ?_
  obtain ⟨rfl, rfl⟩ := h
  cases hds
  refine ⟨_, (pss_one (ps_ret (pe_fldK K (pe_ix (ix_seqK K) (pe_ix (ix_seqK K) (pv 0) pe_int (fun _ _ => rfl)) pe_int (fun _ _ => rfl))))), ?_⟩
  have hl := ok.l1
  cases log with
  | nil => simp at hl
  | cons p log => exact s_ret (eva_people T.cls T.noP (evr_pair0 (evr_log0 (evr_log rfl h0)))) q
theorem sc_check_log : FnScope ["thing", "pair", "rule", "number"] ["thing"] (defScope (topS 61)) := ⟨rfl, rfl, rfl, by decide +kernel, rfl, by decide +kernel, by decide +kernel⟩
theorem bn_check_log : Bnd "check_log" 61 ["thing"] := fun _ _ _ _ _ _ us hl => match us, hl with | [_], _ => rfl
def rChkL (n : Nat) (log : Log) (ds : List PyData) (d : PyData) : Prop := ds = [] ∧ d = .none
theorem allT_map {α : Type} (xs : List α) : (xs.map fun _ => true).all id = true := by simp
theorem has_check_log {k : Nat} (T : Tb K mg) (h_is_logged : Has P w K mg base "is_logged" k ["thing"] (spIsL K (RuleC mg))) : Has P w K mg base "check_log" (k + 1) ["thing"] (spG K (RuleC mg) rChkL) := by
  refine has_G T.f_check_log sc_check_log bn_check_log (fun n t ds d h => by obtain ⟨rfl, _⟩ := h; rfl) fun f cdv A outer s H r vs Q E hr n log ds d h0 ok hds h q => ?_
  obtain ⟨rfl, rfl⟩ := h
  cases hds
  refine ⟨_, (pss_cons (ps_if (PW.pt (pw_or (pt_not (pt_val (pe_callB (call_isiKK K) (by rfl) T.isinstance (by decide +kernel) (pa_cons (pv 0) (pa_cons (pe_gTy (T := "tuple") T.tuple (by decide +kernel)) pa_nil))))) (pw_or1 (pt_not (pt_chain op_le op_le pe_int (pe_callB (call_lenK K) (by rfl) T.len (by decide +kernel) (pa_cons (pv 0) pa_nil)) (pe_gInt T.MOST_LOGGED)))))) (pss_one ps_never) pss_nil)
      (pss_cons (ps_if (pt_not (pt_val (pe_callB (cr_allK K) (by rfl) T.all (by decide +kernel) (pa_cons (pe_lc (own := [("pair", 1)]) (g := (gName 1)) (tt := tYes) rfl sc_check_log.nd (pi_tupK K (pv 0)) (blkOk_by (N := ["thing", "pair", "rule", "number"]) (sc := defScope (topS 61)) (by decide +kernel)) (fun _ _ _ _ _ => (pg_name (i := 1) sc_check_log.nd rfl (by first | exact Or.inl rfl | exact Or.inr rfl))) (fun _ _ _ _ _ => pts_nil) (fun _ _ _ _ _ => (pe_callH h_is_logged hr (pa_cons (pv 1) pa_nil)))) pa_nil)))) (pss_one ps_never) pss_nil)
      (pss_one (ps_if (pt_not (pt_val (pe_callB (cr_allK K) (by rfl) T.all (by decide +kernel) (pa_cons (pe_lc (own := [("rule", 2), ("number", 3)]) (g := (g2 K 2 3)) (tt := tYes) rfl sc_check_log.nd (pi_tupK K (pv 0)) (blkOk_by (N := ["thing", "pair", "rule", "number"]) (sc := defScope (topS 61)) (by decide +kernel)) (fun _ _ _ _ _ => (pg_tup rfl (pgs_cons (pg_name (i := 2) sc_check_log.nd rfl (by first | exact Or.inl rfl | exact Or.inr rfl)) (pgs_cons (pg_name (i := 3) sc_check_log.nd rfl (by first | exact Or.inl rfl | exact Or.inr rfl)) pgs_nil)))) (fun _ _ _ _ _ => pts_nil) (fun _ _ _ _ _ => (pe_cmpR op_eq (pe_fldK K (pv 2)) (pe_fldK K (pe_ix (ix_seqK K) (pe_ix (ix_seqK K) (pv 0) pe_int (fun _ _ => rfl)) pe_int (fun _ _ => rfl))) (nomark _)))) pa_nil)))) (pss_one ps_never) pss_nil)))), ?_⟩
  have l1 := ok.l1
  have l4 := ok.l4
  have el : Evr (tVar 0) (start ["thing", "pair", "rule", "number"] [r]) H (fun v H' => LogR K (RuleC mg) n H' v log) := evr_log rfl h0
  have lb : ∀ b : Bool, ((log.map fun _ => b).map PyData.bool).length = log.length := fun b => by simp
  refine Evl.q_when (b := false) (Evl.et_is (Evl.et_or (Evl.et_not (evt_B (K := K) (eva_isiR el (.ty "tuple") (fun v H' h => by obtain ⟨a, vs, rfl, h1, _⟩ := h; exact tyx_sqt h1) (kit_ty kb_tt)))) fun _ => Evl.et_not (evt_T (K := K) (eva_chainI eva_int (eva_lenR (m := log.length) el fun v H' h => by obtain ⟨a, vs, rfl, h1, h2⟩ := h; exact ⟨_, _, rfl, .inr h1, paired_len h2⟩) eva_int))) ?_) (fun hb => by cases hb) fun _ H2 e2 => ?_
  · simp; omega
  have el2 := el.mono e2
  refine Evl.q_when (b := false) (Evl.et_is (Evl.et_not (evt_B (K := K) (eva_all (ns := log.map fun _ => true) (EvaL.eva (EvaL.is (evl_lc1 (fun _ => .bool true) (evi_log1 el2) (by omega) (fun a σ2 H2 _ hp => ?_) (fun a σ2 H2 ha ex hp => ?_) (fun _ _ => rfl)) (by rw [List.map_map]; rfl)))))) (by rw [allT_map]; rfl)) (fun hb => by cases hb) fun _ H3 e3 => ?_
  · obtain ⟨v, rfl, _⟩ := hp; rfl
  · obtain ⟨v, rfl, hv⟩ := hp
    exact eva_isL (evr_var rfl fun H1 e => pair_ex e hv) (ok.ok a ha).num
  have el3 := el2.mono e3
  refine Evl.s_when (b := false) (Evl.et_is (Evl.et_not (evt_B (K := K) (eva_all (ns := log.map fun _ => true) (EvaL.eva (EvaL.is (evl_lc1 (fun _ => .bool true) (evi_log el3) (by omega) (fun a σ2 H2 _ hp => ?_) (fun a σ2 H4 ha ex hp => ?_) (fun _ _ => rfl)) (by rw [List.map_map]; rfl)))))) (by rw [allT_map]; rfl)) (fun hb => by cases hb) fun _ H4 e4 => q .non H4 (e2.trans (e3.trans e4)) .non
  · obtain ⟨r, u, rfl, _⟩ := hp; rfl
  · obtain ⟨r', u, rfl, hr', hu⟩ := hp
    cases log with
    | nil => simp at l1
    | cons p log => exact eva_is (eva_eqI (eva_people T.cls T.noP (evr_rule rfl hr')) (eva_people T.cls T.noP (evr_pair0 (evr_log0 (evr_log rfl (log_ex ((e2.trans e3).trans ex) h0)))))) (by simp)
end
end Cb
set_option Elab.async false
set_option linter.all false
set_option maxRecDepth 100000
set_option maxHeartbeats 8000000
/-! Cb, defs 10: numbers of a log, places, wishes at places, fits. -/
namespace Cb
open PySem PySem.Spec PyProof.Rows L2 Evl
/-! ### == of fractions -/
theorem eqv_eQ (x y : Q) : PyData.eqv (eQ x) (eQ y) = decide (x = y) := by
  show ((x.1 == y.1) && ((x.2 == y.2) && true)) = _
  rw [Bool.and_true]
  obtain ⟨a, b⟩ := x
  obtain ⟨c, d⟩ := y
  by_cases h1 : a = c <;> by_cases h2 : b = d <;> simp [h1, h2]
theorem sh_eQ (x : Q) : SeqAt.shaped (eQ x) = true := rfl
theorem shL (xs : List Q) : SeqAt.shaped (.list (xs.map eQ)) = true := by
  have h1 : ∀ xs : List Q, PyData.canLayAll0 (xs.map eQ) = true := fun xs => by
    induction xs with
    | nil => rfl
    | cons x xs ih =>
      show (PyData.canLay0 (eQ x) && PyData.canLayAll0 (xs.map eQ)) = true
      rw [ih]; rfl
  have h2 : ∀ xs : List Q, PyData.depthAll (xs.map eQ) ≤ 1 := fun xs => by
    induction xs with
    | nil => exact Nat.zero_le _
    | cons x xs ih =>
      show max (PyData.depth (eQ x)) (PyData.depthAll (xs.map eQ)) ≤ 1
      have : PyData.depth (eQ x) = 1 := rfl
      omega
  unfold SeqAt.shaped
  have e1 : PyData.canLay0 (.list (xs.map eQ)) = true := h1 xs
  have e2 : PyData.depth (.list (xs.map eQ)) ≤ 64 := by
    show PyData.depthAll (xs.map eQ) + 1 ≤ 64
    have := h2 xs
    omega
  rw [e1, decide_eq_true e2]
  rfl
theorem any_eqv (xs : List Q) (x : Q) : ((xs.map eQ).any fun z => PyData.eqv z (eQ x)) = decide (x ∈ xs) := by
  induction xs with
  | nil => simp
  | cons y xs ih =>
    rw [List.map_cons, List.any_cons, ih, eqv_eQ]
    by_cases h : y = x
    · subst h; simp
    · have h2 : ¬ x = y := fun q => h q.symm
      simp [h, h2]
section
variable {K : PySem.W.Frag} {σ : L2.St} {H : Hp} {ta tb : TE} {x y : Q}
theorem eva_eqQ (ha : Eva K ta σ H (eQ x)) (hb : Eva K tb σ H (eQ y)) : Eva K (tOp (rEqD K) ta tb) σ H (.bool (decide (x = y))) := eva_is (eva_eqD ha hb (sh_eQ x) (sh_eQ y)) (by rw [eqv_eQ])
theorem eva_neQ (ha : Eva K ta σ H (eQ x)) (hb : Eva K tb σ H (eQ y)) : Eva K (tOp (rNeD K) ta tb) σ H (.bool (!decide (x = y))) := eva_is (eva_neD ha hb (sh_eQ x) (sh_eQ y)) (by rw [eqv_eQ])
theorem eva_inQ {xs : List Q} (ha : Eva K ta σ H (eQ x)) (hb : Eva K tb σ H (.list (xs.map eQ))) : Eva K (tOp (rInD K) ta tb) σ H (.bool (decide (x ∈ xs))) := eva_is (eva_inD ha hb (sh_eQ x) (shL xs)) (by rw [any_eqv])
theorem eva_notInQ {xs : List Q} (ha : Eva K ta σ H (eQ x)) (hb : Eva K tb σ H (.list (xs.map eQ))) : Eva K (tOp (rNotInD K) ta tb) σ H (.bool (!decide (x ∈ xs))) := eva_is (eva_notInD ha hb (sh_eQ x) (shL xs)) (by rw [any_eqv])
end
abbrev keyQ (x : Q) : List L2.Key := [.inl x.1, .inl x.2]
theorem keyQ_inj {x y : Q} (h : keyQ x = keyQ y) : x = y := by
  simp only [keyQ, List.cons.injEq, Sum.inl.injEq, and_true] at h
  exact Prod.ext h.1 h.2
theorem dp_key {K : PySem.W.Frag} {H : Hp} {v : V} {x : Q} (h : Dp K H v (eQ x)) : ∃ b, v = .ref b ∧ SqT K H b ((keyQ x).map kV) := by
  obtain ⟨a, xs, rfl, h1, h2⟩ := dp_tup h
  obtain ⟨u, z, rfl, a1, a2⟩ := dpa2 h2
  cases a1
  cases a2
  exact ⟨a, rfl, h1⟩
theorem key_dp {K : PySem.W.Frag} {H : Hp} {b : Addr} {x : Q} (h : SqT K H b ((keyQ x).map kV)) : Dp K H (.ref b) (eQ x) := .tup h (.cons (.int _) (.cons (.int _) .nil))
theorem keys_dpa {K : PySem.W.Frag} {H : Hp} : ∀ {kas : List (List L2.Key × Addr)} {xs : List Q}, kas.map (·.1) = xs.map keyQ → (∀ e ∈ kas, SqT K H e.2 (e.1.map kV)) → DpAll K H (kas.map fun e => V.ref e.2) (xs.map eQ)
  | [], [], _, _ => .nil
  | [], _ :: _, h, _ => by simp at h
  | _ :: _, [], h, _ => by simp at h
  | e :: kas, x :: xs, h, hk => by
    simp only [List.map_cons, List.cons.injEq] at h
    refine .cons ?_ (keys_dpa h.2 fun e he => hk e (by simp [he]))
    have := hk e (by simp)
    rw [h.1] at this
    exact key_dp this
section
variable {P : Program} {w : World} {K : PySem.W.Frag} {mg : Str → Option Value} {base : Heap}
theorem sc_check_logged_wishes : FnScope ["log", "thing"] ["log", "thing"] (defScope (topS 63)) := ⟨rfl, rfl, rfl, by decide +kernel, rfl, by decide +kernel, by decide +kernel⟩
theorem bn_check_logged_wishes : Bnd "check_logged_wishes" 63 ["log", "thing"] := fun _ _ _ _ _ _ us hl => match us, hl with | [_, _], _ => rfl
def rChkLW (n : Nat) (log : Log) (ds : List PyData) (d : PyData) : Prop := ∃ b, ds = [eW b] ∧ WOk n b ∧ d = .none
theorem has_check_logged_wishes {k : Nat} (T : Tb K mg) (h_are_numbers : Has P w K mg base "are_numbers" k ["thing", "many"] (spR K rAreNums)) (h_people_in : Has P w K mg base "people_in" k ["log"] (spG K (RuleC mg) rPeo)) :
    Has P w K mg base "check_logged_wishes" (k + 1) ["log", "thing"] (spG K (RuleC mg) rChkLW) := by
  refine has_G T.f_check_logged_wishes sc_check_logged_wishes bn_check_logged_wishes (fun n t ds d h => by obtain ⟨_, rfl, _⟩ := h; rfl) fun f cdv A outer s H r vs Q E hr n log ds d h0 ok hds h q => ?_
  obtain ⟨b, rfl, hb, rfl⟩ := h
  obtain ⟨v1, rfl, h1⟩ := dpa1 hds
  refine ⟨_, (pss_one (ps_if (pt_not (pt_val (pe_callH h_are_numbers hr (pa_cons (pv 1) (pa_cons (pe_callH h_people_in hr (pa_cons (pv 0) pa_nil)) pa_nil))))) (pss_one ps_never) pss_nil)), ?_⟩
  have hn6 := ok.n6
  exact Evl.s_when (Evl.et_not (evt_B (K := K) (eva_call (evaa_cons (eva_var rfl h1) (evaa_cons (eva_is (eva_callG (evr_log rfl h0) evaa_nil ok ⟨rfl, rfl⟩) (by rw [← hb.1])) evaa_nil)) ⟨b, rfl, by rw [hb.1]; omega, fun x hx => (hb.2 x hx).num, rfl⟩))) (fun h => by cases h) fun _ H2 e2 => q .non H2 e2 .non
theorem sc_numbers_in : FnScope ["log", "rule", "number"] ["log"] (defScope (topS 64)) := ⟨rfl, rfl, rfl, by decide +kernel, rfl, by decide +kernel, by decide +kernel⟩
theorem bn_numbers_in : Bnd "numbers_in" 64 ["log"] := fun _ _ _ _ _ _ us hl => match us, hl with | [_], _ => rfl
def rNums (n : Nat) (log : Log) (ds es : List PyData) : Prop := ds = [] ∧ es = (nums log).map eQ
theorem told_snoc {log : Log} {i : Nat} (h : i < log.length) : (told log).take (i + 1) = (told log).take i ++ [log[i].2] := by
  have h' : i < (told log).length := by simpa [told] using h
  rw [take_snoc h']
  simp [told]
theorem has_numbers_in {k : Nat} (T : Tb K mg) (h_ascending : Has P w K mg base "ascending" k ["fractions"] (spL K rAsc)) : Has P w K mg base "numbers_in" (k + 1) ["log"] (spGL K (RuleC mg) rNums) := by
  refine has_GL T.f_numbers_in sc_numbers_in bn_numbers_in (fun n t ds d h => by obtain ⟨rfl, _⟩ := h; rfl) fun f cdv A outer s H r vs Q E hr n log ds d h0 ok hds h q => ?_
  obtain ⟨rfl, rfl⟩ := h
  cases hds
  refine ⟨_, (pss_one (ps_ret (pe_callH h_ascending hr (pa_cons (pe_callTy (cr_listN rfl) (by rfl) T.list (by decide +kernel) (pa_cons (pe_dcG (E0 := fun d => numO P w d []) (Pt := PutN P w K) (own := [("rule", 1), ("number", 2)]) (g := (g2 K 1 2)) (tt := tYes) (numE P w) (putN_ok (hu0 hr)) rfl sc_numbers_in.nd (pi_tupK K (pv 0)) (blkOk_by (N := ["log", "rule", "number"]) (sc := defScope (topS 64)) (by decide +kernel)) (fun _ _ _ _ _ => (pg_tup rfl (pgs_cons (pg_name (i := 1) sc_numbers_in.nd rfl (by first | exact Or.inl rfl | exact Or.inr rfl)) (pgs_cons (pg_name (i := 2) sc_numbers_in.nd rfl (by first | exact Or.inl rfl | exact Or.inr rfl)) pgs_nil)))) (fun _ _ _ _ _ => pts_nil) (fun _ _ _ _ _ => (pv 2)) (fun _ _ _ _ _ => pe_bl)) pa_nil)) pa_nil)))), ?_⟩
  have l4 := ok.l4
  have ul := uniqL_len (told log)
  have tl : (told log).length = log.length := by simp [told]
  refine s_retL (evl_call (evaa_cons (d := .list ((uniqL (told log)).map eQ)) ?_ evaa_nil) ⟨uniqL (told log), rfl, by omega, fun x hx => ?_, rfl⟩) q
  · intro H1 e Q q
    show tDcG (fun d => numO P w d []) (PutN P w K) (iTup K (tVar 0)) (g2 K 1 2) tYes (tVar 2) (tC (V.bl true)) [1, 2] (start ["log", "rule", "number"] [r]) H1 (fun v H2 => rListN P w [v] H2 Q)
    refine evi_log (j := 1) (k := 2) (evr_log (σ := start ["log", "rule", "number"] [r]) (i := 0) rfl h0) H1 e _ ?_
    intro J H2 e2 wk D hD
    refine dc_gen (E0 := fun d => numO P w d []) (Pt := PutN P w K) (D := D) (Q := fun v H2 => rListN P w [v] H2 Q) wk (fun i H' => Ex H2 H' ∧ ∃ kas, H' D = some (numO P w D kas) ∧ kas.map (·.1) = (uniqL ((told log).take i)).map keyQ ∧ ∀ e ∈ kas, SqT K H' e.2 (e.1.map kV)) (fun i H' _ h => h.1) ?_ (fun a σ2 H2 _ hp => ?_) (fun i hi H' σ2 H3 hP e3 hp => ?_) fun H' hP => ?_
    · exact ⟨Ex.new hD, [], upd_same, rfl, fun e he => by cases he⟩
    · obtain ⟨r, u, rfl, _⟩ := hp; rfl
    · obtain ⟨eb, kas, k1, k2, k3⟩ := hP
      obtain ⟨r', u, rfl, _, hu⟩ := hp
      obtain ⟨b, rfl, hb⟩ := dp_key hu
      show tVar 2 _ H3 fun y H5 => _
      refine ⟨.ref b, rfl, ?_⟩
      have k1' := e3 D _ k1
      have kl : kas.length ≤ 4 := by
        have e1 : kas.length = (kas.map (·.1)).length := by simp
        rw [e1, k2, List.length_map]
        have := uniqL_len ((told log).take i)
        rw [List.length_take] at this
        omega
      have k3' : ∀ e ∈ kas, SqT K H3 e.2 (e.1.map kV) := fun e he => ex_t e3 (k3 e he)
      have tx : Tx H3 (upd H3 D (numO P w D (putN kas (keyQ log[i].2) b))) := Tx.upd k1' rfl
      refine ⟨_, ⟨kas, keyQ log[i].2, b, k1', rfl, rfl, hb, k3', by rw [sizeLine_eq]; omega, rfl⟩, (eb.trans e3).mut hD, _, upd_same, ?_, fun e he => ?_⟩
      · rw [told_snoc hi, uniqL_snoc]
        unfold putN
        have ea : (kas.any fun e => decide (e.1 = keyQ log[i].2)) = decide (log[i].2 ∈ uniqL ((told log).take i)) := by
          have : (kas.any fun e => decide (e.1 = keyQ log[i].2)) = (kas.map (·.1)).any fun z => decide (z = keyQ log[i].2) := by rw [List.any_map]; rfl
          rw [this, k2, List.any_map]
          refine Bool.eq_iff_iff.mpr ?_
          rw [List.any_eq_true, decide_eq_true_iff]
          constructor
          · rintro ⟨z, hz, e⟩
            have := keyQ_inj (of_decide_eq_true e)
            rw [← this]; exact hz
          · intro h
            exact ⟨_, h, decide_eq_true rfl⟩
        rw [ea]
        by_cases hm : log[i].2 ∈ uniqL ((told log).take i)
        · rw [if_pos hm, if_pos (decide_eq_true hm)]; exact k2
        · rw [if_neg hm, if_neg (by rw [decide_eq_false hm]; exact Bool.false_ne_true), List.map_append, List.map_append, k2]; rfl
      · refine sqt_tx tx ?_
        unfold putN at he
        split at he
        · exact k3' e he
        · rcases List.mem_append.mp he with q | q
          · exact k3' e q
          · rw [List.mem_singleton.mp q]; exact hb
    · obtain ⟨eb, kas, k1, k2, k3⟩ := hP
      have kl : kas.length ≤ 4 := by
        have e1 : kas.length = (kas.map (·.1)).length := by simp
        rw [e1, k2, List.length_map]
        have := uniqL_len ((told log).take log.length)
        rw [List.length_take] at this
        omega
      refine ⟨D, kas, rfl, k1, by omega, fun p hp => q _ _ ((e2.trans eb).trans (Ex.new hp)) ?_⟩
      have et : (told log).take log.length = told log := by rw [← tl, List.take_length]
      rw [et] at k2
      exact dp_newL upd_same (dpa_ex (Ex.new hp) (keys_dpa k2 k3))
  · have := uniqL_mem.mp hx
    obtain ⟨p, hp, rfl⟩ := List.mem_map.mp this
    exact (ok.ok p hp).fq (by decide)
theorem sc_place_of : FnScope ["numbers", "wish", "below", "number"] ["numbers", "wish"] (defScope (topS 65)) := ⟨rfl, rfl, rfl, by decide +kernel, rfl, by decide +kernel, by decide +kernel⟩
theorem bn_place_of : Bnd "place_of" 65 ["numbers", "wish"] := fun _ _ _ _ _ _ us hl => match us, hl with | [_, _], _ => rfl
def rPlaceOf (ds : List PyData) (d : PyData) : Prop := ∃ (ns : List Q) (x : Q), ds = [.list (ns.map eQ), eQ x] ∧ ns.length ≤ 1000 ∧ (∀ y ∈ ns, Fq y) ∧ Fq x ∧ d = .int (placeOf ns x : Int)
theorem cmul_small {i j : Int} (h1 : i.natAbs < 2 ^ 60) (h2 : j.natAbs < 2 ^ 60) : CMulW i j := wide_mul h1 h2 (by decide) (by decide) (by decide)
theorem cmul_n {n : Nat} (h : n ≤ 100000) : CMulW 2 (n : Int) := cmul_small (by decide) (by
  have : (2 : Nat) ^ 60 > 100000 := by decide
  omega)
theorem has_place_of {k : Nat} (T : Tb K mg) (h_is_less : Has P w K mg base "is_less" k ["one", "other"] (spR K rLess)) : Has P w K mg base "place_of" (k + 1) ["numbers", "wish"] (spR K rPlaceOf) := by
  refine has_R T.f_place_of sc_place_of bn_place_of (fun ds d h => by obtain ⟨_, _, rfl, _⟩ := h; rfl) fun f cdv A outer s H vs Q E hr ds d hds h q => ?_
  obtain ⟨ns, x, rfl, hl, hf, hx, rfl⟩ := h
  obtain ⟨v1, v2, rfl, h1, h2⟩ := dpa2 hds
  refine ⟨_, (pss_cons (ps_set (i := 2) sc_place_of.nd rfl (by first | exact Or.inl rfl | exact Or.inr rfl) (pe_callB (call_lenK K) (by rfl) T.len (by decide +kernel) (pa_cons (pe_lc (own := [("number", 3)]) (g := (gName 3)) rfl sc_place_of.nd (pi_listK K (pv 0)) (blkOk_by (N := ["numbers", "wish", "below", "number"]) (sc := defScope (topS 65)) (by decide +kernel)) (fun _ _ _ _ _ => (pg_name (i := 3) sc_place_of.nd rfl (by first | exact Or.inl rfl | exact Or.inr rfl))) (fun _ _ _ _ _ => pts_one (pt_val (pe_callH h_is_less hr (pa_cons (pv 3) (pa_cons (pv 1) pa_nil))))) (fun _ _ _ _ _ => (pv 3))) pa_nil)))
      (pss_one (ps_ret (pe_op op_add (pe_op op_mulW pe_int (pv 2)) (pe_callTy call_int1 (by rfl) T.int (by decide +kernel) (pa_cons (pe_cmpR (op_inDK K (hu65 hr)) (pv 1) (pv 0) (by rfl)) pa_nil)))))), ?_⟩
  refine q_asg (eva_lenL (EvaL.eva (evl_lc (K := K) (fun y => less y x) eQ (EvI.map (evi_list (ds := ns.map eQ) (eva_var rfl h1))) (by omega) (fun a σ2 H2 _ hp => ?_) (fun a σ2 H2 ha ex hp => ?_) (fun a σ2 H2 ha hf ex hp => ?_) (fun _ _ => rfl)))) fun v H2 e dv => ?_
  · obtain ⟨v, rfl, _⟩ := hp; rfl
  · obtain ⟨v, rfl, hv⟩ := hp
    exact evt_B (K := K) (eva_call (evaa_cons (eva_var rfl hv) (evaa_cons (eva_var rfl (dp_ex ex h2)) evaa_nil)) ⟨a, x, rfl, (hf a ha).sm, hx.sm, rfl⟩)
  · obtain ⟨v, rfl, hv⟩ := hp
    exact eva_var rfl hv
  · cases dv
    rw [List.length_map]
    have hfl : (ns.filter fun y => less y x).length ≤ ns.length := List.length_filter_le _ _
    refine s_ret (eva_is (eva_I0 (eva_I (eva_int) (eva_var rfl (.int _)) (cmul_n (by omega))) (eva_intB (eva_inQ (eva_var rfl (dp_ex e h2)) (eva_var rfl (dp_ex e h1))))) ?_) fun v H3 e3 dv => q v H3 (e.trans e3) dv
    unfold placeOf
    by_cases hm : x ∈ ns <;> simp [hm]
theorem sc_places_open : FnScope ["numbers"] ["numbers"] (defScope (topS 67)) := ⟨rfl, rfl, rfl, by decide +kernel, rfl, by decide +kernel, by decide +kernel⟩
theorem bn_places_open : Bnd "places_open" 67 ["numbers"] := fun _ _ _ _ _ _ us hl => match us, hl with | [_], _ => rfl
def rOpen (ds : List PyData) (d : PyData) : Prop := ∃ ns : List Q, ds = [.list (ns.map eQ)] ∧ 1 ≤ ns.length ∧ ns.length ≤ 1000 ∧ d = .int (openMany ns : Int)
theorem has_places_open {k : Nat} (T : Tb K mg) : Has P w K mg base "places_open" (k + 1) ["numbers"] (spR K rOpen) := by
  refine has_R T.f_places_open sc_places_open bn_places_open (fun ds d h => by obtain ⟨_, rfl, _⟩ := h; rfl) fun f cdv A outer s H vs Q E hr ds d hds h q => ?_
  obtain ⟨ns, rfl, hl, hl2, rfl⟩ := h
  obtain ⟨v1, rfl, h1⟩ := dpa1 hds
  refine ⟨_, (pss_one (ps_ret (pe_op op_sub (pe_op op_sub (pe_op op_add (pe_op op_mulW pe_int (pe_callB (call_lenK K) (by rfl) T.len (by decide +kernel) (pa_cons (pv 0) pa_nil))) pe_int) (pe_callTy call_int1 (by rfl) T.int (by decide +kernel) (pa_cons (pe_cmpR (op_eqDK K hr.units) (pe_ix (ix_seqK K) (pv 0) pe_int (fun _ _ => rfl)) (pe_gRef T.ZERO) (nomark _)) pa_nil))) (pe_callTy call_int1 (by rfl) T.int (by decide +kernel) (pa_cons (pe_cmpR (op_eqDK K hr.units) (pe_ix (ix_seqK K) (pv 0) (pe_un un_neg pe_int) (fun _ _ => rfl)) (pe_gRef T.ONE) (nomark _)) pa_nil))))), ?_⟩
  have e1 : Eva K (tVar 0) (start ["numbers"] [v1]) H (.list (ns.map eQ)) := eva_var rfl h1
  have g : ∀ j, j < ns.length → ns[j]? = some (ns.getD j (0, 1)) := fun j hj => by rw [List.getD_eq_getElem?_getD, List.getElem?_eq_getElem hj]; rfl
  have a0 : atI (ns.map eQ) 0 = some (eQ (ns.getD 0 (0, 1))) := by
    have := atN (ds := ns.map eQ) (j := 0) (d := eQ (ns.getD 0 (0, 1))) (by rw [List.getElem?_map, g 0 (by omega)]; rfl)
    exact this
  have a1 : atI (ns.map eQ) (-1) = some (eQ (ns.getD (ns.length - 1) (0, 1))) := by
    rcases List.eq_nil_or_concat ns with e | ⟨r, z, e⟩
    · subst e; simp at hl
    · rw [List.concat_eq_append] at e
      subst e
      rw [List.map_append, List.map_singleton, atI_neg1]
      congr 2
      simp
  refine s_ret (eva_is (eva_I0 (eva_I0 (eva_I0 (eva_I eva_int (eva_lenL e1) (cmul_n (by rw [List.length_map]; omega))) eva_int) (eva_intB (eva_eqQ (eva_ixL e1 eva_int a0) (eva_c (dp_zero T H))))) (eva_intB (eva_eqQ (eva_ixL e1 (eva_neg eva_int) a1) (eva_c (dp_one T H))))) ?_) q
  unfold openMany
  rw [List.length_map]
  by_cases hm : ns.getD 0 (0, 1) = (0, 1) <;> by_cases hm2 : ns.getD (ns.length - 1) (0, 1) = (1, 1) <;> simp only [hm, hm2, decide_true, decide_false, if_true, if_false, PyData.int.injEq] <;> (try simp only [Bool.false_eq_true, if_false]) <;> omega
theorem sc_bits_of : FnScope ["lot", "person"] ["lot"] (defScope (topS 68)) := ⟨rfl, rfl, rfl, by decide +kernel, rfl, by decide +kernel, by decide +kernel⟩
theorem bn_bits_of : Bnd "bits_of" 68 ["lot"] := fun _ _ _ _ _ _ us hl => match us, hl with | [_], _ => rfl
def rBits (ds : List PyData) (d : PyData) : Prop := ∃ l : List Nat, ds = [eL l] ∧ l.length ≤ 1000 ∧ (∀ x ∈ l, x < 10) ∧ d = .int (mask l : Int)
theorem has_bits_of {k : Nat} (T : Tb K mg) : Has P w K mg base "bits_of" (k + 1) ["lot"] (spR K rBits) := by
  refine has_R T.f_bits_of sc_bits_of bn_bits_of (fun ds d h => by obtain ⟨_, rfl, _⟩ := h; rfl) fun f cdv A outer s H vs Q E hr ds d hds h q => ?_
  obtain ⟨l, rfl, hl, hx, rfl⟩ := h
  obtain ⟨v1, rfl, h1⟩ := dpa1 hds
  refine ⟨_, (pss_one (ps_ret (pe_callB (cr_sumK K) (by rfl) T.sum (by decide +kernel) (pa_cons (pe_lc (own := [("person", 1)]) (g := (gName 1)) (tt := tYes) rfl sc_bits_of.nd (pi_tupK K (pv 0)) (blkOk_by (N := ["lot", "person"]) (sc := defScope (topS 68)) (by decide +kernel)) (fun _ _ _ _ _ => (pg_name (i := 1) sc_bits_of.nd rfl (by first | exact Or.inl rfl | exact Or.inr rfl))) (fun _ _ _ _ _ => pts_nil) (fun _ _ _ _ _ => (pe_op op_shl pe_int (pv 1)))) pa_nil)))), ?_⟩
  have src : EvI (iTup K (tVar 0)) (gName 1) (start ["lot", "person"] [v1]) H l (fun x => P1 K 1 (.int (x : Int))) := by
    have z := evi_tup (K := K) (j := 1) (eva_var (σ := start ["lot", "person"] [v1]) (i := 0) rfl h1)
    rw [zi, List.map_map] at z
    exact z.map
  refine s_ret (eva_is (eva_sum (ns := l.map fun p => ((2 ^ p : Nat) : Int)) (EvaL.eva (EvaL.is (evl_lc1 (fun p => .int ((2 ^ p : Nat) : Int)) src (by omega) (fun a σ2 H2 _ hp => ?_) (fun a σ2 H2 ha ex hp => ?_) (fun _ _ => rfl)) (by rw [List.map_map]; rfl)))) ?_) q
  · obtain ⟨v, rfl, _⟩ := hp; rfl
  · obtain ⟨v, rfl, hv⟩ := hp
    refine eva_is (eva_I eva_int (eva_var rfl hv) ⟨by omega, by have := hx a ha; omega, by decide⟩) ?_
    rw [Int.one_mul, Int.toNat_natCast, Int.natCast_pow]
    rfl
  · have : ∀ l : List Nat, (l.map fun p => ((2 ^ p : Nat) : Int)).sum = ((mask l : Nat) : Int) := fun l => by
      induction l with
      | nil => rfl
      | cons x l ih => rw [List.map_cons, List.sum_cons, ih]; simp [mask]
    rw [this]
theorem sc_is_part : FnScope ["lot", "other"] ["lot", "other"] (defScope (topS 71)) := ⟨rfl, rfl, rfl, by decide +kernel, rfl, by decide +kernel, by decide +kernel⟩
theorem bn_is_part : Bnd "is_part" 71 ["lot", "other"] := fun _ _ _ _ _ _ us hl => match us, hl with | [_, _], _ => rfl
def rPart (ds : List PyData) (d : PyData) : Prop := ∃ a b : Nat, ds = [.int (a : Int), .int (b : Int)] ∧ d = .bool (isPart a b)
theorem and_nat (a b : Nat) : Builtin.bitAnd (a : Int) (b : Int) = ((a &&& b : Nat) : Int) := by
  unfold Builtin.bitAnd
  rw [decide_eq_true (by omega : (0 : Int) ≤ a), decide_eq_true (by omega : (0 : Int) ≤ b)]
  rfl
theorem has_is_part {k : Nat} (T : Tb K mg) : Has P w K mg base "is_part" (k + 1) ["lot", "other"] (spR K rPart) := by
  refine has_R T.f_is_part sc_is_part bn_is_part (fun ds d h => by obtain ⟨_, _, rfl, _⟩ := h; rfl) fun f cdv A outer s H vs Q E hr ds d hds h q => ?_
  obtain ⟨a, b, rfl, rfl⟩ := h
  obtain ⟨v1, v2, rfl, h1, h2⟩ := dpa2 hds
  refine ⟨_, (pss_one (ps_ret (pe_cmpR op_eq (pe_op op_and (pv 0) (pv 1)) (pv 0) (nomark _)))), ?_⟩
  refine s_ret (eva_is (eva_eqI (eva_I0 (eva_var rfl h1) (eva_var rfl h2)) (eva_var rfl h1)) ?_) q
  rw [and_nat]
  unfold isPart
  congr 1
  exact decide_eq_decide.mpr (by omega)
theorem sc_wish_at : FnScope ["numbers", "place", "above"] ["numbers", "place"] (defScope (topS 66)) := ⟨rfl, rfl, rfl, by decide +kernel, rfl, by decide +kernel, by decide +kernel⟩
theorem bn_wish_at : Bnd "wish_at" 66 ["numbers", "place"] := fun _ _ _ _ _ _ us hl => match us, hl with | [_, _], _ => rfl
def rWishAt (ds : List PyData) (d : PyData) : Prop := ∃ (ns : List Q) (p : Nat), ds = [.list (ns.map eQ), .int (p : Int)] ∧ ns.length ≤ 1000 ∧ p ≤ 2 * ns.length ∧ (∀ x ∈ ns, VOk 1200 x) ∧ d = eQ (wishAt ns p)
theorem at_get {ns : List Q} {j : Nat} (h : j < ns.length) : atI (ns.map eQ) (j : Int) = some (eQ (ns.getD j (0, 1))) := atN (by rw [List.getElem?_map, List.getD_eq_getElem?_getD, List.getElem?_eq_getElem h]; rfl)
theorem cdiv2 {p : Nat} (h : p ≤ 100000) : CDivW (p : Int) 2 := ⟨by decide, by decide +kernel⟩
theorem has_wish_at {k : Nat} (T : Tb K mg) (h_half : Has P w K mg base "half" k ["one", "other"] (spR K rHalf)) : Has P w K mg base "wish_at" (k + 1) ["numbers", "place"] (spR K rWishAt) := by
  refine has_R T.f_wish_at sc_wish_at bn_wish_at (fun ds d h => by obtain ⟨_, _, rfl, _⟩ := h; rfl) fun f cdv A outer s H vs Q E hr ds d hds h q => ?_
  obtain ⟨ns, p, rfl, hl, hp, hv, rfl⟩ := h
  obtain ⟨v1, v2, rfl, h1, h2⟩ := dpa2 hds
  refine ⟨_, (pss_cons (ps_if (pt_cmpR op_eq (pe_op op_mod (pv 1) pe_int) pe_int (nomark _)) (pss_one (ps_ret (pe_ix (ix_seqK K) (pv 0) (pe_op op_fdivW (pv 1) pe_int) (fun _ _ => rfl)))) pss_nil)
      (pss_cons (ps_set (i := 2) sc_wish_at.nd rfl (by first | exact Or.inl rfl | exact Or.inr rfl) (pe_op op_fdivW (pv 1) pe_int))
      (pss_cons (ps_if (pt_cmpR op_eq (pv 2) pe_int (nomark _)) (pss_one (ps_ret (pe_gRef T.ZERO))) pss_nil)
      (pss_one (ps_ret (pe_ifExp (pt_cmpR op_eq (pv 2) (pe_callB (call_lenK K) (by rfl) T.len (by decide +kernel) (pa_cons (pv 0) pa_nil)) (nomark _)) (pe_gRef T.ONE) (pe_callH h_half hr (pa_cons (pe_ix (ix_seqK K) (pv 0) (pe_op op_sub (pv 2) pe_int) (fun _ _ => rfl)) (pa_cons (pe_ix (ix_seqK K) (pv 0) (pv 2) (fun _ _ => rfl)) pa_nil))))))))), ?_⟩
  have gv : ∀ j, j < ns.length → VOk 1200 (ns.getD j (0, 1)) := fun j hj => by
    rw [List.getD_eq_getElem?_getD, List.getElem?_eq_getElem hj]
    exact hv _ (List.getElem_mem hj)
  have em : ((p : Int) % 2) = ((p % 2 : Nat) : Int) := by omega
  have ed : ((p : Int) / 2) = ((p / 2 : Nat) : Int) := by omega
  refine Evl.q_when (evt_T (K := K) (eva_eqI (eva_I (eva_var rfl h2) eva_int (by decide)) eva_int)) (fun hb H2 e2 => ?_) (fun hb H2 e2 => ?_)
  · have hb' := of_decide_eq_true hb
    have h3 : p % 2 = 1 := by omega
    refine s_ret (eva_ixL (eva_var rfl (dp_ex e2 h1)) (eva_I (eva_var rfl (dp_ex e2 h2)) eva_int (cdiv2 (by omega))) (d := eQ (wishAt ns p)) ?_) fun v H3 e3 dv => q v H3 (e2.trans e3) dv
    unfold wishAt
    rw [if_pos h3]
    show atI (ns.map eQ) ((p : Int) / 2) = _
    rw [ed]
    exact at_get (by omega)
  · have hb' := of_decide_eq_false hb
    have h3 : ¬ p % 2 = 1 := by omega
    refine q_asg (eva_I (eva_var rfl (dp_ex e2 h2)) eva_int (cdiv2 (by omega))) fun v H3 e3 dv => ?_
    have dv' : Dp K H3 v (.int ((p / 2 : Nat) : Int)) := by rw [← ed]; exact dv
    cases dv'
    have e23 := e2.trans e3
    refine Evl.q_when (evt_T (K := K) (eva_eqI (eva_var rfl (.int _)) eva_int)) (fun hb H4 e4 => ?_) (fun hb H4 e4 => ?_)
    · have h4 : p / 2 = 0 := by have := of_decide_eq_true hb; omega
      refine s_ret (eva_c (dp_zero T H4)) fun v H5 e5 dv => q v H5 (e23.trans (e4.trans e5)) ?_
      unfold wishAt
      rw [if_neg h3, if_pos h4]
      exact dv
    · have h4 : ¬ p / 2 = 0 := by have := of_decide_eq_false hb; omega
      refine s_ret (R := fun v H' => Dp K H' v (eQ (wishAt ns p))) (eva_if (evt_T (K := K) (eva_eqI (eva_var rfl (.int _)) (eva_lenL (eva_var rfl (dp_ex (e23.trans e4) h1))))) (fun hj => ?_) (fun hj => ?_)) fun v H5 e5 dv => q v H5 (e23.trans (e4.trans e5)) dv
      · rw [List.length_map] at hj
        have h5 : p / 2 = ns.length := by have := of_decide_eq_true hj; omega
        refine eva_is (eva_c (dp_one T H4)) ?_
        unfold wishAt
        rw [if_neg h3, if_neg h4, if_pos h5]
      · rw [List.length_map] at hj
        have h5 : ¬ p / 2 = ns.length := by have := of_decide_eq_false hj; omega
        refine eva_is (eva_call (evaa_cons (eva_ixL (eva_var rfl (dp_ex (e23.trans e4) h1)) (eva_I0 (eva_var rfl (.int _)) eva_int) (by rw [show ((p / 2 : Nat) : Int) - 1 = ((p / 2 - 1 : Nat) : Int) by omega]; exact at_get (by omega))) (evaa_cons (eva_ixL (eva_var rfl (dp_ex (e23.trans e4) h1)) (eva_var rfl (.int _)) (at_get (by omega))) evaa_nil)) ⟨_, _, rfl, (gv _ (by omega)).mono (by decide), (gv _ (by omega)).mono (by decide), rfl⟩) ?_
        unfold wishAt
        rw [if_neg h3, if_neg h4, if_neg h5]
        rfl
theorem sc_do_fit : FnScope ["log", "wishes", "rule", "number"] ["log", "wishes"] (defScope (topS 76)) := ⟨rfl, rfl, rfl, by decide +kernel, rfl, by decide +kernel, by decide +kernel⟩
theorem bn_do_fit : Bnd "do_fit" 76 ["log", "wishes"] := fun _ _ _ _ _ _ us hl => match us, hl with | [_, _], _ => rfl
def rFit (n : Nat) (log : Log) (ds : List PyData) (d : PyData) : Prop := ∃ b, ds = [eW b] ∧ WOk n b ∧ d = .bool (doFit n log b)
theorem has_do_fit {k : Nat} (T : Tb K mg) (h_outcome_of : Has P w K mg base "outcome_of" k ["rule", "wishes"] (spU K (RuleC mg) rOutc)) : Has P w K mg base "do_fit" (k + 1) ["log", "wishes"] (spG K (RuleC mg) rFit) := by
  refine has_G T.f_do_fit sc_do_fit bn_do_fit (fun n t ds d h => by obtain ⟨_, rfl, _⟩ := h; rfl) fun f cdv A outer s H r vs Q E hr n log ds d h0 ok hds h q => ?_
  obtain ⟨b, rfl, hb, rfl⟩ := h
  obtain ⟨v1, rfl, h1⟩ := dpa1 hds
  refine ⟨_, (pss_one (ps_ret (pe_callB (cr_allK K) (by rfl) T.all (by decide +kernel) (pa_cons (pe_lc (own := [("rule", 2), ("number", 3)]) (g := (g2 K 2 3)) (tt := tYes) rfl sc_do_fit.nd (pi_tupK K (pv 0)) (blkOk_by (N := ["log", "wishes", "rule", "number"]) (sc := defScope (topS 76)) (by decide +kernel)) (fun _ _ _ _ _ => (pg_tup rfl (pgs_cons (pg_name (i := 2) sc_do_fit.nd rfl (by first | exact Or.inl rfl | exact Or.inr rfl)) (pgs_cons (pg_name (i := 3) sc_do_fit.nd rfl (by first | exact Or.inl rfl | exact Or.inr rfl)) pgs_nil)))) (fun _ _ _ _ _ => pts_nil) (fun _ _ _ _ _ => (pe_cmpR (op_eqDK K hr.units) (pe_callH h_outcome_of hr (pa_cons (pv 2) (pa_cons (pv 1) pa_nil))) (pv 3) (nomark _)))) pa_nil)))), ?_⟩
  have l4 := ok.l4
  refine s_ret (eva_is (eva_all (ns := log.map fun p => decide (outc n p.1 b = p.2)) (EvaL.eva (EvaL.is (evl_lc1 (fun p => .bool (decide (outc n p.1 b = p.2))) (evi_log (evr_log rfl h0)) (by omega) (fun a σ2 H2 _ hp => ?_) (fun a σ2 H4 ha ex hp => ?_) (fun _ _ => rfl)) (by rw [List.map_map]; rfl)))) ?_) q
  · obtain ⟨r, u, rfl, _⟩ := hp; rfl
  · obtain ⟨r', u, rfl, hr', hu⟩ := hp
    exact eva_eqQ (eva_callU (evr_rule rfl hr') (evaa_cons (eva_var rfl (dp_ex ex h1)) evaa_nil) ⟨b, rfl, ok.rt a ha, hb, rfl⟩) (eva_var rfl hu)
  · unfold doFit
    rw [List.all_map]
    rfl
theorem sc_fits : FnScope ["log", "wishes"] ["log", "wishes"] (defScope (topS 77)) := ⟨rfl, rfl, rfl, by decide +kernel, rfl, by decide +kernel, by decide +kernel⟩
theorem bn_fits : Bnd "fits" 77 ["log", "wishes"] := fun _ _ _ _ _ _ us hl => match us, hl with | [_, _], _ => rfl
theorem has_fits {k : Nat} (T : Tb K mg) (h_check_log : Has P w K mg base "check_log" k ["thing"] (spG K (RuleC mg) rChkL)) (h_check_logged_wishes : Has P w K mg base "check_logged_wishes" k ["log", "thing"] (spG K (RuleC mg) rChkLW))
    (h_do_fit : Has P w K mg base "do_fit" k ["log", "wishes"] (spG K (RuleC mg) rFit)) : Has P w K mg base "fits" (k + 1) ["log", "wishes"] (spG K (RuleC mg) rFit) := by
  refine has_G T.f_fits sc_fits bn_fits (fun n t ds d h => by obtain ⟨_, rfl, _⟩ := h; rfl) fun f cdv A outer s H r vs Q E hr n log ds d h0 ok hds h q => ?_
  obtain ⟨b, rfl, hb, rfl⟩ := h
  obtain ⟨v1, rfl, h1⟩ := dpa1 hds
  refine ⟨_, (pss_cons (ps_expr (pe_callH h_check_log hr (pa_cons (pv 0) pa_nil)))
      (pss_cons (ps_expr (pe_callH h_check_logged_wishes hr (pa_cons (pv 0) (pa_cons (pv 1) pa_nil))))
      (pss_one (ps_ret (pe_callH h_do_fit hr (pa_cons (pv 0) (pa_cons (pv 1) pa_nil))))))), ?_⟩
  refine q_drop (eva_callG (K := K) (evr_log rfl h0) evaa_nil ok ⟨rfl, rfl⟩) fun v H2 e2 _ => ?_
  refine q_drop (eva_callG (K := K) (evr_log rfl (log_ex e2 h0)) (evaa_cons (eva_var rfl (dp_ex e2 h1)) evaa_nil) ok ⟨b, rfl, hb, rfl⟩) fun v H3 e3 _ => ?_
  exact s_ret (eva_callG (evr_log rfl (log_ex (e2.trans e3) h0)) (evaa_cons (eva_var rfl (dp_ex (e2.trans e3) h1)) evaa_nil) ok ⟨b, rfl, hb, rfl⟩) fun v H4 e4 dv => q v H4 ((e2.trans e3).trans e4) dv
theorem sc_places : FnScope ["log", "wishes", "numbers", "wish"] ["log", "wishes"] (defScope (topS 79)) := ⟨rfl, rfl, rfl, by decide +kernel, rfl, by decide +kernel, by decide +kernel⟩
theorem bn_places : Bnd "places" 79 ["log", "wishes"] := fun _ _ _ _ _ _ us hl => match us, hl with | [_, _], _ => rfl
def rPlaces (n : Nat) (log : Log) (ds : List PyData) (d : PyData) : Prop := ∃ b, ds = [eW b] ∧ WOk n b ∧ d = eL (b.map (placeOf (nums log)))
theorem nums_fq {n : Nat} {log : Log} (ok : LogOk n log) : ∀ x ∈ nums log, VOk 1200 x := fun x hx => by
  obtain ⟨p, hp, rfl⟩ := List.mem_map.mp (nums_mem.mp hx)
  exact ok.ok p hp
theorem has_places {k : Nat} (T : Tb K mg) (h_check_log : Has P w K mg base "check_log" k ["thing"] (spG K (RuleC mg) rChkL)) (h_check_logged_wishes : Has P w K mg base "check_logged_wishes" k ["log", "thing"] (spG K (RuleC mg) rChkLW))
    (h_numbers_in : Has P w K mg base "numbers_in" k ["log"] (spGL K (RuleC mg) rNums)) (h_place_of : Has P w K mg base "place_of" k ["numbers", "wish"] (spR K rPlaceOf)) : Has P w K mg base "places" (k + 1) ["log", "wishes"] (spG K (RuleC mg) rPlaces) := by
  refine has_G T.f_places sc_places bn_places (fun n t ds d h => by obtain ⟨_, rfl, _⟩ := h; rfl) fun f cdv A outer s H r vs Q E hr n log ds d h0 ok hds h q => ?_
  obtain ⟨b, rfl, hb, rfl⟩ := h
  obtain ⟨v1, rfl, h1⟩ := dpa1 hds
  refine ⟨_, (pss_cons (ps_expr (pe_callH h_check_log hr (pa_cons (pv 0) pa_nil)))
      (pss_cons (ps_expr (pe_callH h_check_logged_wishes hr (pa_cons (pv 0) (pa_cons (pv 1) pa_nil))))
      (pss_cons (ps_set (i := 2) sc_places.nd rfl (by first | exact Or.inl rfl | exact Or.inr rfl) (pe_callH h_numbers_in hr (pa_cons (pv 0) pa_nil)))
      (pss_one (ps_ret (pe_callTy (call_tupleK K) (by rfl) T.tuple (by decide +kernel) (pa_cons (pe_lc (own := [("wish", 3)]) (g := (gName 3)) (tt := tYes) rfl sc_places.nd (pi_tupK K (pv 1)) (blkOk_by (N := ["log", "wishes", "numbers", "wish"]) (sc := defScope (topS 79)) (by decide +kernel)) (fun _ _ _ _ _ => (pg_name (i := 3) sc_places.nd rfl (by first | exact Or.inl rfl | exact Or.inr rfl))) (fun _ _ _ _ _ => pts_nil) (fun _ _ _ _ _ => (pe_callH h_place_of hr (pa_cons (pv 2) (pa_cons (pv 3) pa_nil))))) pa_nil))))))), ?_⟩
  have nl := nums_len log
  have l4 := ok.l4
  have n6 := ok.n6
  refine q_drop (eva_callG (K := K) (evr_log rfl h0) evaa_nil ok ⟨rfl, rfl⟩) fun v H2 e2 _ => ?_
  refine q_drop (eva_callG (K := K) (evr_log rfl (log_ex e2 h0)) (evaa_cons (eva_var rfl (dp_ex e2 h1)) evaa_nil) ok ⟨b, rfl, hb, rfl⟩) fun v H3 e3 _ => ?_
  refine q_asg (evl_callG (K := K) (evr_log rfl (log_ex (e2.trans e3) h0)) evaa_nil ok ⟨rfl, rfl⟩).eva fun v H4 e4 dv => ?_
  have e24 := (e2.trans e3).trans e4
  refine s_ret (eva_tupL (EvaL.eva (EvaL.is (evl_lc1 (K := K) (fun x => .int (placeOf (nums log) x : Int)) (EvI.map (evi_tup (ds := b.map eQ) (eva_var rfl (dp_ex e24 h1)))) (by rw [hb.1]; omega) (fun a σ2 H2 _ hp => ?_) (fun a σ2 H5 ha ex hp => ?_) (fun _ _ => rfl)) (by rw [List.map_map, List.map_map]; rfl)))) fun v H5 e5 dv => q v H5 (e24.trans e5) dv
  · obtain ⟨v, rfl, _⟩ := hp; rfl
  · obtain ⟨v', rfl, hv⟩ := hp
    exact eva_call (evaa_cons (eva_var rfl (dp_ex ex dv)) (evaa_cons (eva_var rfl hv) evaa_nil)) ⟨nums log, a, rfl, by omega, fun x hx => (nums_fq ok x hx).fq (by decide), hb.fq a ha, rfl⟩
end
end Cb
set_option Elab.async false
set_option linter.all false
set_option maxRecDepth 100000
set_option maxHeartbeats 8000000
/-! Cb, the layer: lists of lists, dicts of counts, walks over locked dicts. -/
namespace Cb
open PySem PySem.Spec PyProof.Rows L2 Evl
/-- ints in a list -/
abbrev eI (l : List Nat) : PyData := .list ((zi l).map PyData.int)
/-- a new list, its items told by F -/
def EvF {α : Type} (F : V → α → Hp → Prop) (te : TE) (σ : L2.St) (H : Hp) (xs : List α) : Prop := ∀ H1, Ex H H1 → ∀ Q : VK, (∀ p ws H2, H1 p = none → Ex H1 H2 → H2 p = some (.lst ws) → Paired (fun v a => F v a H2) ws xs → Q (.ref p) H2) → te σ H1 Q
theorem dpa_paired {α : Type} {K : PySem.W.Frag} {H : Hp} {e : α → PyData} : ∀ {vs : List V} {xs : List α}, DpAll K H vs (xs.map e) → Paired (fun v a => Dp K H v (e a)) vs xs
  | _, [], .nil => .nil
  | _, _ :: _, .cons h t => .cons h (dpa_paired t)
section
variable {K : PySem.W.Frag} {α : Type} {F : V → α → Hp → Prop} {σ : L2.St} {H : Hp} {te : TE} {xs : List α} {j : Nat} {tb tz : TS} {D : Ends}
theorem EvaL.evf {e : α → PyData} (h : EvaL K te σ H (xs.map e)) : EvF (fun v a H => Dp K H v (e a)) te σ H xs := fun H1 e1 Q q => h H1 e1 _ fun p vs H2 np e2 hp hv => q p vs H2 np e2 hp (dpa_paired (dpa_ex er_ex hv))
/-- a loop over a new list -/
theorem s_forF (hi : EvF F te σ H xs) (k : ∀ l ws H2, H l = none → Ex H H2 → H2 l = some (.lst ws) → Paired (fun v a => F v a H2) ws xs → ∃ Pv : Nat → L2.St → Hp → Prop, (∀ i σ' H', i ≤ xs.length → Pv i σ' H' → H' l = some (.lst ws) ∧ Paired (fun v a => F v a H') ws xs) ∧ Pv 0 σ H2 ∧
    (∀ i (hi : i < xs.length) σ' H' v, Pv i σ' H' → F v xs[i] H' → tb { D with nx := Pv (i + 1), ct := Pv (i + 1), bk := D.nx } (σ'.set j (some v)) H') ∧ ∀ σ' H', Pv xs.length σ' H' → D.nx σ' H') : tFor (iList K te) (gName j) tb D σ H :=
  hi H (Ex.refl _) _ fun l ws H2 nl e2 hl hp => by
    obtain ⟨Pv, hG, h0, hs, hd⟩ := k l ws H2 nl e2 hl hp
    refine ⟨l, rfl, ⟨ws, .inl (.inl hl)⟩, ?_⟩
    refine ⟨fun i m σ H => m = xs.length - i ∧ i ≤ xs.length ∧ Pv i σ H, ⟨xs.length, by simp, Nat.zero_le _, h0⟩, ?_⟩
    rintro i m σ1 H1 ⟨rfl, hi, p⟩
    obtain ⟨g1, g2⟩ := hG i σ1 H1 hi p
    have hlen := paired_len g2
    by_cases hlt : i < xs.length
    · have hw : i < ws.length := by omega
      refine .inr ⟨⟨ws, ws[i], .inl (.inl g1), by simp [hw]⟩, Pv (i + 1), fun σ' H' p' => ⟨xs.length - (i + 1), by omega, rfl, hlt, p'⟩, fun x H' y => ?_⟩
      obtain ⟨rfl, y⟩ := y
      have z := y ws (.inl (.inl g1))
      rw [List.getElem?_eq_getElem hw] at z
      cases z
      exact hs i hlt σ1 _ _ p (paired_at (F := fun v a => F v a _) g2 (List.getElem?_eq_getElem hw) (List.getElem?_eq_getElem hlt))
    · have e : i = xs.length := by omega
      subst e
      exact .inl ⟨⟨ws, .inl (.inl g1), by omega⟩, hd σ1 H1 p⟩
theorem q_forF (hi : EvF F te σ H xs) (k : ∀ l ws H2, H l = none → Ex H H2 → H2 l = some (.lst ws) → Paired (fun v a => F v a H2) ws xs → ∃ Pv : Nat → L2.St → Hp → Prop, (∀ i σ' H', i ≤ xs.length → Pv i σ' H' → H' l = some (.lst ws) ∧ Paired (fun v a => F v a H') ws xs) ∧ Pv 0 σ H2 ∧
    (∀ i (hi : i < xs.length) σ' H' v, Pv i σ' H' → F v xs[i] H' → tb { D with nx := Pv (i + 1), ct := Pv (i + 1), bk := tz D } (σ'.set j (some v)) H') ∧ ∀ σ' H', Pv xs.length σ' H' → tz D σ' H') : tSeq (tFor (iList K te) (gName j) tb) tz D σ H := s_forF (D := { D with nx := tz D }) hi k
/-- append a new list of ints to an own list -/
theorem dp_eI {q : Addr} {vs : List V} {l : List Nat} (h : H q = some (.lst vs)) (hv : DpAll K (er H q) vs ((zi l).map PyData.int)) : Dp K H (.ref q) (eI l) := dp_newL h (by rw [dpa_ints hv]; exact dpa_ofints _)
theorem s_appN {i : Nat} {p : Addr} {xs : List V} {l : List Nat} (hv : σ[i]? = some (some (.ref p))) (hl : H p = some (.lst xs)) (h : EvaL K te σ H ((zi l).map PyData.int)) (hz : xs.length < 100000) (k : ∀ v H2, Ex H H2 → H2 p = some (.lst xs) → Dp K (er H2 p) v (eI l) → D.nx σ (upd H2 p (.lst (xs ++ [v])))) :
    tDrop (tApp K (tVar i) te) D σ H := ⟨.ref p, hv, .inl ⟨rfl, _, .inl (.inl hl)⟩, h H (Ex.refl _) _ fun q vs H2 nq e hq hvs => by
      have ne : q ≠ p := fun z => by rw [z, hl] at nq; cases nq
      refine ⟨p, xs, .ref q, rfl, rfl, e p _ hl, sz_lt hz, k _ H2 e (e p _ hl) ?_⟩
      refine dp_newL (by rw [er_ne ne]; exact hq) ?_
      rw [dpa_ints hvs]
      exact dpa_ofints _⟩
theorem q_appN {i : Nat} {p : Addr} {xs : List V} {l : List Nat} (hv : σ[i]? = some (some (.ref p))) (hl : H p = some (.lst xs)) (h : EvaL K te σ H ((zi l).map PyData.int)) (hz : xs.length < 100000) (k : ∀ v H2, Ex H H2 → H2 p = some (.lst xs) → Dp K (er H2 p) v (eI l) → tz D σ (upd H2 p (.lst (xs ++ [v])))) :
    tSeq (tDrop (tApp K (tVar i) te)) tz D σ H := s_appN (D := { D with nx := tz D }) hv hl h hz k
end
/-! ### dicts of counts -/
abbrev kvI (m : Ways) : List (L2.Key × V) := m.map fun e => (Sum.inl (e.1 : Int), V.int (e.2 : Int))
def WayR (m : Ways) (v : V) (H : Hp) : Prop := ∃ d, v = .ref d ∧ H d = some (.dK (kvI m))
theorem WayR.ex {m : Ways} {v : V} {H H' : Hp} (e : Ex H H') (h : WayR m v H) : WayR m v H' := by
  obtain ⟨d, rfl, h⟩ := h
  exact ⟨d, rfl, e d _ h⟩
def WaysR (K : PySem.W.Frag) (H : Hp) (v : V) (M : List Ways) : Prop := ∃ a ws, v = .ref a ∧ H a = some (.lst ws) ∧ Paired (fun v m => WayR m v H) ws M
theorem WaysR.ex {K : PySem.W.Frag} {M : List Ways} {v : V} {H H' : Hp} (e : Ex H H') (h : WaysR K H v M) : WaysR K H' v M := by
  obtain ⟨a, ws, rfl, h1, h2⟩ := h
  exact ⟨a, ws, rfl, e a _ h1, Paired.mapP h2 fun v m r => r.ex e⟩
theorem putK_kvI {m : Ways} {l c : Nat} (h : ∀ e ∈ m, e.1 ≠ l) : putK (kvI m) (Sum.inl (l : Int)) (V.int (c : Int)) = kvI (m ++ [(l, c)]) := by
  have hn : valV (kvI m) (Sum.inl (l : Int) : L2.Key) = none := by
    cases e : valV (kvI m) (Sum.inl (l : Int) : L2.Key) with
    | none => rfl
    | some v =>
      unfold valV at e
      rw [Option.map_eq_some_iff] at e
      obtain ⟨kv, h1, _⟩ := e
      have h2 := List.find?_some h1
      obtain ⟨x, hx, rfl⟩ := List.mem_map.mp (List.mem_of_find?_eq_some h1)
      have h3 : (Sum.inl (x.1 : Int) : L2.Key) = Sum.inl (l : Int) := of_decide_eq_true h2
      have := Sum.inl.inj h3
      exact absurd (by omega) (h x hx)
  rw [putK_new _ hn]
  simp [kvI]
theorem kvI_len (m : Ways) : (kvI m).length = m.length := by simp
/-- after a lock -/
theorem ex_unlock {H H' : Hp} {d : Addr} {f u : HO} (hd : H d = some u) (e : Ex (upd H d f) H') : Ex H (upd H' d u) := fun a o h => by
  by_cases z : a = d
  · subst z
    rw [hd] at h
    cases h
    exact upd_same
  · rw [upd_ne z]
    exact e a o (by rw [upd_ne z]; exact h)
section
variable {K : PySem.W.Frag} {σ : L2.St} {H : Hp} {te td : TE} {d : Addr} {kvs : List (L2.Key × V)} {l : List Nat} {D : Ends} {tz : TS}
theorem evl_lock (hd : H d = some (.dK kvs)) (h : ∀ od H1, Ex H H1 → EvaL K te σ (upd H1 d (.frz od (.dK kvs))) ((zi l).map PyData.int)) : EvaL K (tLockE te) σ H ((zi l).map PyData.int) := fun H1 e Q q =>
  ⟨d, _, e d _ hd, trivial, fun od => h od H1 e _ (Ex.refl _) _ fun p vs H2 np e2 hp hv => by
    have ne : p ≠ d := fun z => by rw [z, upd_same] at np; cases np
    refine ⟨e2 d _ upd_same, q p vs _ (by rw [upd_ne ne] at np; exact np) (ex_unlock (e d _ hd) e2) (by rw [upd_ne ne]; exact hp) ?_⟩
    rw [dpa_ints hv]
    exact dpa_ofints _⟩
theorem s_lockL {i : Nat} (hd : H d = some (.dK kvs)) (h : ∀ od, EvaL K te σ (upd H d (.frz od (.dK kvs))) ((zi l).map PyData.int)) (k : ∀ p H2, H p = none → Ex H H2 → Dp K H2 (.ref p) (eI l) → H2 p = some (.lst ((zi l).map V.int)) → D.nx (σ.set i (some (.ref p))) H2) : tLock (tAsg te (gName i)) D σ H :=
  ⟨d, _, hd, trivial, fun od => h od _ (Ex.refl _) _ fun p vs H2 np e2 hp hv => by
    have ne : p ≠ d := fun z => by rw [z, upd_same] at np; cases np
    rw [dpa_ints hv] at hp
    have hp' : upd H2 d (.dK kvs) p = some (.lst ((zi l).map V.int)) := by rw [upd_ne ne]; exact hp
    exact ⟨e2 d _ upd_same, k p _ (by rw [upd_ne ne] at np; exact np) (ex_unlock hd e2) (dp_newL hp' (dpa_ofints _)) hp'⟩⟩
theorem q_lockL {i : Nat} (hd : H d = some (.dK kvs)) (h : ∀ od, EvaL K te σ (upd H d (.frz od (.dK kvs))) ((zi l).map PyData.int)) (k : ∀ p H2, H p = none → Ex H H2 → Dp K H2 (.ref p) (eI l) → H2 p = some (.lst ((zi l).map V.int)) → tz D (σ.set i (some (.ref p))) H2) : tSeq (tLock (tAsg te (gName i))) tz D σ H := s_lockL (D := { D with nx := tz D }) hd h k
abbrev PI2 (j k : Nat) (e : Nat × Nat) (σ0 σ2 : L2.St) (_ : Hp) : Prop := σ2 = (σ0.set j (some (.int (e.1 : Int)))).set k (some (.int (e.2 : Int)))
theorem evi_items {j k : Nat} {od : Obj} {m : Ways} (ht : Evr td σ H fun v _ => v = .ref d) (hd : H d = some (.frz od (.dK (kvI m)))) : EvI (iItems td) (g2 K j k) σ H m (PI2 j k) := fun H1 e1 R q => ht H1 e1 _ fun v H2 e2 ev => by
  have h2 := (e1.trans e2) d _ hd
  refine ⟨d, od, kvI m, ev, h2, q _ H2 e2 ⟨fun i H hi e => ⟨e d _ h2, by rw [kvI_len]; exact hi⟩, fun H e => ⟨e d _ h2, by rw [kvI_len]; exact Nat.le_refl _⟩, fun i hi H x H' e y σ0 kk q => ?_⟩⟩
  obtain ⟨T, k, v, hk, rfl, nT, rfl⟩ := y
  rw [List.getElem?_map, List.getElem?_eq_getElem hi] at hk
  cases hk
  exact ⟨T, _, rfl, .inl (.inl upd_same), rfl, _, [_], rfl, _, [], rfl, rfl, q _ _ (Ex.new nT) rfl⟩
theorem evi_keys {j : Nat} {od : Obj} {m : Ways} (ht : Evr td σ H fun v _ => v = .ref d) (hd : H d = some (.frz od (.dK (kvI m)))) : EvI (iKeys td) (gName j) σ H (m.map (·.1)) (fun (l : Nat) σ0 σ2 _ => σ2 = σ0.set j (some (.int (l : Int)))) := fun H1 e1 R q => ht H1 e1 _ fun v H2 e2 ev => by
  have h2 := (e1.trans e2) d _ hd
  refine ⟨d, od, ev, .inl ⟨kvI m, h2, q _ H2 e2 ⟨fun i H hi e => ⟨e d _ h2, by rw [kvI_len]; simpa using hi⟩, fun H e => ⟨e d _ h2, by simp⟩, fun i hi H x H' e y σ0 kk q => ?_⟩⟩⟩
  obtain ⟨rfl, k, v, hk, rfl⟩ := y
  have hi' : i < m.length := by simpa using hi
  rw [List.getElem?_map, List.getElem?_eq_getElem hi'] at hk
  cases hk
  refine q _ _ (Ex.refl _) ?_
  rw [List.getElem_map]
  rfl
end
end Cb
set_option Elab.async false
set_option linter.all false
set_option maxRecDepth 100000
set_option maxHeartbeats 8000000
/-! Cb, defs 11: levels, ways. -/
namespace Cb
open PySem PySem.Spec PyProof.Rows L2 Evl
section
variable {P : Program} {w : World} {K : PySem.W.Frag} {mg : Str → Option Value} {base : Heap}
theorem sc_lots_for : FnScope ["people", "tables", "number", "is_least", "found", "lot", "table"] ["people", "tables", "number", "is_least"] (defScope (topS 69)) := ⟨rfl, rfl, rfl, by decide +kernel, rfl, by decide +kernel, by decide +kernel⟩
theorem bn_lots_for : Bnd "lots_for" 69 ["people", "tables", "number", "is_least"] := fun _ _ _ _ _ _ us hl => match us, hl with | [_, _, _, _], _ => rfl
def TabR (K : PySem.W.Frag) (n : Nat) (v : V) (t : Tm) (H : Hp) : Prop := ∃ d, v = .ref d ∧ TabG K H d (allLots n) (cor n t)
theorem TabR.ex {n : Nat} {v : V} {t : Tm} {H H' : Hp} (e : Ex H H') (h : TabR K n v t H) : TabR K n v t H' := by
  obtain ⟨d, rfl, h⟩ := h
  exact ⟨d, rfl, tab_ex e h⟩
/-- people, tables, a number, which end in: the lots out -/
def spLF (K : PySem.W.Frag) : Sp := fun vs H Q _ => ∃ (n : Nat) (ts : List Tm) (x : Int × Int) (b : Bool) (a : Addr) (tws : List V) (u : V), vs = [.int (n : Int), .ref a, u, .bl b] ∧ n ≤ 6 ∧ H a = some (.lst tws) ∧ Paired (fun v t => TabR K n v t H) tws ts ∧ (∀ t ∈ ts, RT n t) ∧ ts.length ≤ 1000 ∧ Dp K H u (eQ x) ∧ Fq x ∧
  ∀ p ws H2, H p = none → Ex H H2 → H2 p = some (.lst ws) → DpAll K (er H2 p) ws ((zi (lotsFor n ts x b)).map PyData.int) → Q (.ref p) H2
theorem lotsFor_take {n : Nat} {ts : List Tm} {x : Q} {b : Bool} {i : Nat} (h : i < (allLots n).length) (f : List Nat → Bool) : (((allLots n).take (i + 1)).filter f).map mask = (((allLots n).take i).filter f).map mask ++ (if f (allLots n)[i] = true then [mask (allLots n)[i]] else []) := by
  rw [take_snoc h, List.filter_append, List.map_append, List.filter_cons, List.filter_nil]
  split <;> rfl
theorem has_lots_for {k : Nat} (T : Tb K mg) (h_all_lots : Has P w K mg base "all_lots" k ["many"] (spLots allLots)) (h_is_less : Has P w K mg base "is_less" k ["one", "other"] (spR K rLess)) (h_bits_of : Has P w K mg base "bits_of" k ["lot"] (spR K rBits)) :
    Has P w K mg base "lots_for" (k + 1) ["people", "tables", "number", "is_least"] (spLF K) := by
  refine has_sp T.f_lots_for sc_lots_for bn_lots_for (fun vs H Q E h => by obtain ⟨_, _, _, _, _, _, _, rfl, _⟩ := h; rfl) fun f cdv A outer s H vs Q E hr h => ?_
  obtain ⟨n, ts, x, b, a, tws, u, rfl, hn, ha, htab, hts, tl, hu, hx, q⟩ := h
  refine ⟨_, (pss_cons (ps_set (i := 4) sc_lots_for.nd rfl (by first | exact Or.inl rfl | exact Or.inr rfl) (pe_lst pa_nil))
      (pss_cons (ps_for PassesOwn.never rfl (pi_listK K (pe_callH h_all_lots hr (pa_cons (pv 0) pa_nil))) (pg_name (i := 5) sc_lots_for.nd rfl (by first | exact Or.inl rfl | exact Or.inr rfl)) (pss_cons (ps_if (PW.pt (pw_and (pt_val (pv 3)) (pw_and1 (pt_not (pt_val (pe_callB (cr_anyK K) (by rfl) T.any (by decide +kernel) (pa_cons (pe_lc (own := [("table", 6)]) (g := (gName 6)) (tt := tYes) rfl sc_lots_for.nd (pi_listK K (pv 1)) (blkOk_by (N := ["people", "tables", "number", "is_least", "found", "lot", "table"]) (sc := defScope (topS 69)) (by decide +kernel)) (fun _ _ _ _ _ => (pg_name (i := 6) sc_lots_for.nd rfl (by first | exact Or.inl rfl | exact Or.inr rfl))) (fun _ _ _ _ _ => pts_nil) (fun _ _ _ _ _ => (pe_callH h_is_less hr (pa_cons (pe_dget (hu1 hr) (pv 6) (pv 5) (fun _ _ => rfl)) (pa_cons (pv 2) pa_nil))))) pa_nil))))))) (pss_one (ps_expr (pe_bm PySem.F.plainAttrs_list PySem.F.slot_list_append PySem.F.type_list_append mt_append (pv 4) (pa_cons (pe_callH h_bits_of hr (pa_cons (pv 5) pa_nil)) pa_nil)))) pss_nil)
      (pss_one (ps_if (PW.pt (pw_and (pt_not (pt_val (pv 3))) (pw_and1 (pt_not (pt_val (pe_callB (cr_anyK K) (by rfl) T.any (by decide +kernel) (pa_cons (pe_lc (own := [("table", 6)]) (g := (gName 6)) (tt := tYes) rfl sc_lots_for.nd (pi_listK K (pv 1)) (blkOk_by (N := ["people", "tables", "number", "is_least", "found", "lot", "table"]) (sc := defScope (topS 69)) (by decide +kernel)) (fun _ _ _ _ _ => (pg_name (i := 6) sc_lots_for.nd rfl (by first | exact Or.inl rfl | exact Or.inr rfl))) (fun _ _ _ _ _ => pts_nil) (fun _ _ _ _ _ => (pe_callH h_is_less hr (pa_cons (pv 2) (pa_cons (pe_dget (hu1 hr) (pv 6) (pv 5) (fun _ _ => rfl)) pa_nil))))) pa_nil))))))) (pss_one (ps_expr (pe_bm PySem.F.plainAttrs_list PySem.F.slot_list_append PySem.F.type_list_append mt_append (pv 4) (pa_cons (pe_callH h_bits_of hr (pa_cons (pv 5) pa_nil)) pa_nil)))) pss_nil))))
      (pss_one (ps_ret (pv 4))))), ?_⟩
  refine q_asgL (evl_lst (K := K) evaa_nil) fun p ws H2 np e2 hp dw => ?_
  cases dw
  have few := few_lots hn (allLots_nodup n) fun l h => allLots_mem.mp h
  refine q_forF (F := fun v l H => Tp l v H) (evp_lots (eva_var (K := K) rfl (.int (n : Int))) hn) fun l ls H3 nl e3 hl hls => ?_
  have pl : p ≠ l := fun z => by rw [z, nl] at hp; cases hp
  let f : List Nat → Bool := fun l => if b then !(ts.any fun t => less (cor n t l) x) else !(ts.any fun t => less x (cor n t l))
  let Iv : Nat → L2.St → Hp → Prop := fun i σ' H' => ∃ ws z, σ' = [some (.int (n : Int)), some (.ref a), some u, some (.bl b), some (.ref p), z, none] ∧ Ex H H' ∧ H' l = some (.lst ls) ∧ PT H' ls (allLots n) ∧ H' p = some (.lst ws) ∧ DpAll K H' ws ((zi ((((allLots n).take i).filter f).map mask)).map PyData.int)
  have ivx : ∀ {i σ' H' H''}, Iv i σ' H' → Ex H' H'' → Iv i σ' H'' := fun h e => by
    obtain ⟨ws, z, rfl, h1, h2, h3, h4, h5⟩ := h
    exact ⟨ws, z, rfl, h1.trans e, e l _ h2, h3.ty (.of e), e p _ h4, dpa_ex e h5⟩
  refine ⟨Iv, fun i σ' H' _ h => ?_, ⟨[], none, rfl, e2.trans e3, hl, hls, e3 p _ hp, .nil⟩, fun i hi σ' H' v hP tv => ?_, fun σ' H' hP => ?_⟩
  · obtain ⟨_, _, _, _, h1, h2, _⟩ := h; exact ⟨h1, h2⟩
  · obtain ⟨ws, z, rfl, eb, hl', hls', hp', hd⟩ := hP
    have isl : IsLot n (allLots n)[i] := allLots_mem.mp (List.getElem_mem hi)
    have hmem : (allLots n)[i] ∈ allLots n := List.getElem_mem hi
    have lw : ws.length ≤ 64 := by
      rw [dpa_len hd, List.length_map, List.length_map, List.length_map]
      refine Nat.le_trans (List.length_filter_le _ _) ?_
      rw [List.length_take]; omega
    have et := lotsFor_take (n := n) (ts := ts) (x := x) (b := b) hi f
    generalize (allLots n)[i] = lot at tv isl hmem et
    have lotlen := isLot_len isl
    -- what the comprehension tests
    have any1 : ∀ (te : TE) (g : Tm → Bool) (H4 : Hp), Ex H' H4 → (∀ t ∈ ts, ∀ d H5, Ex H4 H5 → TabG K H5 d (allLots n) (cor n t) → Eva K te [some (.int (n : Int)), some (.ref a), some u, some (.bl b), some (.ref p), some v, some (.ref d)] H5 (.bool (g t))) →
        Eva K (tCB (rAny K) (tCons (tLc (iList K (tVar 1)) (gName 6) tYes te [6]) tNil)) [some (.int (n : Int)), some (.ref a), some u, some (.bl b), some (.ref p), some v, none] H4 (.bool (ts.any g)) := fun te g H4 e4 hte => by
      refine eva_is (eva_any (ns := ts.map g) (EvaL.eva (EvaL.is (evl_lc1 (xs := ts) (P := PF (fun v t H => TabR K n v t H) 6) (fun t => .bool (g t)) (fun H1 e1 R r => ⟨_, rfl, a, rfl, ⟨tws, .inl (.inl ((eb.trans (e4.trans e1)) a _ ha))⟩, r _ H1 (Ex.refl _) (wk_ownR fun H' e' => ⟨.inl (.inl ((eb.trans (e4.trans (e1.trans e'))) a _ ha)), Paired.mapP htab fun v t h => h.ex (eb.trans (e4.trans (e1.trans e')))⟩)⟩) (by omega) (fun a σ2 H2 _ hp => ?_) (fun t σ2 H5 ht ex hp => ?_) (fun _ _ => rfl)) (by rw [List.map_map]; rfl)))) ?_
      · obtain ⟨v, rfl, _⟩ := hp; rfl
      · obtain ⟨v', rfl, d, rfl, tab⟩ := hp
        exact hte t ht d H5 ex tab
      · rw [List.any_map]; rfl
    have lessOk : ∀ t ∈ ts, Fq (cor n t lot) := fun t ht => (cor_ok (hts t ht).wt (hts t ht).cnt lot).fq (by decide)
    have aL : ∀ H4, Ex H' H4 → Eva K (tCB (rAny K) (tCons (tLc (iList K (tVar 1)) (gName 6) tYes (tCall (spR K rLess) [] E0 (tCons (tDGet (tVar 6) (tVar 5)) (tCons (tVar 2) tNil))) [6]) tNil)) [some (.int (n : Int)), some (.ref a), some u, some (.bl b), some (.ref p), some v, none] H4 (.bool (ts.any fun t => less (cor n t lot) x)) := fun H4 e4 =>
      any1 _ _ H4 e4 fun t ht d H5 e5 tab => eva_call (evaa_cons (eva_tab (evr_var rfl fun H6 e6 => ⟨d, rfl, tab_ex e6 tab⟩) (evr_tp rfl (tv.ty (.of (e4.trans e5)))) hmem) (evaa_cons (eva_var rfl (dp_ex (eb.trans (e4.trans e5)) hu)) evaa_nil)) ⟨_, _, rfl, (lessOk t ht).sm, hx.sm, rfl⟩
    have aM : ∀ H4, Ex H' H4 → Eva K (tCB (rAny K) (tCons (tLc (iList K (tVar 1)) (gName 6) tYes (tCall (spR K rLess) [] E0 (tCons (tVar 2) (tCons (tDGet (tVar 6) (tVar 5)) tNil))) [6]) tNil)) [some (.int (n : Int)), some (.ref a), some u, some (.bl b), some (.ref p), some v, none] H4 (.bool (ts.any fun t => less x (cor n t lot))) := fun H4 e4 =>
      any1 _ _ H4 e4 fun t ht d H5 e5 tab => eva_call (evaa_cons (eva_var rfl (dp_ex (eb.trans (e4.trans e5)) hu)) (evaa_cons (eva_tab (evr_var rfl fun H6 e6 => ⟨d, rfl, tab_ex e6 tab⟩) (evr_tp rfl (tv.ty (.of (e4.trans e5)))) hmem) evaa_nil)) ⟨_, _, rfl, hx.sm, (lessOk t ht).sm, rfl⟩
    -- what stands after one append
    have app : ∀ (D : Ends) (H4 : Hp), Ex H' H4 → f lot = true → (∀ σ5 H5, Iv (i + 1) σ5 H5 → σ5[3]? = some (some (.bl b)) → D.nx σ5 H5) →
        tDrop (tApp K (tVar 4) (tCall (spR K rBits) [] E0 (tCons (tVar 5) tNil))) D [some (.int (n : Int)), some (.ref a), some u, some (.bl b), some (.ref p), some v, none] H4 := fun D H4 e4 hf hD => by
      refine s_app rfl (e4 p _ hp') (eva_call (evaa_cons (eva_var rfl (tv.ty (.of e4)).dp) evaa_nil) ⟨lot, rfl, by omega, fun x hx => by have := isl.2 x hx; omega, rfl⟩) (by omega) fun y H5 e5 dy hp5 => ?_
      have ty5 : Ty H5 (upd H5 p (.lst (ws ++ [y]))) := .upd hp5 rfl
      have e45 := e4.trans e5
      refine hD _ _ ⟨_, some v, rfl, (eb.trans e45).mut np, by rw [upd_ne (Ne.symm pl)]; exact e45 l _ hl', (hls'.ty (.of e45)).ty ty5, upd_same, ?_⟩ rfl
      rw [et, if_pos hf, zi, List.map_append, List.map_append]
      exact dpa_mut (dpa_app (dpa_ex e45 hd) (dpa_one dy)) (imAll_app (by rw [List.map_map]; exact imAll_map _ (fun _ => rfl) _) rfl) hp5 rfl
    have keep : ∀ H4, Ex H' H4 → f lot = false → Iv (i + 1) [some (.int (n : Int)), some (.ref a), some u, some (.bl b), some (.ref p), some v, none] H4 := fun H4 e4 hf => by
      refine ⟨ws, some v, rfl, eb.trans e4, e4 l _ hl', hls'.ty (.of e4), e4 p _ hp', ?_⟩
      rw [et, if_neg (by rw [hf]; exact Bool.false_ne_true), List.append_nil]
      exact dpa_ex e4 hd
    cases b with
    | true =>
      have fe : f lot = !(ts.any fun t => less (cor n t lot) x) := rfl
      have second : ∀ {D : Ends} {σ5 : L2.St} {H5 : Hp} {tt : TT} {u : TS}, σ5[3]? = some (some (.bl true)) → (∀ H6, Ex H5 H6 → D.nx σ5 H6) → tIfS (tAnd (tNot (tB (tVar 3))) tt) u tNext D σ5 H5 := fun hv hn =>
        Evl.s_when (b := false) (Evl.et_is (Evl.et_and (a := false) (b := true) (Evl.et_is (Evl.et_not (evt_B (K := K) (eva_var hv (.bl true)))) rfl) (fun h => by cases h)) rfl) (fun h => by cases h) fun _ H6 e6 => hn H6 e6
      refine Evl.q_when (Evl.et_and (evt_B (K := K) (eva_var rfl (.bl true))) fun _ => Evl.et_not (evt_B (K := K) (aL H' (Ex.refl _)))) (fun hb H4 e4 => ?_) (fun hb H4 e4 => ?_)
      · exact app _ H4 e4 (by rw [fe]; simpa using hb) fun σ5 H5 iv hv => second hv fun H6 e6 => ivx iv e6
      · exact second rfl fun H6 e6 => ivx (keep H4 e4 (by rw [fe]; simpa using hb)) e6
    | false =>
      have fe : f lot = !(ts.any fun t => less x (cor n t lot)) := rfl
      refine Evl.q_when (b := false) (Evl.et_is (Evl.et_and (a := false) (b := true) (evt_B (K := K) (eva_var rfl (.bl false))) fun h => by cases h) rfl) (fun h => by cases h) (fun _ H4 e4 => ?_)
      refine Evl.s_when (Evl.et_and (Evl.et_not (evt_B (K := K) (eva_var rfl (.bl false)))) fun _ => Evl.et_not (evt_B (K := K) (aM H4 e4))) (fun hb H5 e5 => ?_) (fun hb H5 e5 => ?_)
      · exact app _ H5 (e4.trans e5) (by rw [fe]; simpa using hb) fun σ5 H5 iv hv => iv
      · exact keep H5 (e4.trans e5) (by rw [fe]; simpa using hb)
  · obtain ⟨ws, z, rfl, eb, hl', hls', hp', hd⟩ := hP
    rw [List.take_length] at hd
    exact ⟨_, rfl, q p ws H' np eb hp' (dpa_tx (tx_er hp' rfl) hd (by rw [List.map_map]; exact imAll_map _ (fun _ => rfl) _))⟩
end
end Cb
set_option Elab.async false
set_option linter.all false
set_option maxRecDepth 100000
set_option maxHeartbeats 8000000
/-! Cb, defs 12: levels, ways. -/
namespace Cb
open PySem PySem.Spec PyProof.Rows L2 Evl
theorem TabR.er {K : PySem.W.Frag} {n : Nat} {v : V} {t : Tm} {H : Hp} {q : Addr} {ws : List V} (h : TabR K n v t H) (hq : H q = some (.lst ws)) : TabR K n v t (er H q) := by
  obtain ⟨d, rfl, kvs, h1, h2, h3⟩ := h
  have ne : d ≠ q := fun z => by rw [z, hq] at h1; cases h1
  refine ⟨d, rfl, kvs, by rw [er_ne ne]; exact h1, h2, fun lot hl => ?_⟩
  obtain ⟨v, a, b⟩ := h3 lot hl
  exact ⟨v, a, dp_tx (tx_er hq rfl) b rfl⟩
/-- the items of a list of ints -/
theorem evi_ints {K : PySem.W.Frag} {σ : L2.St} {H : Hp} {te : TE} {j : Nat} {l : List Nat} (h : Eva K te σ H (eI l)) : EvI (iList K te) (gName j) σ H l (fun x => P1 K j (.int (x : Int))) := by
  have z := evi_list (j := j) h
  rw [zi, List.map_map] at z
  exact z.map
theorem q_asg0 {σ : L2.St} {H : Hp} {te : TE} {tz : TS} {D : Ends} {i : Nat} (h : te σ H fun v H' => tz D (σ.set i (some v)) H') : tSeq (tAsg te (gName i)) tz D σ H := h
theorem im_ints (l : List Nat) : imAll ((zi l).map PyData.int) = true := by rw [List.map_map]; exact imAll_map _ (fun _ => rfl) _
section
variable {P : Program} {w : World} {K : PySem.W.Frag} {mg : Str → Option Value} {base : Heap}
theorem sc_levels_of : FnScope ["log", "people", "every", "found", "number", "tables", "rule", "told", "least", "most", "lot"] ["log"] (defScope (topS 70)) := ⟨rfl, rfl, rfl, by decide +kernel, rfl, by decide +kernel, by decide +kernel⟩
theorem bn_levels_of : Bnd "levels_of" 70 ["log"] := fun _ _ _ _ _ _ us hl => match us, hl with | [_], _ => rfl
theorem evl_lf {σ : L2.St} {H : Hp} {n : Nat} {ts : List Tm} {x : Int × Int} {b : Bool} {a : Addr} {tws : List V} {u : V} {i j k : Nat} {E : XK} (h1 : σ[i]? = some (some (.int (n : Int)))) (h2 : σ[j]? = some (some (.ref a))) (h3 : σ[k]? = some (some u)) (hn : n ≤ 6) (ha : H a = some (.lst tws)) (ht : Paired (fun v t => TabR K n v t H) tws ts) (hts : ∀ t ∈ ts, RT n t) (tl : ts.length ≤ 1000) (hu : Dp K H u (eQ x)) (hx : Fq x) :
    EvaL K (tCall (spLF K) [] E (tCons (tVar i) (tCons (tVar j) (tCons (tVar k) (tCons (tC (.bl b)) tNil))))) σ H ((zi (lotsFor n ts x b)).map PyData.int) := fun H1 e Q q =>
  ⟨_, h1, _, h2, _, h3, n, ts, x, b, a, tws, u, rfl, hn, e a _ ha, Paired.mapP ht fun v t h => h.ex e, hts, tl, dp_ex e hu, hx, fun p ws H2 np e2 hp hd => q p ws H2 np e2 hp hd⟩
def rLevs (n : Nat) (log : Log) (ds es : List PyData) : Prop := ds = [] ∧ es = (levels n log).map eI
theorem levelsAt_take {n : Nat} {log : Log} {xs : List Q} {i : Nat} (h : i < xs.length) : levelsAt n log (xs.take (i + 1)) = levelsAt n log (xs.take i) ++ [leastAt n log xs[i]] ++ [mostAt n log xs[i]] := by
  unfold levelsAt
  rw [take_snoc h, List.flatMap_append, List.flatMap_singleton, List.append_assoc]
  rfl
theorem levelsAt_len {n : Nat} {log : Log} (xs : List Q) : (levelsAt n log xs).length = 2 * xs.length := by
  unfold levelsAt
  induction xs with
  | nil => rfl
  | cons x xs ih => rw [List.flatMap_cons, List.length_append, ih, List.length_cons]; simp; omega
theorem has_levels_of {k : Nat} (T : Tb K mg) (h_people_in : Has P w K mg base "people_in" k ["log"] (spG K (RuleC mg) rPeo)) (h_bits_of : Has P w K mg base "bits_of" k ["lot"] (spR K rBits)) (h_numbers_in : Has P w K mg base "numbers_in" k ["log"] (spGL K (RuleC mg) rNums))
    (h_corners_of : Has P w K mg base "corners_of" k ["rule"] (spTab K (RuleC mg))) (h_lots_for : Has P w K mg base "lots_for" k ["people", "tables", "number", "is_least"] (spLF K)) : Has P w K mg base "levels_of" (k + 1) ["log"] (spGL K (RuleC mg) rLevs) := by
  refine has_GL T.f_levels_of sc_levels_of bn_levels_of (fun n t ds d h => by obtain ⟨rfl, _⟩ := h; rfl) fun f cdv A outer s H r vs Q E hr n log ds d h0 ok hds h q => ?_
  obtain ⟨rfl, rfl⟩ := h
  cases hds
  refine ⟨_, (pss_cons (ps_set (i := 1) sc_levels_of.nd rfl (by first | exact Or.inl rfl | exact Or.inr rfl) (pe_callH h_people_in hr (pa_cons (pv 0) pa_nil)))
      (pss_cons (ps_set (i := 2) sc_levels_of.nd rfl (by first | exact Or.inl rfl | exact Or.inr rfl) (pe_callH h_bits_of hr (pa_cons (pe_tupRg rfl (by rfl) T.tuple (prg_1 (by rfl) T.range (pv 1))) pa_nil)))
      (pss_cons (ps_set (i := 3) sc_levels_of.nd rfl (by first | exact Or.inl rfl | exact Or.inr rfl) (pe_lst pa_nil))
      (pss_cons (ps_for PassesOwn.never rfl (pi_listK K (pe_callH h_numbers_in hr (pa_cons (pv 0) pa_nil))) (pg_name (i := 4) sc_levels_of.nd rfl (by first | exact Or.inl rfl | exact Or.inr rfl)) (pss_cons (ps_setLc (i := 5) (own := [("rule", 6), ("told", 7)]) (g := (g2 K 6 7)) rfl sc_levels_of.nd rfl rfl (sw_true rfl rfl rfl (by decide +kernel)) (pi_tupK K (pv 0)) (blkOk_by (N := ["log", "people", "every", "found", "number", "tables", "rule", "told", "least", "most", "lot"]) (sc := defScope (topS 70)) (by decide +kernel)) (fun _ _ _ _ _ => (pg_tup rfl (pgs_cons (pg_name (i := 6) sc_levels_of.nd rfl (by first | exact Or.inl rfl | exact Or.inr rfl)) (pgs_cons (pg_name (i := 7) sc_levels_of.nd rfl (by first | exact Or.inl rfl | exact Or.inr rfl)) pgs_nil)))) (fun _ _ _ _ _ => pts_one (pt_cmpR (op_eqDK K hr.units) (pv 7) (pv 4) (nomark _))) (fun _ _ _ _ _ => (pe_callH h_corners_of hr (pa_cons (pv 6) pa_nil))))
      (pss_cons (ps_set (i := 8) sc_levels_of.nd rfl (by first | exact Or.inl rfl | exact Or.inr rfl) (pe_callH h_lots_for hr (pa_cons (pv 1) (pa_cons (pv 5) (pa_cons (pv 4) (pa_cons pe_bl pa_nil))))))
      (pss_cons (ps_set (i := 9) sc_levels_of.nd rfl (by first | exact Or.inl rfl | exact Or.inr rfl) (pe_callH h_lots_for hr (pa_cons (pv 1) (pa_cons (pv 5) (pa_cons (pv 4) (pa_cons pe_bl pa_nil))))))
      (pss_cons (ps_expr (pe_bm PySem.F.plainAttrs_list PySem.F.slot_list_append PySem.F.type_list_append mt_append (pv 3) (pa_cons (pe_lc (own := [("lot", 10)]) (g := (gName 10)) rfl sc_levels_of.nd (pi_listK K (pv 8)) (blkOk_by (N := ["log", "people", "every", "found", "number", "tables", "rule", "told", "least", "most", "lot"]) (sc := defScope (topS 70)) (by decide +kernel)) (fun _ _ _ _ _ => (pg_name (i := 10) sc_levels_of.nd rfl (by first | exact Or.inl rfl | exact Or.inr rfl))) (fun _ _ _ _ _ => pts_one (PW.pt (pw_or (pt_cmpR (op_neDK K hr.units) (pv 4) (pe_gRef T.ZERO) (nomark _)) (pw_or1 (pt_cmpR op_eq (pv 10) (pv 2) (nomark _)))))) (fun _ _ _ _ _ => (pv 10))) pa_nil)))
      (pss_one (ps_expr (pe_bm PySem.F.plainAttrs_list PySem.F.slot_list_append PySem.F.type_list_append mt_append (pv 3) (pa_cons (pe_lc (own := [("lot", 10)]) (g := (gName 10)) rfl sc_levels_of.nd (pi_listK K (pv 9)) (blkOk_by (N := ["log", "people", "every", "found", "number", "tables", "rule", "told", "least", "most", "lot"]) (sc := defScope (topS 70)) (by decide +kernel)) (fun _ _ _ _ _ => (pg_name (i := 10) sc_levels_of.nd rfl (by first | exact Or.inl rfl | exact Or.inr rfl))) (fun _ _ _ _ _ => pts_one (PW.pt (pw_or (pt_cmpR (op_neDK K hr.units) (pv 4) (pe_gRef T.ONE) (nomark _)) (pw_or1 (pt_cmpR op_eq (pv 10) pe_int (nomark _)))))) (fun _ _ _ _ _ => (pv 10))) pa_nil)))))))))
      (pss_one (ps_ret (pv 3))))))), ?_⟩
  have l4 := ok.l4
  have n6 := ok.n6
  have nl := nums_len log
  refine q_asg (eva_callG (K := K) (evr_log rfl h0) evaa_nil ok ⟨rfl, rfl⟩) fun v H1 e1 dv => ?_
  cases dv
  have range_lot : IsLot n (List.range n) := ⟨List.pairwise_lt_range, fun x hx => List.mem_range.mp hx⟩
  refine q_asg (eva_call (K := K) (d := .int (every n : Int)) (evaa_cons (d := eL (List.range n)) ?_ evaa_nil) ⟨List.range n, rfl, by simp; omega, fun x hx => by have := List.mem_range.mp hx; omega, rfl⟩) fun v H2 e2 dv => ?_
  · intro H3 e3 Q q
    refine ⟨_, rfl, n, rfl, ⟨by omega, by omega⟩, fun p hp => q _ _ (Ex.new hp) (dp_newT upd_same ?_)⟩
    have : rgV 0 (n : Int) = (zi (List.range n)).map V.int := by
      unfold rgV
      rw [List.map_map]
      have : ((n : Int) - 0).toNat = n := by omega
      rw [this]
      exact List.map_congr_left fun x _ => by simp
    rw [this]
    exact dpa_ofints _
  cases dv
  refine q_asgL (evl_lst (K := K) evaa_nil) fun p ws0 H3 np e3 hp dw => ?_
  cases dw
  have e13 := (e1.trans e2).trans e3
  have np' : H p = none := fresh_back (e1.trans e2) np
  refine q_forF (EvaL.evf (e := eQ) (evl_callG (K := K) (evr_log rfl (log_ex e13 h0)) evaa_nil ok ⟨rfl, rfl⟩)) fun l ls H4 nl4 e4 hl hls => ?_
  have pl : p ≠ l := fun z => by rw [z, nl4] at hp; cases hp
  have e14 := e13.trans e4
  let Iv : Nat → L2.St → Hp → Prop := fun i σ' H' => ∃ ws z4 z5 z8 z9, σ' = [some r, some (.int (n : Int)), some (.int (every n : Int)), some (.ref p), z4, z5, none, none, z8, z9, none] ∧ Ex H H' ∧ H' l = some (.lst ls) ∧ Paired (fun v a => Dp K H' v (eQ a)) ls (nums log) ∧ H' p = some (.lst ws) ∧ DpAll K (er H' p) ws ((levelsAt n log ((nums log).take i)).map eI)
  refine ⟨Iv, fun i σ' H' _ h => ?_, ⟨[], none, none, none, none, rfl, e14, hl, hls, e4 p _ hp, .nil⟩, fun i hi σ' H' v hP dv => ?_, fun σ' H' hP => ?_⟩
  · obtain ⟨_, _, _, _, _, _, _, h1, h2, _⟩ := h; exact ⟨h1, h2⟩
  · obtain ⟨ws, z4, z5, z8, z9, rfl, eb, hl', hls', hp', hd⟩ := hP
    have fx : Fq (nums log)[i] := (nums_fq ok _ (List.getElem_mem hi)).fq (by decide)
    have et := levelsAt_take (n := n) (log := log) hi
    have lw : ws.length ≤ 8 := by
      rw [dpa_len hd, List.length_map, levelsAt_len, List.length_take]; omega
    generalize (nums log)[i] = x at dv fx et
    -- tables
    refine q_asg0 (lc_gen (vs := [6, 7]) (R := fun (q : Tm × Int × Int) v H => TabR K n v q.1 H) (evi_log (j := 6) (k := 7) (evr_log (i := 0) (σ := [some r, some (.int (n : Int)), some (.int (every n : Int)), some (.ref p), some v, z5, none, none, z8, z9, none]) rfl (log_ex eb h0))) (by omega) (fun q => decide (q.2 = x)) (fun a σ2 H2 _ hp => by obtain ⟨r', u, rfl, _⟩ := hp; rfl) (fun a σ2 H2 _ ex hp => ?_) (fun a σ2 H2 ha _ ex hp => ?_) (fun a v H1 H2 h e => h.ex e) (fun a v H1 q ws _ h hq => h.er hq) H' (Ex.refl _) _ fun a tws H5 na e5 ha htab => ?_)
    · obtain ⟨r', u, rfl, _, hu⟩ := hp
      exact evt_T (K := K) (eva_eqQ (eva_var rfl hu) (eva_var rfl (dp_ex ex dv)))
    · obtain ⟨r', u, rfl, hr', _⟩ := hp
      exact fun H1 e1 Q q => evtb_corners (evr_rule rfl hr') (ok.rt a ha) H1 e1 _ fun d H2 nd e2 tab => q _ H2 e2 ⟨d, rfl, tab⟩
    have htab' : Paired (fun v t => TabR K n v t H5) tws (tabsAt log x) := by
      unfold tabsAt
      generalize log.filter (fun p => decide (p.2 = x)) = L at htab ⊢
      clear ha na
      induction htab with
      | nil => exact .nil
      | cons h _ ih => exact .cons (h.ex er_ex) ih
    have tsl : (tabsAt log x).length ≤ 4 := by
      unfold tabsAt
      rw [List.length_map]
      exact Nat.le_trans (List.length_filter_le _ _) l4
    have trt : ∀ t ∈ tabsAt log x, RT n t := fun t ht => by
      obtain ⟨p, hp, rfl⟩ := List.mem_map.mp ht
      exact ok.rt p (List.mem_filter.mp hp).1
    refine q_asg (evl_lf (b := true) rfl rfl rfl n6 ha htab' trt (by omega) (dp_ex e5 dv) fx).eva fun lv H6 e6 dl => ?_
    refine q_asgL (evl_lf (b := false) rfl rfl rfl n6 (e6 a _ ha) (Paired.mapP htab' fun v t h => h.ex e6) trt (by omega) (dp_ex (e5.trans e6) dv) fx) fun mq mws H7 nm e7 hm dm => ?_
    have e57 := (e5.trans e6).trans e7
    have hp7 := e57 p _ hp'
    have few : ∀ b, (lotsFor n (tabsAt log x) x b).length ≤ 64 := fun b => few64 (lotsFor_nodup _ _ _ _) fun l hl => by
      obtain ⟨m, h1, _, rfl⟩ := lotsFor_mem.mp hl
      exact mask64 n6 h1
    refine q_appN (l := leastAt n log x) rfl hp7 (EvaL.is (evl_lc (K := K) (fun l => !decide (x = (0, 1)) || decide (l = every n)) (fun l => .int (l : Int)) (evi_ints (eva_var rfl (dp_ex e7 dl))) (Nat.lt_of_le_of_lt (few true) (by decide)) (fun a σ2 H2 _ hp => ?_) (fun a σ2 H2 ha ex hp => ?_) (fun a σ2 H2 ha hf ex hp => ?_) (fun _ _ => rfl)) (by rw [zi, List.map_map]; rfl)) (by omega) fun v8 H8 e8 hp8 d8 => ?_
    · obtain ⟨v, rfl, _⟩ := hp; rfl
    · obtain ⟨v, rfl, hv⟩ := hp
      refine Evl.et_is (Evl.et_or (evt_T (K := K) (eva_neQ (eva_var rfl (dp_ex (e57.trans ex) dv)) (eva_c (dp_zero T H2)))) fun _ => evt_T (K := K) (eva_eqI (eva_var rfl hv) (eva_var rfl (.int (every n : Int))))) ?_
      rw [show decide ((a : Int) = (every n : Int)) = decide (a = every n) from decide_eq_decide.mpr (by omega)]
    · obtain ⟨v, rfl, hv⟩ := hp
      exact eva_var rfl hv
    have e58 := e57.trans e8
    have tx8 : Tx H8 (upd H8 p (.lst (ws ++ [v8]))) := Tx.upd hp8 rfl
    have mp : mq ≠ p := fun z => by rw [z, (e5.trans e6) p _ hp'] at nm; cases nm
    rw [dpa_ints dm] at hm
    have hm8 : upd H8 p (.lst (ws ++ [v8])) mq = some (.lst ((zi (lotsFor n (tabsAt log x) x false)).map V.int)) := by rw [upd_ne mp]; exact e8 mq _ hm
    have dm8 : Dp K (upd H8 p (.lst (ws ++ [v8]))) (.ref mq) (eI (lotsFor n (tabsAt log x) x false)) := dp_newL hm8 (dpa_ofints _)
    have dv8 : Dp K (upd H8 p (.lst (ws ++ [v8]))) v (eQ x) := dp_tx tx8 (dp_ex e58 dv) rfl
    refine s_appN (l := mostAt n log x) rfl upd_same (EvaL.is (evl_lc (K := K) (xs := lotsFor n (tabsAt log x) x false) (fun l => !decide (x = (1, 1)) || decide (l = 0)) (fun l => .int (l : Int)) (evi_ints (eva_var rfl dm8)) (Nat.lt_of_le_of_lt (few false) (by decide)) (fun a σ2 H2 _ hp => ?_) (fun a σ2 H2 ha ex hp => ?_) (fun a σ2 H2 ha hf ex hp => ?_) (fun _ _ => rfl)) (by rw [zi, List.map_map]; rfl)) (by rw [List.length_append]; simp; omega) fun v9 H9 e9 hp9 d9 => ?_
    · obtain ⟨v, rfl, _⟩ := hp; rfl
    · obtain ⟨v, rfl, hv⟩ := hp
      refine Evl.et_is (Evl.et_or (evt_T (K := K) (eva_neQ (eva_var rfl (dp_ex ex dv8)) (eva_c (dp_one T H2)))) fun _ => evt_T (K := K) (eva_eqI (eva_var rfl hv) eva_int)) ?_
      rw [show decide ((a : Int) = 0) = decide (a = 0) from decide_eq_decide.mpr (by omega)]
    · obtain ⟨v, rfl, hv⟩ := hp
      exact eva_var rfl hv
    have b0 : Ex H (upd H8 p (.lst (ws ++ [v8]))) := (eb.trans e58).mut np'
    have tx9 : Tx H9 (upd H9 p (.lst (ws ++ [v8] ++ [v9]))) := Tx.upd hp9 rfl
    have txA : Tx H' (upd H9 p (.lst (ws ++ [v8] ++ [v9]))) := (((Tx.of e58).trans tx8).trans (.of e9)).trans tx9
    refine ⟨_, some v, some (.ref a), some lv, some (.ref mq), rfl, (b0.trans e9).mut np', ?_, Paired.mapP hls' fun v a h => dp_tx txA h rfl, upd_same, ?_⟩
    · rw [upd_ne (Ne.symm pl)]
      refine e9 l _ ?_
      rw [upd_ne (Ne.symm pl)]
      exact e58 l _ hl'
    · rw [er_upd, et, List.map_append, List.map_append]
      have g8 := er_mono (p := p) e9
      rw [er_upd] at g8
      exact dpa_app (dpa_app (dpa_ex ((er_mono e58).trans g8) hd) (dpa_one (dp_ex g8 d8))) (dpa_one d9)
  · obtain ⟨ws, z4, z5, z8, z9, rfl, eb, hl', hls', hp', hd⟩ := hP
    rw [List.take_length] at hd
    exact ⟨_, rfl, q p ws H' np' eb hp' hd⟩
end
end Cb
set_option Elab.async false
set_option linter.all false
set_option maxRecDepth 100000
set_option maxHeartbeats 8000000
/-! Cb, the layer: reversed lists, filtered dicts. -/
namespace Cb
open PySem PySem.Spec PyProof.Rows L2 Evl
theorem paired_rev {α β : Type} {F : α → β → Prop} : ∀ {l : List α} {m : List β}, Paired F l m → Paired F l.reverse m.reverse
  | _, _, .nil => .nil
  | _, _, .cons h t => by
    rw [List.reverse_cons, List.reverse_cons]
    exact paired_app (paired_rev t) (.cons h .nil)
theorem paired_dpa2 {α : Type} {K : PySem.W.Frag} {H : Hp} {e : α → PyData} {vs : List V} {xs : List α} (h : DpAll K H vs (xs.map e)) : Paired (fun v a => Dp K H v (e a)) vs xs := dpa_paired h
section
variable {K : PySem.W.Frag} {σ : L2.St} {H H0 : Hp} {te : TE} {i j k : Nat} {v : V} {D : Ends} {tz : TS}
/-- xs[::-1] of a list known from before -/
theorem evf_rev {α : Type} {e : α → PyData} {L : List α} (hv : σ[i]? = some (some v)) (h : Dp K H0 v (.list (L.map e))) (ex : Ex H0 H) : EvF (fun v a _ => Dp K H0 v (e a)) (tRevL K (tVar i)) σ H L.reverse := fun H1 e1 Q q => by
  obtain ⟨a, vs, rfl, ha, hs⟩ := dp_lst h
  exact ⟨_, hv, a, vs, rfl, ex_l (ex.trans e1) ha, fun p hp => q p vs.reverse _ hp (Ex.new hp) upd_same (paired_rev (dpa_paired hs))⟩
/-- xs[::-1] of an own list -/
theorem evf_revO {α : Type} {F : V → α → Hp → Prop} {L : List α} {a : Addr} {ws : List V} (hv : σ[i]? = some (some (.ref a))) (ha : H a = some (.lst ws)) (h : Paired (fun v a => F v a H) ws L) (hF : ∀ v a H1 H2, Ex H1 H2 → F v a H1 → F v a H2) : EvF F (tRevL K (tVar i)) σ H L.reverse := fun H1 e1 Q q =>
  ⟨_, hv, a, ws, rfl, .inl (.inl (e1 a _ ha)), fun p hp => q p ws.reverse _ hp (Ex.new hp) upd_same (Paired.mapP (paired_rev h) fun v x r => hF v x _ _ (e1.trans (Ex.new hp)) r)⟩
theorem s_retF {α : Type} {F : V → α → Hp → Prop} {xs : List α} (h : EvF F te σ H xs) (k : ∀ p ws H2, H p = none → Ex H H2 → H2 p = some (.lst ws) → Paired (fun v a => F v a H2) ws xs → D.rt (.ref p) H2) : tRet te D σ H := h H (Ex.refl _) _ k
theorem q_asgF {α : Type} {F : V → α → Hp → Prop} {xs : List α} (h : EvF F te σ H xs) (k : ∀ p ws H2, H p = none → Ex H H2 → H2 p = some (.lst ws) → Paired (fun v a => F v a H2) ws xs → tz D (σ.set i (some (.ref p))) H2) : tSeq (tAsg te (gName i)) tz D σ H := h H (Ex.refl _) _ k
/-- v is None, the thing as it is -/
theorem evt_isNV (hv : σ[i]? = some (some v)) : EvT (tTest (tOp (fun x y H Q => y = .non ∧ Q (.bl (decide (x = .non))) H) (tVar i) (tC .non))) σ H (decide (v = .non)) := fun H1 e Q q => ⟨v, hv, rfl, _, rfl, q H1 (Ex.refl _)⟩
/-- {k: v for k, v in d.items() if ..}, the dict locked -/
theorem s_lockD {m : Ways} {w : Addr} {a b jw : Nat} {tt : TT} (f : Nat × Nat → Bool) (hv : σ[jw]? = some (some (.ref w))) (hw : H w = some (.dK (kvI m))) (hn : (m.map (·.1)).Nodup) (hl : m.length ≤ 1000) (hab : ∀ e σ2 H2, PI2 a b e (wipe σ [a, b]) σ2 H2 → wipe σ2 [a, b] = wipe σ [a, b] ∧ σ2[a]? = some (some (.int (e.1 : Int))) ∧ σ2[b]? = some (some (.int (e.2 : Int))))
    (ht : ∀ e σ2 H2, e ∈ m → PI2 a b e (wipe σ [a, b]) σ2 H2 → EvT tt σ2 H2 (f e)) (k : ∀ d H2, H d = none → Ex H H2 → H2 d = some (.dK (kvI (m.filter f))) → D.nx (σ.set i (some (.ref d))) H2) :
    tLock (tAsg (tDcG (fun _ => .dK []) PutI (iItems (tVar jw)) (g2 K a b) tt (tVar a) (tVar b) [a, b]) (gName i)) D σ H := by
  refine ⟨w, _, hw, trivial, fun od => ?_⟩
  show tDcG (fun _ => .dK []) PutI (iItems (tVar jw)) (g2 K a b) tt (tVar a) (tVar b) [a, b] σ (upd H w (.frz od (.dK (kvI m)))) _
  refine evi_items (K := K) (j := a) (k := b) (evr_var (R := fun v _ => v = .ref w) hv fun _ _ => rfl) upd_same _ (Ex.refl _) _ ?_
  intro J H2 e2 wk d hd
  have nd : H d = none := by
    have := fresh_back e2 hd
    have ne : d ≠ w := fun z => by rw [z, upd_same] at this; cases this
    rwa [upd_ne ne] at this
  refine dc_gen (E0 := fun _ => .dK []) (Pt := PutI) (D := d) (Q := fun v H' => H' w = some (.frz od (.dK (kvI m))) ∧ D.nx (σ.set i (some v)) (upd H' w (.dK (kvI m)))) wk (fun j H' => Ex H2 H' ∧ H' d = some (.dK (kvI ((m.take j).filter f)))) (fun j H' _ h => h.1) ?_ (fun e σ2 H3 _ hp => (hab e σ2 H3 hp).1) (fun j hj H' σ2 H3 hP e3 hp => ?_) fun H' hP => ?_
  · exact ⟨Ex.new hd, upd_same⟩
  · obtain ⟨eb, hk⟩ := hP
    obtain ⟨_, g1, g2⟩ := hab _ _ _ hp
    refine ht _ _ _ (List.getElem_mem hj) hp H3 (Ex.refl _) _ fun H4 e4 => ?_
    have tk : (m.take (j + 1)).filter f = (m.take j).filter f ++ if f m[j] = true then [m[j]] else [] := by
      rw [List.take_add_one, List.getElem?_eq_getElem hj]
      show (m.take j ++ [m[j]]).filter f = _
      rw [List.filter_append, List.filter_cons, List.filter_nil]
    have e34 := e3.trans e4
    have hk4 := e34 d _ hk
    cases hf : f m[j] with
    | true =>
      show tVar a _ H4 fun y H5 => _
      refine ⟨_, g1, _, g2, _, ⟨_, Sum.inl (m[j].1 : Int), rfl, hk4, ?_, rfl⟩, (eb.trans e34).mut hd, ?_⟩
      · rw [kvI_len, sizeLine_eq]
        have : ((m.take j).filter f).length ≤ m.length := Nat.le_trans (List.length_filter_le _ _) (by rw [List.length_take]; omega)
        omega
      · rw [upd_same, tk, if_pos hf, putK_kvI]
        intro e he ne
        have h1 := (List.mem_filter.mp he).1
        obtain ⟨x, hx, rfl⟩ := List.getElem_of_mem h1
        rw [List.length_take] at hx
        rw [List.getElem_take] at ne
        have := (List.nodup_iff_pairwise_ne.mp hn)
        have q := List.pairwise_iff_getElem.mp this x j (by simp; omega) (by simpa using hj) (by omega)
        rw [List.getElem_map, List.getElem_map] at q
        exact q ne
    | false =>
      show Ex H2 H4 ∧ _
      rw [tk, if_neg (by rw [hf]; exact Bool.false_ne_true), List.append_nil]
      exact ⟨eb.trans e34, hk4⟩
  · obtain ⟨eb, hk⟩ := hP
    rw [List.take_length] at hk
    have ew : H' w = some (.frz od (.dK (kvI m))) := (e2.trans eb) w _ upd_same
    refine ⟨ew, k d _ nd (ex_unlock hw (e2.trans eb)) ?_⟩
    have ne : d ≠ w := fun z => by rw [z, ew] at hk; cases hk
    rw [upd_ne ne]
    exact hk
theorem q_lockD {m : Ways} {w : Addr} {a b jw : Nat} {tt : TT} (f : Nat × Nat → Bool) (hv : σ[jw]? = some (some (.ref w))) (hw : H w = some (.dK (kvI m))) (hn : (m.map (·.1)).Nodup) (hl : m.length ≤ 1000) (hab : ∀ e σ2 H2, PI2 a b e (wipe σ [a, b]) σ2 H2 → wipe σ2 [a, b] = wipe σ [a, b] ∧ σ2[a]? = some (some (.int (e.1 : Int))) ∧ σ2[b]? = some (some (.int (e.2 : Int))))
    (ht : ∀ e σ2 H2, e ∈ m → PI2 a b e (wipe σ [a, b]) σ2 H2 → EvT tt σ2 H2 (f e)) (k : ∀ d H2, H d = none → Ex H H2 → H2 d = some (.dK (kvI (m.filter f))) → tz D (σ.set i (some (.ref d))) H2) :
    tSeq (tLock (tAsg (tDcG (fun _ => .dK []) PutI (iItems (tVar jw)) (g2 K a b) tt (tVar a) (tVar b) [a, b]) (gName i))) tz D σ H := s_lockD (D := { D with nx := tz D }) f hv hw hn hl hab ht k
end
end Cb
set_option Elab.async false
set_option linter.all false
set_option maxRecDepth 100000
set_option maxHeartbeats 8000000
/-! Cb, defs 13: ways down and up, the first way. -/
namespace Cb
open PySem PySem.Spec PyProof.Rows L2 Evl
theorem wd_len : ∀ L : List (List Nat), (wd L).length = L.length
  | [] => rfl
  | _ :: r => by rw [wd, List.length_cons, List.length_cons, wd_len r]
theorem wdStep_keys {b : Option Ways} {lots : List Nat} : ∃ f : Nat → Bool, (wdStep b lots).map (·.1) = lots.filter f := by
  refine ⟨fun l => decide (0 < waysOf b l), ?_⟩
  unfold wdStep
  induction lots with
  | nil => rfl
  | cons l r ih =>
    rw [List.map_cons, List.filter_cons, List.filter_cons]
    by_cases h : 0 < waysOf b l
    · rw [if_pos (decide_eq_true h), if_pos (decide_eq_true h), List.map_cons, ih]
    · rw [if_neg (by simpa using h), if_neg (by simpa using h), ih]
theorem wdStep_len {b : Option Ways} {lots : List Nat} : (wdStep b lots).length ≤ lots.length := by
  unfold wdStep
  exact Nat.le_trans (List.length_filter_le _ _) (by simp)
theorem wd_few {L : List (List Nat)} (h : LevOk L) : ∀ m ∈ wd L, m.length ≤ 64 := fun m hm => by
  have h1 := h.nd
  have h2 := h.lt
  clear h
  induction L with
  | nil => cases hm
  | cons lots r ih =>
    rw [wd] at hm
    rcases List.mem_cons.mp hm with e | e
    · rw [e]
      exact Nat.le_trans wdStep_len (few64 (h1 lots (by simp)) (h2 lots (by simp)))
    · exact ih e (fun l hl => h1 l (by simp [hl])) (fun l hl => h2 l (by simp [hl]))
theorem drop_rev {L : List (List Nat)} {i : Nat} (h : i < L.reverse.length) : L.drop (L.length - (i + 1)) = L.reverse[i] :: L.drop (L.length - i) := by
  rw [List.length_reverse] at h
  have h1 : L.length - (i + 1) < L.length := by omega
  rw [List.drop_eq_getElem_cons h1, List.getElem_reverse]
  have : L.length - (i + 1) + 1 = L.length - i := by omega
  rw [this]
  congr 2
  omega
def BehR (b : Option Ways) (v : V) (H : Hp) : Prop := match b with
  | none => v = .non
  | some m => WayR m v H ∧ m.length ≤ 64
theorem BehR.ex {b : Option Ways} {v : V} {H H' : Hp} (e : Ex H H') (h : BehR b v H) : BehR b v H' := by
  cases b with
  | none => exact h
  | some m => exact ⟨h.1.ex e, h.2⟩
/-- dicts stay when a list is changed -/
theorem WayR.mutL {m : Ways} {v : V} {H : Hp} {p : Addr} {ws : List V} {o : HO} (h : WayR m v H) (hp : H p = some (.lst ws)) : WayR m v (upd H p o) := by
  obtain ⟨d, rfl, h⟩ := h
  exact ⟨d, rfl, by rw [upd_ne (fun z => by rw [z, hp] at h; cases h)]; exact h⟩
section
variable {P : Program} {w : World} {K : PySem.W.Frag} {mg : Str → Option Value} {base : Heap}
theorem sc_ways_down : FnScope ["levels", "found", "behind", "lots", "ways", "lot", "part", "many"] ["levels"] (defScope (topS 72)) := ⟨rfl, rfl, rfl, by decide +kernel, rfl, by decide +kernel, by decide +kernel⟩
theorem bn_ways_down : Bnd "ways_down" 72 ["levels"] := fun _ _ _ _ _ _ us hl => match us, hl with | [_], _ => rfl
/-- levels in, a new list of dicts out -/
def spWD (K : PySem.W.Frag) : Sp := fun vs H Q _ => ∃ (L : List (List Nat)) (v : V), vs = [v] ∧ Dp K H v (.list (L.map eI)) ∧ LevOk L ∧ ∀ p ws H2, H p = none → Ex H H2 → H2 p = some (.lst ws) → Paired (fun v m => WayR m v H2) ws (wd L) → Q (.ref p) H2
theorem evf_wd {σ : L2.St} {H : Hp} {te : TE} {L : List (List Nat)} {E : XK} (h : Eva K te σ H (.list (L.map eI))) (ok : LevOk L) : EvF (fun v m H => WayR m v H) (tCall (spWD K) [] E (tCons te tNil)) σ H (wd L) := fun H1 e Q q =>
  h H1 e _ fun v H2 e2 dv => ⟨L, v, rfl, dv, ok, fun p ws H3 np e3 hp hw => q p ws H3 (fresh_back e2 np) (e2.trans e3) hp hw⟩
theorem sum_zi : ∀ l : List Nat, (zi l).sum = ((l.sum : Nat) : Int)
  | [] => rfl
  | x :: l => by
    rw [zi, List.map_cons, List.sum_cons, List.sum_cons]
    have := sum_zi l
    rw [zi] at this
    rw [this]
    omega
theorem has_ways_down {k : Nat} (T : Tb K mg) (h_is_part : Has P w K mg base "is_part" k ["lot", "other"] (spR K rPart)) : Has P w K mg base "ways_down" (k + 1) ["levels"] (spWD K) := by
  refine has_sp T.f_ways_down sc_ways_down bn_ways_down (fun vs H Q E h => by obtain ⟨_, _, rfl, _⟩ := h; rfl) fun f cdv A outer s H vs Q E hr h => ?_
  obtain ⟨L, v1, rfl, hL, ok, q⟩ := h
  refine ⟨_, (pss_cons (ps_set (i := 1) sc_ways_down.nd rfl (by first | exact Or.inl rfl | exact Or.inr rfl) (pe_lst pa_nil))
      (pss_cons (ps_set (i := 2) sc_ways_down.nd rfl (by first | exact Or.inl rfl | exact Or.inr rfl) pe_non)
      (pss_cons (ps_for PassesOwn.never rfl (pi_listK K (pe_revLK K (pv 0))) (pg_name (i := 3) sc_ways_down.nd rfl (by first | exact Or.inl rfl | exact Or.inr rfl)) (pss_cons (ps_set (i := 4) sc_ways_down.nd rfl (by first | exact Or.inl rfl | exact Or.inr rfl) pe_dnewK)
      (pss_cons (ps_for PassesOwn.never rfl (pi_listK K (pv 3)) (pg_name (i := 5) sc_ways_down.nd rfl (by first | exact Or.inl rfl | exact Or.inr rfl)) (pss_one (ps_dput (hu1 hr) (pv 4) (pv 5) (pe_ifExp (pt_cmpR op_isN (pv 2) pe_non (nomark _)) pe_int (pe_callB (cr_sumK K) (by rfl) T.sum (by decide +kernel) (pa_cons (pe_lock (pe_lc (own := [("part", 6), ("many", 7)]) (g := (g2 K 6 7)) rfl sc_ways_down.nd (pi_items (pv 2)) (blkOk_by (N := ["levels", "found", "behind", "lots", "ways", "lot", "part", "many"]) (sc := defScope (topS 72)) (by decide +kernel)) (fun _ _ _ _ _ => (pg_tup rfl (pgs_cons (pg_name (i := 6) sc_ways_down.nd rfl (by first | exact Or.inl rfl | exact Or.inr rfl)) (pgs_cons (pg_name (i := 7) sc_ways_down.nd rfl (by first | exact Or.inl rfl | exact Or.inr rfl)) pgs_nil)))) (fun _ _ _ _ _ => pts_one (pt_val (pe_callH h_is_part hr (pa_cons (pv 6) (pa_cons (pv 5) pa_nil))))) (fun _ _ _ _ _ => (pv 7)))) pa_nil))) (by rfl))))
      (pss_cons (ps_lock (ps_setDcG (i := 2) (E0 := fun _ => .dK []) (Pt := PutI) (own := [("lot", 5), ("many", 7)]) (g := (g2 K 5 7)) (fun _ _ _ _ h => dictIH_empty _ _ _ _ h) putI_ok rfl sc_ways_down.nd rfl rfl (sw_trueD rfl rfl rfl (by decide +kernel)) (pi_items (pv 4)) (blkOk_by (N := ["levels", "found", "behind", "lots", "ways", "lot", "part", "many"]) (sc := defScope (topS 72)) (by decide +kernel)) (fun _ _ _ _ _ => (pg_tup rfl (pgs_cons (pg_name (i := 5) sc_ways_down.nd rfl (by first | exact Or.inl rfl | exact Or.inr rfl)) (pgs_cons (pg_name (i := 7) sc_ways_down.nd rfl (by first | exact Or.inl rfl | exact Or.inr rfl)) pgs_nil)))) (fun _ _ _ _ _ => pts_one (pt_cmpR op_gt (pv 7) pe_int (nomark _))) (fun _ _ _ _ _ => (pv 5)) (fun _ _ _ _ _ => (pv 7))))
      (pss_one (ps_expr (pe_bm PySem.F.plainAttrs_list PySem.F.slot_list_append PySem.F.type_list_append mt_append (pv 1) (pa_cons (pv 2) pa_nil))))))))
      (pss_one (ps_ret (pe_revLK K (pv 1))))))), ?_⟩
  refine q_asgL (evl_lst (K := K) evaa_nil) fun p ws0 H1 np e1 hp dw => ?_
  cases dw
  refine q_asg (eva_non (K := K)) fun v0 H2 e2 dv => ?_
  cases dv
  have e12 := e1.trans e2
  refine q_forF (evf_rev rfl hL e12) fun l ls H3 nl e3 hl hls => ?_
  have hp2 := e2 p _ hp
  have pl : p ≠ l := fun z => by rw [z, nl] at hp2; cases hp2
  have e13 := e12.trans e3
  let Iv : Nat → L2.St → Hp → Prop := fun i σ' H' => ∃ ws bv z3 z4 z5, σ' = [some v1, some (.ref p), some bv, z3, z4, z5, none, none] ∧ Ex H H' ∧ H' l = some (.lst ls) ∧ H' p = some (.lst ws) ∧ Paired (fun v m => WayR m v H') ws (wd (L.drop (L.length - i))).reverse ∧ BehR (wd (L.drop (L.length - i))).head? bv H'
  refine ⟨Iv, fun i σ' H' _ h => ?_, ⟨[], .non, none, none, none, rfl, e13, hl, e3 p _ hp2, ?_, ?_⟩, fun i hi σ' H' v hP dv => ?_, fun σ' H' hP => ?_⟩
  · obtain ⟨_, _, _, _, _, _, _, h1, _⟩ := h
    exact ⟨h1, hls⟩
  · rw [Nat.sub_zero, List.drop_length]; exact .nil
  · rw [Nat.sub_zero, List.drop_length]; rfl
  · obtain ⟨ws, bv, z3, z4, z5, rfl, eb, hl', hp', hw', hb'⟩ := hP
    have ed := drop_rev hi
    have hmem : L.reverse[i] ∈ L := List.mem_reverse.mp (List.getElem_mem hi)
    have nd := ok.nd _ hmem
    have few := few64 nd (ok.lt _ hmem)
    have lw : ws.length ≤ 8 := by
      rw [paired_len hw', List.length_reverse, wd_len, List.length_drop]
      have := ok.few
      omega
    have bfew : ∀ m, (wd (L.drop (L.length - i))).head? = some m → m.length ≤ 64 := fun m hm => by
      rw [hm] at hb'
      exact hb'.2
    generalize L.reverse[i] = lots at dv ed nd few
    generalize hwb : wd (L.drop (L.length - i)) = W at hw' hb' bfew
    -- ways = {}
    refine fun wd0 nw => ?_
    have e4 : Ex H' (upd H' wd0 (.dK [])) := Ex.new nw
    have lz : ((zi lots).map PyData.int).length = lots.length := by simp
    -- the inner loop
    refine q_forG (evg_list (K := K) (i := 3) (j := 5) rfl dv (eb.trans e4)) (fun j σ5 H5 => ∃ z5, σ5 = [some v1, some (.ref p), some bv, some v, some (.ref wd0), z5, none, none] ∧ Ex H' H5 ∧ H5 wd0 = some (.dK (kvI ((lots.take j).map fun l => (l, waysOf W.head? l))))) (fun j σ5 H5 _ h => by obtain ⟨_, _, h1, _⟩ := h; exact eb.trans h1)
      (fun H5 e5 => ⟨z5, rfl, e4.trans e5, e5 wd0 _ upd_same⟩) ?_ ?_
    · intro j hj σ5 H5 σ6 H6 hP e6 hp6
      obtain ⟨z5, rfl, eb5, hw5⟩ := hP
      obtain ⟨u, rfl, hu⟩ := hp6
      have hj' : j < lots.length := by omega
      have eu : ((zi lots).map PyData.int)[j] = .int ((lots[j] : Nat) : Int) := by simp
      rw [eu] at hu
      cases hu
      have val : Eva K (tIf (tTest (tOp (fun x y H Q => y = .non ∧ Q (.bl (decide (x = .non))) H) (tVar 2) (tC .non))) (tC (.int 1)) (tCB (rSum K) (tCons (tLockE (tLc (iItems (tVar 2)) (g2 K 6 7) (tB (tCall (spR K rPart) [] E0 (tCons (tVar 6) (tCons (tVar 5) tNil)))) (tVar 7) [6, 7])) tNil))) [some v1, some (.ref p), some bv, some v, some (.ref wd0), some (.int (lots[j] : Int)), none, none] H6 (.int (waysOf W.head? lots[j] : Int)) := by
        refine eva_if (evt_isNV rfl) (fun hb => ?_) (fun hb => ?_)
        · cases hWb : W.head? with
          | none => exact eva_int
          | some m =>
            rw [hWb] at hb'
            obtain ⟨⟨d, rfl, _⟩, _⟩ := hb'
            exact absurd hb (by simp)
        · cases hWb : W.head? with
          | none =>
            rw [hWb] at hb'
            have : bv = .non := hb'
            rw [this] at hb
            exact absurd hb (by simp)
          | some m =>
            have mf := bfew m hWb
            rw [hWb] at hb'
            obtain ⟨⟨d, rfl, hd⟩, _⟩ := hb'
            have hd6 : H6 d = some (.dK (kvI m)) := (eb5.trans e6) d _ hd
            refine eva_is (eva_sum (ns := zi ((m.filter fun e => isPart e.1 lots[j]).map (·.2))) (EvaL.eva (evl_lock hd6 fun od H7 e7 => EvaL.is (evl_lc (K := K) (fun e => isPart e.1 lots[j]) (fun e => .int (e.2 : Int)) (evi_items (m := m) (evr_var (R := fun v _ => v = .ref d) rfl fun _ _ => rfl) upd_same) (by omega) (fun a σ2 H2 _ hp => ?_) (fun a σ2 H2 ha ex hp => ?_) (fun a σ2 H2 ha hf ex hp => ?_) (fun _ _ => rfl)) ?_))) ?_
            · cases hp; rfl
            · cases hp
              exact evt_B (K := K) (eva_call (evaa_cons (eva_var rfl (.int _)) (evaa_cons (eva_var rfl (.int _)) evaa_nil)) ⟨_, _, rfl, rfl⟩)
            · cases hp
              exact eva_var rfl (.int _)
            · rw [zi, List.map_map, List.map_map]
              rfl
            · rw [sum_zi]
              rfl
      refine val H6 (Ex.refl _) _ fun cv H7 e7 dc => ?_
      cases dc
      have e67 := e6.trans e7
      have hw7 := e67 wd0 _ hw5
      refine ⟨_, rfl, _, rfl, wd0, _, rfl, .inl ⟨_, Sum.inl (lots[j] : Int), hw7, rfl, ?_, rfl⟩, ?_⟩
      · rw [kvI_len, sizeLine_eq, List.length_map, List.length_take]
        omega
      · have n5 : H' wd0 = none := nw
        refine ⟨_, rfl, (eb5.trans e67).mut n5, ?_⟩
        rw [upd_same, take_snoc hj', List.map_append, putK_kvI]
        · rfl
        · intro e he ne
          obtain ⟨x, hx, rfl⟩ := List.mem_map.mp he
          have ne' : x = lots[j] := ne
          obtain ⟨y, hy, ey⟩ := List.getElem_of_mem hx
          rw [List.length_take] at hy
          rw [List.getElem_take] at ey
          have := List.pairwise_iff_getElem.mp (List.nodup_iff_pairwise_ne.mp nd) y j (by omega) hj' (by omega)
          exact this (ey.trans ne')
    · intro σ5 H5 hP
      obtain ⟨z5, rfl, eb5, hw5⟩ := hP
      rw [lz, List.take_length] at hw5
      have keys : (lots.map fun l => (l, waysOf W.head? l)).map (·.1) = lots := by
        rw [List.map_map]
        exact List.map_id _
      refine q_lockD (fun e => decide (0 < e.2)) rfl hw5 (by rw [keys]; exact nd) (by rw [List.length_map]; omega) (fun e σ2 H2 hp => ?_) (fun e σ2 H2 _ hp => ?_) fun d H6 nd6 e6 hd6 => ?_
      · cases hp; exact ⟨rfl, rfl, rfl⟩
      · cases hp
        refine evt_is (evt_T (K := K) (eva_B0 (eva_var rfl (.int _)) eva_int)) ?_
        exact decide_eq_decide.mpr (by omega)
      · have e16 := eb5.trans e6
        have hp6 := e16 p _ hp'
        refine s_app (R := fun v H => v = .ref d) rfl hp6 (evr_var rfl fun _ _ => rfl) (by omega) fun v' H7 e7 ev hp7 => ?_
        subst ev
        have stp : ((lots.map fun l => (l, waysOf W.head? l)).filter fun e => decide (0 < e.2)) = wdStep W.head? lots := rfl
        rw [stp] at hd6
        have e17 := e16.trans e7
        have hd7 : WayR (wdStep W.head? lots) (.ref d) H7 := ⟨d, rfl, e7 d _ hd6⟩
        have ew : wd (L.drop (L.length - (i + 1))) = wdStep W.head? lots :: W := by rw [ed, wd, hwb]
        refine ⟨_, .ref d, _, _, _, rfl, (eb.trans e17).mut np, ?_, upd_same, ?_, ?_⟩
        · rw [upd_ne (Ne.symm pl)]; exact e17 l _ hl'
        · rw [ew, List.reverse_cons]
          exact paired_app (Paired.mapP hw' fun v m r => (r.ex e17).mutL hp7) (.cons (hd7.mutL hp7) .nil)
        · rw [ew]
          exact ⟨hd7.mutL hp7, Nat.le_trans wdStep_len few⟩
  · obtain ⟨ws, bv, z3, z4, z5, rfl, eb, hl', hp', hw', hb'⟩ := hP
    rw [List.length_reverse, Nat.sub_self, List.drop_zero] at hw'
    refine s_retF (evf_revO (F := fun v m H => WayR m v H) rfl hp' hw' fun v m H1 H2 e r => r.ex e) fun r rs H4 nr e4 hr' hrs => ?_
    rw [List.reverse_reverse] at hrs
    exact q r rs H4 (fresh_back eb nr) (eb.trans e4) hr' hrs
theorem sc_ways_up : FnScope ["levels", "found", "lots", "ahead", "lot", "other"] ["levels"] (defScope (topS 73)) := ⟨rfl, rfl, rfl, by decide +kernel, rfl, by decide +kernel, by decide +kernel⟩
theorem bn_ways_up : Bnd "ways_up" 73 ["levels"] := fun _ _ _ _ _ _ us hl => match us, hl with | [_], _ => rfl
def rWup (ds es : List PyData) : Prop := ∃ (lots : List Nat) (L : List (List Nat)), ds = [.list ((lots :: L).map eI)] ∧ LevOk (lots :: L) ∧ es = (wup (lots :: L)).map eI
theorem upR_len : ∀ (p : List Nat) (L : List (List Nat)), (upR p L).length = L.length
  | _, [] => rfl
  | _, _ :: r => by rw [upR, List.length_cons, List.length_cons, upR_len]
theorem upR_take : ∀ (p : List Nat) (L : List (List Nat)) (i : Nat) (h : i < L.length), upR p (L.take (i + 1)) = upR p (L.take i) ++ [upStep ((p :: upR p (L.take i)).getLastD []) L[i]]
  | p, lots :: r, 0, _ => rfl
  | p, lots :: r, i + 1, h => by
    have h' : i < r.length := by simpa using h
    rw [List.take_succ_cons, List.take_succ_cons, upR, upR, upR_take _ r i h', List.cons_append]
    rfl
theorem up_last {p : List Nat} {L : List (List Nat)} (f : List Nat → Prop) (hp : f p) (hs : ∀ q, f q → ∀ lots ∈ L, f (upStep q lots)) : ∀ x ∈ p :: upR p L, f x := by
  intro x hx
  rcases List.mem_cons.mp hx with e | e
  · rw [e]; exact hp
  · clear hx
    induction L generalizing p with
    | nil => cases e
    | cons lots r ih =>
      rw [upR] at e
      have h1 := hs p hp lots (by simp)
      rcases List.mem_cons.mp e with e | e
      · rw [e]; exact h1
      · exact ih h1 (fun q hq l hl => hs q hq l (by simp [hl])) e
theorem atI_neg1L {ds : List PyData} {d : PyData} (h : ds.getLast? = some d) : atI ds (-1) = some d := by
  rcases List.eq_nil_or_concat ds with e | ⟨r, z, e⟩
  · subst e; cases h
  · rw [List.concat_eq_append] at e
    subst e
    rw [List.getLast?_concat] at h
    cases h
    exact atI_neg1
/-- name = [e], e a new list of ints -/
theorem q_asgN1 {σ : L2.St} {H : Hp} {te : TE} {tz : TS} {D : Ends} {i : Nat} {l : List Nat} (h : EvaL K te σ H ((zi l).map PyData.int)) (k : ∀ p v H2, H p = none → Ex H H2 → H2 p = some (.lst [v]) → Dp K (er H2 p) v (eI l) → tz D (σ.set i (some (.ref p))) H2) : tSeq (tAsg (tLst (tCons te tNil)) (gName i)) tz D σ H :=
  h H (Ex.refl _) _ fun a as H2 na e2 ha hd => ⟨by simp [sizeLine_eq], fun p hp => k p _ _ (fresh_back e2 hp) (e2.trans (Ex.new hp)) upd_same (by
    have ne : a ≠ p := fun z => by rw [z, hp] at ha; cases ha
    rw [er_upd]
    refine dp_newL (by rw [er_ne ne]; exact ha) ?_
    rw [dpa_ints hd]
    exact dpa_ofints _)⟩
theorem has_ways_up {k : Nat} (T : Tb K mg) (h_is_part : Has P w K mg base "is_part" k ["lot", "other"] (spR K rPart)) : Has P w K mg base "ways_up" (k + 1) ["levels"] (spL K rWup) := by
  refine has_L T.f_ways_up sc_ways_up bn_ways_up (fun ds d h => by obtain ⟨_, _, rfl, _⟩ := h; rfl) fun f cdv A outer s H vs Q E hr ds d hds h q => ?_
  obtain ⟨lots0, L, rfl, ok, rfl⟩ := h
  obtain ⟨v1, rfl, h1⟩ := dpa1 hds
  refine ⟨_, (pss_cons (ps_set (i := 1) sc_ways_up.nd rfl (by first | exact Or.inl rfl | exact Or.inr rfl) (pe_lst (pa_cons (pe_callTy (call_listK K) (by rfl) T.list (by decide +kernel) (pa_cons (pe_ix (ix_seqK K) (pv 0) pe_int (fun _ _ => rfl)) pa_nil)) pa_nil)))
      (pss_cons (ps_for PassesOwn.never rfl (pi_listK K (pe_slice (sl_listK K) (pv 0) (po_some pe_int) po_none)) (pg_name (i := 2) sc_ways_up.nd rfl (by first | exact Or.inl rfl | exact Or.inr rfl)) (pss_cons (ps_set (i := 3) sc_ways_up.nd rfl (by first | exact Or.inl rfl | exact Or.inr rfl) (pe_ix (ix_seqK K) (pv 1) (pe_un un_neg pe_int) (fun _ _ => rfl)))
      (pss_one (ps_expr (pe_bm PySem.F.plainAttrs_list PySem.F.slot_list_append PySem.F.type_list_append mt_append (pv 1) (pa_cons (pe_lc (own := [("lot", 4)]) (g := (gName 4)) rfl sc_ways_up.nd (pi_listK K (pv 2)) (blkOk_by (N := ["levels", "found", "lots", "ahead", "lot", "other"]) (sc := defScope (topS 73)) (by decide +kernel)) (fun _ _ _ _ _ => (pg_name (i := 4) sc_ways_up.nd rfl (by first | exact Or.inl rfl | exact Or.inr rfl))) (fun _ _ _ _ _ => pts_one (pt_val (pe_callB (cr_anyK K) (by rfl) T.any (by decide +kernel) (pa_cons (pe_lc (own := [("other", 5)]) (g := (gName 5)) (tt := tYes) rfl sc_ways_up.nd (pi_listK K (pv 3)) (blkOk_by (by rfl)) (fun _ _ _ _ _ => (pg_name (i := 5) sc_ways_up.nd rfl (by first | exact Or.inl rfl | exact Or.inr rfl))) (fun _ _ _ _ _ => pts_nil) (fun _ _ _ _ _ => (pe_callH h_is_part hr (pa_cons (pv 4) (pa_cons (pv 5) pa_nil))))) pa_nil)))) (fun _ _ _ _ _ => (pv 4))) pa_nil))))))
      (pss_one (ps_ret (pv 1))))), ?_⟩
  have few0 := few64 (ok.nd lots0 (by simp)) (ok.lt lots0 (by simp))
  have lL : L.length ≤ 7 := by have := ok.few; simp at this; omega
  -- found = [list(levels[0])]
  refine q_asgN1 (evl_listL (eva_ixL (eva_var rfl h1) eva_int (show atI ((lots0 :: L).map eI) 0 = some (eI lots0) by simp [atI, ixN]))) fun p v0 H2 np e2 hp hv0 => ?_
  have es : ((lots0 :: L).map eI).drop 1 = L.map eI := rfl
  refine q_forF (F := fun v a _ => Dp K H v (eI a)) (xs := L) ?_ fun l ls H3 nl e3 hl hls => ?_
  · intro H3 e3 Q q
    obtain ⟨a, vs, rfl, ha, hs⟩ := dp_lst h1
    refine ⟨_, rfl, 1, rfl, a, vs, rfl, ex_l (e2.trans e3) ha, fun r hr => ?_⟩
    rw [show ((1 : Int)) = ((1 : Nat) : Int) from rfl, cut_from]
    exact q r _ _ hr (Ex.new hr) upd_same (dpa_paired (es ▸ dpa_drop 1 hs))
  have pl : p ≠ l := fun z => by rw [z, nl] at hp; cases hp
  let Iv : Nat → L2.St → Hp → Prop := fun i σ' H' => ∃ ws z2 z3, σ' = [some v1, some (.ref p), z2, z3, none, none] ∧ Ex H H' ∧ H' l = some (.lst ls) ∧ H' p = some (.lst ws) ∧ DpAll K (er H' p) ws ((lots0 :: upR lots0 (L.take i)).map eI)
  refine ⟨Iv, fun i σ' H' _ h => ?_, ⟨[v0], none, none, rfl, e2.trans e3, hl, e3 p _ hp, ?_⟩, fun i hi σ' H' v hP dv => ?_, fun σ' H' hP => ?_⟩
  · obtain ⟨_, _, _, _, _, h1, _⟩ := h
    exact ⟨h1, hls⟩
  · exact dpa_one (dp_ex (er_mono e3) hv0)
  · obtain ⟨ws, z2, z3, rfl, eb, hl', hp', hd⟩ := hP
    have et := upR_take lots0 L i hi
    have mem : L[i] ∈ L := List.getElem_mem hi
    have fewl := few64 (ok.nd L[i] (by simp [mem])) (ok.lt L[i] (by simp [mem]))
    have lw : ws.length ≤ 8 := by
      rw [dpa_len hd, List.length_map, List.length_cons, upR_len, List.length_take]
      omega
    have lasts : ∃ prev, (lots0 :: upR lots0 (L.take i)).getLast? = some prev ∧ (lots0 :: upR lots0 (L.take i)).getLastD [] = prev := by
      refine ⟨_, List.getLast?_eq_some_getLast (by simp), ?_⟩
      rw [List.getLastD_eq_getLast?, List.getLast?_eq_some_getLast (by simp)]
      rfl
    obtain ⟨prev, hprev, hprevD⟩ := lasts
    rw [hprevD] at et
    have pfew : prev.length ≤ 64 := by
      have hmem : prev ∈ lots0 :: upR lots0 (L.take i) := List.mem_of_getLast? hprev
      exact up_last (fun x => x.length ≤ 64) few0 (fun q _ lots hl => by
        refine Nat.le_trans (List.length_filter_le _ _) ?_
        have := List.mem_of_mem_take hl
        exact few64 (ok.nd lots (by simp [this])) (ok.lt lots (by simp [this]))) prev hmem
    generalize L[i] = lots at dv et fewl
    have dl : Dp K (er H' p) (.ref p) (.list []) → True := fun _ => trivial
    refine q_asg (eva_ixL (K := K) (d := eI prev) (eva_var rfl (dp_newL hp' (dpa_ex er_ex hd))) (eva_neg eva_int) (atI_neg1L (by rw [List.getLast?_map, hprev]; rfl))) fun pv H4 e4 dp => ?_
    have hp4 := e4 p _ hp'
    refine s_appN (l := upStep prev lots) rfl hp4 (EvaL.is (evl_lc (K := K) (xs := lots) (fun l => prev.any fun o => isPart l o) (fun l => .int (l : Int)) (evi_ints (eva_var rfl (dp_ex (eb.trans e4) dv))) (by omega) (fun a σ2 H2 _ hp => ?_) (fun a σ2 H2 ha ex hp => ?_) (fun a σ2 H2 ha hf ex hp => ?_) (fun _ _ => rfl)) (by rw [zi, List.map_map]; rfl)) (by omega) fun v5 H5 e5 hp5 d5 => ?_
    · obtain ⟨v, rfl, _⟩ := hp; rfl
    · obtain ⟨v, rfl, hv⟩ := hp
      refine Evl.et_is (evt_B (K := K) (eva_any (ns := prev.map fun o => isPart a o) (EvaL.eva (EvaL.is (evl_lc1 (xs := prev) (fun o => .bool (isPart a o)) (evi_ints (eva_var rfl (dp_ex ex dp))) (by omega) (fun b σ3 H3 _ hp => ?_) (fun b σ3 H3 hb ex3 hp => ?_) (fun _ _ => rfl)) (by rw [List.map_map]; rfl))))) (by rw [List.any_map]; rfl)
      · obtain ⟨v, rfl, _⟩ := hp; rfl
      · obtain ⟨v', rfl, hv'⟩ := hp
        exact eva_call (evaa_cons (eva_var rfl (dp_ex ex3 hv)) (evaa_cons (eva_var rfl hv') evaa_nil)) ⟨_, _, rfl, rfl⟩
    · obtain ⟨v, rfl, hv⟩ := hp
      exact eva_var rfl hv
    have e45 := e4.trans e5
    refine ⟨_, some v, some pv, rfl, (eb.trans e45).mut np, by rw [upd_ne (Ne.symm pl)]; exact e45 l _ hl', upd_same, ?_⟩
    rw [er_upd, et, ← List.cons_append, List.map_append]
    exact dpa_app (dpa_ex (er_mono e45) hd) (dpa_one d5)
  · obtain ⟨ws, z2, z3, rfl, eb, hl', hp', hd⟩ := hP
    rw [List.take_length] at hd
    exact ⟨_, rfl, q p ws H' np eb hp' hd⟩
theorem sc_first_way : FnScope ["levels", "found", "ways", "able", "lot"] ["levels"] (defScope (topS 74)) := ⟨rfl, rfl, rfl, by decide +kernel, rfl, by decide +kernel, by decide +kernel⟩
theorem bn_first_way : Bnd "first_way" 74 ["levels"] := fun _ _ _ _ _ _ us hl => match us, hl with | [_], _ => rfl
/-- a list or None -/
def eO (o : Option (List Nat)) : PyData := match o with
  | none => .none
  | some l => eI l
def rFirst (ds : List PyData) (d : PyData) : Prop := ∃ L : List (List Nat), ds = [.list (L.map eI)] ∧ LevOk L ∧ d = eO (firstWay L)
theorem has_first_way {k : Nat} (T : Tb K mg) (h_ways_down : Has P w K mg base "ways_down" k ["levels"] (spWD K)) (h_is_part : Has P w K mg base "is_part" k ["lot", "other"] (spR K rPart)) : Has P w K mg base "first_way" (k + 1) ["levels"] (spR K rFirst) := by
  refine has_R T.f_first_way sc_first_way bn_first_way (fun ds d h => by obtain ⟨_, rfl, _⟩ := h; rfl) fun f cdv A outer s H vs Q E hr ds d hds h q => ?_
  obtain ⟨L, rfl, ok, rfl⟩ := h
  obtain ⟨v1, rfl, h1⟩ := dpa1 hds
  refine ⟨_, (pss_cons (ps_set (i := 1) sc_first_way.nd rfl (by first | exact Or.inl rfl | exact Or.inr rfl) (pe_lst pa_nil))
      (pss_cons (ps_for PassesOwn.never rfl (pi_listK K (pe_callH h_ways_down hr (pa_cons (pv 0) pa_nil))) (pg_name (i := 2) sc_first_way.nd rfl (by first | exact Or.inl rfl | exact Or.inr rfl)) (pss_cons (ps_lock (ps_setLc (i := 3) (own := [("lot", 4)]) (g := (gName 4)) rfl sc_first_way.nd rfl rfl (sw_true rfl rfl rfl (by decide +kernel)) (pi_keys (pv 2)) (blkOk_by (N := ["levels", "found", "ways", "able", "lot"]) (sc := defScope (topS 74)) (by decide +kernel)) (fun _ _ _ _ _ => (pg_name (i := 4) sc_first_way.nd rfl (by first | exact Or.inl rfl | exact Or.inr rfl))) (fun _ _ _ _ _ => pts_one (PW.pt (pw_or (pt_cmpR op_eq (pe_callB (call_lenK K) (by rfl) T.len (by decide +kernel) (pa_cons (pv 1) pa_nil)) pe_int (nomark _)) (pw_or1 (pt_val (pe_callH h_is_part hr (pa_cons (pv 4) (pa_cons (pe_ix (ix_seqK K) (pv 1) (pe_un un_neg pe_int) (fun _ _ => rfl)) pa_nil)))))))) (fun _ _ _ _ _ => (pv 4))))
      (pss_cons (ps_if (pt_cmpR op_eq (pe_callB (call_lenK K) (by rfl) T.len (by decide +kernel) (pa_cons (pv 3) pa_nil)) pe_int (nomark _)) (pss_one (ps_ret pe_non)) pss_nil)
      (pss_one (ps_expr (pe_bm PySem.F.plainAttrs_list PySem.F.slot_list_append PySem.F.type_list_append mt_append (pv 1) (pa_cons (pe_ix (ix_seqK K) (pv 3) pe_int (fun _ _ => rfl)) pa_nil)))))))
      (pss_one (ps_ret (pv 1))))), ?_⟩
  have fewW := wd_few ok
  have lenW := wd_len L
  have lL := ok.few
  refine q_asgL (evl_lst (K := K) evaa_nil) fun p ws0 H2 np e2 hp dw => ?_
  cases dw
  refine q_forF (evf_wd (eva_var (K := K) rfl (dp_ex e2 h1)) ok) fun l ls H3 nl e3 hl hls => ?_
  have pl : p ≠ l := fun z => by rw [z, nl] at hp; cases hp
  unfold firstWay at q
  generalize wd L = W at fewW lenW hls q
  let Iv : Nat → L2.St → Hp → Prop := fun i σ' H' => ∃ (found : List Nat) (z2 z3 : Option V), σ' = [some v1, some (.ref p), z2, z3, none] ∧ Ex H H' ∧ H' l = some (.lst ls) ∧ Paired (fun v m => WayR m v H') ls W ∧ H' p = some (.lst ((zi found).map V.int)) ∧ found.length ≤ i ∧ fwR found (W.drop i) = fwR [] W
  refine ⟨Iv, fun i σ' H' _ h => ?_, ⟨[], none, none, rfl, e2.trans e3, hl, hls, e3 p _ hp, Nat.le_refl _, rfl⟩, fun i hi σ' H' v hP wv => ?_, fun σ' H' hP => ?_⟩
  · obtain ⟨_, _, _, _, _, h1, h2, _⟩ := h
    exact ⟨h1, h2⟩
  · obtain ⟨found, z2, z3, rfl, eb, hl', hls', hp', lf, hq⟩ := hP
    rw [List.drop_eq_getElem_cons hi] at hq
    have fm := fewW W[i] (List.getElem_mem hi)
    generalize W[i] = m at wv hq fm
    rw [fwR] at hq
    obtain ⟨d, rfl, hd⟩ := wv
    have ne : p ≠ d := fun z => by rw [z, hd] at hp'; cases hp'
    refine q_lockL (l := (m.map (·.1)).filter fun l => decide (found.length = 0) || isPart l (found.getLastD 0)) hd (fun od => EvaL.is (evl_lc (K := K) (xs := m.map (·.1)) (fun l => decide (found.length = 0) || isPart l (found.getLastD 0)) (fun l => .int (l : Int)) (evi_keys (m := m) (evr_var (R := fun v _ => v = .ref d) rfl fun _ _ => rfl) upd_same) (by rw [List.length_map]; omega) (fun a σ2 H2 _ hp => ?_) (fun a σ2 H2 ha ex hp => ?_) (fun a σ2 H2 ha hf ex hp => ?_) (fun _ _ => rfl)) (by rw [zi, List.map_map]; rfl)) fun b H4 nb e4 db hb => ?_
    · cases hp; rfl
    · cases hp
      have hp2 : H2 p = some (.lst ((zi found).map V.int)) := ex p _ (by rw [upd_ne ne]; exact hp')
      have dp2 : Dp K H2 (.ref p) (eI found) := dp_newL hp2 (dpa_ofints _)
      refine Evl.et_is (Evl.et_or (evt_T (K := K) (eva_eqI (eva_lenL (eva_var rfl dp2)) eva_int)) fun hb => evt_B (K := K) (eva_call (evaa_cons (eva_var rfl (.int (a : Int))) (evaa_cons (eva_ixL (eva_var rfl dp2) (eva_neg eva_int) (atI_neg1' fun z => ?_)) evaa_nil)) ⟨a, found.getLastD 0, by rw [zi_lastD], rfl⟩)) ?_
      · rw [z] at hb; exact absurd hb (by simp)
      · congr 1
        refine decide_eq_decide.mpr ?_
        simp
    · cases hp
      exact eva_var rfl (.int _)
    · have hp4 := e4 p _ hp'
      generalize hable : ((m.map (·.1)).filter fun l => decide (found.length = 0) || isPart l (found.getLastD 0)) = able at hq db hb
      cases able with
      | nil =>
        refine Evl.q_when (b := true) (Evl.et_is (evt_T (K := K) (eva_eqI (eva_lenL (eva_var rfl db)) eva_int)) rfl) (fun _ H5 e5 => ?_) (fun h => by cases h)
        refine s_ret (eva_non (K := K)) fun v H6 e6 dv => q v H6 (eb.trans (e4.trans (e5.trans e6))) ?_
        rw [← hq]
        exact dv
      | cons a able =>
        refine Evl.q_when (b := false) (Evl.et_is (evt_T (K := K) (eva_eqI (eva_lenL (eva_var rfl db)) eva_int)) (by simp; omega)) (fun h => by cases h) (fun _ H5 e5 => ?_)
        have e45 := e4.trans e5
        refine s_app rfl (e5 p _ hp4) (eva_ixL (eva_var rfl (dp_ex e5 db)) eva_int (show atI ((zi (a :: able)).map PyData.int) 0 = some (.int (a : Int)) by simp [atI, ixN])) (by simp; omega) fun v6 H6 e6 dv hp6 => ?_
        cases dv
        have e46 := e45.trans e6
        refine ⟨found ++ [a], some (.ref d), some (.ref b), rfl, (eb.trans e46).mut np, by rw [upd_ne (Ne.symm pl)]; exact e46 l _ hl', Paired.mapP hls' fun v m r => (r.ex e46).mutL hp6, ?_, by simp; omega, ?_⟩
        · rw [upd_same]
          simp [zi]
        · exact hq
  · obtain ⟨found, z2, z3, rfl, eb, hl', hls', hp', lf, hq⟩ := hP
    rw [List.drop_length, fwR] at hq
    rw [← hq] at q
    exact ⟨_, rfl, q _ H' eb (dp_newL hp' (dpa_ofints _))⟩
end
end Cb
set_option Elab.async false
set_option linter.all false
set_option maxRecDepth 100000
set_option maxHeartbeats 8000000
/-! Cb, defs 14: who can stand where, what fits, how many. -/
namespace Cb
open PySem PySem.Spec PyProof.Rows L2 Evl
section
variable {K : PySem.W.Frag} {σ : L2.St} {H : Hp} {ta tb te : TE} {l p : Nat}
theorem eva_bit (ha : Eva K ta σ H (.int (l : Int))) (hb : Eva K tb σ H (.int (p : Int))) : Eva K (tOp (rI0 fun i j => .int (Builtin.bitAnd i j)) (tOp (rI (fun _ j => 0 ≤ j) fun i j => .int (i / 2 ^ j.toNat)) ta tb) (tC (.int 1))) σ H (.int (bitAt l p : Int)) := by
  refine eva_is (eva_I0 (eva_I ha hb (by omega)) eva_int) ?_
  have e1 : ((l : Int) / 2 ^ ((p : Int)).toNat) = ((l / 2 ^ p : Nat) : Int) := by
    rw [Int.toNat_natCast, Int.natCast_ediv, Int.natCast_pow]
    rfl
  show PyData.int (Builtin.bitAnd ((l : Int) / 2 ^ ((p : Int)).toNat) 1) = _
  rw [e1, show (1 : Int) = ((1 : Nat) : Int) from rfl, and_nat, Nat.and_one_is_mod]
  rfl
end
/-- x *= y -/
def ipMul : TIp := fun x y H Q => ∃ i j : Int, x = .int i ∧ y = .int j ∧ CMulW i j ∧ Q (.int (i * j)) H
theorem ip_mulW {X : Cx} : PIp X .Mult ipMul := by
  intro pins s σ H x y v u Q I r1 r2 h
  obtain ⟨i, j, rfl, rfl, hc, q⟩ := h
  obtain ⟨t, rfl⟩ := r1
  obtain ⟨t', rfl⟩ := r2
  exact imul_int ⟨.int _, H, I.tok _, ⟨_, rfl⟩, q⟩ hc.ok
theorem s_mul {K : PySem.W.Frag} {σ : L2.St} {H : Hp} {te : TE} {D : Ends} {i : Nat} {a b : Int} (hx : σ[i]? = some (some (.int a))) (h : Eva K te σ H (.int b)) (hc : CMulW a b) (k : ∀ H1, Ex H H1 → D.nx (σ.set i (some (.int (a * b)))) H1) : tAug i te ipMul D σ H :=
  ⟨.int a, hx, h H (Ex.refl H) _ fun v H1 e dv => ⟨a, b, rfl, dp_int dv, hc, k H1 e⟩⟩
theorem dec_cast {a b : Nat} : decide ((a : Int) = (b : Int)) = decide (a = b) := decide_eq_decide.mpr (by omega)
section
variable {P : Program} {w : World} {K : PySem.W.Frag} {mg : Str → Option Value} {base : Heap}
theorem sc_can_stand : FnScope ["up", "down", "person", "place", "ahead", "lot", "behind", "other"] ["up", "down", "person", "place"] (defScope (topS 75)) := ⟨rfl, rfl, rfl, by decide +kernel, rfl, by decide +kernel, by decide +kernel⟩
theorem bn_can_stand : Bnd "can_stand" 75 ["up", "down", "person", "place"] := fun _ _ _ _ _ _ us hl => match us, hl with | [_, _, _, _], _ => rfl
/-- ways up, ways down, a person, a place in: a truth out -/
def spCS (K : PySem.W.Frag) : Sp := fun vs H Q _ => ∃ (U : List (List Nat)) (D : List Ways) (u dn : V) (person place : Nat), vs = [u, dn, .int (person : Int), .int (place : Int)] ∧ Dp K H u (.list (U.map eI)) ∧ WaysR K H dn D ∧ U.length = D.length ∧ place ≤ D.length ∧ (∀ l ∈ U, l.length ≤ 64) ∧ (∀ m ∈ D, m.length ≤ 64) ∧
  ∀ v H2, Ex H H2 → Dp K H2 v (.bool (canStand U D person place)) → Q v H2
theorem has_can_stand {k : Nat} (T : Tb K mg) (h_is_part : Has P w K mg base "is_part" k ["lot", "other"] (spR K rPart)) : Has P w K mg base "can_stand" (k + 1) ["up", "down", "person", "place"] (spCS K) := by
  refine has_sp T.f_can_stand sc_can_stand bn_can_stand (fun vs H Q E h => by obtain ⟨_, _, _, _, _, _, rfl, _⟩ := h; rfl) fun f cdv A outer s H vs Q E hr h => ?_
  obtain ⟨U, D, u, dn, person, place, rfl, hU, hD, lUD, hpl, fU, fD, q⟩ := h
  refine ⟨_, (pss_cons (ps_set (i := 4) sc_can_stand.nd rfl (by first | exact Or.inl rfl | exact Or.inr rfl) (pe_ifExp (pt_cmpR op_gt (pv 3) pe_int (nomark _)) (pe_lc (own := [("lot", 5)]) (g := (gName 5)) rfl sc_can_stand.nd (pi_listK K (pe_ix (ix_seqK K) (pv 0) (pe_op op_sub (pv 3) pe_int) (fun _ _ => rfl))) (blkOk_by (N := ["up", "down", "person", "place", "ahead", "lot", "behind", "other"]) (sc := defScope (topS 75)) (by decide +kernel)) (fun _ _ _ _ _ => (pg_name (i := 5) sc_can_stand.nd rfl (by first | exact Or.inl rfl | exact Or.inr rfl))) (fun _ _ _ _ _ => pts_one (pt_cmpR op_eq (pe_op op_and (pe_op op_shr (pv 5) (pv 2)) pe_int) pe_int (nomark _))) (fun _ _ _ _ _ => (pv 5))) (pe_lst pa_nil)))
      (pss_cons (ps_if (pt_cmpR op_eq (pv 3) (pe_callB (call_lenK K) (by rfl) T.len (by decide +kernel) (pa_cons (pv 1) pa_nil)) (nomark _)) (pss_one (ps_ret (pe_cmpR op_gt (pe_callB (call_lenK K) (by rfl) T.len (by decide +kernel) (pa_cons (pv 4) pa_nil)) pe_int (nomark _)))) pss_nil)
      (pss_cons (ps_lock (ps_setLc (i := 6) (own := [("lot", 5)]) (g := (gName 5)) rfl sc_can_stand.nd rfl rfl (sw_true rfl rfl rfl (by decide +kernel)) (pi_keys (pe_ix (ix_seqK K) (pv 1) (pv 3) (fun _ _ => rfl))) (blkOk_by (N := ["up", "down", "person", "place", "ahead", "lot", "behind", "other"]) (sc := defScope (topS 75)) (by decide +kernel)) (fun _ _ _ _ _ => (pg_name (i := 5) sc_can_stand.nd rfl (by first | exact Or.inl rfl | exact Or.inr rfl))) (fun _ _ _ _ _ => pts_one (pt_cmpR op_eq (pe_op op_and (pe_op op_shr (pv 5) (pv 2)) pe_int) pe_int (nomark _))) (fun _ _ _ _ _ => (pv 5))))
      (pss_cons (ps_if (pt_cmpR op_eq (pv 3) pe_int (nomark _)) (pss_one (ps_ret (pe_cmpR op_gt (pe_callB (call_lenK K) (by rfl) T.len (by decide +kernel) (pa_cons (pv 6) pa_nil)) pe_int (nomark _)))) pss_nil)
      (pss_one (ps_ret (pe_callB (cr_anyK K) (by rfl) T.any (by decide +kernel) (pa_cons (pe_lc (own := [("lot", 5)]) (g := (gName 5)) (tt := tYes) rfl sc_can_stand.nd (pi_listK K (pv 6)) (blkOk_by (N := ["up", "down", "person", "place", "ahead", "lot", "behind", "other"]) (sc := defScope (topS 75)) (by decide +kernel)) (fun _ _ _ _ _ => (pg_name (i := 5) sc_can_stand.nd rfl (by first | exact Or.inl rfl | exact Or.inr rfl))) (fun _ _ _ _ _ => pts_nil) (fun _ _ _ _ _ => (pe_callB (cr_anyK K) (by rfl) T.any (by decide +kernel) (pa_cons (pe_lc (own := [("other", 7)]) (g := (gName 7)) (tt := tYes) rfl sc_can_stand.nd (pi_listK K (pv 4)) (blkOk_by (by rfl)) (fun _ _ _ _ _ => (pg_name (i := 7) sc_can_stand.nd rfl (by first | exact Or.inl rfl | exact Or.inr rfl))) (fun _ _ _ _ _ => pts_nil) (fun _ _ _ _ _ => (pe_callH h_is_part hr (pa_cons (pv 5) (pa_cons (pv 7) pa_nil))))) pa_nil)))) pa_nil)))))))), ?_⟩
  unfold canStand at q
  -- ahead
  generalize hah : (if 0 < place then (U.getD (place - 1) []).filter (fun l => decide (bitAt l person = 1)) else []) = ahead at q
  have fah : ahead.length ≤ 64 := by
    rw [← hah]
    split
    · refine Nat.le_trans (List.length_filter_le _ _) ?_
      have : place - 1 < U.length := by omega
      rw [List.getD_eq_getElem?_getD, List.getElem?_eq_getElem this]
      exact fU _ (List.getElem_mem this)
    · simp
  refine q_asg (EvaL.eva (ds := (zi ahead).map PyData.int) (evl_if (K := K) (evt_T (K := K) (eva_B0 (eva_var rfl (.int (place : Int))) eva_int)) (fun hb => ?_) (fun hb => ?_))) fun av H2 e2 da => ?_
  · have hp : 0 < place := by have := of_decide_eq_true hb; omega
    have hlt : place - 1 < U.length := by omega
    rw [if_pos hp, List.getD_eq_getElem?_getD, List.getElem?_eq_getElem hlt] at hah
    have fl := fU _ (List.getElem_mem hlt)
    refine EvaL.is (evl_lc (K := K) (xs := U[place - 1]) (fun l => decide (bitAt l person = 1)) (fun l => .int (l : Int)) (evi_ints (eva_ixL (eva_var rfl hU) (eva_I0 (eva_var rfl (.int (place : Int))) eva_int) ?_)) (by omega) (fun a σ2 H2 _ hp => ?_) (fun a σ2 H2 ha ex hp => ?_) (fun a σ2 H2 ha hf ex hp => ?_) (fun _ _ => rfl)) ?_
    · show atI (U.map eI) ((place : Int) - 1) = _
      rw [show (place : Int) - 1 = ((place - 1 : Nat) : Int) by omega]
      exact atN (by rw [List.getElem?_map, List.getElem?_eq_getElem hlt]; rfl)
    · obtain ⟨v, rfl, _⟩ := hp; rfl
    · obtain ⟨v, rfl, hv⟩ := hp
      exact evt_is (evt_T (K := K) (eva_eqI (eva_bit (eva_var rfl hv) (eva_var rfl (.int (person : Int)))) eva_int)) (decide_eq_decide.mpr (by omega))
    · obtain ⟨v, rfl, hv⟩ := hp
      exact eva_var rfl hv
    · rw [← hah, zi, List.map_map]
      rfl
  · have hp : ¬ 0 < place := by have := of_decide_eq_false hb; omega
    rw [if_neg hp] at hah
    rw [← hah]
    exact evl_lst evaa_nil
  have lenD : ∀ {σ : L2.St} {H' : Hp}, σ[1]? = some (some dn) → Ex H H' → Eva K (tCB (rLen2 K) (tCons (tVar 1) tNil)) σ H' (.int (D.length : Int)) := fun hv e => eva_lenR (R := fun v H' => WaysR K H' v D) (evr_var hv fun H1 e1 => hD.ex (e.trans e1)) fun v H' h => by
    obtain ⟨a, ws, rfl, h1, h2⟩ := h
    exact ⟨a, ws, rfl, .inl (.inl (.inl h1)), paired_len h2⟩
  have lza : ((zi ahead).map PyData.int).length = ahead.length := by simp
  refine Evl.q_when (evt_T (K := K) (eva_eqI (eva_var rfl (.int (place : Int))) (lenD rfl e2))) (fun hb H3 e3 => ?_) (fun hb H3 e3 => ?_)
  · have hp : place = D.length := by have := of_decide_eq_true hb; omega
    refine s_ret (eva_B0 (eva_lenL (eva_var rfl (dp_ex e3 da))) eva_int) fun v H4 e4 dv => q v H4 (e2.trans (e3.trans e4)) ?_
    rw [if_pos hp]
    have : decide (0 < ahead.length) = decide ((0 : Int) < (((zi ahead).map PyData.int).length : Int)) := decide_eq_decide.mpr (by rw [lza]; omega)
    rw [this]
    exact dv
  · have hp : ¬ place = D.length := by have := of_decide_eq_false hb; omega
    have hlt : place < D.length := by omega
    simp only [if_neg hp] at q
    have e23 := e2.trans e3
    obtain ⟨a, ws, rfl, ha, hws⟩ := hD.ex e23
    have hw : place < ws.length := by rw [paired_len hws]; exact hlt
    obtain ⟨d, edn, hd⟩ := paired_at (F := fun v m => WayR m v H3) hws (List.getElem?_eq_getElem hw) (List.getElem?_eq_getElem hlt)
    have ne : a ≠ d := fun z => by rw [z, hd] at ha; cases ha
    have fm := fD _ (List.getElem_mem hlt)
    have eD : D.getD place [] = D[place] := by rw [List.getD_eq_getElem?_getD, List.getElem?_eq_getElem hlt]; rfl
    rw [eD] at q
    generalize D[place] = m at hd fm q
    generalize hbe : ((m.map (·.1)).filter fun l => decide (bitAt l person = 0)) = behind at q
    have fb : behind.length ≤ 64 := by
      rw [← hbe]
      refine Nat.le_trans (List.length_filter_le _ _) ?_
      rw [List.length_map]; exact fm
    refine q_lockL (l := behind) hd (fun od => EvaL.is (evl_lc (K := K) (xs := m.map (·.1)) (fun l => decide (bitAt l person = 0)) (fun l => .int (l : Int)) (evi_keys (m := m) (d := d) (od := od) (fun H4 e4 Q q => ?_) upd_same) (by rw [List.length_map]; omega) (fun a σ2 H2 _ hp => ?_) (fun a σ2 H2 ha ex hp => ?_) (fun a σ2 H2 ha hf ex hp => ?_) (fun _ _ => rfl)) ?_) fun b H4 nb e4 db hb => ?_
    · refine ⟨_, rfl, _, rfl, .inl ⟨a, ws, (place : Int), ws[place], rfl, rfl, .inl (.inl (e4 a _ (by rw [upd_ne ne]; exact ha))), ?_, q _ H4 (Ex.refl _) edn⟩⟩
      unfold atI
      have : ixN ws.length (place : Int) = some place := by
        unfold ixN
        simp [hw]
      rw [this]
      exact List.getElem?_eq_getElem hw
    · cases hp; rfl
    · cases hp
      exact evt_is (evt_T (K := K) (eva_eqI (eva_bit (eva_var rfl (.int _)) (eva_var rfl (.int (person : Int)))) eva_int)) (decide_eq_decide.mpr (by omega))
    · cases hp
      exact eva_var rfl (.int _)
    · rw [hbe, zi, List.map_map]
      rfl
    · have e24 := e3.trans e4
      have lzb : ((zi behind).map PyData.int).length = behind.length := by simp
      refine Evl.q_when (evt_T (K := K) (eva_eqI (eva_var rfl (.int (place : Int))) eva_int)) (fun hb H5 e5 => ?_) (fun hb H5 e5 => ?_)
      · have hp0 : place = 0 := by have := of_decide_eq_true hb; omega
        rw [if_pos hp0] at q
        refine s_ret (eva_B0 (eva_lenL (eva_var rfl (dp_ex e5 db))) eva_int) fun v H6 e6 dv => q v H6 (e2.trans (e24.trans (e5.trans e6))) ?_
        have : decide (0 < behind.length) = decide ((0 : Int) < (((zi behind).map PyData.int).length : Int)) := decide_eq_decide.mpr (by rw [lzb]; omega)
        rw [this]
        exact dv
      · have hp0 : ¬ place = 0 := by have := of_decide_eq_false hb; omega
        rw [if_neg hp0] at q
        refine s_ret (eva_is (eva_any (ns := behind.map fun l => ahead.any fun o => isPart l o) (EvaL.eva (EvaL.is (evl_lc1 (xs := behind) (fun l => .bool (ahead.any fun o => isPart l o)) (evi_ints (eva_var rfl (dp_ex e5 db))) (by omega) (fun b σ3 H3 _ hp => ?_) (fun b σ3 H6 hb ex3 hp => ?_) (fun _ _ => rfl)) (by rw [List.map_map]; rfl)))) (by rw [List.any_map]; rfl)) fun v H6 e6 dv => q v H6 (e2.trans (e24.trans (e5.trans e6))) dv
        · obtain ⟨v, rfl, _⟩ := hp; rfl
        · obtain ⟨v, rfl, hv⟩ := hp
          refine eva_is (eva_any (ns := ahead.map fun o => isPart b o) (EvaL.eva (EvaL.is (evl_lc1 (xs := ahead) (fun o => .bool (isPart b o)) (evi_ints (eva_var rfl (dp_ex (e24.trans (e5.trans ex3)) da))) (by omega) (fun b σ3 H3 _ hp => ?_) (fun b σ3 H7 hb ex3 hp => ?_) (fun _ _ => rfl)) (by rw [List.map_map]; rfl)))) (by rw [List.any_map]; rfl)
          · obtain ⟨v, rfl, _⟩ := hp; rfl
          · obtain ⟨v', rfl, hv'⟩ := hp
            exact eva_call (evaa_cons (eva_var rfl (dp_ex ex3 hv)) (evaa_cons (eva_var rfl hv') evaa_nil)) ⟨_, _, rfl, rfl⟩
/-! ### the first way is long enough -/
theorem fwR_len : ∀ {W : List Ways} {found way : List Nat}, fwR found W = some way → way.length = found.length + W.length
  | [], found, way, h => by
    rw [fwR] at h
    cases h
    rfl
  | m :: W, found, way, h => by
    rw [fwR] at h
    split at h
    · cases h
    · rename_i a r _
      have := fwR_len h
      rw [this, List.length_append, List.length_cons, List.length_cons]
      simp; omega
theorem levels_len (n : Nat) (log : Log) : (levels n log).length = 2 * (nums log).length := levelsAt_len _
theorem stood_le {way : List Nat} (p : Nat) : (way.map fun l => bitAt l p).sum ≤ way.length := by
  induction way with
  | nil => simp
  | cons l r ih =>
    rw [List.map_cons, List.sum_cons, List.length_cons]
    have : bitAt l p < 2 := Nat.mod_lt _ (by decide)
    omega
theorem levels_cons {n : Nat} {log : Log} (ok : LogOk n log) : ∃ lots L, levels n log = lots :: L := by
  have h : 0 < (nums log).length := by
    have l1 := ok.l1
    cases log with
    | nil => simp at l1
    | cons p log => exact List.length_pos_of_mem (nums_mem.mpr (show p.2 ∈ told (p :: log) by simp [told]))
  have := levels_len n log
  cases e : levels n log with
  | nil => rw [e] at this; simp at this; omega
  | cons lots L => exact ⟨_, _, rfl⟩
theorem sc_fitting : FnScope ["log", "way", "numbers", "stood", "lot", "person", "place"] ["log"] (defScope (topS 78)) := ⟨rfl, rfl, rfl, by decide +kernel, rfl, by decide +kernel, by decide +kernel⟩
theorem bn_fitting : Bnd "fitting" 78 ["log"] := fun _ _ _ _ _ _ us hl => match us, hl with | [_], _ => rfl
def eOW (o : Option (List Q)) : PyData := match o with
  | none => .none
  | some b => eW b
def rFitting (n : Nat) (log : Log) (ds : List PyData) (d : PyData) : Prop := ds = [] ∧ d = eOW (fitting n log)
theorem has_fitting {k : Nat} (T : Tb K mg) (h_check_log : Has P w K mg base "check_log" k ["thing"] (spG K (RuleC mg) rChkL)) (h_levels_of : Has P w K mg base "levels_of" k ["log"] (spGL K (RuleC mg) rLevs)) (h_first_way : Has P w K mg base "first_way" k ["levels"] (spR K rFirst))
    (h_numbers_in : Has P w K mg base "numbers_in" k ["log"] (spGL K (RuleC mg) rNums)) (h_people_in : Has P w K mg base "people_in" k ["log"] (spG K (RuleC mg) rPeo)) (h_wish_at : Has P w K mg base "wish_at" k ["numbers", "place"] (spR K rWishAt)) : Has P w K mg base "fitting" (k + 1) ["log"] (spG K (RuleC mg) rFitting) := by
  refine has_G T.f_fitting sc_fitting bn_fitting (fun n t ds d h => by obtain ⟨rfl, _⟩ := h; rfl) fun f cdv A outer s H r vs Q E hr n log ds d h0 ok hds h q => ?_
  obtain ⟨rfl, rfl⟩ := h
  cases hds
  refine ⟨_, (pss_cons (ps_expr (pe_callH h_check_log hr (pa_cons (pv 0) pa_nil)))
      (pss_cons (ps_set (i := 1) sc_fitting.nd rfl (by first | exact Or.inl rfl | exact Or.inr rfl) (pe_callH h_first_way hr (pa_cons (pe_callH h_levels_of hr (pa_cons (pv 0) pa_nil)) pa_nil)))
      (pss_cons (ps_if (pt_cmpR op_isN (pv 1) pe_non (nomark _)) (pss_one (ps_ret pe_non)) pss_nil)
      (pss_cons (ps_set (i := 2) sc_fitting.nd rfl (by first | exact Or.inl rfl | exact Or.inr rfl) (pe_callH h_numbers_in hr (pa_cons (pv 0) pa_nil)))
      (pss_cons (ps_setLc (i := 3) (own := [("person", 5)]) (g := (gName 5)) (tt := tYes) rfl sc_fitting.nd rfl rfl (sw_true rfl rfl rfl (by decide +kernel)) (pi_range1 (by rfl) T.range (pa_cons (pe_callH h_people_in hr (pa_cons (pv 0) pa_nil)) pa_nil)) (blkOk_by (N := ["log", "way", "numbers", "stood", "lot", "person", "place"]) (sc := defScope (topS 78)) (by decide +kernel)) (fun _ _ _ _ _ => (pg_name (i := 5) sc_fitting.nd rfl (by first | exact Or.inl rfl | exact Or.inr rfl))) (fun _ _ _ _ _ => pts_nil) (fun _ _ _ _ _ => (pe_callB (cr_sumK K) (by rfl) T.sum (by decide +kernel) (pa_cons (pe_lc (own := [("lot", 4)]) (g := (gName 4)) (tt := tYes) rfl sc_fitting.nd (pi_listK K (pv 1)) (blkOk_by (by rfl)) (fun _ _ _ _ _ => (pg_name (i := 4) sc_fitting.nd rfl (by first | exact Or.inl rfl | exact Or.inr rfl))) (fun _ _ _ _ _ => pts_nil) (fun _ _ _ _ _ => (pe_op op_and (pe_op op_shr (pv 4) (pv 5)) pe_int))) pa_nil))))
      (pss_one (ps_ret (pe_callTy (call_tupleK K) (by rfl) T.tuple (by decide +kernel) (pa_cons (pe_lc (own := [("place", 6)]) (g := (gName 6)) (tt := tYes) rfl sc_fitting.nd (pi_listK K (pv 3)) (blkOk_by (N := ["log", "way", "numbers", "stood", "lot", "person", "place"]) (sc := defScope (topS 78)) (by decide +kernel)) (fun _ _ _ _ _ => (pg_name (i := 6) sc_fitting.nd rfl (by first | exact Or.inl rfl | exact Or.inr rfl))) (fun _ _ _ _ _ => pts_nil) (fun _ _ _ _ _ => (pe_callH h_wish_at hr (pa_cons (pv 2) (pa_cons (pv 6) pa_nil))))) pa_nil))))))))), ?_⟩
  have n6 := ok.n6
  have l4 := ok.l4
  have nl := nums_len log
  have lo := levOk ok
  refine q_drop (eva_callG (K := K) (evr_log rfl h0) evaa_nil ok ⟨rfl, rfl⟩) fun v H2 e2 _ => ?_
  refine q_asg (eva_call (K := K) (evaa_cons (evl_callG (K := K) (evr_log rfl (log_ex e2 h0)) evaa_nil ok ⟨rfl, rfl⟩).eva evaa_nil) ⟨levels n log, rfl, lo, rfl⟩) fun wv H3 e3 dw => ?_
  unfold fitting at q
  cases hway : firstWay (levels n log) with
  | none =>
    rw [hway] at dw q
    cases dw
    refine Evl.q_when (b := true) (Evl.et_is (evt_isNV rfl) rfl) (fun _ H4 e4 => ?_) (fun h => by cases h)
    exact s_ret (eva_non (K := K)) fun v H5 e5 dv => q v H5 ((e2.trans e3).trans (e4.trans e5)) dv
  | some way =>
    rw [hway] at dw q
    have wl : way.length = 2 * (nums log).length := by
      have := fwR_len hway
      rw [wd_len, levels_len] at this
      simpa using this
    obtain ⟨a, ws, rfl, hq, hws⟩ := dp_lst (ds := (zi way).map PyData.int) dw
    have dw : Dp K H3 (.ref a) (eI way) := .lst hq hws
    refine Evl.q_when (b := false) (Evl.et_is (evt_isNV rfl) rfl) (fun h => by cases h) (fun _ H4 e4 => ?_)
    have e24 := (e2.trans e3).trans e4
    refine q_asg (evl_callG (K := K) (evr_log rfl (log_ex e24 h0)) evaa_nil ok ⟨rfl, rfl⟩).eva fun nv H5 e5 dn => ?_
    have e25 := e24.trans e5
    refine q_asgL (EvaL.is (evl_lc1 (K := K) (fun p => .int ((((way.map fun l => bitAt l p).sum : Nat)) : Int)) (evi_rng (evaa_cons (eva_callG (K := K) (evr_log rfl (log_ex e25 h0)) evaa_nil ok ⟨rfl, rfl⟩) evaa_nil) (by omega) (by omega)) (by simp; omega) (fun a σ2 H2 _ hp => ?_) (fun p σ2 H6 _ ex hp => ?_) (fun _ _ => rfl)) (es := (zi ((List.range n).map fun p => (way.map fun l => bitAt l p).sum)).map PyData.int) ?_) fun sp sws H6 ns e6 hs ds => ?_
    · cases hp; rfl
    · cases hp
      refine eva_is (eva_sum (ns := zi (way.map fun l => bitAt l p)) (EvaL.eva (EvaL.is (evl_lc1 (xs := way) (fun l => .int (bitAt l p : Int)) (evi_ints (eva_var rfl (dp_ex (e4.trans (e5.trans ex)) dw))) (by omega) (fun b σ3 H3 _ hp => ?_) (fun b σ3 H7 hb ex3 hp => ?_) (fun _ _ => rfl)) (by rw [zi, List.map_map, List.map_map]; rfl)))) (by rw [sum_zi])
      · obtain ⟨v, rfl, _⟩ := hp; rfl
      · obtain ⟨v', rfl, hv'⟩ := hp
        exact eva_bit (eva_var rfl hv') (eva_var rfl (.int (p : Int)))
    · rw [show (n : Int).toNat = n by omega, zi, List.map_map, List.map_map]
      rfl
    · have dst : Dp K H6 (.ref sp) (eI ((List.range n).map fun p => (way.map fun l => bitAt l p).sum)) := dp_eI hs ds
      refine s_ret (eva_tupL (EvaL.eva (EvaL.is (evl_lc1 (K := K) (xs := (List.range n).map fun p => (way.map fun l => bitAt l p).sum) (fun p => eQ (wishAt (nums log) p)) (evi_ints (eva_var rfl dst)) (by simp; omega) (fun a σ2 H2 _ hp => ?_) (fun p σ2 H7 hp' ex hp => ?_) (fun _ _ => rfl)) (es := ((List.range n).map fun p => wishAt (nums log) ((way.map fun l => bitAt l p).sum)).map eQ) (by rw [List.map_map, List.map_map]; rfl)))) fun v H7 e7 dv => q v H7 (e25.trans (e6.trans e7)) dv
      · obtain ⟨v, rfl, _⟩ := hp; rfl
      · obtain ⟨v', rfl, hv'⟩ := hp
        refine eva_call (evaa_cons (eva_var rfl (dp_ex (e6.trans ex) dn)) (evaa_cons (eva_var rfl hv') evaa_nil)) ⟨nums log, p, rfl, by omega, ?_, nums_fq ok, rfl⟩
        obtain ⟨j, _, rfl⟩ := List.mem_map.mp hp'
        have := stood_le (way := way) j
        omega
theorem sc_may_stand : FnScope ["log", "person", "levels", "up", "down", "place"] ["log", "person"] (defScope (topS 80)) := ⟨rfl, rfl, rfl, by decide +kernel, rfl, by decide +kernel, by decide +kernel⟩
theorem bn_may_stand : Bnd "may_stand" 80 ["log", "person"] := fun _ _ _ _ _ _ us hl => match us, hl with | [_, _], _ => rfl
def rMay (n : Nat) (log : Log) (ds es : List PyData) : Prop := ∃ person : Nat, ds = [.int (person : Int)] ∧ person < n ∧ es = (zi (mayStand (levels n log) person)).map PyData.int
theorem up_few {L : List (List Nat)} {lots : List Nat} (ok : LevOk (lots :: L)) : ∀ l ∈ wup (lots :: L), l.length ≤ 64 := by
  have h := fun x hx => few64 (ok.nd x hx) (ok.lt x hx)
  exact up_last (fun x => x.length ≤ 64) (h lots (by simp)) fun q _ l hl => Nat.le_trans (List.length_filter_le _ _) (h l (by simp [hl]))
theorem has_may_stand {k : Nat} (T : Tb K mg) (h_check_log : Has P w K mg base "check_log" k ["thing"] (spG K (RuleC mg) rChkL)) (h_check_person : Has P w K mg base "check_person" k ["rule", "thing"] (spU K (RuleC mg) rChkPer)) (h_levels_of : Has P w K mg base "levels_of" k ["log"] (spGL K (RuleC mg) rLevs))
    (h_ways_up : Has P w K mg base "ways_up" k ["levels"] (spL K rWup)) (h_ways_down : Has P w K mg base "ways_down" k ["levels"] (spWD K)) (h_can_stand : Has P w K mg base "can_stand" k ["up", "down", "person", "place"] (spCS K)) : Has P w K mg base "may_stand" (k + 1) ["log", "person"] (spGL K (RuleC mg) rMay) := by
  refine has_GL T.f_may_stand sc_may_stand bn_may_stand (fun n t ds d h => by obtain ⟨_, rfl, _⟩ := h; rfl) fun f cdv A outer s H r vs Q E hr n log ds d h0 ok hds h q => ?_
  obtain ⟨person, rfl, hper, rfl⟩ := h
  obtain ⟨v1, rfl, h1⟩ := dpa1 hds
  cases h1
  refine ⟨_, (pss_cons (ps_expr (pe_callH h_check_log hr (pa_cons (pv 0) pa_nil)))
      (pss_cons (ps_expr (pe_callH h_check_person hr (pa_cons (pe_ix (ix_seqK K) (pe_ix (ix_seqK K) (pv 0) pe_int (fun _ _ => rfl)) pe_int (fun _ _ => rfl)) (pa_cons (pv 1) pa_nil))))
      (pss_cons (ps_set (i := 2) sc_may_stand.nd rfl (by first | exact Or.inl rfl | exact Or.inr rfl) (pe_callH h_levels_of hr (pa_cons (pv 0) pa_nil)))
      (pss_cons (ps_set (i := 3) sc_may_stand.nd rfl (by first | exact Or.inl rfl | exact Or.inr rfl) (pe_callH h_ways_up hr (pa_cons (pv 2) pa_nil)))
      (pss_cons (ps_set (i := 4) sc_may_stand.nd rfl (by first | exact Or.inl rfl | exact Or.inr rfl) (pe_callH h_ways_down hr (pa_cons (pv 2) pa_nil)))
      (pss_one (ps_ret (pe_lc (own := [("place", 5)]) (g := (gName 5)) rfl sc_may_stand.nd (pi_range1 (by rfl) T.range (pa_cons (pe_op op_add (pe_callB (call_lenK K) (by rfl) T.len (by decide +kernel) (pa_cons (pv 2) pa_nil)) pe_int) pa_nil)) (blkOk_by (N := ["log", "person", "levels", "up", "down", "place"]) (sc := defScope (topS 80)) (by decide +kernel)) (fun _ _ _ _ _ => (pg_name (i := 5) sc_may_stand.nd rfl (by first | exact Or.inl rfl | exact Or.inr rfl))) (fun _ _ _ _ _ => pts_one (pt_val (pe_callH h_can_stand hr (pa_cons (pv 3) (pa_cons (pv 4) (pa_cons (pv 1) (pa_cons (pv 5) pa_nil))))))) (fun _ _ _ _ _ => (pv 5)))))))))), ?_⟩
  have l1 := ok.l1
  have lo := levOk ok
  refine q_drop (eva_callG (K := K) (evr_log rfl h0) evaa_nil ok ⟨rfl, rfl⟩) fun v H2 e2 _ => ?_
  refine q_drop (R := fun _ _ => True) ?_ fun v H3 e3 _ => ?_
  · cases log with
    | nil => simp at l1
    | cons p log => exact Evr.imp (eva_callU (K := K) (evr_pair0 (evr_log0 (evr_log rfl (log_ex e2 h0)))) (evaa_cons (eva_var rfl (.int (person : Int))) evaa_nil) ⟨_, rfl, by omega, by omega, rfl⟩) fun _ _ _ _ => trivial
  have e13 := e2.trans e3
  refine q_asg (evl_callG (K := K) (evr_log rfl (log_ex e13 h0)) evaa_nil ok ⟨rfl, rfl⟩).eva fun lv H4 e4 dl => ?_
  obtain ⟨lots, L, eL⟩ := levels_cons ok
  rw [eL] at dl lo q
  refine q_asg (evl_call (K := K) (evaa_cons (eva_var rfl dl) evaa_nil) ⟨lots, L, rfl, lo, rfl⟩).eva fun uv H5 e5 du => ?_
  refine q_asgF (evf_wd (eva_var (K := K) rfl (dp_ex e5 dl)) lo) fun dp dws H6 nd e6 hdp hdw => ?_
  have WD : WaysR K H6 (.ref dp) (wd (lots :: L)) := ⟨dp, dws, rfl, hdp, hdw⟩
  have lenL := lo.few
  have elen : ((lots :: L).map eI).length = (lots :: L).length := by rw [List.length_map]
  refine s_retL (EvaL.is (evl_lc (K := K) (fun p => canStand (wup (lots :: L)) (wd (lots :: L)) person p) (fun p => .int (p : Int)) (evi_rng (n := ((lots :: L).length : Int) + 1) (evaa_cons (eva_is (eva_I0 (eva_lenL (eva_var rfl (dp_ex (e5.trans e6) dl))) eva_int) (by rw [elen])) evaa_nil) (by omega) (by omega)) (by rw [List.length_range]; omega) (fun a σ2 H2 _ hp => ?_) (fun p σ2 H7 hp' ex hp => ?_) (fun p σ2 H7 _ _ ex hp => ?_) (fun _ _ => rfl)) ?_) fun p ws H7 np e7 hp hd => q p ws H7 (fresh_back (e13.trans ((e4.trans e5).trans e6)) np) (e13.trans (((e4.trans e5).trans e6).trans e7)) hp hd
  · cases hp; rfl
  · cases hp
    have hp'' : p ≤ (lots :: L).length := by
      have := List.mem_range.mp hp'
      omega
    refine evt_B (K := K) fun H8 e8 Q q => ⟨_, rfl, _, rfl, _, rfl, _, rfl, wup (lots :: L), wd (lots :: L), uv, .ref dp, person, p, rfl, dp_ex ((e6.trans ex).trans e8) du, WD.ex (ex.trans e8), ?_, ?_, up_few lo, wd_few lo, fun v H9 e9 dv => q v H9 e9 dv⟩
    · rw [wd_len, wup, List.length_cons, upR_len, List.length_cons]
    · rw [wd_len]; exact hp''
  · cases hp
    exact eva_var rfl (.int _)
  · unfold mayStand
    rw [show (((lots :: L).length : Int) + 1).toNat = (lots :: L).length + 1 by omega, zi, List.map_map]
    rfl
theorem sc_many_places : FnScope ["log", "able", "person"] ["log"] (defScope (topS 81)) := ⟨rfl, rfl, rfl, by decide +kernel, rfl, by decide +kernel, by decide +kernel⟩
theorem bn_many_places : Bnd "many_places" 81 ["log"] := fun _ _ _ _ _ _ us hl => match us, hl with | [_], _ => rfl
def rMany (n : Nat) (log : Log) (ds : List PyData) (d : PyData) : Prop := ds = [] ∧ d = .int (manyPlaces (levels n log) : Int)
theorem sum_le {l : List Nat} {b : Nat} (h : ∀ x ∈ l, x ≤ b) : l.sum ≤ l.length * b := by
  induction l with
  | nil => simp
  | cons x l ih =>
    rw [List.sum_cons, List.length_cons, Nat.add_mul, Nat.one_mul]
    have := ih fun y hy => h y (by simp [hy])
    have := h x (by simp)
    omega
theorem ways_few : ∀ {L : List (List Nat)}, (∀ l ∈ L, l.length ≤ 64) → ∀ m, (wd L).head? = some m → m.length ≤ 64 ∧ ∀ e ∈ m, e.2 ≤ 64 ^ (L.length - 1)
  | [], _, m, h => by cases h
  | lots :: r, hf, m, h => by
    have h' : m = wdStep (wd r).head? lots := by
      rw [wd] at h
      exact (Option.some.inj h).symm
    subst h'
    refine ⟨Nat.le_trans wdStep_len (hf lots (by simp)), fun e he => ?_⟩
    obtain ⟨l, _, rfl⟩ := List.mem_map.mp (List.mem_filter.mp he).1
    cases hr : (wd r).head? with
    | none =>
      show 1 ≤ _
      exact Nat.one_le_pow _ _ (by decide)
    | some m' =>
      obtain ⟨i1, i2⟩ := ways_few (fun l hl => hf l (by simp [hl])) m' hr
      have hne : r ≠ [] := fun z => by rw [z] at hr; cases hr
      have hl : 1 ≤ r.length := by
        cases r with
        | nil => exact absurd rfl hne
        | cons _ _ => simp
      show ((m'.filter fun e => isPart e.1 l).map (·.2)).sum ≤ _
      refine Nat.le_trans (sum_le (b := 64 ^ (r.length - 1)) fun x hx => ?_) ?_
      · obtain ⟨e, he, rfl⟩ := List.mem_map.mp hx
        exact i2 e (List.mem_filter.mp he).1
      · rw [List.length_map, List.length_cons, Nat.add_sub_cancel]
        have e1 : (64 : Nat) ^ r.length = 64 * 64 ^ (r.length - 1) := by
          rw [← Nat.pow_succ']
          congr 1
          omega
        rw [e1]
        exact Nat.mul_le_mul_right _ (Nat.le_trans (List.length_filter_le _ _) i1)
theorem open_le (ns : List Q) : openMany ns ≤ 2 * ns.length + 1 := by unfold openMany; omega
theorem take_sum_le {l : List Nat} {b : Nat} (h : ∀ x ∈ l, x ≤ b) (j : Nat) : (l.take j).sum ≤ l.length * b := by
  refine Nat.le_trans (sum_le (b := b) fun x hx => h x (List.mem_of_mem_take hx)) ?_
  exact Nat.mul_le_mul_right _ (by rw [List.length_take]; omega)
theorem has_many_places {k : Nat} (T : Tb K mg) (h_check_log : Has P w K mg base "check_log" k ["thing"] (spG K (RuleC mg) rChkL)) (h_people_in : Has P w K mg base "people_in" k ["log"] (spG K (RuleC mg) rPeo)) (h_places_open : Has P w K mg base "places_open" k ["numbers"] (spR K rOpen))
    (h_numbers_in : Has P w K mg base "numbers_in" k ["log"] (spGL K (RuleC mg) rNums)) (h_levels_of : Has P w K mg base "levels_of" k ["log"] (spGL K (RuleC mg) rLevs)) (h_ways_down : Has P w K mg base "ways_down" k ["levels"] (spWD K)) : Has P w K mg base "many_places" (k + 1) ["log"] (spG K (RuleC mg) rMany) := by
  refine has_G T.f_many_places sc_many_places bn_many_places (fun n t ds d h => by obtain ⟨rfl, _⟩ := h; rfl) fun f cdv A outer s H r vs Q E hr n log ds d h0 ok hds h q => ?_
  obtain ⟨rfl, rfl⟩ := h
  cases hds
  refine ⟨_, (pss_cons (ps_expr (pe_callH h_check_log hr (pa_cons (pv 0) pa_nil)))
      (pss_cons (ps_set (i := 1) sc_many_places.nd rfl (by first | exact Or.inl rfl | exact Or.inr rfl) pe_int)
      (pss_cons (ps_for PassesOwn.never rfl (pi_range1 (by rfl) T.range (pa_cons (pe_callH h_people_in hr (pa_cons (pv 0) pa_nil)) pa_nil)) (pg_name (i := 2) sc_many_places.nd rfl (by first | exact Or.inl rfl | exact Or.inr rfl)) (pss_one (ps_aug (i := 1) sc_many_places.nd rfl (by first | exact Or.inl rfl | exact Or.inr rfl) (pe_callH h_places_open hr (pa_cons (pe_callH h_numbers_in hr (pa_cons (pv 0) pa_nil)) pa_nil)) ip_mulW)))
      (pss_cons (ps_if (pt_cmpR op_gt (pv 1) (pe_gInt T.MOST_PLACES) (nomark _)) (pss_one ps_never) pss_nil)
      (pss_one (ps_ret (pe_callB (cr_sumVals rfl) (by rfl) T.sum (by decide +kernel) (pa_cons (pe_bm0 PySem.F.plainAttrs_dict PySem.F.slot_dict_values PySem.F.type_dict_values mt_vals (pe_ix (ix_seqK K) (pe_callH h_ways_down hr (pa_cons (pe_callH h_levels_of hr (pa_cons (pv 0) pa_nil)) pa_nil)) pe_int (fun _ _ => rfl))) pa_nil)))))))), ?_⟩
  have n6 := ok.n6
  have l4 := ok.l4
  have nl := nums_len log
  have lo := levOk ok
  have n1 : 1 ≤ (nums log).length := by
    obtain ⟨lots, L, e⟩ := levels_cons ok
    have := levels_len n log
    rw [e] at this
    simp at this
    omega
  have ob : openMany (nums log) ≤ 2 * log.length + 1 := Nat.le_trans (open_le _) (by omega)
  have pb : ∀ i, i ≤ n → openMany (nums log) ^ i ≤ 729 := fun i hi => by
    refine Nat.le_trans (Nat.pow_le_pow_left ob i) (Nat.le_trans (Nat.pow_le_pow_right (by omega) hi) ok.few)
  refine q_drop (eva_callG (K := K) (evr_log rfl h0) evaa_nil ok ⟨rfl, rfl⟩) fun v H2 e2 _ => ?_
  refine q_asg (eva_int (K := K)) fun v H3 e3 dv => ?_
  cases dv
  have e13 := e2.trans e3
  refine q_forI (evi_rng (K := K) (evaa_cons (eva_callG (K := K) (evr_log rfl (log_ex e13 h0)) evaa_nil ok ⟨rfl, rfl⟩) evaa_nil) (by omega) (by omega)) (fun Hb i σ' H' => Ex Hb H' ∧ ∃ z, σ' = [some r, some (.int ((openMany (nums log) ^ i : Nat) : Int)), z]) (fun _ _ _ _ h => h.1) (fun Hb eb => ⟨Ex.refl _, none, rfl⟩) ?_ ?_
  · intro Hb eb i hi σ' H' σ2 H4 hP e4 hp
    obtain ⟨ex, z, rfl⟩ := hP
    cases hp
    have hi' : i < n := by simpa using hi
    have eH : Ex H H4 := (e13.trans eb).trans (ex.trans e4)
    refine s_mul (i := 1) rfl (eva_call (K := K) (evaa_cons (evl_callG (K := K) (evr_log rfl (log_ex eH h0)) evaa_nil ok ⟨rfl, rfl⟩).eva evaa_nil) ⟨nums log, rfl, n1, by omega, rfl⟩) ?_ fun H5 e5 => ⟨ex.trans (e4.trans e5), some (.int ((List.range (n : Int).toNat)[i] : Nat)), ?_⟩
    · have b1 := pb i (by omega)
      have : (2 : Nat) ^ 60 > 729 := by decide
      exact cmul_small (by omega) (by omega)
    · rw [Nat.pow_succ, Int.natCast_mul]
      rfl
  · intro Hb eb σ' H' hP
    obtain ⟨ex, z, rfl⟩ := hP
    have eH : Ex H H' := (e13.trans eb).trans ex
    rw [List.length_range, show (n : Int).toNat = n by omega]
    have b1 := pb n (Nat.le_refl _)
    refine Evl.q_when (b := false) (Evl.et_is (evt_T (K := K) (eva_B0 (eva_var rfl (.int _)) eva_int)) (decide_eq_false (by omega))) (fun h => by cases h) (fun _ H4 e4 => ?_)
    obtain ⟨lots, L, eL⟩ := levels_cons ok
    have hf : ∀ l ∈ lots :: L, l.length ≤ 64 := fun l hl => few64 ((eL ▸ lo).nd l hl) ((eL ▸ lo).lt l hl)
    have eW : wd (levels n log) = wdStep (wd L).head? lots :: wd L := by rw [eL, wd]
    have wf := ways_few hf (wdStep (wd L).head? lots) (by rw [wd]; rfl)
    have lenL : (lots :: L).length ≤ 8 := by have := lo.few; rwa [eL] at this
    generalize wdStep (wd L).head? lots = m at eW wf
    refine s_ret (R := fun v H' => Dp K H' v (.int (manyPlaces (levels n log) : Int))) ?_ fun v H5 e5 dv => q v H5 (eH.trans (e4.trans e5)) dv
    intro H5 e5 Q5 q5
    have e15 := eH.trans (e4.trans e5)
    refine evf_wd (K := K) (L := levels n log) (evl_callG (K := K) (evr_log (i := 0) rfl (log_ex e15 h0)) evaa_nil ok ⟨rfl, rfl⟩).eva lo H5 (Ex.refl _) _ fun p ws H6 np e6 hp hw => ?_
    rw [eW] at hw
    cases hw with
    | cons h1 h2 =>
      rename_i w0 ws'
      obtain ⟨d, rfl, hd⟩ := h1
      refine .inl ⟨p, _, 0, .ref d, rfl, rfl, .inl (.inl hp), by simp [atI, ixN], ?_⟩
      refine ⟨.inr (.inr (.inl ⟨rfl, .inl ⟨_, hd⟩⟩)), d, kvI m, rfl, rfl, hd, fun v hv => ?_⟩
      have ne : d ≠ v := fun z => by rw [z, hv] at hd; cases hd
      have ms : manyPlaces (levels n log) = (m.map (·.2)).sum := by unfold manyPlaces; rw [eW]; rfl
      have zs : ∀ j, ((zi (m.map (·.2))).take j).sum = ((((m.map (·.2)).take j).sum : Nat) : Int) := fun j => by
        rw [zi, ← List.map_take]
        exact sum_zi _
      have bnd : m.length * 64 ^ ((lots :: L).length - 1) ≤ 64 * 64 ^ 7 := Nat.le_trans (Nat.mul_le_mul_right _ wf.1) (Nat.mul_le_mul_left _ (Nat.pow_le_pow_right (by decide) (by omega)))
      have big : (64 : Nat) * 64 ^ 7 < 2 ^ 63 := by decide
      have cnt : ∀ x ∈ m.map (·.2), x ≤ 64 ^ ((lots :: L).length - 1) := fun x hx => by
        obtain ⟨e, he, rfl⟩ := List.mem_map.mp hx
        exact wf.2 e he
      refine ⟨v, d, kvI m, zi (m.map (·.2)), rfl, upd_same, by rw [upd_ne ne]; exact hd, ?_, fun j hj => ⟨?_, ?_⟩, ?_⟩
      · rw [zi, List.map_map, List.map_map, List.map_map]
        rfl
      · have hj' : j < (m.map (·.2)).length := by simpa using hj
        have eg : (zi (m.map (·.2))).getD j 0 = (((m.map (·.2))[j] : Nat) : Int) := by
          rw [List.getD_eq_getElem?_getD, zi, List.getElem?_map, List.getElem?_eq_getElem hj']
          rfl
        rw [eg]
        have c1 := cnt _ (List.getElem_mem hj')
        have c2 : 64 ^ ((lots :: L).length - 1) ≤ 64 ^ 7 := Nat.pow_le_pow_right (by decide) (by omega)
        have c3 : (64 : Nat) ^ 7 < 2 ^ 63 := by decide
        unfold InLong
        omega
      · rw [zs]
        have c1 := take_sum_le cnt (j + 1)
        rw [List.length_map] at c1
        unfold InLong
        omega
      · rw [sum_zi, ← ms]
        exact q5 _ _ (e6.trans (Ex.new hv)) (.int _)
end
end Cb
set_option Elab.async false
set_option linter.all false
set_option maxRecDepth 100000
set_option maxHeartbeats 8000000
/-! Cb, defs 15: checks of terms. -/
namespace Cb
open PySem PySem.Spec PyProof.Rows L2 Evl
theorem eT_head (t : Tm) : ∃ x rest, eT t = .tuple (.str x :: rest) := by
  cases t with
  | bid k => exact ⟨_, _, rfl⟩
  | fixed q => exact ⟨_, _, rfl⟩
  | nd op ts =>
    cases op with
    | mean ws => exact ⟨_, _, rfl⟩
    | least => exact ⟨_, _, rfl⟩
    | greatest => exact ⟨_, _, rfl⟩
    | ranked j => exact ⟨_, _, rfl⟩
    | between lo hi => exact ⟨_, _, rfl⟩
def isLf : Tm → Bool
  | .nd _ _ => false
  | _ => true
section
variable {P : Program} {w : World} {K : PySem.W.Frag} {mg : Str → Option Value} {base : Heap}
theorem sc_are_parts : FnScope ["thing"] ["thing"] (defScope (topS 50)) := ⟨rfl, rfl, rfl, by decide +kernel, rfl, by decide +kernel, by decide +kernel⟩
theorem bn_are_parts : Bnd "are_parts" 50 ["thing"] := fun _ _ _ _ _ _ us hl => match us, hl with | [_], _ => rfl
def rParts (ds : List PyData) (d : PyData) : Prop := ∃ es : List PyData, ds = [.tuple es] ∧ d = .bool (decide (1 ≤ es.length) && decide (es.length ≤ 8))
theorem has_are_parts {k : Nat} (T : Tb K mg) : Has P w K mg base "are_parts" (k + 1) ["thing"] (spR K rParts) := by
  refine has_R T.f_are_parts sc_are_parts bn_are_parts (fun ds d h => by obtain ⟨_, rfl, _⟩ := h; rfl) fun f cdv A outer s H vs Q E hr ds d hds h q => ?_
  obtain ⟨es, rfl, rfl⟩ := h
  obtain ⟨v1, rfl, h1⟩ := dpa1 hds
  refine ⟨_, (pss_one (ps_ret (pe_and (pe_callB (call_isiKK K) (by rfl) T.isinstance (by decide +kernel) (pa_cons (pv 0) (pa_cons (pe_gTy (T := "tuple") T.tuple (by decide +kernel)) pa_nil))) (pe_one (pe_chain op_le op_le pe_int (pe_callB (call_lenK K) (by rfl) T.len (by decide +kernel) (pa_cons (pv 0) pa_nil)) (pe_gInt T.MOST_PARTS)))))), ?_⟩
  refine s_ret (eva_is (eva_and (eva_isi (k := true) (eva_var rfl h1) kb_tt) fun _ => eva_chainI eva_int (eva_lenT (eva_var rfl h1)) eva_int) ?_) q
  rw [Bool.true_and]
  congr 2
  · exact decide_eq_decide.mpr (by omega)
  · exact decide_eq_decide.mpr (by omega)
theorem sc_is_weighted : FnScope ["thing"] ["thing"] (defScope (topS 51)) := ⟨rfl, rfl, rfl, by decide +kernel, rfl, by decide +kernel, by decide +kernel⟩
theorem bn_is_weighted : Bnd "is_weighted" 51 ["thing"] := fun _ _ _ _ _ _ us hl => match us, hl with | [_], _ => rfl
def rWgt (ds : List PyData) (d : PyData) : Prop := ∃ (i : Int) (x : PyData), ds = [.tuple [.int i, x]] ∧ 1 ≤ i ∧ i ≤ 99 ∧ d = .bool true
theorem has_is_weighted {k : Nat} (T : Tb K mg) (h_is_within : Has P w K mg base "is_within" k ["thing", "least", "most"] (spR K rWithin)) : Has P w K mg base "is_weighted" (k + 1) ["thing"] (spR K rWgt) := by
  refine has_R T.f_is_weighted sc_is_weighted bn_is_weighted (fun ds d h => by obtain ⟨_, _, rfl, _⟩ := h; rfl) fun f cdv A outer s H vs Q E hr ds d hds h q => ?_
  obtain ⟨i, x, rfl, i1, i2, rfl⟩ := h
  obtain ⟨v1, rfl, h1⟩ := dpa1 hds
  refine ⟨_, (pss_one (ps_ret (pe_and (pe_callB (call_isiKK K) (by rfl) T.isinstance (by decide +kernel) (pa_cons (pv 0) (pa_cons (pe_gTy (T := "tuple") T.tuple (by decide +kernel)) pa_nil))) (pe_and (pe_cmpR op_eq (pe_callB (call_lenK K) (by rfl) T.len (by decide +kernel) (pa_cons (pv 0) pa_nil)) pe_int (nomark _)) (pe_one (pe_callH h_is_within hr (pa_cons (pe_ix (ix_seqK K) (pv 0) pe_int (fun _ _ => rfl)) (pa_cons pe_int (pa_cons (pe_gInt T.MOST_WEIGHT) pa_nil))))))))), ?_⟩
  refine s_ret (eva_is (eva_and (eva_isi (k := true) (eva_var rfl h1) kb_tt) fun _ => eva_and (eva_eqI (eva_lenT (eva_var rfl h1)) eva_int) fun _ => eva_call (evaa_cons (eva_ixT (eva_var rfl h1) eva_int atI0) (evaa_cons eva_int (evaa_cons eva_int evaa_nil))) ⟨i, 1, 99, rfl, rfl⟩) ?_) q
  rw [decide_eq_true i1, decide_eq_true i2]
  rfl
theorem sc_is_bound : FnScope ["thing"] ["thing"] (defScope (topS 52)) := ⟨rfl, rfl, rfl, by decide +kernel, rfl, by decide +kernel, by decide +kernel⟩
theorem bn_is_bound : Bnd "is_bound" 52 ["thing"] := fun _ _ _ _ _ _ us hl => match us, hl with | [_], _ => rfl
def rBound (ds : List PyData) (d : PyData) : Prop := ∃ (s : PyData) (lo hi : Q) (t : PyData), ds = [.tuple [s, eQ lo, eQ hi, t]] ∧ Num lo ∧ Num hi ∧ Fq lo ∧ Fq hi ∧ toR lo ≤ toR hi ∧ d = .bool true
theorem has_is_bound {k : Nat} (T : Tb K mg) (h_is_number : Has P w K mg base "is_number" k ["thing"] (spR K rIsNum)) (h_is_less : Has P w K mg base "is_less" k ["one", "other"] (spR K rLess)) : Has P w K mg base "is_bound" (k + 1) ["thing"] (spR K rBound) := by
  refine has_R T.f_is_bound sc_is_bound bn_is_bound (fun ds d h => by obtain ⟨_, _, _, _, rfl, _⟩ := h; rfl) fun f cdv A outer s H vs Q E hr ds d hds h q => ?_
  obtain ⟨x, lo, hi, t, rfl, nl, nh, fl, fh, hle, rfl⟩ := h
  obtain ⟨v1, rfl, h1⟩ := dpa1 hds
  refine ⟨_, (pss_cons (ps_if (PW.pt (pw_or (pt_cmpR op_ne (pe_callB (call_lenK K) (by rfl) T.len (by decide +kernel) (pa_cons (pv 0) pa_nil)) pe_int (nomark _)) (pw_or (pt_not (pt_val (pe_callH h_is_number hr (pa_cons (pe_ix (ix_seqK K) (pv 0) pe_int (fun _ _ => rfl)) pa_nil)))) (pw_or1 (pt_not (pt_val (pe_callH h_is_number hr (pa_cons (pe_ix (ix_seqK K) (pv 0) pe_int (fun _ _ => rfl)) pa_nil)))))))) (pss_one (ps_ret pe_bl)) pss_nil)
      (pss_one (ps_ret (pe_not (pe_callH h_is_less hr (pa_cons (pe_ix (ix_seqK K) (pv 0) pe_int (fun _ _ => rfl)) (pa_cons (pe_ix (ix_seqK K) (pv 0) pe_int (fun _ _ => rfl)) pa_nil))))))), ?_⟩
  refine Evl.q_when (b := false) (Evl.et_is (Evl.et_or (evt_T (K := K) (eva_neI (eva_lenT (eva_var rfl h1)) eva_int)) fun _ => Evl.et_or (Evl.et_not (evt_B (K := K) (eva_call (evaa_cons (eva_ixT (eva_var rfl h1) eva_int atI1) evaa_nil) ⟨lo, rfl, nl, rfl⟩))) fun _ => Evl.et_not (evt_B (K := K) (eva_call (evaa_cons (eva_ixT (eva_var rfl h1) eva_int atI2) evaa_nil) ⟨hi, rfl, nh, rfl⟩))) rfl) (fun h => by cases h) fun _ H2 e2 => ?_
  refine s_ret (eva_is (eva_not (eva_call (evaa_cons (eva_ixT (eva_var rfl (dp_ex e2 h1)) eva_int atI2) (evaa_cons (eva_ixT (eva_var rfl (dp_ex e2 h1)) eva_int atI1) evaa_nil)) ⟨hi, lo, rfl, fh.sm, fl.sm, rfl⟩)) ?_) fun v H3 e3 dv => q v H3 (e2.trans e3) dv
  rw [less_iff fh.sm.pos fl.sm.pos, decide_eq_false (by grind)]
  rfl
theorem sc_parts_told : FnScope ["thing", "word", "part"] ["thing"] (defScope (topS 53)) := ⟨rfl, rfl, rfl, by decide +kernel, rfl, by decide +kernel, by decide +kernel⟩
theorem bn_parts_told : Bnd "parts_told" 53 ["thing"] := fun _ _ _ _ _ _ us hl => match us, hl with | [_], _ => rfl
def rTold (ds es : List PyData) : Prop := ∃ (n : Nat) (op : Op) (ts : List Tm), ds = [eT (.nd op ts)] ∧ WT n (.nd op ts) ∧ es = eTs ts
theorem has_parts_told {k : Nat} (T : Tb K mg) (h_are_parts : Has P w K mg base "are_parts" k ["thing"] (spR K rParts)) (h_is_weighted : Has P w K mg base "is_weighted" k ["thing"] (spR K rWgt)) (h_is_within : Has P w K mg base "is_within" k ["thing", "least", "most"] (spR K rWithin)) (h_is_bound : Has P w K mg base "is_bound" k ["thing"] (spR K rBound)) :
    Has P w K mg base "parts_told" (k + 1) ["thing"] (spL K rTold) := by
  refine has_L T.f_parts_told sc_parts_told bn_parts_told (fun ds d h => by obtain ⟨_, _, _, rfl, _⟩ := h; rfl) fun f cdv A outer s H vs Q E hr ds d hds h q => ?_
  obtain ⟨n, op, ts, rfl, hw, rfl⟩ := h
  obtain ⟨v1, rfl, h1⟩ := dpa1 hds
  refine ⟨_, (pss_cons (ps_set (i := 1) sc_parts_told.nd rfl (by first | exact Or.inl rfl | exact Or.inr rfl) (pe_ix (ix_seqK K) (pv 0) pe_int (fun _ _ => rfl)))
      (pss_cons (ps_if (PW.pt (pw_and (pt_cmpR op_eq (pv 1) pe_str (nomark _)) (pw_and (pt_cmpR op_eq (pe_callB (call_lenK K) (by rfl) T.len (by decide +kernel) (pa_cons (pv 0) pa_nil)) pe_int (nomark _)) (pw_and1 (pt_val (pe_callH h_are_parts hr (pa_cons (pe_ix (ix_seqK K) (pv 0) pe_int (fun _ _ => rfl)) pa_nil))))))) (pss_one (ps_ret (pe_ifExp (pt_val (pe_callB (cr_allK K) (by rfl) T.all (by decide +kernel) (pa_cons (pe_lc (own := [("part", 2)]) (g := (gName 2)) (tt := tYes) rfl sc_parts_told.nd (pi_tupK K (pe_ix (ix_seqK K) (pv 0) pe_int (fun _ _ => rfl))) (blkOk_by (N := ["thing", "word", "part"]) (sc := defScope (topS 53)) (by decide +kernel)) (fun _ _ _ _ _ => (pg_name (i := 2) sc_parts_told.nd rfl (by first | exact Or.inl rfl | exact Or.inr rfl))) (fun _ _ _ _ _ => pts_nil) (fun _ _ _ _ _ => (pe_callH h_is_weighted hr (pa_cons (pv 2) pa_nil)))) pa_nil))) (pe_lc (own := [("part", 2)]) (g := (gName 2)) (tt := tYes) rfl sc_parts_told.nd (pi_tupK K (pe_ix (ix_seqK K) (pv 0) pe_int (fun _ _ => rfl))) (blkOk_by (N := ["thing", "word", "part"]) (sc := defScope (topS 53)) (by decide +kernel)) (fun _ _ _ _ _ => (pg_name (i := 2) sc_parts_told.nd rfl (by first | exact Or.inl rfl | exact Or.inr rfl))) (fun _ _ _ _ _ => pts_nil) (fun _ _ _ _ _ => (pe_ix (ix_seqK K) (pv 2) pe_int (fun _ _ => rfl)))) pe_non))) pss_nil)
      (pss_cons (ps_if (PW.pt (pw_and (pt_cmpR (op_in_seqK K) (pv 1) (pe_tup (pa_cons pe_str (pa_cons pe_str pa_nil))) (by rfl)) (pw_and (pt_cmpR op_eq (pe_callB (call_lenK K) (by rfl) T.len (by decide +kernel) (pa_cons (pv 0) pa_nil)) pe_int (nomark _)) (pw_and1 (pt_val (pe_callH h_are_parts hr (pa_cons (pe_ix (ix_seqK K) (pv 0) pe_int (fun _ _ => rfl)) pa_nil))))))) (pss_one (ps_ret (pe_callTy (call_listK K) (by rfl) T.list (by decide +kernel) (pa_cons (pe_ix (ix_seqK K) (pv 0) pe_int (fun _ _ => rfl)) pa_nil)))) pss_nil)
      (pss_cons (ps_if (PW.pt (pw_and (pt_cmpR op_eq (pv 1) pe_str (nomark _)) (pw_and (pt_cmpR op_eq (pe_callB (call_lenK K) (by rfl) T.len (by decide +kernel) (pa_cons (pv 0) pa_nil)) pe_int (nomark _)) (pw_and1 (pt_val (pe_callH h_are_parts hr (pa_cons (pe_ix (ix_seqK K) (pv 0) pe_int (fun _ _ => rfl)) pa_nil))))))) (pss_one (ps_ret (pe_ifExp (pt_val (pe_callH h_is_within hr (pa_cons (pe_ix (ix_seqK K) (pv 0) pe_int (fun _ _ => rfl)) (pa_cons pe_int (pa_cons (pe_callB (call_lenK K) (by rfl) T.len (by decide +kernel) (pa_cons (pe_ix (ix_seqK K) (pv 0) pe_int (fun _ _ => rfl)) pa_nil)) pa_nil))))) (pe_callTy (call_listK K) (by rfl) T.list (by decide +kernel) (pa_cons (pe_ix (ix_seqK K) (pv 0) pe_int (fun _ _ => rfl)) pa_nil)) pe_non))) pss_nil)
      (pss_cons (ps_if (PW.pt (pw_and (pt_cmpR op_eq (pv 1) pe_str (nomark _)) (pw_and1 (pt_val (pe_callH h_is_bound hr (pa_cons (pv 0) pa_nil)))))) (pss_one (ps_ret (pe_lst (pa_cons (pe_ix (ix_seqK K) (pv 0) pe_int (fun _ _ => rfl)) pa_nil)))) pss_nil)
      (pss_one (ps_ret pe_non))))))), ?_⟩
  simp only [WT] at hw
  obtain ⟨ho, hp0, hp8, hs⟩ := hw
  have hdec : ∀ {x y : Str}, x ≠ y → decide (x = y) = false := fun h => decide_eq_false h
  have tl : (eTs ts).length = ts.length := by rw [eTs_map]; simp
  have pok : (decide (1 ≤ (eTs ts).length) && decide ((eTs ts).length ≤ 8)) = true := by rw [tl]; simp; omega
  cases op with
  | mean ws =>
    simp only [eT] at h1
    have lz : ((ws.zip (eTs ts)).map fun p => PyData.tuple [.int p.1, p.2]).length = ts.length := by
      rw [List.length_map, List.length_zip, tl, ho.1]; omega
    refine q_asg (eva_ixT (eva_var rfl h1) eva_int atI0) fun v H2 e dv => ?_
    cases dv
    have h2 := dp_ex e h1
    refine Evl.q_when (b := true) (Evl.et_is (Evl.et_and (evt_T (K := K) (eva_eqS (eva_var rfl (.str _)) eva_str)) fun _ => Evl.et_and (evt_T (K := K) (eva_eqI (eva_lenT (eva_var rfl h2)) eva_int)) fun _ => evt_B (K := K) (eva_call (evaa_cons (eva_ixT (eva_var rfl h2) eva_int atI1) evaa_nil) ⟨_, rfl, rfl⟩)) ?_) (fun _ H3 e3 => ?_) (fun h => by cases h)
    · rw [lz]
      simp; omega
    · have h3 := dp_ex e3 h2
      have src : ∀ {H4 : Hp} {w0 : Option V}, Ex H3 H4 → EvI (iTup K (tOp (rIx K) (tVar 0) (tC (.int 1)))) (gName 2) [some v1, some (.str "mean"), w0] H4 (ws.zip (eTs ts)) (fun p => P1 K 2 (.tuple [.int p.1, p.2])) := fun e4 => (evi_tup (eva_ixT (eva_var rfl (dp_ex e4 h3)) eva_int atI1)).map
      have lzz : (ws.zip (eTs ts)).length < 100000 := by rw [List.length_zip, tl]; omega
      refine s_retL (evl_if (j := true) (evt_is (evt_B (K := K) (eva_all (ns := (ws.zip (eTs ts)).map fun _ => true) (EvaL.eva (EvaL.is (evl_lc1 (fun _ => .bool true) (src (Ex.refl _)) lzz (fun a σ2 H2 _ hp => ?_) (fun a σ2 H4 ha ex hp => ?_) (fun _ _ => rfl)) (by rw [List.map_map]; rfl))))) (allT_map _)) (fun _ => EvaL.is (evl_lc1 (fun p => p.2) (src (Ex.refl _)) lzz (fun a σ2 H2 _ hp => ?_) (fun a σ2 H4 ha ex hp => ?_) (fun a ha => ?_)) (es := eTs ts) ?_) (fun h => by cases h)) fun p ws H4 np e4 hp hd => q p ws H4 (fresh_back (e.trans e3) np) ((e.trans e3).trans e4) hp hd
      · obtain ⟨v, rfl, _⟩ := hp; rfl
      · obtain ⟨v, rfl, hv⟩ := hp
        have := ho.2 a.1 (List.of_mem_zip ha).1
        exact eva_call (evaa_cons (eva_var rfl hv) evaa_nil) ⟨a.1, a.2, rfl, this.1, this.2, rfl⟩
      · obtain ⟨v, rfl, _⟩ := hp; rfl
      · obtain ⟨v, rfl, hv⟩ := hp
        exact eva_ixT (eva_var rfl hv) eva_int atI1
      · have h := (List.of_mem_zip ha).2
        rw [eTs_map] at h
        obtain ⟨t, _, e⟩ := List.mem_map.mp h
        rw [← e]
        exact im_eT t
      · exact List.map_snd_zip (by rw [tl, ho.1]; exact Nat.le_refl _)
  | least =>
    simp only [eT] at h1
    refine q_asg (eva_ixT (eva_var rfl h1) eva_int atI0) fun v H2 e dv => ?_
    cases dv
    have h2 := dp_ex e h1
    refine Evl.q_when (b := false) (Evl.et_is (Evl.et_and (a := false) (b := true) (evt_is (evt_T (K := K) (eva_eqS (eva_var rfl (.str _)) eva_str)) (hdec (by decide +kernel))) fun h => by cases h) rfl) (fun h => by cases h) fun _ H3 e3 => ?_
    have h3 := dp_ex e3 h2
    refine Evl.q_when (b := true) (Evl.et_is (Evl.et_and (evt_T (K := K) (eva_inS (ns := ["least", "greatest"]) (eva_var rfl (.str _)) (eva_tup (evaa_cons eva_str (evaa_cons eva_str evaa_nil))))) fun _ => Evl.et_and (evt_T (K := K) (eva_eqI (eva_lenT (eva_var rfl h3)) eva_int)) fun _ => evt_B (K := K) (eva_call (evaa_cons (eva_ixT (eva_var rfl h3) eva_int atI1) evaa_nil) ⟨_, rfl, rfl⟩)) ?_) (fun _ H4 e4 => ?_) (fun h => by cases h)
    · rw [pok]; rfl
    · exact s_retL (evl_listT (eva_ixT (eva_var rfl (dp_ex e4 h3)) eva_int atI1)) fun p ws H5 np e5 hp hd => q p ws H5 (fresh_back ((e.trans e3).trans e4) np) (((e.trans e3).trans e4).trans e5) hp hd
  | greatest =>
    simp only [eT] at h1
    refine q_asg (eva_ixT (eva_var rfl h1) eva_int atI0) fun v H2 e dv => ?_
    cases dv
    have h2 := dp_ex e h1
    refine Evl.q_when (b := false) (Evl.et_is (Evl.et_and (a := false) (b := true) (evt_is (evt_T (K := K) (eva_eqS (eva_var rfl (.str _)) eva_str)) (hdec (by decide +kernel))) fun h => by cases h) rfl) (fun h => by cases h) fun _ H3 e3 => ?_
    have h3 := dp_ex e3 h2
    refine Evl.q_when (b := true) (Evl.et_is (Evl.et_and (evt_T (K := K) (eva_inS (ns := ["least", "greatest"]) (eva_var rfl (.str _)) (eva_tup (evaa_cons eva_str (evaa_cons eva_str evaa_nil))))) fun _ => Evl.et_and (evt_T (K := K) (eva_eqI (eva_lenT (eva_var rfl h3)) eva_int)) fun _ => evt_B (K := K) (eva_call (evaa_cons (eva_ixT (eva_var rfl h3) eva_int atI1) evaa_nil) ⟨_, rfl, rfl⟩)) ?_) (fun _ H4 e4 => ?_) (fun h => by cases h)
    · rw [pok]; rfl
    · exact s_retL (evl_listT (eva_ixT (eva_var rfl (dp_ex e4 h3)) eva_int atI1)) fun p ws H5 np e5 hp hd => q p ws H5 (fresh_back ((e.trans e3).trans e4) np) (((e.trans e3).trans e4).trans e5) hp hd
  | ranked j =>
    simp only [eT] at h1
    refine q_asg (eva_ixT (eva_var rfl h1) eva_int atI0) fun v H2 e dv => ?_
    cases dv
    have h2 := dp_ex e h1
    refine Evl.q_when (b := false) (Evl.et_is (Evl.et_and (a := false) (b := true) (evt_is (evt_T (K := K) (eva_eqS (eva_var rfl (.str _)) eva_str)) (hdec (by decide +kernel))) fun h => by cases h) rfl) (fun h => by cases h) fun _ H3 e3 => ?_
    have h3 := dp_ex e3 h2
    refine Evl.q_when (b := false) (Evl.et_is (Evl.et_and (a := false) (b := true) (evt_is (evt_T (K := K) (eva_inS (ns := ["least", "greatest"]) (eva_var rfl (.str _)) (eva_tup (evaa_cons eva_str (evaa_cons eva_str evaa_nil))))) (by decide +kernel)) fun h => by cases h) rfl) (fun h => by cases h) fun _ H4 e4 => ?_
    have h4 := dp_ex e4 h3
    refine Evl.q_when (b := true) (Evl.et_is (Evl.et_and (evt_T (K := K) (eva_eqS (eva_var rfl (.str _)) eva_str)) fun _ => Evl.et_and (evt_T (K := K) (eva_eqI (eva_lenT (eva_var rfl h4)) eva_int)) fun _ => evt_B (K := K) (eva_call (evaa_cons (eva_ixT (eva_var rfl h4) eva_int atI2) evaa_nil) ⟨_, rfl, rfl⟩)) ?_) (fun _ H5 e5 => ?_) (fun h => by cases h)
    · rw [pok]; simp
    · have h5 := dp_ex e5 h4
      have e15 := (e.trans e3).trans (e4.trans e5)
      refine s_retL (evl_if (j := true) (evt_is (evt_B (K := K) (eva_call (evaa_cons (eva_ixT (eva_var rfl h5) eva_int atI1) (evaa_cons eva_int (evaa_cons (eva_lenT (eva_ixT (eva_var rfl h5) eva_int atI2)) evaa_nil))) ⟨(j : Int), 1, _, rfl, rfl⟩)) ?_) (fun _ => evl_listT (eva_ixT (eva_var rfl h5) eva_int atI2)) (fun h => by cases h)) fun p ws H6 np e6 hp hd => q p ws H6 (fresh_back e15 np) (e15.trans e6) hp hd
      have := ho.1
      have := ho.2
      rw [tl]
      simp; omega
  | between lo hi =>
    obtain ⟨o1, nlo, nhi, blo, bhi, hle⟩ := ho
    obtain ⟨t, rfl⟩ := List.length_eq_one_iff.mp o1
    simp only [eT, eTs] at h1
    refine q_asg (eva_ixT (eva_var rfl h1) eva_int atI0) fun v H2 e dv => ?_
    cases dv
    have h2 := dp_ex e h1
    refine Evl.q_when (b := false) (Evl.et_is (Evl.et_and (a := false) (b := true) (evt_is (evt_T (K := K) (eva_eqS (eva_var rfl (.str _)) eva_str)) (hdec (by decide +kernel))) fun h => by cases h) rfl) (fun h => by cases h) fun _ H3 e3 => ?_
    have h3 := dp_ex e3 h2
    refine Evl.q_when (b := false) (Evl.et_is (Evl.et_and (a := false) (b := true) (evt_is (evt_T (K := K) (eva_inS (ns := ["least", "greatest"]) (eva_var rfl (.str _)) (eva_tup (evaa_cons eva_str (evaa_cons eva_str evaa_nil))))) (by decide +kernel)) fun h => by cases h) rfl) (fun h => by cases h) fun _ H4 e4 => ?_
    have h4 := dp_ex e4 h3
    refine Evl.q_when (b := false) (Evl.et_is (Evl.et_and (a := false) (b := true) (evt_is (evt_T (K := K) (eva_eqS (eva_var rfl (.str _)) eva_str)) (hdec (by decide +kernel))) fun h => by cases h) rfl) (fun h => by cases h) fun _ H5 e5 => ?_
    have h5 := dp_ex e5 h4
    refine Evl.q_when (b := true) (Evl.et_is (Evl.et_and (evt_T (K := K) (eva_eqS (eva_var rfl (.str _)) eva_str)) fun _ => evt_B (K := K) (eva_call (evaa_cons (eva_var rfl h5) evaa_nil) ⟨_, lo, hi, _, rfl, nlo, nhi, num2_fq nlo blo, num2_fq nhi bhi, hle, rfl⟩)) ?_) (fun _ H6 e6 => ?_) (fun h => by cases h)
    · simp
    · have e16 := (e.trans e3).trans ((e4.trans e5).trans e6)
      exact s_retL (evl_lst (evaa_cons (eva_ixT (eva_var rfl (dp_ex e6 h5)) eva_int atI3) evaa_nil)) fun p ws H7 np e7 hp hd => q p ws H7 (fresh_back e16 np) (e16.trans e7) hp hd
theorem sc_is_leaf : FnScope ["people", "thing"] ["people", "thing"] (defScope (topS 54)) := ⟨rfl, rfl, rfl, by decide +kernel, rfl, by decide +kernel, by decide +kernel⟩
theorem bn_is_leaf : Bnd "is_leaf" 54 ["people", "thing"] := fun _ _ _ _ _ _ us hl => match us, hl with | [_, _], _ => rfl
def rLeaf (ds : List PyData) (d : PyData) : Prop := ∃ (n : Nat) (t : Tm), ds = [.int (n : Int), eT t] ∧ WT n t ∧ d = .bool (isLf t)
theorem has_is_leaf {k : Nat} (T : Tb K mg) (h_is_within : Has P w K mg base "is_within" k ["thing", "least", "most"] (spR K rWithin)) (h_is_number : Has P w K mg base "is_number" k ["thing"] (spR K rIsNum)) : Has P w K mg base "is_leaf" (k + 1) ["people", "thing"] (spR K rLeaf) := by
  refine has_R T.f_is_leaf sc_is_leaf bn_is_leaf (fun ds d h => by obtain ⟨_, _, rfl, _⟩ := h; rfl) fun f cdv A outer s H vs Q E hr ds d hds h q => ?_
  obtain ⟨n, t, rfl, hw, rfl⟩ := h
  obtain ⟨v1, v2, rfl, h1, h2⟩ := dpa2 hds
  cases h1
  refine ⟨_, (pss_cons (ps_if (pt_cmpR op_ne (pe_callB (call_lenK K) (by rfl) T.len (by decide +kernel) (pa_cons (pv 1) pa_nil)) pe_int (nomark _)) (pss_one (ps_ret pe_bl)) pss_nil)
      (pss_one (ps_ret (pe_or (pe_and (pe_cmpR op_eq (pe_ix (ix_seqK K) (pv 1) pe_int (fun _ _ => rfl)) pe_str (nomark _)) (pe_one (pe_callH h_is_within hr (pa_cons (pe_ix (ix_seqK K) (pv 1) pe_int (fun _ _ => rfl)) (pa_cons pe_int (pa_cons (pe_op op_sub (pv 0) pe_int) pa_nil)))))) (pe_one (pe_and (pe_cmpR op_eq (pe_ix (ix_seqK K) (pv 1) pe_int (fun _ _ => rfl)) pe_str (nomark _)) (pe_one (pe_callH h_is_number hr (pa_cons (pe_ix (ix_seqK K) (pv 1) pe_int (fun _ _ => rfl)) pa_nil))))))))), ?_⟩
  have hdec : ∀ {x y : Str}, x ≠ y → decide (x = y) = false := fun h => decide_eq_false h
  have no : ∀ {x : Str} {d2 : PyData}, eT t = .tuple [.str x, d2] → x ≠ "bid" → x ≠ "fixed" → isLf t = false → tSeq (tIfS (tTest (tOp rNe (tCB (rLen2 K) (tCons (tVar 1) tNil)) (tC (.int 2)))) (tRet (tC (.bl false))) tNext)
      (tRet (tOrV (tAndV (tOp rEq (tOp (rIx K) (tVar 1) (tC (.int 0))) (tC (.str "bid"))) (tCall (spR K rWithin) [] E0 (tCons (tOp (rIx K) (tVar 1) (tC (.int 1))) (tCons (tC (.int 0)) (tCons (tOp (rI0 fun i j => .int (i - j)) (tVar 0) (tC (.int 1))) tNil))))) (tAndV (tOp rEq (tOp (rIx K) (tVar 1) (tC (.int 0))) (tC (.str "fixed"))) (tCall (spR K rIsNum) [] E0 (tCons (tOp (rIx K) (tVar 1) (tC (.int 1))) tNil)))))
      { nx := fun _ H' => Q .non H', rt := Q } [some (.int (n : Int)), some v2] H := fun {x d2} et hx1 hx2 hlf => by
    rw [et] at h2
    refine Evl.q_when (b := false) (Evl.et_is (evt_T (K := K) (eva_neI (eva_lenT (eva_var rfl h2)) eva_int)) rfl) (fun h => by cases h) fun _ H2 e2 => ?_
    refine s_ret (eva_is (eva_or (eva_and (j := false) (k := true) (eva_is (eva_eqS (eva_ixT (eva_var rfl (dp_ex e2 h2)) eva_int atI0) eva_str) (by rw [hdec hx1])) fun h => by cases h) fun _ => eva_and (j := false) (k := true) (eva_is (eva_eqS (eva_ixT (eva_var rfl (dp_ex e2 h2)) eva_int atI0) eva_str) (by rw [hdec hx2])) fun h => by cases h) ?_) fun v H3 e3 dv => q v H3 (e2.trans e3) dv
    rw [hlf]; rfl
  have long : ∀ {es : List PyData}, eT t = .tuple es → es.length ≠ 2 → isLf t = false → tSeq (tIfS (tTest (tOp rNe (tCB (rLen2 K) (tCons (tVar 1) tNil)) (tC (.int 2)))) (tRet (tC (.bl false))) tNext)
      (tRet (tOrV (tAndV (tOp rEq (tOp (rIx K) (tVar 1) (tC (.int 0))) (tC (.str "bid"))) (tCall (spR K rWithin) [] E0 (tCons (tOp (rIx K) (tVar 1) (tC (.int 1))) (tCons (tC (.int 0)) (tCons (tOp (rI0 fun i j => .int (i - j)) (tVar 0) (tC (.int 1))) tNil))))) (tAndV (tOp rEq (tOp (rIx K) (tVar 1) (tC (.int 0))) (tC (.str "fixed"))) (tCall (spR K rIsNum) [] E0 (tCons (tOp (rIx K) (tVar 1) (tC (.int 1))) tNil)))))
      { nx := fun _ H' => Q .non H', rt := Q } [some (.int (n : Int)), some v2] H := fun {es} et hl hlf => by
    rw [et] at h2
    refine Evl.q_when (b := true) (Evl.et_is (evt_T (K := K) (eva_neI (eva_lenT (eva_var rfl h2)) eva_int)) (by simp; omega)) (fun _ H2 e2 => ?_) (fun h => by cases h)
    refine s_ret (eva_bl (K := K)) fun v H3 e3 dv => q v H3 (e2.trans e3) (by rw [hlf]; exact dv)
  cases t with
  | bid j =>
    simp only [eT] at h2
    simp only [WT] at hw
    refine Evl.q_when (b := false) (Evl.et_is (evt_T (K := K) (eva_neI (eva_lenT (eva_var rfl h2)) eva_int)) rfl) (fun h => by cases h) fun _ H2 e2 => ?_
    refine s_ret (eva_is (eva_or (j := true) (k := true) (eva_is (eva_and (eva_eqS (eva_ixT (eva_var rfl (dp_ex e2 h2)) eva_int atI0) eva_str) fun _ => eva_call (evaa_cons (eva_ixT (eva_var rfl (dp_ex e2 h2)) eva_int atI1) (evaa_cons eva_int (evaa_cons (eva_I0 (eva_var rfl (.int (n : Int))) eva_int) evaa_nil))) ⟨(j : Int), 0, _, rfl, rfl⟩) ?_) fun h => by cases h) rfl) fun v H3 e3 dv => q v H3 (e2.trans e3) dv
    simp; omega
  | fixed x =>
    simp only [eT] at h2
    simp only [WT] at hw
    refine Evl.q_when (b := false) (Evl.et_is (evt_T (K := K) (eva_neI (eva_lenT (eva_var rfl h2)) eva_int)) rfl) (fun h => by cases h) fun _ H2 e2 => ?_
    refine s_ret (eva_is (eva_or (j := false) (k := true) (eva_and (j := false) (k := true) (eva_is (eva_eqS (eva_ixT (eva_var rfl (dp_ex e2 h2)) eva_int atI0) eva_str) (by rw [hdec (by decide +kernel)])) fun h => by cases h) fun _ => eva_is (eva_and (eva_eqS (eva_ixT (eva_var rfl (dp_ex e2 h2)) eva_int atI0) eva_str) fun _ => eva_call (evaa_cons (eva_ixT (eva_var rfl (dp_ex e2 h2)) eva_int atI1) evaa_nil) ⟨x, rfl, hw.1, rfl⟩) (by simp)) rfl) fun v H3 e3 dv => q v H3 (e2.trans e3) dv
  | nd op ts =>
    cases op with
    | mean ws => exact no (by simp only [eT]; rfl) (by decide +kernel) (by decide +kernel) rfl
    | least => exact no (by simp only [eT]; rfl) (by decide +kernel) (by decide +kernel) rfl
    | greatest => exact no (by simp only [eT]; rfl) (by decide +kernel) (by decide +kernel) rfl
    | ranked j => exact long (by simp only [eT]; rfl) (by simp) rfl
    | between lo hi =>
      simp only [WT] at hw
      refine long (by simp only [eT]; rfl) ?_ rfl
      have : ts.length = 1 := hw.1.1
      have tl : (eTs ts).length = ts.length := by rw [eTs_map]; simp
      simp [tl, this]
theorem sc_terms_told : FnScope ["people", "thing", "deep", "parts", "many", "part", "inner"] ["people", "thing", "deep"] (defScope (topS 55)) := ⟨rfl, rfl, rfl, by decide +kernel, rfl, by decide +kernel, by decide +kernel⟩
theorem bn_terms_told : Bnd "terms_told" 55 ["people", "thing", "deep"] := fun _ _ _ _ _ _ us hl => match us, hl with | [_, _, _], _ => rfl
def rTerms (n m : Nat) (ds : List PyData) (d : PyData) : Prop := ∃ (t : Tm) (deep : Nat), ds = [.int (n : Int), eT t, .int (deep : Int)] ∧ WT n t ∧ dpt t ≤ m ∧ dpt t ≤ deep ∧ d = .int (cnt t : Int)
theorem cnts_snoc : ∀ (ts : List Tm) (t : Tm), cnts (ts ++ [t]) = cnts ts + cnt t
  | [], t => by simp [cnts]
  | u :: ts, t => by rw [List.cons_append, cnts, cnts, cnts_snoc ts t, Nat.add_assoc]
theorem has_terms_told {k n : Nat} (T : Tb K mg) (h_lf : Has P w K mg base "is_leaf" k ["people", "thing"] (spR K rLeaf)) (h_pt : Has P w K mg base "parts_told" k ["thing"] (spL K rTold)) :
    ∀ m, Has P w K mg base "terms_told" (k + m + 1) ["people", "thing", "deep"] (spR K (rTerms n m))
  | 0 => by
    refine has_R T.f_terms_told sc_terms_told bn_terms_told (fun ds d h => by obtain ⟨_, _, rfl, _⟩ := h; rfl) fun f cdv A outer s H vs Q E hr ds d hds h q => ?_
    obtain ⟨t, deep, _, _, hm, _⟩ := h
    cases t <;> simp [dpt] at hm
  | m + 1 => by
    have h_terms_told := has_terms_told (n := n) T h_lf h_pt m
    have h_is_leaf := h_lf.mono (show k ≤ k + m + 1 by omega)
    have h_parts_told := h_pt.mono (show k ≤ k + m + 1 by omega)
    refine has_R T.f_terms_told sc_terms_told bn_terms_told (fun ds d h => by obtain ⟨_, _, rfl, _⟩ := h; rfl) fun f cdv A outer s H vs Q E hr ds d hds h q => ?_
    obtain ⟨t, deep, rfl, hw, hm, hdp, rfl⟩ := h
    obtain ⟨v1, v2, v3, rfl, h1, h2, h3⟩ := dpa3 hds
    cases h1
    cases h3
    refine ⟨_, (pss_cons (ps_if (PW.pt (pw_or (pt_cmpR op_eq (pv 2) pe_int (nomark _)) (pw_or (pt_not (pt_val (pe_callB (call_isiKK K) (by rfl) T.isinstance (by decide +kernel) (pa_cons (pv 1) (pa_cons (pe_gTy (T := "tuple") T.tuple (by decide +kernel)) pa_nil))))) (pw_or (pt_cmpR op_eq (pe_callB (call_lenK K) (by rfl) T.len (by decide +kernel) (pa_cons (pv 1) pa_nil)) pe_int (nomark _)) (pw_or1 (pt_not (pt_val (pe_callB (call_isiKK K) (by rfl) T.isinstance (by decide +kernel) (pa_cons (pe_ix (ix_seqK K) (pv 1) pe_int (fun _ _ => rfl)) (pa_cons (pe_gTy (T := "str") T.str (by decide +kernel)) pa_nil)))))))))) (pss_one (ps_ret pe_non)) pss_nil)
      (pss_cons (ps_if (pt_val (pe_callH h_is_leaf hr (pa_cons (pv 0) (pa_cons (pv 1) pa_nil)))) (pss_one (ps_ret pe_int)) pss_nil)
      (pss_cons (ps_set (i := 3) sc_terms_told.nd rfl (by first | exact Or.inl rfl | exact Or.inr rfl) (pe_callH h_parts_told hr (pa_cons (pv 1) pa_nil)))
      (pss_cons (ps_if (pt_cmpR op_isN (pv 3) pe_non (nomark _)) (pss_one (ps_ret pe_non)) pss_nil)
      (pss_cons (ps_set (i := 4) sc_terms_told.nd rfl (by first | exact Or.inl rfl | exact Or.inr rfl) pe_int)
      (pss_cons (ps_for PassesOwn.never rfl (pi_listK K (pv 3)) (pg_name (i := 5) sc_terms_told.nd rfl (by first | exact Or.inl rfl | exact Or.inr rfl)) (pss_cons (ps_set (i := 6) sc_terms_told.nd rfl (by first | exact Or.inl rfl | exact Or.inr rfl) (pe_callH h_terms_told hr (pa_cons (pv 0) (pa_cons (pv 5) (pa_cons (pe_op op_sub (pv 2) pe_int) pa_nil)))))
      (pss_cons (ps_if (pt_cmpR op_isN (pv 6) pe_non (nomark _)) (pss_one (ps_ret pe_non)) pss_nil)
      (pss_one (ps_aug (i := 4) sc_terms_told.nd rfl (by first | exact Or.inl rfl | exact Or.inr rfl) (pv 6) ip_add)))))
      (pss_one (ps_ret (pv 4))))))))), ?_⟩
    have hd1 : 1 ≤ deep := by
      cases t <;> simp [dpt] at hdp <;> omega
    obtain ⟨x, rest, et⟩ := eT_head t
    have h2' := h2
    rw [et] at h2'
    refine Evl.q_when (b := false) (Evl.et_is (Evl.et_or (evt_T (K := K) (eva_eqI (eva_var rfl (.int (deep : Int))) eva_int)) fun _ => Evl.et_or (Evl.et_not (evt_B (K := K) (eva_isi (k := true) (eva_var rfl h2') kb_tt))) fun _ => Evl.et_or (evt_T (K := K) (eva_eqI (eva_lenT (eva_var rfl h2')) eva_int)) fun _ => Evl.et_not (evt_B (K := K) (eva_isi (k := true) (eva_ixT (eva_var rfl h2') eva_int atI0) kb_ss))) (by simp; omega)) (fun h => by cases h) fun _ H2 e2 => ?_
    have g2 := dp_ex e2 h2
    refine Evl.q_when (evt_B (K := K) (eva_call (evaa_cons (eva_var rfl (.int (n : Int))) (evaa_cons (eva_var rfl g2) evaa_nil)) ⟨n, t, rfl, hw, rfl⟩)) (fun hb H3 e3 => ?_) (fun hb H3 e3 => ?_)
    · refine s_ret (eva_int (K := K)) fun v H4 e4 dv => q v H4 (e2.trans (e3.trans e4)) ?_
      cases t with
      | bid j => simp only [cnt]; exact dv
      | fixed x => simp only [cnt]; exact dv
      | nd op ts => cases hb
    · cases t with
      | bid j => cases hb
      | fixed x => cases hb
      | nd op ts =>
        have hw' := hw
        simp only [WT] at hw'
        simp only [dpt] at hm hdp
        have e23 := e2.trans e3
        refine q_asgL (evl_call (K := K) (evaa_cons (eva_var rfl (dp_ex e3 g2)) evaa_nil) ⟨n, op, ts, rfl, hw, rfl⟩) fun p ws H4 np e4 hp hd => ?_
        refine Evl.q_when (b := false) (Evl.et_is (evt_isNV rfl) rfl) (fun h => by cases h) fun _ H5 e5 => ?_
        refine q_asg (eva_int (K := K)) fun v H6 e6 dv => ?_
        cases dv
        have e46 := e5.trans e6
        have dp6 : Dp K H6 (.ref p) (.list (eTs ts)) := dp_ex e46 (dp_newL hp (dpa_ex er_ex hd))
        have eH6 := (e23.trans e4).trans e46
        refine q_forI (EvI.map (f := eT) (xs := ts) (evi_list (j := 5) (eva_is (eva_var rfl dp6) (by rw [eTs_map])))) (fun Hb i σ' H' => Ex Hb H' ∧ ∃ z5 z6, σ' = [some (.int (n : Int)), some v2, some (.int (deep : Int)), some (.ref p), some (.int ((1 + cnts (ts.take i) : Nat) : Int)), z5, z6]) (fun _ _ _ _ h => h.1) (fun Hb eb => ⟨Ex.refl _, none, none, rfl⟩) ?_ ?_
        · intro Hb eb i hi σ' H' σ2 H7 hP e7 hp'
          obtain ⟨ex, z5, z6, rfl⟩ := hP
          obtain ⟨u, rfl, hu⟩ := hp'
          have hmem : ts[i] ∈ ts := List.getElem_mem hi
          have d1 : dpt ts[i] ≤ m := dpts_le.mp (show dpts ts ≤ m by omega) _ hmem
          have d2 : dpt ts[i] ≤ deep - 1 := dpts_le.mp (show dpts ts ≤ deep - 1 by omega) _ hmem
          refine q_asg (eva_call (K := K) (evaa_cons (eva_var rfl (.int (n : Int))) (evaa_cons (eva_var rfl hu) (evaa_cons (eva_is (eva_I0 (eva_var rfl (.int (deep : Int))) eva_int) (show PyData.int ((deep : Int) - 1) = .int ((deep - 1 : Nat) : Int) by congr 1; omega)) evaa_nil))) ⟨ts[i], deep - 1, rfl, wts_mem hw'.2.2.2 hmem, d1, d2, rfl⟩) fun v H8 e8 dv => ?_
          cases dv
          refine Evl.q_when (b := false) (Evl.et_is (evt_isNV rfl) rfl) (fun h => by cases h) fun _ H9 e9 => ?_
          refine Evl.s_aug (f := fun i j => i + j) (a := ((1 + cnts (ts.take i) : Nat) : Int)) (b := (cnt ts[i] : Int)) rfl (Evl.ev_var rfl) fun H10 e10 => ⟨ex.trans ((e7.trans e8).trans (e9.trans e10)), some u, some (.int (cnt ts[i] : Int)), ?_⟩
          rw [take_snoc hi, cnts_snoc]
          show _ = [_, _, _, _, some (V.int ((1 + (cnts (ts.take i) + cnt ts[i]) : Nat) : Int)), _, _]
          have : ((1 + (cnts (ts.take i) + cnt ts[i]) : Nat) : Int) = ((1 + cnts (ts.take i) : Nat) : Int) + (cnt ts[i] : Int) := by omega
          rw [this]
          rfl
        · intro Hb eb σ' H' hP
          obtain ⟨ex, z5, z6, rfl⟩ := hP
          rw [List.take_length]
          refine s_ret (eva_var (K := K) rfl (.int _)) fun v H7 e7 dv => q v H7 ((eH6.trans eb).trans (ex.trans e7)) ?_
          simp only [cnt]
          exact dv
end
end Cb
set_option Elab.async false
set_option linter.all false
set_option maxRecDepth 100000
set_option maxHeartbeats 8000000
/-! Cb, defs 16: making a rule. -/
namespace Cb
open PySem PySem.Spec PyProof.Rows L2 Evl
abbrev stInit : Stmt := inClass (topS 56) 0
theorem sc_init : FnScope ["self", "people", "term", "many"] ["self", "people", "term"] (defScope stInit) := ⟨rfl, rfl, rfl, by decide +kernel, rfl, by decide +kernel, by decide +kernel⟩
theorem bn_init : ∀ (kV doc pm : Value) (an : Option Addr) (cdv ct : Value) (us : List Value), us.length = (["self", "people", "term"] : List Str).length → bindArgs (PySem.W.fnOf "__init__" "Rule.__init__" (defArgs stInit) (defBody stInit) (defScope stInit) .none kV doc pm an cdv ct) ⟨us, []⟩ = pure ((["self", "people", "term"] : List Str).zip us) :=
  fun _ _ _ _ _ _ us hl => match us, hl with | [_, _, _], _ => rfl
/-- what __init__ keeps -/
def spInit (K : PySem.W.Frag) (C : Addr) : Sp := fun vs H Q _ => ∃ (n : Nat) (t : Tm) (x dx : Addr) (tv : V), vs = [.ref x, .int (n : Int), tv] ∧ H x = some (.ins C dx []) ∧ Dp K H tv (eT t) ∧ RT n t ∧
  ∀ H2, (∀ b o, b ≠ x → H b = some o → H2 b = some o) → H2 x = some (.ins C dx [("people", .int (n : Int)), ("term", tv)]) → Q .non H2
/-- a class that may be made -/
def HasMk (P : Program) (w : World) (K : PySem.W.Frag) (mg : Str → Option Value) (base : Heap) (x : Str) (k : Nat) (ps : List Str) (sp : Sp) : Prop :=
  ∃ f fd, mg x = some (.ref (refAt mg x)) ∧ Mk K (refAt mg x) f ∧ Binds K fd ps [] ∧ FnOk P w K mg base CX0 k f fd ps sp
theorem HasMk.mono {P : Program} {w : World} {K : PySem.W.Frag} {mg : Str → Option Value} {base : Heap} {x : Str} {j k : Nat} {ps : List Str} {sp : Sp} (h : HasMk P w K mg base x j ps sp) (l : j ≤ k) : HasMk P w K mg base x k ps sp := by
  obtain ⟨f, fd, a, b, c, d⟩ := h
  exact ⟨f, fd, a, b, c, d.mono l⟩
theorem pe_makeH {X : Cx} {x : Str} {k : Nat} {ps : List Str} {sp : Sp} {e : Expr} {es : List Expr} {t : TA} {p pos : Pos} (h : HasMk X.prog X.w X.K X.mg X.base x k ps sp) (hr : Room (k + 1) X.A) (ha : PA X (e :: es) t) (hg : Gl X x := by rfl) (hd : (x == ("__debug__" : Str)) = false := by decide) (he : starEach (e :: es) X.env = (false, eval e X.env) :: starEach es X.env := by rfl)
    (hpl : (backTo pos (starEach es X.env)).any (·.1) = false := by rfl) : PE X (.Call (.Name x p) (e :: es) [] pos) (tMake (refAt X.mg x) sp [] E0 t) := by
  obtain ⟨f, fd, a, b, c, d⟩ := h
  exact pe_make b d hr hg a c .nil pass0 ha hd he hpl
section
variable {P : Program} {w : World} {K : PySem.W.Frag} {mg : Str → Option Value} {base : Heap}
theorem has_init {k : Nat} (T : Tb K mg) (h_is_within : Has P w K mg base "is_within" k ["thing", "least", "most"] (spR K rWithin)) (h_trm : ∀ n, Has P w K mg base "terms_told" k ["people", "thing", "deep"] (spR K (rTerms n 5))) :
    HasMk P w K mg base "Rule" (k + 1) ["self", "people", "term"] (spInit K (RuleC mg)) := by
  obtain ⟨f, fd, mk, F⟩ := T.mkr
  refine ⟨f, fd, T.Rule, mk, F.binds bn_init, F.ok sc_init (fun vs H Q E h => by obtain ⟨_, _, _, _, _, rfl, _⟩ := h; rfl) fun cdv A outer s H vs Q E hr h => ?_⟩
  obtain ⟨n, t, x, dx, tv, rfl, hx, ht, rt, q⟩ := h
  have h_terms_told := h_trm n
  refine ⟨_, (pss_cons (ps_if (pt_not (pt_val (pe_callH h_is_within hr (pa_cons (pv 1) (pa_cons pe_int (pa_cons (pe_gInt T.MOST_PEOPLE) pa_nil)))))) (pss_one ps_never) pss_nil)
    (pss_cons (ps_set (i := 3) sc_init.nd rfl (by first | exact Or.inl rfl | exact Or.inr rfl) (pe_callH h_terms_told hr (pa_cons (pv 1) (pa_cons (pv 2) (pa_cons (pe_gInt T.MOST_DEEP) pa_nil)))))
    (pss_cons (ps_if (PW.pt (pw_or (pt_cmpR op_isN (pv 3) pe_non (nomark _)) (pw_or1 (pt_cmpR op_gt (pv 3) (pe_gInt T.MOST_TERMS) (nomark _))))) (pss_one ps_never) pss_nil)
    (pss_cons (ps_fld (pv 0) (pv 1) (by rfl)) (pss_one (ps_fld (pv 0) (pv 2) (by rfl))))))), ?_⟩
  have n1 := rt.n1
  have n6 := rt.n6
  have c6 := rt.cnt
  refine Evl.q_when (b := false) (Evl.et_is (Evl.et_not (evt_B (K := K) (eva_call (evaa_cons (eva_var rfl (.int (n : Int))) (evaa_cons eva_int (evaa_cons eva_int evaa_nil))) ⟨_, _, _, rfl, rfl⟩))) (by simp; omega)) (fun h => by cases h) fun _ H2 e2 => ?_
  refine q_asg (eva_call (K := K) (evaa_cons (eva_var rfl (.int (n : Int))) (evaa_cons (eva_var rfl (dp_ex e2 ht)) (evaa_cons eva_int evaa_nil))) ⟨t, 8, rfl, rt.wt, rt.dpt, Nat.le_trans rt.dpt (by decide), rfl⟩) fun v H3 e3 dv => ?_
  cases dv
  refine Evl.q_when (b := false) (Evl.et_is (Evl.et_or (evt_isNV rfl) fun _ => evt_T (K := K) (eva_B0 (eva_var rfl (.int _)) eva_int)) (by simp; omega)) (fun h => by cases h) fun _ H4 e4 => ?_
  have e24 := (e2.trans e3).trans e4
  refine ⟨_, rfl, _, rfl, x, RuleC mg, dx, [], rfl, e24 x _ hx, T.cls, T.noP, by simp, ?_⟩
  refine ⟨_, rfl, _, rfl, x, RuleC mg, dx, _, rfl, upd_same, T.cls, T.noT, by simp [putF], ?_⟩
  refine q _ (fun b o hb h => by rw [upd_ne hb, upd_ne hb]; exact e24 b o h) ?_
  rw [upd_same]
  have ne : ¬ ("people" : Str) = "term" := by decide +kernel
  simp [putF, ne]
theorem evr_make {σ : L2.St} {H : Hp} {ta : TA} {n : Nat} {t : Tm} {E : XK} (h : EvaA K ta σ H [.int (n : Int), eT t]) (rt : RT n t) : Evr (tMake (RuleC mg) (spInit K (RuleC mg)) [] E ta) σ H (fun v H' => RuleR K (RuleC mg) H' v n t) := fun H1 e Q q =>
  h H1 e _ fun vs H2 e2 dv x dx nx ndx ne => by
    obtain ⟨u, tv, rfl, h1, h2⟩ := dpa2 dv
    cases h1
    have e3 : Ex H2 (upd (upd H2 dx (.own x)) x (.ins (RuleC mg) dx [])) := (Ex.new ndx).trans (Ex.new (by rw [upd_ne (Ne.symm ne)]; exact nx))
    refine ⟨n, t, x, dx, tv, rfl, upd_same, dp_ex e3 h2, rt, fun H4 keep hx => ⟨rfl, ?_⟩⟩
    have e4 : Ex H2 H4 := fun b o hb => keep b o (fun z => by rw [z, nx] at hb; cases hb) (e3 b o hb)
    refine q _ H4 (e2.trans e4) ⟨x, dx, _, tv, rfl, hx, ?_, ?_, dp_ex e4 h2⟩
    · rfl
    · have : (("term" : Str) == "people") = false := by decide +kernel
      simp [List.lookup, this]
end
end Cb
set_option Elab.async false
set_option linter.all false
set_option maxRecDepth 100000
set_option maxHeartbeats 8000000
/-! Cb, the law's defs 17: fractions, sorting, values. -/
namespace Cb
open PySem PySem.Spec PyProof.Rows L2 Evl
section
variable {P : Program} {w : World} {K : PySem.W.Frag} {mg : Str → Option Value} {base : Heap}
theorem sc_l_lowest : FnScope ["_law_top", "_law_bottom", "_law_one", "_law_other"] ["_law_top", "_law_bottom"] (defScope (topS 85)) := ⟨rfl, rfl, rfl, by decide +kernel, rfl, by decide +kernel, by decide +kernel⟩
theorem bn_l_lowest : Bnd "_law_lowest" 85 ["_law_top", "_law_bottom"] := fun _ _ _ _ _ _ us hl => match us, hl with | [_, _], _ => rfl
theorem has_l_lowest {k : Nat} (T : Tb K mg) : Has P w K mg base "_law_lowest" (k + 1) ["_law_top", "_law_bottom"] (spR K rMade) := by
  refine has_R T.f_l_lowest sc_l_lowest bn_l_lowest (fun ds d h => by obtain ⟨i, j, rfl, _⟩ := h; rfl) fun f cdv A outer s H vs Q E hr ds d hds h q => ?_
  obtain ⟨i, j, rfl, hj, hbd, rfl⟩ := h
  obtain ⟨v1, v2, rfl, h1, h2⟩ := dpa2 hds
  cases h1
  cases h2
  refine ⟨_, (pss_cons (ps_par (i := 2) (j := 3) (by rfl) sc_l_lowest.nd rfl rfl (by decide) rfl rfl (pa_cons (pe_callB call_abs (by rfl) T.abs (by decide +kernel) (pa_cons (pv 0) pa_nil)) (pa_cons (pv 1) pa_nil)) (by rfl))
      (pss_cons (ps_while PassesOwn.never (pt_cmpR op_gt (pv 3) pe_int (nomark _)) (pss_one (ps_par (i := 2) (j := 3) (by rfl) sc_l_lowest.nd rfl rfl (by decide) rfl rfl (pa_cons (pv 3) (pa_cons (pe_op op_mod (pe_callTy call_int1 (by rfl) T.int (by decide +kernel) (pa_cons (pv 2) pa_nil)) (pv 3)) pa_nil)) (by rfl))))
      (pss_one (ps_ret (pe_tup (pa_cons (pe_op op_fdivW (pv 0) (pv 2)) (pa_cons (pe_op op_fdivW (pv 1) (pv 2)) pa_nil))))))), ?_⟩
  refine q_par (K := K) (evaa_cons (eva_abs (eva_var rfl (.int i))) (evaa_cons (eva_var rfl (.int j)) evaa_nil)) fun v w H2 e dv dw => ?_
  rw [abs_nat] at dv
  cases dv
  cases dw
  refine Evl.q_while (fun m σ' H' => ∃ a b : Nat, σ' = [some (.int i), some (.int j), some (.int a), some (.int b)] ∧ Ex H H' ∧ m = b ∧ Nat.gcd a b = Int.gcd i j) j.natAbs ⟨i.natAbs, j.natAbs, ?_, e, rfl, rfl⟩ fun m σ' H' hW => ?_
  · show [some (V.int i), some (V.int j), _, some (V.int j)] = _
    have : j = ((j.natAbs : Nat) : Int) := by omega
    rw [← this]
  obtain ⟨a, b, rfl, e', rfl, hg⟩ := hW
  refine ⟨_, evt_T (K := K) (eva_B0 (eva_var rfl (.int _)) eva_int), fun hb H1 e1 => ?_, fun hb H1 e1 => ?_⟩
  · have hb' : 0 < m := by have := of_decide_eq_true hb; omega
    refine ⟨_, fun σ2 H2 h => h, s_par (K := K) (evaa_cons (eva_var rfl (.int _)) (evaa_cons (eva_I (eva_int1 (eva_var rfl (.int _))) (eva_var rfl (.int _)) (by show (0 : Int) < m; omega)) evaa_nil)) fun v w H3 e3 dv dw => ?_⟩
    cases dv
    cases dw
    refine ⟨a % m, Nat.mod_lt _ hb', m, a % m, ?_, (e'.trans e1).trans e3, rfl, ?_⟩
    · show [_, _, some (V.int (m : Int)), some (V.int ((a : Int) % (m : Int)))] = _
      rw [Int.natCast_emod]
    · rw [← hg, Nat.gcd_comm a m, Nat.gcd_rec m a, Nat.gcd_comm]
  · have hb' : m = 0 := by have := of_decide_eq_false hb; omega
    subst hb'
    rw [Nat.gcd_zero_right] at hg
    subst hg
    exact s_ret (eva_tup (evaa_cons (eva_I (eva_var rfl (.int _)) (eva_var rfl (.int _)) (gcd_small hj hbd).1) (evaa_cons (eva_I (eva_var rfl (.int _)) (eva_var rfl (.int _)) (gcd_small hj hbd).2) evaa_nil))) fun v H2 e2 dv => q v H2 ((e'.trans e1).trans e2) dv
theorem sc_l_sum : FnScope ["_law_one", "_law_other", "_law_sign"] ["_law_one", "_law_other", "_law_sign"] (defScope (topS 86)) := ⟨rfl, rfl, rfl, by decide +kernel, rfl, by decide +kernel, by decide +kernel⟩
theorem bn_l_sum : Bnd "_law_sum" 86 ["_law_one", "_law_other", "_law_sign"] := fun _ _ _ _ _ _ us hl => match us, hl with | [_, _, _], _ => rfl
def rSum1 (ds : List PyData) (d : PyData) : Prop := ∃ x y : Q, ds = [eQ x, eQ y, .int 1] ∧ Sm x ∧ Sm y ∧ d = eQ (qadd x y)
theorem cmul_one {i : Int} (h : i.natAbs < 2 ^ 4000) : CMulW 1 i := cmul (Nat.lt_of_lt_of_le (show (1 : Int).natAbs < 2 ^ 10 by decide) (pow_two_le (by decide))) h
theorem has_l_sum {k : Nat} (T : Tb K mg) (h_l_lowest : Has P w K mg base "_law_lowest" k ["_law_top", "_law_bottom"] (spR K rMade)) : Has P w K mg base "_law_sum" (k + 1) ["_law_one", "_law_other", "_law_sign"] (spR K rSum1) := by
  refine has_R T.f_l_sum sc_l_sum bn_l_sum (fun ds d h => by obtain ⟨i, j, rfl, _⟩ := h; rfl) fun f cdv A outer s H vs Q E hr ds d hds h q => ?_
  obtain ⟨x, y, rfl, hx, hy, rfl⟩ := h
  obtain ⟨v1, v2, v3, rfl, h1, h2, h3⟩ := dpa3 hds
  cases h3
  refine ⟨_, (pss_one (ps_ret (pe_callH h_l_lowest hr (pa_cons (pe_op op_add (pe_op op_mulW (pe_ix (ix_seqK K) (pv 0) pe_int (fun _ _ => rfl)) (pe_ix (ix_seqK K) (pv 1) pe_int (fun _ _ => rfl))) (pe_op op_mulW (pe_op op_mulW (pv 2) (pe_ix (ix_seqK K) (pv 1) pe_int (fun _ _ => rfl))) (pe_ix (ix_seqK K) (pv 0) pe_int (fun _ _ => rfl)))) (pa_cons (pe_op op_mulW (pe_ix (ix_seqK K) (pv 0) pe_int (fun _ _ => rfl)) (pe_ix (ix_seqK K) (pv 1) pe_int (fun _ _ => rfl))) pa_nil))))), ?_⟩
  have e1 : Eva K (tVar 0) (start ["_law_one", "_law_other", "_law_sign"] [v1, v2, .int 1]) H (eQ x) := eva_var rfl h1
  have e2 : Eva K (tVar 1) (start ["_law_one", "_law_other", "_law_sign"] [v1, v2, .int 1]) H (eQ y) := eva_var rfl h2
  exact s_ret (eva_call (evaa_cons (eva_I0 (eva_I (eva_q0 e1) (eva_q1 e2) (cmul hx.b1 hy.b2)) (eva_is (eva_I (eva_I (eva_var rfl (.int 1)) (eva_q0 e2) (cmul_one hy.b1)) (eva_q1 e1) (by rw [Int.one_mul]; exact cmul hy.b1 hx.b2)) (by rw [Int.one_mul]))) (evaa_cons (eva_I (eva_q1 e1) (eva_q1 e2) (cmul hx.b2 hy.b2)) evaa_nil)) ⟨_, _, rfl, Int.mul_pos hx.pos hy.pos, mul_small hx.b2 hy.b2, rfl⟩) q
theorem sc_l_product : FnScope ["_law_one", "_law_other"] ["_law_one", "_law_other"] (defScope (topS 87)) := ⟨rfl, rfl, rfl, by decide +kernel, rfl, by decide +kernel, by decide +kernel⟩
theorem bn_l_product : Bnd "_law_product" 87 ["_law_one", "_law_other"] := fun _ _ _ _ _ _ us hl => match us, hl with | [_, _], _ => rfl
theorem has_l_product {k : Nat} (T : Tb K mg) (h_l_lowest : Has P w K mg base "_law_lowest" k ["_law_top", "_law_bottom"] (spR K rMade)) : Has P w K mg base "_law_product" (k + 1) ["_law_one", "_law_other"] (spR K rTimes) := by
  refine has_R T.f_l_product sc_l_product bn_l_product (fun ds d h => by obtain ⟨i, j, rfl, _⟩ := h; rfl) fun f cdv A outer s H vs Q E hr ds d hds h q => ?_
  obtain ⟨x, y, rfl, hx, hy, rfl⟩ := h
  obtain ⟨v1, v2, rfl, h1, h2⟩ := dpa2 hds
  refine ⟨_, (pss_one (ps_ret (pe_callH h_l_lowest hr (pa_cons (pe_op op_mulW (pe_ix (ix_seqK K) (pv 0) pe_int (fun _ _ => rfl)) (pe_ix (ix_seqK K) (pv 1) pe_int (fun _ _ => rfl))) (pa_cons (pe_op op_mulW (pe_ix (ix_seqK K) (pv 0) pe_int (fun _ _ => rfl)) (pe_ix (ix_seqK K) (pv 1) pe_int (fun _ _ => rfl))) pa_nil))))), ?_⟩
  have e1 : Eva K (tVar 0) (start ["_law_one", "_law_other"] [v1, v2]) H (eQ x) := eva_var rfl h1
  have e2 : Eva K (tVar 1) (start ["_law_one", "_law_other"] [v1, v2]) H (eQ y) := eva_var rfl h2
  exact s_ret (eva_call (evaa_cons (eva_I (eva_q0 e1) (eva_q0 e2) (cmul hx.b1 hy.b1)) (evaa_cons (eva_I (eva_q1 e1) (eva_q1 e2) (cmul hx.b2 hy.b2)) evaa_nil)) ⟨_, _, rfl, Int.mul_pos hx.pos hy.pos, mul_small hx.b2 hy.b2, rfl⟩) q
theorem sc_l_less : FnScope ["_law_one", "_law_other"] ["_law_one", "_law_other"] (defScope (topS 88)) := ⟨rfl, rfl, rfl, by decide +kernel, rfl, by decide +kernel, by decide +kernel⟩
theorem bn_l_less : Bnd "_law_less" 88 ["_law_one", "_law_other"] := fun _ _ _ _ _ _ us hl => match us, hl with | [_, _], _ => rfl
theorem has_l_less {k : Nat} (T : Tb K mg) : Has P w K mg base "_law_less" (k + 1) ["_law_one", "_law_other"] (spR K rLess) := by
  refine has_R T.f_l_less sc_l_less bn_l_less (fun ds d h => by obtain ⟨i, j, rfl, _⟩ := h; rfl) fun f cdv A outer s H vs Q E hr ds d hds h q => ?_
  obtain ⟨x, y, rfl, hx, hy, rfl⟩ := h
  obtain ⟨v1, v2, rfl, h1, h2⟩ := dpa2 hds
  refine ⟨_, (pss_one (ps_ret (pe_cmpR op_lt (pe_op op_mulW (pe_ix (ix_seqK K) (pv 0) pe_int (fun _ _ => rfl)) (pe_ix (ix_seqK K) (pv 1) pe_int (fun _ _ => rfl))) (pe_op op_mulW (pe_ix (ix_seqK K) (pv 1) pe_int (fun _ _ => rfl)) (pe_ix (ix_seqK K) (pv 0) pe_int (fun _ _ => rfl))) (nomark _)))), ?_⟩
  have e1 : Eva K (tVar 0) (start ["_law_one", "_law_other"] [v1, v2]) H (eQ x) := eva_var rfl h1
  have e2 : Eva K (tVar 1) (start ["_law_one", "_law_other"] [v1, v2]) H (eQ y) := eva_var rfl h2
  exact s_ret (eva_B0 (eva_I (eva_q0 e1) (eva_q1 e2) (cmul hx.b1 hy.b2)) (eva_I (eva_q0 e2) (eva_q1 e1) (cmul hy.b1 hx.b2))) q
theorem sc_l_sorted : FnScope ["_law_numbers_here", "_law_found", "_law_number_here", "_law_at", "_law_other"] ["_law_numbers_here"] (defScope (topS 89)) := ⟨rfl, rfl, rfl, by decide +kernel, rfl, by decide +kernel, by decide +kernel⟩
theorem bn_l_sorted : Bnd "_law_sorted" 89 ["_law_numbers_here"] := fun _ _ _ _ _ _ us hl => match us, hl with | [_], _ => rfl
theorem ins_count {x : Q} : ∀ {l : List Q}, Asc l → (l.take (l.filter fun y => !decide (toR x < toR y)).length) ++ [x] ++ l.drop (l.filter fun y => !decide (toR x < toR y)).length = insK x l
  | [], _ => rfl
  | y :: l, h => by
    have hc := List.pairwise_cons.mp h
    unfold insK
    by_cases hlt : toR x < toR y
    · rw [if_pos hlt]
      have : ((y :: l).filter fun y => !decide (toR x < toR y)) = [] := by
        rw [List.filter_eq_nil_iff]
        intro z hz
        rcases List.mem_cons.mp hz with e | e
        · rw [e]; simp [hlt]
        · have := hc.1 z e
          have h2 : toR x < toR z := by grind
          simp [h2]
      rw [this]
      rfl
    · rw [if_neg hlt, List.filter_cons, if_pos (by simp [hlt]), List.length_cons, List.take_succ_cons, List.drop_succ_cons, ← ins_count hc.2]
      rfl
theorem has_l_sorted {k : Nat} (T : Tb K mg) (h_l_less : Has P w K mg base "_law_less" k ["_law_one", "_law_other"] (spR K rLess)) : Has P w K mg base "_law_sorted" (k + 1) ["_law_numbers_here"] (spL K rAsc) := by
  refine has_L T.f_l_sorted sc_l_sorted bn_l_sorted (fun ds d h => by obtain ⟨i, rfl, _⟩ := h; rfl) fun f cdv A outer s H vs Q E hr ds d hds h q => ?_
  obtain ⟨xs, rfl, hlen, hf, rfl⟩ := h
  obtain ⟨v1, rfl, h1⟩ := dpa1 hds
  refine ⟨_, (pss_cons (ps_set (i := 1) sc_l_sorted.nd rfl (by first | exact Or.inl rfl | exact Or.inr rfl) (pe_lst pa_nil))
      (pss_cons (ps_for PassesOwn.never rfl (pi_listK K (pv 0)) (pg_name (i := 2) sc_l_sorted.nd rfl (by first | exact Or.inl rfl | exact Or.inr rfl)) (pss_cons (ps_set (i := 3) sc_l_sorted.nd rfl (by first | exact Or.inl rfl | exact Or.inr rfl) (pe_callB (call_lenK K) (by rfl) T.len (by decide +kernel) (pa_cons (pe_lc (own := [("_law_other", 4)]) (g := (gName 4)) rfl sc_l_sorted.nd (pi_listK K (pv 1)) (blkOk_by (N := ["_law_numbers_here", "_law_found", "_law_number_here", "_law_at", "_law_other"]) (sc := defScope (topS 89)) (by decide +kernel)) (fun _ _ _ _ _ => (pg_name (i := 4) sc_l_sorted.nd rfl (by first | exact Or.inl rfl | exact Or.inr rfl))) (fun _ _ _ _ _ => pts_one (pt_not (pt_val (pe_callH h_l_less hr (pa_cons (pv 2) (pa_cons (pv 4) pa_nil)))))) (fun _ _ _ _ _ => (pv 4))) pa_nil)))
      (pss_one (ps_expr (pe_bm PySem.F.plainAttrs_list PySem.F.slot_list_insert PySem.F.type_list_insert mt_insert (pv 1) (pa_cons (pv 3) (pa_cons (pv 2) pa_nil)))))))
      (pss_one (ps_ret (pv 1))))), ?_⟩
  refine q_asgL (evl_lst (K := K) evaa_nil) fun p ws H2 np e hp dw => ?_
  cases dw
  refine q_forG (evg_list rfl h1 e) (fun i σ' H' => ∃ ws z a, σ' = [some v1, some (.ref p), z, a, none] ∧ Ex H H' ∧ H' p = some (.lst ws) ∧ DpAll K H' ws ((srt (xs.take i)).map eQ)) (fun i σ' H' _ hP => by obtain ⟨_, _, _, _, hP, _⟩ := hP; exact hP)
    (fun H3 e3 => ⟨[], none, none, rfl, e.trans e3, e3 p _ hp, .nil⟩) ?_ ?_
  · intro i hi σ' H' σ2 H3 hP e3 hp'
    obtain ⟨ws, z, a, rfl, eb, hpl, hd⟩ := hP
    obtain ⟨y, rfl, hy⟩ := hp'
    have hi' : i < xs.length := by simpa using hi
    rw [show (xs.map eQ)[i] = eQ xs[i] by simp] at hy
    have fx : Fq xs[i] := hf _ (List.getElem_mem _)
    have hpl3 := e3 p _ hpl
    have hd3 := dpa_ex e3 hd
    generalize hacc : srt (xs.take i) = acc at hd hd3
    have hasc : Asc acc := by rw [← hacc]; exact srt_asc _
    have facc : ∀ z ∈ acc, Fq z := fun z hz => hf z (List.mem_of_mem_take (srt_mem.mp (by rw [hacc]; exact hz)))
    have lacc : acc.length ≤ 1000 := by rw [← hacc, srt_len]; simp; omega
    have hfe : (acc.filter fun z => !less xs[i] z) = acc.filter fun z => !decide (toR xs[i] < toR z) := List.filter_congr fun z hz => by rw [less_iff fx.sm.pos (facc z hz).sm.pos]
    refine q_asg (eva_lenL (EvaL.eva (evl_lc (K := K) (fun z => !less xs[i] z) eQ (EvI.map (evi_list (ds := acc.map eQ) (eva_var rfl (dp_newL hpl3 hd3)))) (by omega) (fun a σ2 H2 _ hp => ?_) (fun a σ2 H2 ha ex hp => ?_) (fun a σ2 H2 ha hf ex hp => ?_) (fun _ _ => rfl)))) fun v H4 e4 dv => ?_
    · obtain ⟨v, rfl, _⟩ := hp; rfl
    · obtain ⟨v, rfl, hv⟩ := hp
      exact Evl.et_not (evt_B (K := K) (eva_call (evaa_cons (eva_var rfl (dp_ex ex hy)) (evaa_cons (eva_var rfl hv) evaa_nil)) ⟨_, _, rfl, fx.sm, (facc a ha).sm, rfl⟩))
    · obtain ⟨v, rfl, hv⟩ := hp
      exact eva_var rfl hv
    cases dv
    rw [List.length_map, hfe]
    have eins := ins_count (x := xs[i]) hasc
    have nle : (acc.filter fun z => !decide (toR xs[i] < toR z)).length ≤ acc.length := List.length_filter_le _ _
    generalize (acc.filter fun z => !decide (toR xs[i] < toR z)).length = m at eins nle ⊢
    have hp6 := e4 p _ hpl3
    have hd6 := dpa_ex e4 hd3
    have hy6 := dp_ex e4 hy
    have hlw : ws.length = acc.length := by rw [dpa_len hd]; simp
    refine ⟨.ref p, rfl, .inl ⟨rfl, _, .inl (.inl hp6)⟩, .int (m : Int), rfl, y, rfl, p, ws, m, y, rfl, rfl, hp6, sz_lt (by omega), by omega, by omega, ?_⟩
    refine ⟨_, some y, some (.int (m : Int)), rfl, ((eb.trans e3).trans e4).mut np, upd_same, ?_⟩
    rw [take_snoc hi', srt_snoc, hacc, ← eins]
    simp only [List.map_append, List.map_take, List.map_drop, List.map_cons, List.map_nil, Int.toNat_natCast]
    refine dpa_mut (dpa_app (dpa_app (dpa_take m hd6) (dpa_one hy6)) (dpa_drop m hd6)) ?_ hp6 rfl
    rw [← List.map_take, ← List.map_drop]
    exact imAll_app (imAll_app (ims_eQ _) (ims_eQ [xs[i]])) (ims_eQ _)
  · intro σ' H' hP
    obtain ⟨ws, z, a, rfl, eb, hpl, hd⟩ := hP
    have el : (xs.map eQ).length = xs.length := by simp
    rw [el, List.take_length] at hd
    refine ⟨.ref p, rfl, q p ws H' np eb hpl (dpa_tx (tx_er hpl rfl) hd (ims_eQ _))⟩
theorem sm_qmul {ws : List Int} {xs : List Q} {bs : List Nat} {i : Nat} (iw : i < ws.length) (ix : i < xs.length) (ib : i < bs.length) (w1 : 1 ≤ ws[i] ∧ ws[i] ≤ 99) (xok : VOk bs[i] xs[i]) (bi : bs[i] ≤ 2500) : Sm (qmul (ws[i], 1) xs[i]) := by
  have pw : 0 < (Prod.mk ws[i] (1 : Int)).2 := one_pos2
  have tv := qmul_toR pw xok.num.pos
  rw [toR_int] at tv
  have r0 := xok.num.r0
  have r1 := xok.num.r1
  have wi : (1 : Rat) ≤ (ws[i] : Rat) := by exact_mod_cast w1.1
  refine sm_of (n := ws[i]) (b := bs[i]) (qmul_frc pw xok.num.pos).pos ?_ ?_ ⟨by omega, by omega⟩ ?_ (by omega)
  · rw [tv]; exact Rat.mul_nonneg (by grind) r0
  · rw [tv]
    have := Rat.mul_le_mul_of_nonneg_left r1 (show (0 : Rat) ≤ (ws[i] : Rat) by grind)
    grind
  · have := lowest_le (t := ws[i] * xs[i].1) (b := 1 * xs[i].2) (by have := xok.num.pos; omega)
    have e1 : (qmul (ws[i], 1) xs[i]).2 = (lowest (ws[i] * xs[i].1) (1 * xs[i].2)).2 := rfl
    rw [e1]
    have := xok.bot
    omega
theorem sc_l_value : FnScope ["_law_term_here", "_law_bids", "_law_word", "_law_whole", "_law_weight", "_law_part", "_law_told"] ["_law_term_here", "_law_bids"] (defScope (topS 93)) := ⟨rfl, rfl, rfl, by decide +kernel, rfl, by decide +kernel, by decide +kernel⟩
theorem bn_l_value : Bnd "_law_value" 93 ["_law_term_here", "_law_bids"] := fun _ _ _ _ _ _ us hl => match us, hl with | [_, _], _ => rfl
theorem has_l_value {k n : Nat} (T : Tb K mg) (h_sum : Has P w K mg base "_law_sum" k ["_law_one", "_law_other", "_law_sign"] (spR K rSum1)) (h_prod : Has P w K mg base "_law_product" k ["_law_one", "_law_other"] (spR K rTimes)) (h_srt : Has P w K mg base "_law_sorted" k ["_law_numbers_here"] (spL K rAsc)) :
    ∀ m, Has P w K mg base "_law_value" (k + m + 1) ["_law_term_here", "_law_bids"] (spR K (rVal n m))
  | 0 => by
    refine has_R T.f_l_value sc_l_value bn_l_value (fun ds d h => by obtain ⟨_, _, rfl, _⟩ := h; rfl) fun f cdv A outer s H vs Q E hr ds d hds h q => ?_
    obtain ⟨b, t, _, _, _, _, hm, _⟩ := h
    cases t <;> simp [dpt] at hm
  | m + 1 => by
    have h_l_value := has_l_value (n := n) T h_sum h_prod h_srt m
    have h_l_sum := h_sum.mono (show k ≤ k + m + 1 by omega)
    have h_l_product := h_prod.mono (show k ≤ k + m + 1 by omega)
    have h_l_sorted := h_srt.mono (show k ≤ k + m + 1 by omega)
    refine has_R T.f_l_value sc_l_value bn_l_value (fun ds d h => by obtain ⟨_, _, rfl, _⟩ := h; rfl) fun f cdv A outer s H vs Q E hr ds d hds h q => ?_
    obtain ⟨b, t, rfl, hb, hw, hc, hm, rfl⟩ := h
    obtain ⟨v1, v2, rfl, d1, d2⟩ := dpa2 hds
    refine ⟨_, (pss_cons (ps_set (i := 2) sc_l_value.nd rfl (by first | exact Or.inl rfl | exact Or.inr rfl) (pe_ix (ix_seqK K) (pv 0) pe_int (fun _ _ => rfl)))
      (pss_cons (ps_if (pt_cmpR op_eq (pv 2) pe_str (nomark _)) (pss_one (ps_ret (pe_ix (ix_seqK K) (pv 1) (pe_ix (ix_seqK K) (pv 0) pe_int (fun _ _ => rfl)) (fun _ _ => rfl)))) pss_nil)
      (pss_cons (ps_if (pt_cmpR op_eq (pv 2) pe_str (nomark _)) (pss_one (ps_ret (pe_ix (ix_seqK K) (pv 0) pe_int (fun _ _ => rfl)))) pss_nil)
      (pss_cons (ps_if (pt_cmpR op_eq (pv 2) pe_str (nomark _)) (pss_cons (ps_set (i := 3) sc_l_value.nd rfl (by first | exact Or.inl rfl | exact Or.inr rfl) (pe_tup (pa_cons pe_int (pa_cons pe_int pa_nil))))
      (pss_cons (ps_for PassesOwn.never rfl (pi_tupK K (pe_ix (ix_seqK K) (pv 0) pe_int (fun _ _ => rfl))) (pg_tup rfl (pgs_cons (pg_name (i := 4) sc_l_value.nd rfl (by first | exact Or.inl rfl | exact Or.inr rfl)) (pgs_cons (pg_name (i := 5) sc_l_value.nd rfl (by first | exact Or.inl rfl | exact Or.inr rfl)) pgs_nil))) (pss_one (ps_set (i := 3) sc_l_value.nd rfl (by first | exact Or.inl rfl | exact Or.inr rfl) (pe_callH h_l_sum hr (pa_cons (pv 3) (pa_cons (pe_callH h_l_product hr (pa_cons (pe_tup (pa_cons (pv 4) (pa_cons pe_int pa_nil))) (pa_cons (pe_callH h_l_value hr (pa_cons (pv 5) (pa_cons (pv 1) pa_nil))) pa_nil))) (pa_cons pe_int pa_nil)))))))
      (pss_one (ps_ret (pe_callH h_l_product hr (pa_cons (pv 3) (pa_cons (pe_tup (pa_cons pe_int (pa_cons (pe_callB (cr_sumK K) (by rfl) T.sum (by decide +kernel) (pa_cons (pe_lc (own := [("_law_weight", 4), ("_law_part", 5)]) (g := (g2 K 4 5)) (tt := tYes) rfl sc_l_value.nd (pi_tupK K (pe_ix (ix_seqK K) (pv 0) pe_int (fun _ _ => rfl))) (blkOk_by (N := ["_law_term_here", "_law_bids", "_law_word", "_law_whole", "_law_weight", "_law_part", "_law_told"]) (sc := defScope (topS 93)) (by decide +kernel)) (fun _ _ _ _ _ => (pg_tup rfl (pgs_cons (pg_name (i := 4) sc_l_value.nd rfl (by first | exact Or.inl rfl | exact Or.inr rfl)) (pgs_cons (pg_name (i := 5) sc_l_value.nd rfl (by first | exact Or.inl rfl | exact Or.inr rfl)) pgs_nil)))) (fun _ _ _ _ _ => pts_nil) (fun _ _ _ _ _ => (pv 4))) pa_nil)) pa_nil))) pa_nil))))))) pss_nil)
      (pss_cons (ps_if (pt_cmpR op_eq (pv 2) pe_str (nomark _)) (pss_one (ps_ret (pe_ix (ix_seqK K) (pe_callH h_l_sorted hr (pa_cons (pe_lst (pa_cons (pe_ix (ix_seqK K) (pv 0) pe_int (fun _ _ => rfl)) (pa_cons (pe_ix (ix_seqK K) (pv 0) pe_int (fun _ _ => rfl)) (pa_cons (pe_callH h_l_value hr (pa_cons (pe_ix (ix_seqK K) (pv 0) pe_int (fun _ _ => rfl)) (pa_cons (pv 1) pa_nil))) pa_nil)))) pa_nil)) pe_int (fun _ _ => rfl)))) pss_nil)
      (pss_cons (ps_set (i := 6) sc_l_value.nd rfl (by first | exact Or.inl rfl | exact Or.inr rfl) (pe_callH h_l_sorted hr (pa_cons (pe_lc (own := [("_law_part", 5)]) (g := (gName 5)) (tt := tYes) rfl sc_l_value.nd (pi_tupK K (pe_ix (ix_seqK K) (pv 0) (pe_un un_neg pe_int) (fun _ _ => rfl))) (blkOk_by (N := ["_law_term_here", "_law_bids", "_law_word", "_law_whole", "_law_weight", "_law_part", "_law_told"]) (sc := defScope (topS 93)) (by decide +kernel)) (fun _ _ _ _ _ => (pg_name (i := 5) sc_l_value.nd rfl (by first | exact Or.inl rfl | exact Or.inr rfl))) (fun _ _ _ _ _ => pts_nil) (fun _ _ _ _ _ => (pe_callH h_l_value hr (pa_cons (pv 5) (pa_cons (pv 1) pa_nil))))) pa_nil)))
      (pss_cons (ps_if (pt_cmpR op_eq (pv 2) pe_str (nomark _)) (pss_one (ps_ret (pe_ix (ix_seqK K) (pv 6) pe_int (fun _ _ => rfl)))) pss_nil)
      (pss_cons (ps_if (pt_cmpR op_eq (pv 2) pe_str (nomark _)) (pss_one (ps_ret (pe_ix (ix_seqK K) (pv 6) (pe_un un_neg pe_int) (fun _ _ => rfl)))) pss_nil)
      (pss_one (ps_ret (pe_ix (ix_seqK K) (pv 6) (pe_op op_sub (pe_callB (call_lenK K) (by rfl) T.len (by decide +kernel) (pa_cons (pv 6) pa_nil)) (pe_ix (ix_seqK K) (pv 0) pe_int (fun _ _ => rfl))) (fun _ _ => rfl)))))))))))), ?_⟩
    have nb : ∀ {x y : Str} {D : Ends} {σ : L2.St} {H1 : Hp} {u z : TS}, decide (x = y) = false → σ[2]? = some (some (.str x)) → (∀ H2, Ex H1 H2 → z D σ H2) → tSeq (tIfS (tTest (tOp rEq (tVar 2) (tC (.str y)))) u tNext) z D σ H1 := fun {x y D σ H1 u z} hne hv hz =>
      Evl.q_when (evt_T (K := K) (eva_eqS (eva_var hv (.str x)) eva_str)) (fun e => by rw [hne] at e; cases e) fun _ H2 e2 => hz H2 e2
    have yes : ∀ {x : Str} {D : Ends} {σ : L2.St} {H1 : Hp} {u z : TS}, σ[2]? = some (some (.str x)) → (∀ H2, Ex H1 H2 → u { D with nx := z D } σ H2) → tSeq (tIfS (tTest (tOp rEq (tVar 2) (tC (.str x)))) u tNext) z D σ H1 := fun {x D σ H1 u z} hv hu =>
      Evl.q_when (evt_T (K := K) (eva_eqS (eva_var hv (.str x)) eva_str)) (fun _ H2 e2 => hu H2 e2) (fun e => by rw [decide_eq_true rfl] at e; cases e)
    have hdec : ∀ {x y : Str}, x ≠ y → decide (x = y) = false := fun h => decide_eq_false h
    cases t with
    | bid j =>
      simp only [eT] at d1
      simp only [WT] at hw
      refine q_asg (eva_ixT (eva_var rfl d1) eva_int atI0) fun v H2 e dv => ?_
      cases dv
      refine yes rfl fun H3 e3 => ?_
      have hj : j < b.length := by rw [hb.1]; exact hw
      refine s_ret (eva_ixT (eva_var rfl (dp_ex (e.trans e3) d2)) (eva_ixT (eva_var rfl (dp_ex (e.trans e3) d1)) eva_int atI1) (atN (map_get hj))) fun v H4 e4 dv => q v H4 ((e.trans e3).trans e4) ?_
      simp only [val]
      rw [List.getD_eq_getElem?_getD, List.getElem?_eq_getElem hj]
      exact dv
    | fixed x =>
      simp only [eT] at d1
      refine q_asg (eva_ixT (eva_var rfl d1) eva_int atI0) fun v H2 e dv => ?_
      cases dv
      refine nb (hdec (by decide +kernel)) rfl fun H3 e3 => ?_
      refine yes rfl fun H4 e4 => ?_
      refine s_ret (eva_ixT (eva_var rfl (dp_ex (e.trans (e3.trans e4)) d1)) eva_int atI1) fun v H5 e5 dv => q v H5 ((e.trans (e3.trans e4)).trans e5) ?_
      simp only [val]
      exact dv
    | nd op ts =>
      have hbt := bts_le hc
      simp only [WT] at hw
      obtain ⟨ho, h0, h8, hs⟩ := hw
      simp only [dpt] at hm
      have hcs : cnts ts ≤ 60 := by simp only [cnt] at hc; omega
      have rcl : ∀ t ∈ ts, rVal n m [eT t, eW b] (eQ (val b t)) := fun t ht => ⟨b, t, rfl, hb, wts_mem hs ht, Nat.le_trans (cnt_mem ht) hcs, dpts_le.mp (show dpts ts ≤ m by omega) t ht, rfl⟩
      have hv : ∀ t ∈ ts, VOk (bt t) (val b t) := fun t ht => val_ok hb t (wts_mem hs ht)
      have hfq : ∀ x ∈ ts.map (val b), Fq x := fun x hx => by
        obtain ⟨t, ht, rfl⟩ := List.mem_map.mp hx
        have : bt t ≤ bts ts := by rw [bts_sum]; exact le_sum (List.mem_map.mpr ⟨t, ht, rfl⟩)
        exact (hv t ht).fq (by omega)
      rw [val_nd] at q
      have tl : (srt (ts.map (val b))).length = ts.length := by rw [srt_len, List.length_map]
      have ats : ∀ j, j < ts.length → atI ((srt (ts.map (val b))).map eQ) (j : Int) = some (eQ (nth (ts.map (val b)) j)) := fun j hj => by
        rw [nth_get (by omega)]
        exact atN (map_get (by omega))
      -- the sorted values of the parts
      have sorts : ∀ {hd : List PyData} {H2 : Hp} {w0 : V}, Dp K H2 v1 (.tuple (hd ++ [.tuple (ts.map eT)])) → Dp K H2 v2 (eW b) →
          EvaL K (tCall (spL K rAsc) [] E0 (tCons (tLc (iTup K (tOp (rIx K) (tVar 0) (tUn (rU fun i => .int (-i)) (tC (.int 1))))) (gName 5) tYes (tCall (spR K (rVal n m)) [] E0 (tCons (tVar 5) (tCons (tVar 1) tNil))) [5]) tNil)) [some v1, some v2, some w0, none, none, none, none] H2 ((srt (ts.map (val b))).map eQ) := fun {hd H2 w0} e1 e2 => by
        refine evl_call (evaa_cons (EvaL.eva ((evl_lc1 (xs := ts) (fun t => eQ (val b t)) (evi_tup (ds := ts.map eT) (eva_ixT (eva_var rfl e1) (eva_neg eva_int) atI_neg1)).map (by omega) (fun a σ2 H2 _ hp => ?_) (fun a σ2 H3 ha ex hp => ?_) (fun _ _ => rfl)).is (es := (ts.map (val b)).map eQ) (by rw [List.map_map]; rfl))) evaa_nil) ⟨_, rfl, by simp; omega, hfq, rfl⟩
        · obtain ⟨v, rfl, _⟩ := hp; rfl
        · obtain ⟨v, rfl, hv⟩ := hp
          exact eva_call (evaa_cons (eva_var rfl hv) (evaa_cons (eva_var rfl (dp_ex ex e2)) evaa_nil)) (rcl a ha)
      cases op with
      | mean ws =>
        simp only [eT, eTs_map] at d1
        have zm : ((ws.zip (ts.map eT)).map fun p => PyData.tuple [.int p.1, p.2]) = ((ws.zip ts).map fun p => ((PyData.int p.1, eT p.2) : PyData × PyData)).map dpair := by
          rw [List.zip_map_right, List.map_map, List.map_map]
          rfl
        rw [zm] at d1
        refine q_asg (eva_ixT (eva_var rfl d1) eva_int atI0) fun v H2 e dv => ?_
        cases dv
        refine nb (hdec (by decide +kernel)) rfl fun H3 e3 => nb (hdec (by decide +kernel)) rfl fun H4 e4 => yes rfl fun H5 e5 => ?_
        have ee := e.trans (e3.trans (e4.trans e5))
        have d1' := dp_ex ee d1
        have d2' := dp_ex ee d2
        have hl : ws.length = ts.length := ho.1
        have hw99 := ho.2
        have lz : (ws.zip ts).length = ts.length := by rw [List.length_zip]; omega
        let xs := ts.map (val b)
        let bs := ts.map bt
        have lxs : xs.length = ts.length := by simp [xs]
        have lbs : bs.length = xs.length := by simp [xs, bs]
        have hbs : bs.sum ≤ 2500 := by show (ts.map bt).sum ≤ 2500; rw [← bts_sum]; omega
        have hxok : ∀ i (h : i < xs.length) (h' : i < bs.length), VOk bs[i] xs[i] := fun i a c => by
          simp only [xs, bs, List.getElem_map]
          exact hv _ (List.getElem_mem _)
        refine q_asg (eva_tup (K := K) (ds := [.int 0, .int 1]) (evaa_cons eva_int (evaa_cons eva_int evaa_nil))) fun v0 H6 e6 d0 => ?_
        have src : ∀ {σ : L2.St} {H7 : Hp}, σ[0]? = some (some v1) → Ex H5 H7 → EvI (iTup K (tOp (rIx K) (tVar 0) (tC (.int 1)))) (g2 K 4 5) σ H7 (ws.zip ts) (fun p => P2 K 4 5 (.int p.1, eT p.2)) := fun hv e7 => (evi_tup2 (eva_ixT (eva_var hv (dp_ex e7 d1')) eva_int atI1)).map
        refine q_forI (src rfl e6) (fun H7 i σ' H' => Ex H7 H' ∧ ∃ t y z, σ' = [some v1, some v2, some (.str "mean"), some t, y, z, none] ∧ Dp K H' t (eQ (meanT ((ws.zip xs).take i)))) (fun _ _ _ _ h => h.1) (fun H7 e7 => ⟨Ex.refl _, v0, none, none, rfl, dp_ex e7 d0⟩) ?_ ?_
        · intro H7 e7 i hi σ' H' σ2 H8 hP e8 hp
          obtain ⟨eb, t, y, z, rfl, ht⟩ := hP
          obtain ⟨a, c, rfl, ha, hc'⟩ := hp
          have hi' : i < ts.length := by omega
          have iw : i < ws.length := by omega
          have eg : (ws.zip ts)[i] = (ws[i], ts[i]) := by rw [List.getElem_zip]
          rw [eg] at ha hc'
          have w1 := hw99 _ (List.getElem_mem iw)
          have ix : i < xs.length := by omega
          have ib : i < bs.length := by omega
          have xok := hxok i ix ib
          have bi : bs[i] ≤ 2500 := Nat.le_trans (le_sum (List.getElem_mem _)) hbs
          have sT := mt_sm (by omega) lbs hw99 (by omega) hbs hxok i (by omega)
          have sP := sm_qmul (ws := ws) (xs := xs) (bs := bs) iw ix ib w1 xok bi
          have ex : xs[i] = val b ts[i] := by simp [xs]
          have e58 := (e6.trans e7).trans (eb.trans e8)
          refine s_asg (eva_call (evaa_cons (eva_var rfl (dp_ex e8 ht)) (evaa_cons (eva_call (d := eQ (qmul (ws[i], 1) xs[i])) (evaa_cons (eva_tup (ds := [.int ws[i], .int 1]) (evaa_cons (eva_var rfl ha) (evaa_cons eva_int evaa_nil))) (evaa_cons (eva_call (d := eQ xs[i]) (evaa_cons (eva_var rfl hc') (evaa_cons (eva_var rfl (dp_ex e58 d2')) evaa_nil)) (by rw [ex]; exact rcl _ (List.getElem_mem hi'))) evaa_nil)) ⟨(ws[i], 1), xs[i], rfl, sm_int (by omega), (xok.fq (by omega)).sm, rfl⟩) (evaa_cons eva_int evaa_nil))) ⟨_, _, rfl, sT, sP, rfl⟩) fun v9 H9 e9 dv9 => ?_
          refine ⟨(eb.trans e8).trans e9, v9, _, _, rfl, ?_⟩
          have iz : i < (ws.zip xs).length := by rw [List.length_zip]; omega
          rw [take_snoc iz, List.getElem_zip, meanT_snoc]
          exact dv9
        · intro H7 e7 σ' H' hP
          obtain ⟨eb, t, y, z, rfl, ht⟩ := hP
          have et : (ws.zip xs).take (ws.zip ts).length = ws.zip xs := by
            rw [lz, List.take_of_length_le]
            rw [List.length_zip]; omega
          rw [et] at ht
          have e57 := (e6.trans e7).trans eb
          have sT := mt_sm (by omega) lbs hw99 (by omega) hbs hxok xs.length (Nat.le_refl _)
          rw [List.take_of_length_le (by rw [List.length_zip]; omega)] at sT
          have s0 := sum_pos hw99 (by omega)
          have s1 := sum_le99 hw99
          have c2 : EvaL K (tLc (iTup K (tOp (rIx K) (tVar 0) (tC (.int 1)))) (g2 K 4 5) tYes (tVar 4) [4, 5]) [some v1, some v2, some (.str "mean"), some t, y, z, none] H' (ws.map PyData.int) := by
            refine (evl_lc1 (fun p => .int p.1) (src rfl e57) (by omega) (fun a σ2 H2 _ hp => ?_) (fun a σ2 H3 ha ex hp => ?_) (fun _ _ => rfl)).is ?_
            · obtain ⟨v, w, rfl, _⟩ := hp; rfl
            · obtain ⟨v, w, rfl, hv, _⟩ := hp
              exact eva_var rfl hv
            · have z : (ws.zip ts).map Prod.fst = ws := List.map_fst_zip (by omega)
              conv => rhs; rw [← z]
              rw [List.map_map]
              rfl
          refine s_ret (eva_call (evaa_cons (eva_var rfl ht) (evaa_cons (eva_tup (ds := [.int 1, .int ws.sum]) (evaa_cons eva_int (evaa_cons (eva_sum c2.eva) evaa_nil))) evaa_nil)) ⟨_, (1, ws.sum), rfl, sT, ?_, rfl⟩) fun v9 H9 e9 dv9 => q v9 H9 (ee.trans (e57.trans e9)) dv9
          have e : (2 : Nat) ^ 10 ≤ 2 ^ 4000 := pow_two_le (by decide)
          have l8 : (ws.length : Int) ≤ 8 := by omega
          exact ⟨s0, Nat.lt_of_lt_of_le (show (1 : Int).natAbs < 2 ^ 10 by decide) e, Nat.lt_of_lt_of_le (show ws.sum.natAbs < 2 ^ 10 by omega) e⟩
      | between lo hi =>
        obtain ⟨h1, hlo, hhi, bl, bh, _⟩ := ho
        obtain ⟨t, rfl⟩ := List.length_eq_one_iff.mp h1
        simp only [eT, eTs] at d1
        refine q_asg (eva_ixT (eva_var rfl d1) eva_int atI0) fun v H2 e dv => ?_
        cases dv
        refine nb (hdec (by decide +kernel)) rfl fun H3 e3 => nb (hdec (by decide +kernel)) rfl fun H4 e4 => nb (hdec (by decide +kernel)) rfl fun H5 e5 => yes rfl fun H6 e6 => ?_
        have ee := e.trans ((e3.trans (e4.trans e5)).trans e6)
        have d1' := dp_ex ee d1
        have d2' := dp_ex ee d2
        have fx : Fq (val b t) := hfq _ (by simp)
        have l3 : (srt [lo, hi, val b t]).length = 3 := srt_len _
        refine s_ret (eva_ixL (evl_call (es := (srt [lo, hi, val b t]).map eQ) (evaa_cons (EvaL.eva (evl_lst (ds := [lo, hi, val b t].map eQ) (evaa_cons (eva_ixT (eva_var rfl d1') eva_int atI1) (evaa_cons (eva_ixT (eva_var rfl d1') eva_int atI2) (evaa_cons (eva_call (evaa_cons (eva_ixT (eva_var rfl d1') eva_int atI3) (evaa_cons (eva_var rfl d2') evaa_nil)) (rcl t (by simp))) evaa_nil))))) evaa_nil) ⟨_, rfl, by simp, by simp [num2_fq hlo bl, num2_fq hhi bh, fx], rfl⟩).eva eva_int ?_) fun v H7 e7 dv => q v H7 (ee.trans e7) dv
        show atI _ _ = some (eQ (nth [lo, hi, val b t] 1))
        rw [nth_get (by omega : 1 < (srt [lo, hi, val b t]).length)]
        exact atN (j := 1) (map_get (by omega))
      | least =>
        simp only [eT, eTs_map] at d1
        refine q_asg (eva_ixT (eva_var rfl d1) eva_int atI0) fun v H2 e dv => ?_
        cases dv
        refine nb (hdec (by decide +kernel)) rfl fun H3 e3 => nb (hdec (by decide +kernel)) rfl fun H4 e4 => nb (hdec (by decide +kernel)) rfl fun H5 e5 => nb (hdec (by decide +kernel)) rfl fun H6 e6 => ?_
        have ee := e.trans ((e3.trans (e4.trans e5)).trans e6)
        refine q_asg (sorts (hd := [.str "least"]) (dp_ex ee d1) (dp_ex ee d2)).eva fun v H7 e7 dv => ?_
        refine yes rfl fun H8 e8 => ?_
        exact s_ret (eva_ixL (eva_var rfl (dp_ex e8 dv)) eva_int (ats 0 h0)) fun v H9 e9 dv => q v H9 (ee.trans ((e7.trans e8).trans e9)) dv
      | greatest =>
        simp only [eT, eTs_map] at d1
        refine q_asg (eva_ixT (eva_var rfl d1) eva_int atI0) fun v H2 e dv => ?_
        cases dv
        refine nb (hdec (by decide +kernel)) rfl fun H3 e3 => nb (hdec (by decide +kernel)) rfl fun H4 e4 => nb (hdec (by decide +kernel)) rfl fun H5 e5 => nb (hdec (by decide +kernel)) rfl fun H6 e6 => ?_
        have ee := e.trans ((e3.trans (e4.trans e5)).trans e6)
        refine q_asg (sorts (hd := [.str "greatest"]) (dp_ex ee d1) (dp_ex ee d2)).eva fun v H7 e7 dv => ?_
        refine nb (hdec (by decide +kernel)) rfl fun H8 e8 => yes rfl fun H9 e9 => ?_
        refine s_ret (eva_ixL (d := eQ (opval .greatest (ts.map (val b)))) (eva_var rfl (dp_ex (e8.trans e9) dv)) (eva_neg eva_int) (atI_neg1L ?_)) fun v H10 e10 dv => q v H10 (ee.trans ((e7.trans (e8.trans e9)).trans e10)) dv
        show _ = some (eQ (nth (ts.map (val b)) ((ts.map (val b)).length - 1)))
        have hlt : (ts.map (val b)).length - 1 < (srt (ts.map (val b))).length := by rw [tl, List.length_map]; omega
        rw [nth_get hlt, List.getLast?_map, List.getLast?_eq_getElem?, tl, List.getElem?_eq_getElem (by omega)]
        simp
      | ranked j =>
        simp only [eT, eTs_map] at d1
        refine q_asg (eva_ixT (eva_var rfl d1) eva_int atI0) fun v H2 e dv => ?_
        cases dv
        refine nb (hdec (by decide +kernel)) rfl fun H3 e3 => nb (hdec (by decide +kernel)) rfl fun H4 e4 => nb (hdec (by decide +kernel)) rfl fun H5 e5 => nb (hdec (by decide +kernel)) rfl fun H6 e6 => ?_
        have ee := e.trans ((e3.trans (e4.trans e5)).trans e6)
        refine q_asg (sorts (hd := [.str "ranked", .int (j : Int)]) (dp_ex ee d1) (dp_ex ee d2)).eva fun v H7 e7 dv => ?_
        refine nb (hdec (by decide +kernel)) rfl fun H8 e8 => nb (hdec (by decide +kernel)) rfl fun H9 e9 => ?_
        have e79 := e7.trans (e8.trans e9)
        refine s_ret (eva_ixL (d := eQ (opval (.ranked j) (ts.map (val b)))) (eva_var rfl (dp_ex (e8.trans e9) dv)) (eva_I0 (eva_lenL (eva_var rfl (dp_ex (e8.trans e9) dv))) (eva_ixT (eva_var rfl (dp_ex (ee.trans e79) d1)) eva_int atI1)) ?_) fun v H10 e10 dv => q v H10 (ee.trans (e79.trans e10)) dv
        rw [List.length_map, tl]
        have o1 := ho.1
        have o2 := ho.2
        show atI _ ((ts.length : Int) - (j : Int)) = some (eQ (nth (ts.map (val b)) ((ts.map (val b)).length - j)))
        rw [show (ts.length : Int) - (j : Int) = ((ts.length - j : Nat) : Int) by omega, List.length_map]
        exact ats _ (by omega)
end
end Cb
set_option Elab.async false
set_option linter.all false
set_option maxRecDepth 100000
set_option maxHeartbeats 8000000
/-! Cb, the law's defs 18: lots, corners, wishes, places. -/
namespace Cb
open PySem PySem.Spec PyProof.Rows L2 Evl
theorem s_asg0 {σ : L2.St} {H : Hp} {te : TE} {D : Ends} {i : Nat} (h : te σ H fun v H' => D.nx (σ.set i (some v)) H') : tAsg te (gName i) D σ H := h
/-- over a named list whose items are told by F -/
theorem evi_ownR {K : PySem.W.Frag} {α : Type} {F : V → α → Hp → Prop} {σ : L2.St} {H : Hp} {i j : Nat} {a : Addr} {ws : List V} {xs : List α} (hv : σ[i]? = some (some (.ref a))) (ha : H a = some (.lst ws)) (h : ∀ H', Ex H H' → Paired (fun v a => F v a H') ws xs) : EvI (iList K (tVar i)) (gName j) σ H xs (PF F j) := fun H6 e6 R r =>
  ⟨_, hv, a, rfl, ⟨ws, .inl (.inl (e6 a _ ha))⟩, r _ H6 (Ex.refl _) (wk_ownR fun H' e' => ⟨.inl (.inl ((e6.trans e') a _ ha)), h H' (e6.trans e')⟩)⟩
section
variable {P : Program} {w : World} {K : PySem.W.Frag} {mg : Str → Option Value} {base : Heap}
/-- a list of lots in, a new list of lots out -/
def spBS (K : PySem.W.Frag) : Sp := fun vs H Q _ => ∃ (n : Nat) (ls : List (List Nat)) (a : Addr) (ws : List V), vs = [.ref a] ∧ H a = some (.lst ws) ∧ PT H ws ls ∧ n ≤ 6 ∧ (∀ l ∈ ls, IsLot n l) ∧ ls.Nodup ∧
  ∀ p zs H2, H p = none → Ex H H2 → H2 p = some (.lst zs) → PT H2 zs (bySize ls) → Q (.ref p) H2
theorem sc_l_by_size : FnScope ["_law_lots_here", "_law_found", "_law_size", "_law_lot"] ["_law_lots_here"] (defScope (topS 95)) := ⟨rfl, rfl, rfl, by decide +kernel, rfl, by decide +kernel, by decide +kernel⟩
theorem bn_l_by_size : Bnd "_law_by_size" 95 ["_law_lots_here"] := fun _ _ _ _ _ _ us hl => match us, hl with | [_], _ => rfl
theorem sizes_few {n s : Nat} (hn : n ≤ 6) {ls : List (List Nat)} (hl : ∀ l ∈ ls, IsLot n l) (hd : ls.Nodup) : (1 ≤ s ∧ (ls.filter fun l => decide (l.length = s)).length < 64) ∨ (ls.filter fun l => decide (l.length = s)).length < 2 := by
  by_cases h : 1 ≤ s
  · refine .inl ⟨h, ?_⟩
    have nd : ([] :: ls.filter fun l => decide (l.length = s)).Nodup := List.nodup_cons.mpr ⟨fun q => by
      have := of_decide_eq_true (List.mem_filter.mp q).2
      simp at this
      omega, List.Nodup.sublist List.filter_sublist hd⟩
    have := few_lots hn nd fun l hl' => by
      rcases List.mem_cons.mp hl' with e | e
      · subst e; exact ⟨.nil, by simp⟩
      · exact hl l (List.mem_filter.mp e).1
    simp at this
    omega
  · refine .inr ?_
    have nd : (ls.filter fun l => decide (l.length = s)).Nodup := List.Nodup.sublist List.filter_sublist hd
    have := List.Nodup.length_le_of_subset (l₂ := [[]]) nd fun l hl' => by
      have := of_decide_eq_true (List.mem_filter.mp hl').2
      have : l = [] := List.eq_nil_of_length_eq_zero (by omega)
      simp [this]
    simp at this
    omega
theorem has_l_by_size {k : Nat} (T : Tb K mg) : Has P w K mg base "_law_by_size" (k + 1) ["_law_lots_here"] (spBS K) := by
  refine has_sp T.f_l_by_size sc_l_by_size bn_l_by_size (fun vs H Q E h => by obtain ⟨_, _, _, _, rfl, _⟩ := h; rfl) fun f cdv A outer s H vs Q E hr h => ?_
  obtain ⟨n, ls, a, ws, rfl, ha, hp, hn, hl, hd, q⟩ := h
  refine ⟨_, (pss_cons (ps_set (i := 1) sc_l_by_size.nd rfl (by first | exact Or.inl rfl | exact Or.inr rfl) (pe_lst pa_nil))
      (pss_cons (ps_for PassesOwn.never rfl (pi_range1 (by rfl) T.range (pa_cons (pe_callB (call_lenK K) (by rfl) T.len (by decide +kernel) (pa_cons (pv 0) pa_nil)) pa_nil)) (pg_name (i := 2) sc_l_by_size.nd rfl (by first | exact Or.inl rfl | exact Or.inr rfl)) (pss_one (ps_set (i := 1) sc_l_by_size.nd rfl (by first | exact Or.inl rfl | exact Or.inr rfl) (pe_op op_cat (pv 1) (pe_callB (cr_sortedK K) (by rfl) T.sorted (by decide +kernel) (pa_cons (pe_lc (own := [("_law_lot", 3)]) (g := (gName 3)) rfl sc_l_by_size.nd (pi_listK K (pv 0)) (blkOk_by (N := ["_law_lots_here", "_law_found", "_law_size", "_law_lot"]) (sc := defScope (topS 95)) (by decide +kernel)) (fun _ _ _ _ _ => (pg_name (i := 3) sc_l_by_size.nd rfl (by first | exact Or.inl rfl | exact Or.inr rfl))) (fun _ _ _ _ _ => pts_one (pt_cmpR op_eq (pe_callB (call_lenK K) (by rfl) T.len (by decide +kernel) (pa_cons (pv 3) pa_nil)) (pv 2) (nomark _))) (fun _ _ _ _ _ => (pv 3))) pa_nil))))))
      (pss_one (ps_ret (pv 1))))), ?_⟩
  have few := few_lots hn hd hl
  refine q_asgP (ls := []) (fun H1 e Q q => ⟨by simp, fun p hp => q p _ _ hp (Ex.new hp) upd_same .nil⟩) fun p0 ps0 H2 np e2 hp0 hps0 => ?_
  cases hps0
  have dpa : ∀ H', Ex H H' → Dp K H' (.ref a) (.list (ls.map eL)) := fun H' e => dp_newL (e a _ ha) (by
    have := hp.ty (.of e)
    clear hl hd few q hp ha
    induction this with
    | nil => exact .nil
    | cons h _ ih => exact .cons h.dp ih)
  refine q_forI (evi_rng (n := (ls.length : Int)) (evaa_cons (eva_is (eva_lenL (eva_var (K := K) rfl (dpa H2 e2))) (by rw [List.length_map])) evaa_nil) (by omega) (by omega)) (fun Hb i σ' H' => Ex Hb H' ∧ ∃ p ps z, σ' = [some (.ref a), some (.ref p), z, none] ∧ H p = none ∧ H' p = some (.lst ps) ∧ PT H' ps (bySizeF ls i)) (fun _ _ _ _ h => h.1)
    (fun Hb eb => ⟨Ex.refl _, p0, [], none, rfl, np, eb p0 _ hp0, .nil⟩) ?_ ?_
  · intro Hb eb i hi σ' H' σ2 H4 hP e4 hp'
    obtain ⟨ex, p, ps, z, rfl, np', hpp, hps⟩ := hP
    cases hp'
    have hi' : i < ls.length := by simpa using hi
    have e14 : Ex H H4 := (e2.trans eb).trans (ex.trans e4)
    have ei : (List.range (ls.length : Int).toNat)[i] = i := by simp
    rw [ei]
    have sorted : EvP (tCB (rSortX K) (tCons (tLc (iList K (tVar 0)) (gName 3) (tTest (tOp rEq (tCB (rLen2 K) (tCons (tVar 3) tNil)) (tVar 2))) (tVar 3) [3]) tNil)) [some (.ref a), some (.ref p), some (.int (i : Int)), none] H4 (sortL (ls.filter fun l => decide (l.length = i))) := fun H5 e5 Q q => by
      show tLc (iList K (tVar 0)) (gName 3) (tTest (tOp rEq (tCB (rLen2 K) (tCons (tVar 3) tNil)) (tVar 2))) (tVar 3) [3] [some (.ref a), some (.ref p), some (.int (i : Int)), none] H5 (fun v H => rSortX K [v] H Q)
      refine lc_gen (vs := [3]) (R := fun l v H => Tp l v H) (evi_ownR (K := K) (F := fun v l H => Tp l v H) (xs := ls) (i := 0) (j := 3) (σ := [some (.ref a), some (.ref p), some (.int (i : Int)), none]) rfl (e14 a _ ha) fun H' e' => hp.ty (.of (e14.trans e'))) (by omega) (fun l => decide (l.length = i)) (fun a σ2 H2 _ hp => by obtain ⟨v, rfl, _⟩ := hp; rfl) (fun l σ2 H6 _ ex hp => ?_) (fun l σ2 H6 _ _ ex hp => ?_) (fun a v H1 H2 h e => h.ty (.of e)) (fun a v H1 q ws _ h hq => h.ty (.er hq rfl)) H5 e5 _ fun b zs H6 nb e6 hb pz => ?_
      · obtain ⟨v, rfl, hv⟩ := hp
        refine evt_is (evt_T (K := K) (eva_eqI (eva_lenT (eva_var rfl hv.dp)) (eva_var rfl (.int (i : Int))))) ?_
        rw [List.length_map, List.length_map]
        exact decide_eq_decide.mpr (by omega)
      · obtain ⟨v, rfl, hv⟩ := hp
        exact evr_tp rfl hv
      · have pz' : PT H6 zs (ls.filter fun l => decide (l.length = i)) := PT.ty (.of (er_ex (p := b))) pz
        have zl := paired_len pz'
        obtain h := evp_sorted (K := K) (σ := [some (.ref b)]) (i := 0) (s := i) rfl hb pz' (by rw [zl]; exact sizes_few hn hl hd) (fun l hl' => by
          obtain ⟨h1, h2⟩ := List.mem_filter.mp hl'
          exact ⟨of_decide_eq_true h2, fun x hx => by have := (hl l h1).2 x hx; omega⟩)
        obtain ⟨v, hv, h⟩ := h H6 (Ex.refl _) Q fun p ws H7 np e7 hp' hw => q p ws H7 (fresh_back e6 np) (e6.trans e7) hp' hw
        have : v = .ref b := by simpa using hv.symm
        subst this
        exact h
    have hp4 := e4 p _ hpp
    refine s_asg0 ?_
    refine ⟨_, rfl, ?_⟩
    refine sorted H4 (Ex.refl _) _ fun b zs H5 nb e5 hb hz => ?_
    have l1 : ps.length ≤ 64 := by rw [paired_len hps]; exact Nat.le_trans (bySizeF_len ls i) few
    have l2 : zs.length ≤ 64 := by
      rw [paired_len hz, (sortL_perm _).length_eq]
      exact Nat.le_trans (List.length_filter_le _ _) few
    refine ⟨p, b, ps, zs, rfl, rfl, e5 p _ hp4, hb, by rw [sizeLine_eq]; omega, fun r hr => ?_⟩
    have e6 : Ex H5 (upd H5 r (.lst (ps ++ zs))) := Ex.new hr
    refine ⟨ex.trans (e4.trans (e5.trans e6)), r, ps ++ zs, _, rfl, fresh_back (e14.trans e5) hr, upd_same, ?_⟩
    rw [bySizeF_succ]
    exact paired_app (hps.ty (.of (e4.trans (e5.trans e6)))) (hz.ty (.of e6))
  · intro Hb eb σ' H' hP
    obtain ⟨ex, p, ps, z, rfl, np', hpp, hps⟩ := hP
    rw [List.length_range, show (ls.length : Int).toNat = ls.length by omega] at hps
    exact ⟨_, rfl, q p ps H' np' ((e2.trans eb).trans ex) hpp hps⟩
theorem sc_l_lots : FnScope ["_law_people", "_law_found", "_law_person", "_law_lot"] ["_law_people"] (defScope (topS 94)) := ⟨rfl, rfl, rfl, by decide +kernel, rfl, by decide +kernel, by decide +kernel⟩
theorem bn_l_lots : Bnd "_law_lots" 94 ["_law_people"] := fun _ _ _ _ _ _ us hl => match us, hl with | [_], _ => rfl
theorem has_l_lots {k : Nat} (T : Tb K mg) (h_l_by_size : Has P w K mg base "_law_by_size" k ["_law_lots_here"] (spBS K)) : Has P w K mg base "_law_lots" (k + 1) ["_law_people"] (spLots lawLots) := by
  refine has_sp T.f_l_lots sc_l_lots bn_l_lots (fun vs H Q E h => by obtain ⟨_, rfl, _⟩ := h; rfl) fun f cdv A outer s H vs Q E hr h => ?_
  obtain ⟨n, rfl, hn, q⟩ := h
  refine ⟨_, (pss_cons (ps_set (i := 1) sc_l_lots.nd rfl (by first | exact Or.inl rfl | exact Or.inr rfl) (pe_lst (pa_cons (pe_tup pa_nil) pa_nil)))
      (pss_cons (ps_for PassesOwn.never rfl (pi_range1 (by rfl) T.range (pa_cons (pv 0) pa_nil)) (pg_name (i := 2) sc_l_lots.nd rfl (by first | exact Or.inl rfl | exact Or.inr rfl)) (pss_one (ps_set (i := 1) sc_l_lots.nd rfl (by first | exact Or.inl rfl | exact Or.inr rfl) (pe_op op_cat (pv 1) (pe_lc (own := [("_law_lot", 3)]) (g := (gName 3)) (tt := tYes) rfl sc_l_lots.nd (pi_listK K (pv 1)) (blkOk_by (N := ["_law_people", "_law_found", "_law_person", "_law_lot"]) (sc := defScope (topS 94)) (by decide +kernel)) (fun _ _ _ _ _ => (pg_name (i := 3) sc_l_lots.nd rfl (by first | exact Or.inl rfl | exact Or.inr rfl))) (fun _ _ _ _ _ => pts_nil) (fun _ _ _ _ _ => (pe_op (op_catAK K) (pv 3) (pe_tup (pa_cons (pv 2) pa_nil)))))))))
      (pss_one (ps_ret (pe_callH h_l_by_size hr (pa_cons (pv 1) pa_nil)))))), ?_⟩
  refine q_asgP (evp_lst1 evr_nilTp) fun p0 ps0 H2 np e2 hp0 hps0 => ?_
  refine q_forI (evi_rng (n := (n : Int)) (evaa_cons (eva_var (K := K) rfl (.int (n : Int))) evaa_nil) (by omega) (by omega)) (fun Hb i σ' H' => Ex Hb H' ∧ ∃ p ps z, σ' = [some (.int (n : Int)), some (.ref p), z, none] ∧ H p = none ∧ H' p = some (.lst ps) ∧ PT H' ps (pow i)) (fun _ _ _ _ h => h.1)
    (fun Hb eb => ⟨Ex.refl _, p0, ps0, none, rfl, np, eb p0 _ hp0, hps0.ty (.of eb)⟩) ?_ ?_
  · intro Hb eb i hi σ' H' σ2 H4 hP e4 hp'
    obtain ⟨ex, p, ps, z, rfl, np', hpp, hps⟩ := hP
    cases hp'
    have hi' : i < n := by simpa using hi
    have e14 : Ex H H4 := (e2.trans eb).trans (ex.trans e4)
    have ei : (List.range (n : Int).toNat)[i] = i := by simp
    rw [ei]
    have few : ∀ j, j ≤ n → (pow j).length ≤ 64 := fun j hj => few_lots (n := j) (by omega) (pow_nodup j) fun l h => (pow_mem j l).mp h
    have f1 := few i (by omega)
    have hp4 := e4 p _ hpp
    have hps4 := hps.ty (.of e4)
    refine s_asg0 ?_
    refine ⟨_, rfl, ?_⟩
    refine lc_gen (vs := [3]) (R := fun l v H => Tp (l ++ [i]) v H) (evi_ownR (K := K) (F := fun v l H => Tp l v H) (xs := pow i) (i := 1) (j := 3) (σ := [some (.int (n : Int)), some (.ref p), some (.int (i : Int)), none]) rfl hp4 fun H' e' => hps4.ty (.of e')) (by omega) (fun l => true) (fun a σ2 H2 _ hp => by obtain ⟨v, rfl, _⟩ := hp; rfl) (fun l σ2 H6 _ ex hp => evt_yes) (fun l σ2 H6 hl _ ex hp => ?_) (fun a v H1 H2 h e => h.ty (.of e)) (fun a v H1 q ws _ h hq => h.ty (.er hq rfl)) H4 (Ex.refl _) _ fun b zs H6 nb e6 hb pz => ?_
    · obtain ⟨v, rfl, hv⟩ := hp
      have := isLot_len ((pow_mem i l).mp hl)
      exact evr_catTp (evr_tp rfl hv) (evr_oneTp (eva_var (K := K) rfl (.int (i : Int)))) (by simp; omega)
    · rw [List.filter_eq_self.mpr fun _ _ => rfl] at pz
      have pz' : PT H6 zs ((pow i).map fun l => l ++ [i]) := by
        refine PT.ty (.of (er_ex (p := b))) ?_
        generalize pow i = L at pz
        clear q hb
        induction pz with
        | nil => exact .nil
        | cons h _ ih => exact .cons h ih
      have l1 : ps.length ≤ 64 := by rw [paired_len hps]; exact f1
      have l2 : zs.length ≤ 64 := by rw [paired_len pz', List.length_map]; exact f1
      refine ⟨p, b, ps, zs, rfl, rfl, e6 p _ hp4, hb, by rw [sizeLine_eq]; omega, fun r hr => ?_⟩
      have e7 : Ex H6 (upd H6 r (.lst (ps ++ zs))) := Ex.new hr
      refine ⟨ex.trans (e4.trans (e6.trans e7)), r, ps ++ zs, _, rfl, fresh_back (e14.trans e6) hr, upd_same, ?_⟩
      rw [pow]
      exact paired_app (hps4.ty (.of (e6.trans e7))) (pz'.ty (.of e7))
  · intro Hb eb σ' H' hP
    obtain ⟨ex, p, ps, z, rfl, np', hpp, hps⟩ := hP
    rw [List.length_range, show (n : Int).toNat = n by omega] at hps
    have eH := (e2.trans eb).trans ex
    exact ⟨_, rfl, n, pow n, p, ps, rfl, hpp, hps, hn, fun l h => (pow_mem n l).mp h, pow_nodup n, fun r zs H2 nr er hr hz => q r zs H2 (fresh_back eH nr) (eH.trans er) hr hz⟩
theorem sc_l_at_ends : FnScope ["_law_people", "_law_lot", "_law_person"] ["_law_people", "_law_lot"] (defScope (topS 96)) := ⟨rfl, rfl, rfl, by decide +kernel, rfl, by decide +kernel, by decide +kernel⟩
theorem bn_l_at_ends : Bnd "_law_at_ends" 96 ["_law_people", "_law_lot"] := fun _ _ _ _ _ _ us hl => match us, hl with | [_, _], _ => rfl
def rAtEnds (ds : List PyData) (d : PyData) : Prop := ∃ (n : Nat) (lot : List Nat), ds = [.int (n : Int), eL lot] ∧ n ≤ 1000 ∧ d = eW (ends n lot)
theorem has_l_at_ends {k : Nat} (T : Tb K mg) : Has P w K mg base "_law_at_ends" (k + 1) ["_law_people", "_law_lot"] (spR K rAtEnds) := by
  refine has_R T.f_l_at_ends sc_l_at_ends bn_l_at_ends (fun ds d h => by obtain ⟨_, _, rfl, _⟩ := h; rfl) fun f cdv A outer s H vs Q E hr ds d hds h q => ?_
  obtain ⟨n, lot, rfl, hn, rfl⟩ := h
  obtain ⟨v1, v2, rfl, h1, h2⟩ := dpa2 hds
  refine ⟨_, (pss_one (ps_ret (pe_callTy (call_tupleK K) (by rfl) T.tuple (by decide +kernel) (pa_cons (pe_lc (own := [("_law_person", 2)]) (g := (gName 2)) (tt := tYes) rfl sc_l_at_ends.nd (pi_range1 (by rfl) T.range (pa_cons (pv 0) pa_nil)) (blkOk_by (N := ["_law_people", "_law_lot", "_law_person"]) (sc := defScope (topS 96)) (by decide +kernel)) (fun _ _ _ _ _ => (pg_name (i := 2) sc_l_at_ends.nd rfl (by first | exact Or.inl rfl | exact Or.inr rfl))) (fun _ _ _ _ _ => pts_nil) (fun _ _ _ _ _ => (pe_ifExp (pt_cmpR (op_in_seqK K) (pv 2) (pv 1) (by rfl)) (pe_tup (pa_cons pe_int (pa_cons pe_int pa_nil))) (pe_tup (pa_cons pe_int (pa_cons pe_int pa_nil)))))) pa_nil)))), ?_⟩
  refine s_ret (eva_tupL (EvaL.eva (EvaL.is (evl_lc1 (K := K) (fun i => eQ (if i ∈ lot then (1, 1) else (0, 1))) (evi_rng (n := (n : Int)) (evaa_cons (eva_var rfl h1) evaa_nil) (by omega) (by omega)) (by rw [List.length_range]; omega) (fun a σ2 H2 _ hp => ?_) (fun a σ2 H2 ha ex hp => ?_) (fun _ _ => rfl)) (es := (ends n lot).map eQ) (by unfold ends; rw [List.map_map, show (n : Int).toNat = n by omega]; rfl)))) q
  · cases hp; rfl
  · cases hp
    refine eva_if (j := decide (a ∈ lot)) (evt_is (evt_T (K := K) (eva_inT (i := (a : Int)) (ns := zi lot) (eva_var rfl (.int _)) (eva_var rfl (dp_ex ex h2)))) (decide_eq_decide.mpr zi_mem)) (fun hj => ?_) (fun hj => ?_)
    · rw [if_pos (of_decide_eq_true hj)]
      exact eva_tup (ds := [.int 1, .int 1]) (evaa_cons eva_int (evaa_cons eva_int evaa_nil))
    · rw [if_neg (of_decide_eq_false hj)]
      exact eva_tup (ds := [.int 0, .int 1]) (evaa_cons eva_int (evaa_cons eva_int evaa_nil))
theorem sc_l_corner : FnScope ["_law_people", "_law_term_here", "_law_lot"] ["_law_people", "_law_term_here", "_law_lot"] (defScope (topS 97)) := ⟨rfl, rfl, rfl, by decide +kernel, rfl, by decide +kernel, by decide +kernel⟩
theorem bn_l_corner : Bnd "_law_corner" 97 ["_law_people", "_law_term_here", "_law_lot"] := fun _ _ _ _ _ _ us hl => match us, hl with | [_, _, _], _ => rfl
def rLCorner (ds : List PyData) (d : PyData) : Prop := ∃ (n : Nat) (t : Tm) (lot : List Nat), ds = [.int (n : Int), eT t, eL lot] ∧ RT n t ∧ d = eQ (cor n t lot)
theorem has_l_corner {k : Nat} (T : Tb K mg) (h_val : ∀ n, Has P w K mg base "_law_value" k ["_law_term_here", "_law_bids"] (spR K (rVal n 5))) (h_l_at_ends : Has P w K mg base "_law_at_ends" k ["_law_people", "_law_lot"] (spR K rAtEnds)) :
    Has P w K mg base "_law_corner" (k + 1) ["_law_people", "_law_term_here", "_law_lot"] (spR K rLCorner) := by
  refine has_R T.f_l_corner sc_l_corner bn_l_corner (fun ds d h => by obtain ⟨_, _, _, rfl, _⟩ := h; rfl) fun f cdv A outer s H vs Q E hr ds d hds h q => ?_
  obtain ⟨n, t, lot, rfl, rt, rfl⟩ := h
  obtain ⟨v1, v2, v3, rfl, h1, h2, h3⟩ := dpa3 hds
  have h_l_value := h_val n
  refine ⟨_, (pss_one (ps_ret (pe_callH h_l_value hr (pa_cons (pv 1) (pa_cons (pe_callH h_l_at_ends hr (pa_cons (pv 0) (pa_cons (pv 2) pa_nil))) pa_nil))))), ?_⟩
  have n6 := rt.n6
  exact s_ret (eva_call (evaa_cons (eva_var rfl h2) (evaa_cons (eva_call (evaa_cons (eva_var rfl h1) (evaa_cons (eva_var rfl h3) evaa_nil)) ⟨n, lot, rfl, by omega, rfl⟩) evaa_nil)) ⟨_, t, rfl, ends_ok n lot, rt.wt, rt.cnt, rt.dpt, rfl⟩) q
theorem sc_l_wishing : FnScope ["_law_wishes", "_law_number_here", "_law_person", "_law_wish"] ["_law_wishes", "_law_number_here"] (defScope (topS 98)) := ⟨rfl, rfl, rfl, by decide +kernel, rfl, by decide +kernel, by decide +kernel⟩
theorem bn_l_wishing : Bnd "_law_wishing" 98 ["_law_wishes", "_law_number_here"] := fun _ _ _ _ _ _ us hl => match us, hl with | [_, _], _ => rfl
theorem has_l_wishing {k : Nat} (T : Tb K mg) (h_l_less : Has P w K mg base "_law_less" k ["_law_one", "_law_other"] (spR K rLess)) : Has P w K mg base "_law_wishing" (k + 1) ["_law_wishes", "_law_number_here"] (spR K rWish) := by
  refine has_R T.f_l_wishing sc_l_wishing bn_l_wishing (fun ds d h => by obtain ⟨_, _, rfl, _⟩ := h; rfl) fun f cdv A outer s H vs Q E hr ds d hds h q => ?_
  obtain ⟨b, y, rfl, hl, hb, hy, rfl⟩ := h
  obtain ⟨v1, v2, rfl, h1, h2⟩ := dpa2 hds
  refine ⟨_, (pss_one (ps_ret (pe_callTy (call_tupleK K) (by rfl) T.tuple (by decide +kernel) (pa_cons (pe_lc (own := [("_law_person", 2), ("_law_wish", 3)]) (g := (g2 K 2 3)) rfl sc_l_wishing.nd (pi_enumTK K (by rfl) T.enumerate (pa_cons (pv 0) pa_nil)) (blkOk_by (N := ["_law_wishes", "_law_number_here", "_law_person", "_law_wish"]) (sc := defScope (topS 98)) (by decide +kernel)) (fun _ _ _ _ _ => (pg_tup rfl (pgs_cons (pg_name (i := 2) sc_l_wishing.nd rfl (by first | exact Or.inl rfl | exact Or.inr rfl)) (pgs_cons (pg_name (i := 3) sc_l_wishing.nd rfl (by first | exact Or.inl rfl | exact Or.inr rfl)) pgs_nil)))) (fun _ _ _ _ _ => pts_one (pt_not (pt_val (pe_callH h_l_less hr (pa_cons (pv 3) (pa_cons (pv 1) pa_nil)))))) (fun _ _ _ _ _ => (pv 2))) pa_nil)))), ?_⟩
  have src : EvI (iEnumT K (tCons (tVar 0) tNil)) (g2 K 2 3) (start ["_law_wishes", "_law_number_here", "_law_person", "_law_wish"] [v1, v2]) H b.zipIdx (fun p => PE2 K 2 3 (eQ p.1, p.2)) := by
    have z := evi_enumT (K := K) (j := 2) (k := 3) (eva_var (σ := start ["_law_wishes", "_law_number_here", "_law_person", "_law_wish"] [v1, v2]) (i := 0) rfl h1)
    rw [List.zipIdx_map] at z
    exact z.map
  refine s_ret (eva_tupL (EvaL.eva (EvaL.is (evl_lc (fun p => !less p.1 y) (fun p => .int (p.2 : Int)) src (by simp; omega) (fun a σ2 H2 _ hp => ?_) (fun a σ2 H2 ha ex hp => ?_) (fun a σ2 H2 ha hf ex hp => ?_) (fun _ _ => rfl)) (by unfold wishing; simp [List.map_map, Function.comp_def])))) q
  · obtain ⟨w, rfl, _⟩ := hp; rfl
  · obtain ⟨w, rfl, hw⟩ := hp
    have ma : a.1 ∈ b := by
      obtain ⟨u, i⟩ := a
      exact (List.mem_zipIdx ha).2.2 ▸ List.getElem_mem _
    exact Evl.et_not (evt_B (K := K) (eva_call (evaa_cons (eva_var rfl hw) (evaa_cons (eva_var rfl (dp_ex ex h2)) evaa_nil)) ⟨a.1, y, rfl, (hb _ ma).sm, hy.sm, rfl⟩))
  · obtain ⟨w, rfl, hw⟩ := hp
    exact eva_var rfl (.int _)
theorem sc_l_wishing_more : FnScope ["_law_wishes", "_law_number_here", "_law_person", "_law_wish"] ["_law_wishes", "_law_number_here"] (defScope (topS 99)) := ⟨rfl, rfl, rfl, by decide +kernel, rfl, by decide +kernel, by decide +kernel⟩
theorem bn_l_wishing_more : Bnd "_law_wishing_more" 99 ["_law_wishes", "_law_number_here"] := fun _ _ _ _ _ _ us hl => match us, hl with | [_, _], _ => rfl
def rWishM (ds : List PyData) (d : PyData) : Prop := ∃ (b : List Q) (y : Q), ds = [eW b, eQ y] ∧ b.length ≤ 1000 ∧ (∀ q ∈ b, Fq q) ∧ Fq y ∧ d = eL (wishMore b y)
theorem has_l_wishing_more {k : Nat} (T : Tb K mg) (h_l_less : Has P w K mg base "_law_less" k ["_law_one", "_law_other"] (spR K rLess)) : Has P w K mg base "_law_wishing_more" (k + 1) ["_law_wishes", "_law_number_here"] (spR K rWishM) := by
  refine has_R T.f_l_wishing_more sc_l_wishing_more bn_l_wishing_more (fun ds d h => by obtain ⟨_, _, rfl, _⟩ := h; rfl) fun f cdv A outer s H vs Q E hr ds d hds h q => ?_
  obtain ⟨b, y, rfl, hl, hb, hy, rfl⟩ := h
  obtain ⟨v1, v2, rfl, h1, h2⟩ := dpa2 hds
  refine ⟨_, (pss_one (ps_ret (pe_callTy (call_tupleK K) (by rfl) T.tuple (by decide +kernel) (pa_cons (pe_lc (own := [("_law_person", 2), ("_law_wish", 3)]) (g := (g2 K 2 3)) rfl sc_l_wishing_more.nd (pi_enumTK K (by rfl) T.enumerate (pa_cons (pv 0) pa_nil)) (blkOk_by (N := ["_law_wishes", "_law_number_here", "_law_person", "_law_wish"]) (sc := defScope (topS 99)) (by decide +kernel)) (fun _ _ _ _ _ => (pg_tup rfl (pgs_cons (pg_name (i := 2) sc_l_wishing_more.nd rfl (by first | exact Or.inl rfl | exact Or.inr rfl)) (pgs_cons (pg_name (i := 3) sc_l_wishing_more.nd rfl (by first | exact Or.inl rfl | exact Or.inr rfl)) pgs_nil)))) (fun _ _ _ _ _ => pts_one (pt_val (pe_callH h_l_less hr (pa_cons (pv 1) (pa_cons (pv 3) pa_nil))))) (fun _ _ _ _ _ => (pv 2))) pa_nil)))), ?_⟩
  have src : EvI (iEnumT K (tCons (tVar 0) tNil)) (g2 K 2 3) (start ["_law_wishes", "_law_number_here", "_law_person", "_law_wish"] [v1, v2]) H b.zipIdx (fun p => PE2 K 2 3 (eQ p.1, p.2)) := by
    have z := evi_enumT (K := K) (j := 2) (k := 3) (eva_var (σ := start ["_law_wishes", "_law_number_here", "_law_person", "_law_wish"] [v1, v2]) (i := 0) rfl h1)
    rw [List.zipIdx_map] at z
    exact z.map
  refine s_ret (eva_tupL (EvaL.eva (EvaL.is (evl_lc (fun p => less y p.1) (fun p => .int (p.2 : Int)) src (by simp; omega) (fun a σ2 H2 _ hp => ?_) (fun a σ2 H2 ha ex hp => ?_) (fun a σ2 H2 ha hf ex hp => ?_) (fun _ _ => rfl)) (by unfold wishMore; simp [List.map_map, Function.comp_def])))) q
  · obtain ⟨w, rfl, _⟩ := hp; rfl
  · obtain ⟨w, rfl, hw⟩ := hp
    have ma : a.1 ∈ b := by
      obtain ⟨u, i⟩ := a
      exact (List.mem_zipIdx ha).2.2 ▸ List.getElem_mem _
    exact evt_B (K := K) (eva_call (evaa_cons (eva_var rfl (dp_ex ex h2)) (evaa_cons (eva_var rfl hw) evaa_nil)) ⟨y, a.1, rfl, hy.sm, (hb _ ma).sm, rfl⟩)
  · obtain ⟨w, rfl, hw⟩ := hp
    exact eva_var rfl (.int _)
theorem sc_l_is_outcome : FnScope ["_law_people", "_law_term_here", "_law_wishes", "_law_number_here"] ["_law_people", "_law_term_here", "_law_wishes", "_law_number_here"] (defScope (topS 100)) := ⟨rfl, rfl, rfl, by decide +kernel, rfl, by decide +kernel, by decide +kernel⟩
theorem bn_l_is_outcome : Bnd "_law_is_outcome" 100 ["_law_people", "_law_term_here", "_law_wishes", "_law_number_here"] := fun _ _ _ _ _ _ us hl => match us, hl with | [_, _, _, _], _ => rfl
def rIsOut (ds : List PyData) (d : PyData) : Prop := ∃ (n : Nat) (t : Tm) (b : List Q) (x : Q), ds = [.int (n : Int), eT t, eW b, eQ x] ∧ RT n t ∧ WOk n b ∧ Fq x ∧ d = .bool (isOut n t b x)
theorem has_l_is_outcome {k : Nat} (T : Tb K mg) (h_l_less : Has P w K mg base "_law_less" k ["_law_one", "_law_other"] (spR K rLess)) (h_l_corner : Has P w K mg base "_law_corner" k ["_law_people", "_law_term_here", "_law_lot"] (spR K rLCorner))
    (h_l_wishing : Has P w K mg base "_law_wishing" k ["_law_wishes", "_law_number_here"] (spR K rWish)) (h_l_wishing_more : Has P w K mg base "_law_wishing_more" k ["_law_wishes", "_law_number_here"] (spR K rWishM)) :
    Has P w K mg base "_law_is_outcome" (k + 1) ["_law_people", "_law_term_here", "_law_wishes", "_law_number_here"] (spR K rIsOut) := by
  refine has_R T.f_l_is_outcome sc_l_is_outcome bn_l_is_outcome (fun ds d h => by obtain ⟨_, _, _, _, rfl, _⟩ := h; rfl) fun f cdv A outer s H vs Q E hr ds d hds h q => ?_
  obtain ⟨n, t, b, x, rfl, rt, hb, hx, rfl⟩ := h
  obtain ⟨v1, v2, v3, v4, rfl, h1, h2, h3, h4⟩ := dpa4 hds
  refine ⟨_, (pss_cons (ps_if (pt_val (pe_callH h_l_less hr (pa_cons (pv 3) (pa_cons (pe_callH h_l_corner hr (pa_cons (pv 0) (pa_cons (pv 1) (pa_cons (pe_callH h_l_wishing_more hr (pa_cons (pv 2) (pa_cons (pv 3) pa_nil))) pa_nil)))) pa_nil)))) (pss_one (ps_ret pe_bl)) pss_nil)
      (pss_one (ps_ret (pe_not (pe_callH h_l_less hr (pa_cons (pe_callH h_l_corner hr (pa_cons (pv 0) (pa_cons (pv 1) (pa_cons (pe_callH h_l_wishing hr (pa_cons (pv 2) (pa_cons (pv 3) pa_nil))) pa_nil)))) (pa_cons (pv 3) pa_nil))))))), ?_⟩
  have n6 := rt.n6
  have hl := hb.1
  have fc : ∀ lot, Fq (cor n t lot) := fun lot => (cor_ok rt.wt rt.cnt lot).fq (by decide)
  refine Evl.q_when (evt_B (K := K) (eva_call (evaa_cons (eva_var rfl h4) (evaa_cons (eva_call (d := eQ (cor n t (wishMore b x))) (evaa_cons (eva_var rfl h1) (evaa_cons (eva_var rfl h2) (evaa_cons (eva_call (evaa_cons (eva_var rfl h3) (evaa_cons (eva_var rfl h4) evaa_nil)) ⟨b, x, rfl, by omega, hb.fq, hx, rfl⟩) evaa_nil))) ⟨n, t, _, rfl, rt, rfl⟩) evaa_nil)) ⟨x, _, rfl, hx.sm, (fc _).sm, rfl⟩)) (fun hb' H2 e2 => ?_) (fun hb' H2 e2 => ?_)
  · refine s_ret (eva_bl (K := K)) fun v H3 e3 dv => q v H3 (e2.trans e3) ?_
    unfold isOut
    rw [hb']
    exact dv
  · refine s_ret (eva_not (eva_call (evaa_cons (eva_call (d := eQ (cor n t (wishing b x))) (evaa_cons (eva_var rfl (dp_ex e2 h1)) (evaa_cons (eva_var rfl (dp_ex e2 h2)) (evaa_cons (eva_call (evaa_cons (eva_var rfl (dp_ex e2 h3)) (evaa_cons (eva_var rfl (dp_ex e2 h4)) evaa_nil)) ⟨b, x, rfl, by omega, hb.fq, hx, rfl⟩) evaa_nil))) ⟨n, t, _, rfl, rt, rfl⟩) (evaa_cons (eva_var rfl (dp_ex e2 h4)) evaa_nil)) ⟨_, x, rfl, (fc _).sm, hx.sm, rfl⟩)) fun v H3 e3 dv => q v H3 (e2.trans e3) ?_
    unfold isOut
    rw [hb']
    exact dv
theorem sc_l_flag : FnScope ["_law_told", "_law_due"] ["_law_told", "_law_due"] (defScope (topS 101)) := ⟨rfl, rfl, rfl, by decide +kernel, rfl, by decide +kernel, by decide +kernel⟩
theorem bn_l_flag : Bnd "_law_flag" 101 ["_law_told", "_law_due"] := fun _ _ _ _ _ _ us hl => match us, hl with | [_, _], _ => rfl
def rFlag (ds : List PyData) (d : PyData) : Prop := ∃ a b : Bool, ds = [.bool a, .bool b] ∧ d = .bool (decide (a = b))
theorem has_l_flag {k : Nat} (T : Tb K mg) : Has P w K mg base "_law_flag" (k + 1) ["_law_told", "_law_due"] (spR K rFlag) := by
  refine has_R T.f_l_flag sc_l_flag bn_l_flag (fun ds d h => by obtain ⟨_, _, rfl, _⟩ := h; rfl) fun f cdv A outer s H vs Q E hr ds d hds h q => ?_
  obtain ⟨a, b, rfl, rfl⟩ := h
  obtain ⟨v1, v2, rfl, h1, h2⟩ := dpa2 hds
  refine ⟨_, (pss_one (ps_ret (pe_and (pe_callB (call_isiKK K) (by rfl) T.isinstance (by decide +kernel) (pa_cons (pv 0) (pa_cons (pe_gTy (T := "bool") T.bool (by decide +kernel)) pa_nil))) (pe_one (pe_cmpR op_eq (pv 0) (pv 1) (nomark _)))))), ?_⟩
  exact s_ret (eva_is (eva_and (eva_isi (k := true) (eva_var rfl h1) kb_bb) fun _ => eva_eqB (eva_var rfl h1) (eva_var rfl h2)) (by rw [Bool.true_and])) q
theorem sc_l_unlike : FnScope ["_law_numbers_here", "_law_found", "_law_number_here"] ["_law_numbers_here"] (defScope (topS 103)) := ⟨rfl, rfl, rfl, by decide +kernel, rfl, by decide +kernel, by decide +kernel⟩
theorem bn_l_unlike : Bnd "_law_unlike" 103 ["_law_numbers_here"] := fun _ _ _ _ _ _ us hl => match us, hl with | [_], _ => rfl
def rUnlike (ds es : List PyData) : Prop := ∃ xs : List Q, ds = [.list (xs.map eQ)] ∧ xs.length ≤ 1000 ∧ (∀ x ∈ xs, Fq x) ∧ es = (unlike xs).map eQ
theorem has_l_unlike {k : Nat} (T : Tb K mg) (h_l_sorted : Has P w K mg base "_law_sorted" k ["_law_numbers_here"] (spL K rAsc)) : Has P w K mg base "_law_unlike" (k + 1) ["_law_numbers_here"] (spL K rUnlike) := by
  refine has_L T.f_l_unlike sc_l_unlike bn_l_unlike (fun ds d h => by obtain ⟨i, rfl, _⟩ := h; rfl) fun f cdv A outer s H vs Q E hr ds d hds h q => ?_
  obtain ⟨xs, rfl, hl, hf, rfl⟩ := h
  obtain ⟨v1, rfl, h1⟩ := dpa1 hds
  refine ⟨_, (pss_cons (ps_set (i := 1) sc_l_unlike.nd rfl (by first | exact Or.inl rfl | exact Or.inr rfl) (pe_lst pa_nil))
      (pss_cons (ps_for PassesOwn.never rfl (pi_listK K (pe_callH h_l_sorted hr (pa_cons (pv 0) pa_nil))) (pg_name (i := 2) sc_l_unlike.nd rfl (by first | exact Or.inl rfl | exact Or.inr rfl)) (pss_one (ps_if (pt_cmpR (op_notInDK K (hu65 hr)) (pv 2) (pv 1) (by rfl)) (pss_one (ps_expr (pe_bm PySem.F.plainAttrs_list PySem.F.slot_list_append PySem.F.type_list_append mt_append (pv 1) (pa_cons (pv 2) pa_nil)))) pss_nil)))
      (pss_one (ps_ret (pv 1))))), ?_⟩
  refine q_asgL (evl_lst (K := K) evaa_nil) fun p ws H2 np e2 hp dw => ?_
  cases dw
  refine q_forF (EvaL.evf (e := eQ) (evl_call (K := K) (evaa_cons (eva_var rfl (dp_ex e2 h1)) evaa_nil) ⟨xs, rfl, hl, hf, rfl⟩)) fun l ls H3 nl e3 hll hls => ?_
  have pl : p ≠ l := fun z => by rw [z, nl] at hp; cases hp
  have sl : (srt xs).length ≤ 1000 := by rw [srt_len]; exact hl
  refine ⟨fun i σ' H' => ∃ ws z, σ' = [some v1, some (.ref p), z] ∧ Ex H H' ∧ H' l = some (.lst ls) ∧ Paired (fun v a => Dp K H' v (eQ a)) ls (srt xs) ∧ H' p = some (.lst ws) ∧ DpAll K H' ws ((uniqL ((srt xs).take i)).map eQ), fun i σ' H' _ h => ?_, ⟨[], none, rfl, e2.trans e3, hll, hls, e3 p _ hp, .nil⟩, fun i hi σ' H' v hP dv => ?_, fun σ' H' hP => ?_⟩
  · obtain ⟨_, _, _, _, h1, h2, _⟩ := h; exact ⟨h1, h2⟩
  · obtain ⟨ws, z, rfl, eb, hl', hls', hp', hd⟩ := hP
    have et : uniqL ((srt xs).take (i + 1)) = if (srt xs)[i] ∈ uniqL ((srt xs).take i) then uniqL ((srt xs).take i) else uniqL ((srt xs).take i) ++ [(srt xs)[i]] := by rw [take_snoc hi, uniqL_snoc]
    have lw : ws.length ≤ 1000 := by
      rw [dpa_len hd, List.length_map]
      have := uniqL_len ((srt xs).take i)
      rw [List.length_take] at this
      omega
    generalize (srt xs)[i] = x at dv et
    refine Evl.s_when (evt_T (K := K) (eva_notInQ (eva_var rfl dv) (eva_var rfl (dp_newL hp' hd)))) (fun hb H4 e4 => ?_) (fun hb H4 e4 => ?_)
    · have hx : ¬ x ∈ uniqL ((srt xs).take i) := by simpa using hb
      refine s_app rfl (e4 p _ hp') (eva_var (K := K) rfl (dp_ex e4 dv)) (by omega) fun y H5 e5 dy hp5 => ?_
      have e45 := e4.trans e5
      have tx : Tx H5 (upd H5 p (.lst (ws ++ [y]))) := Tx.upd hp5 rfl
      refine ⟨_, some v, rfl, (eb.trans e45).mut np, by rw [upd_ne (Ne.symm pl)]; exact e45 l _ hl', Paired.mapP hls' fun v a h => dp_tx tx (dp_ex e45 h) rfl, upd_same, ?_⟩
      rw [et, if_neg hx, List.map_append]
      exact dpa_mut (dpa_app (dpa_ex e45 hd) (dpa_one dy)) (imAll_app (ims_eQ _) (ims_eQ [x])) hp5 rfl
    · have hx : x ∈ uniqL ((srt xs).take i) := by simpa using hb
      refine ⟨ws, some v, rfl, eb.trans e4, e4 l _ hl', Paired.mapP hls' fun v a h => dp_ex e4 h, e4 p _ hp', ?_⟩
      rw [et, if_pos hx]
      exact dpa_ex e4 hd
  · obtain ⟨ws, z, rfl, eb, hl', hls', hp', hd⟩ := hP
    rw [List.take_length] at hd
    exact ⟨_, rfl, q p ws H' np eb hp' (dpa_tx (tx_er hp' rfl) hd (ims_eQ _))⟩
theorem sc_l_place : FnScope ["_law_numbers_here", "_law_wish", "_law_below", "_law_number_here"] ["_law_numbers_here", "_law_wish"] (defScope (topS 104)) := ⟨rfl, rfl, rfl, by decide +kernel, rfl, by decide +kernel, by decide +kernel⟩
theorem bn_l_place : Bnd "_law_place" 104 ["_law_numbers_here", "_law_wish"] := fun _ _ _ _ _ _ us hl => match us, hl with | [_, _], _ => rfl
theorem has_l_place {k : Nat} (T : Tb K mg) (h_l_less : Has P w K mg base "_law_less" k ["_law_one", "_law_other"] (spR K rLess)) : Has P w K mg base "_law_place" (k + 1) ["_law_numbers_here", "_law_wish"] (spR K rPlaceOf) := by
  refine has_R T.f_l_place sc_l_place bn_l_place (fun ds d h => by obtain ⟨_, _, rfl, _⟩ := h; rfl) fun f cdv A outer s H vs Q E hr ds d hds h q => ?_
  obtain ⟨ns, x, rfl, hl, hf, hx, rfl⟩ := h
  obtain ⟨v1, v2, rfl, h1, h2⟩ := dpa2 hds
  refine ⟨_, (pss_cons (ps_set (i := 2) sc_l_place.nd rfl (by first | exact Or.inl rfl | exact Or.inr rfl) (pe_callB (call_lenK K) (by rfl) T.len (by decide +kernel) (pa_cons (pe_lc (own := [("_law_number_here", 3)]) (g := (gName 3)) rfl sc_l_place.nd (pi_listK K (pv 0)) (blkOk_by (N := ["_law_numbers_here", "_law_wish", "_law_below", "_law_number_here"]) (sc := defScope (topS 104)) (by decide +kernel)) (fun _ _ _ _ _ => (pg_name (i := 3) sc_l_place.nd rfl (by first | exact Or.inl rfl | exact Or.inr rfl))) (fun _ _ _ _ _ => pts_one (pt_val (pe_callH h_l_less hr (pa_cons (pv 3) (pa_cons (pv 1) pa_nil))))) (fun _ _ _ _ _ => (pv 3))) pa_nil)))
      (pss_one (ps_ret (pe_op op_add (pe_op op_mulW pe_int (pv 2)) (pe_callTy call_int1 (by rfl) T.int (by decide +kernel) (pa_cons (pe_cmpR (op_inDK K (hu65 hr)) (pv 1) (pv 0) (by rfl)) pa_nil)))))), ?_⟩
  refine q_asg (eva_lenL (EvaL.eva (evl_lc (K := K) (fun y => less y x) eQ (EvI.map (evi_list (ds := ns.map eQ) (eva_var rfl h1))) (by omega) (fun a σ2 H2 _ hp => ?_) (fun a σ2 H2 ha ex hp => ?_) (fun a σ2 H2 ha hf ex hp => ?_) (fun _ _ => rfl)))) fun v H2 e dv => ?_
  · obtain ⟨v, rfl, _⟩ := hp; rfl
  · obtain ⟨v, rfl, hv⟩ := hp
    exact evt_B (K := K) (eva_call (evaa_cons (eva_var rfl hv) (evaa_cons (eva_var rfl (dp_ex ex h2)) evaa_nil)) ⟨a, x, rfl, (hf a ha).sm, hx.sm, rfl⟩)
  · obtain ⟨v, rfl, hv⟩ := hp
    exact eva_var rfl hv
  · cases dv
    rw [List.length_map]
    have hfl : (ns.filter fun y => less y x).length ≤ ns.length := List.length_filter_le _ _
    refine s_ret (eva_is (eva_I0 (eva_I (eva_int) (eva_var rfl (.int _)) (cmul_n (by omega))) (eva_intB (eva_inQ (eva_var rfl (dp_ex e h2)) (eva_var rfl (dp_ex e h1))))) ?_) fun v H3 e3 dv => q v H3 (e.trans e3) dv
    unfold placeOf
    by_cases hm : x ∈ ns <;> simp [hm]
theorem eva_qlit {σ : L2.St} {H : Hp} {a b : Int} : Eva K (tTup (tCons (tC (.int a)) (tCons (tC (.int b)) tNil))) σ H (eQ (a, b)) := eva_tup (ds := [.int a, .int b]) (evaa_cons eva_int (evaa_cons eva_int evaa_nil))
theorem sc_l_open : FnScope ["_law_numbers_here", "_law_first", "_law_last"] ["_law_numbers_here"] (defScope (topS 105)) := ⟨rfl, rfl, rfl, by decide +kernel, rfl, by decide +kernel, by decide +kernel⟩
theorem bn_l_open : Bnd "_law_open" 105 ["_law_numbers_here"] := fun _ _ _ _ _ _ us hl => match us, hl with | [_], _ => rfl
def rOpenL (ds es : List PyData) : Prop := ∃ ns : List Q, ds = [.list (ns.map eQ)] ∧ 1 ≤ ns.length ∧ ns.length ≤ 1000 ∧ es = (zi (openL ns)).map PyData.int
theorem has_l_open {k : Nat} (T : Tb K mg) : Has P w K mg base "_law_open" (k + 1) ["_law_numbers_here"] (spL K rOpenL) := by
  refine has_L T.f_l_open sc_l_open bn_l_open (fun ds d h => by obtain ⟨i, rfl, _⟩ := h; rfl) fun f cdv A outer s H vs Q E hr ds d hds h q => ?_
  obtain ⟨ns, rfl, hl, hl2, rfl⟩ := h
  obtain ⟨v1, rfl, h1⟩ := dpa1 hds
  refine ⟨_, (pss_cons (ps_set (i := 1) sc_l_open.nd rfl (by first | exact Or.inl rfl | exact Or.inr rfl) (pe_callTy call_int1 (by rfl) T.int (by decide +kernel) (pa_cons (pe_cmpR (op_eqDK K hr.units) (pe_ix (ix_seqK K) (pv 0) pe_int (fun _ _ => rfl)) (pe_tup (pa_cons pe_int (pa_cons pe_int pa_nil))) (nomark _)) pa_nil)))
      (pss_cons (ps_set (i := 2) sc_l_open.nd rfl (by first | exact Or.inl rfl | exact Or.inr rfl) (pe_op op_sub (pe_op op_mulW pe_int (pe_callB (call_lenK K) (by rfl) T.len (by decide +kernel) (pa_cons (pv 0) pa_nil))) (pe_callTy call_int1 (by rfl) T.int (by decide +kernel) (pa_cons (pe_cmpR (op_eqDK K hr.units) (pe_ix (ix_seqK K) (pv 0) (pe_un un_neg pe_int) (fun _ _ => rfl)) (pe_tup (pa_cons pe_int (pa_cons pe_int pa_nil))) (nomark _)) pa_nil))))
      (pss_one (ps_ret (pe_listRg rfl (by rfl) T.list (prg_2 (by rfl) T.range (pv 1) (pe_op op_add (pv 2) pe_int))))))), ?_⟩
  have g : ∀ j, j < ns.length → ns[j]? = some (ns.getD j (0, 1)) := fun j hj => by rw [List.getD_eq_getElem?_getD, List.getElem?_eq_getElem hj]; rfl
  have a0 : atI (ns.map eQ) 0 = some (eQ (ns.getD 0 (0, 1))) := by
    have := atN (ds := ns.map eQ) (j := 0) (d := eQ (ns.getD 0 (0, 1))) (by rw [List.getElem?_map, g 0 (by omega)]; rfl)
    exact this
  have a1 : atI (ns.map eQ) (-1) = some (eQ (ns.getD (ns.length - 1) (0, 1))) := by
    rcases List.eq_nil_or_concat ns with e | ⟨r, z, e⟩
    · subst e; simp at hl
    · rw [List.concat_eq_append] at e
      subst e
      rw [List.map_append, List.map_singleton, atI_neg1]
      congr 2
      simp
  refine q_asg (eva_intB (K := K) (eva_eqQ (eva_ixL (eva_var rfl h1) eva_int a0) eva_qlit)) fun v H2 e2 dv => ?_
  have ef : (if decide (ns.getD 0 (0, 1) = (0, 1)) = true then (1 : Int) else 0) = ((firstOpen ns : Nat) : Int) := by unfold firstOpen; split <;> split <;> simp_all
  rw [ef] at dv
  cases dv
  refine q_asg (eva_I0 (K := K) (eva_I eva_int (eva_lenL (eva_var rfl (dp_ex e2 h1))) (cmul_n (by rw [List.length_map]; omega))) (eva_intB (eva_eqQ (eva_ixL (eva_var rfl (dp_ex e2 h1)) (eva_neg eva_int) a1) eva_qlit))) fun v H3 e3 dv => ?_
  have ev : v = .int ((lastOpen ns : Nat) : Int) := by
    rw [dp_int dv, List.length_map]
    unfold lastOpen
    by_cases hm2 : ns.getD (ns.length - 1) (0, 1) = (1, 1) <;> simp only [hm2, decide_true, decide_false, if_true, if_false, V.int.injEq] <;> (try simp only [Bool.false_eq_true, if_false]) <;> omega
  subst ev
  have fo : firstOpen ns ≤ 1 := by unfold firstOpen; split <;> omega
  have lo : lastOpen ns ≤ 2 * ns.length ∧ 2 * ns.length ≤ lastOpen ns + 1 := by unfold lastOpen; split <;> omega
  refine ⟨_, rfl, _, rfl, _, _, rfl, rfl, firstOpen ns, (lastOpen ns : Int) + 1, rfl, rfl, ⟨by omega, by omega⟩, fun p hp => ?_⟩
  have er : rgV (firstOpen ns) ((lastOpen ns : Int) + 1) = (zi (openL ns)).map V.int := by
    unfold rgV openL
    rw [zi, List.map_map, List.map_map]
    have : ((lastOpen ns : Int) + 1 - (firstOpen ns : Int)).toNat = lastOpen ns + 1 - firstOpen ns := by omega
    rw [this]
    exact List.map_congr_left fun x _ => by simp
  rw [er]
  exact q p _ _ (fresh_back (e2.trans e3) hp) ((e2.trans e3).trans (Ex.new hp)) upd_same (dpa_ofints _)
end
end Cb
set_option Elab.async false
set_option linter.all false
set_option maxRecDepth 100000
set_option maxHeartbeats 8000000
/-! Cb, the law's defs 19: all tuples of places, those that fit. -/
namespace Cb
open PySem PySem.Spec PyProof.Rows L2 Evl
theorem pe_bmK (K : PySem.W.Frag) {X : Cx} {o e : Expr} {es : List Expr} {to : TE} {t : TA} {name : Str} {apos cpos : Pos} {T id : String} {r : V → List V → Hp → VK → Prop} (pa : PlainAttrs T) (slot : Slot T name id) (hty : typeOf (.builtin id) = pure (.type "method_descriptor")) (hm : MtR X id r) (ho : PE X o to) (ha : PA X (e :: es) t)
    (h : X.K = K := by rfl) (hbase : attributeBase o name X.env (eval o X.env) = eval o X.env := by rfl)
    (hfew : ((backTo cpos (starEach (e :: es) X.env)).all (fun x => !x.1) && (backToKw cpos (keywordEach [] X.env)).all (fun x => x.1.isSome)
      && decide ((e :: es).length + ([] : List Keyword).length + (if ([] : List Keyword).isEmpty then 0 else 1) < 30)) = true := by rfl)
    (hline : (apos.endLine == cpos.line) = true := by rfl) (hs : starEach (e :: es) X.env = (false, eval e X.env) :: starEach es X.env := by rfl) (hplain : (backTo cpos (starEach es X.env)).any (·.1) = false := by rfl) :
    PE X (.Call (.Attribute o name apos) (e :: es) [] cpos) (tBM K T r to t) := h ▸ pe_bm pa slot hty hm ho ha hbase hfew hline hs hplain
theorem TabG.mutL {K : PySem.W.Frag} {H : Hp} {d p : Addr} {ws : List V} {o : HO} {ls : List (List Nat)} {f : List Nat → Q} (h : TabG K H d ls f) (hp : H p = some (.lst ws)) : TabG K (upd H p o) d ls f := by
  obtain ⟨kvs, h1, h2, h3⟩ := h
  have ne : d ≠ p := fun z => by rw [z, hp] at h1; cases h1
  refine ⟨kvs, by rw [upd_ne ne]; exact h1, h2, fun lot hl => ?_⟩
  obtain ⟨v, a, b⟩ := h3 lot hl
  exact ⟨v, a, dp_mut b rfl hp rfl⟩
theorem pt_map {H : Hp} {row : List Nat} : ∀ {zs : List V} {L : List Nat}, Paired (fun v a => Tp (row ++ [a]) v H) zs L → PT H zs (L.map fun p => row ++ [p])
  | _, _, .nil => .nil
  | _, _, .cons h t => .cons h (pt_map t)
def TabL (K : PySem.W.Frag) (n : Nat) (v : V) (t : Tm) (H : Hp) : Prop := ∃ d, v = .ref d ∧ TabG K H d (lawLots n) (cor n t)
theorem TabL.ex {K : PySem.W.Frag} {n : Nat} {v : V} {t : Tm} {H H' : Hp} (e : Ex H H') (h : TabL K n v t H) : TabL K n v t H' := by
  obtain ⟨d, rfl, h⟩ := h
  exact ⟨d, rfl, tab_ex e h⟩
theorem TabL.mutL {K : PySem.W.Frag} {n : Nat} {v : V} {t : Tm} {H : Hp} {p : Addr} {ws : List V} {o : HO} (h : TabL K n v t H) (hp : H p = some (.lst ws)) : TabL K n v t (upd H p o) := by
  obtain ⟨d, rfl, h⟩ := h
  exact ⟨d, rfl, h.mutL hp⟩
section
variable {K : PySem.W.Frag} {σ : L2.St} {H : Hp} {ta tb : TE}
/-- xs.index(x) of fractions -/
theorem eva_index {ns : List Q} {x : Q} (ha : Eva K ta σ H (.list (ns.map eQ))) (hb : Eva K tb σ H (eQ x)) (hm : x ∈ ns) : Eva K (tBM K "list" (rIndexD K) ta (tCons tb tNil)) σ H (.int (ns.idxOf x : Int)) := fun H1 e Q q =>
  ha H1 e _ fun v H2 e2 dv => by
    have dv' := dv
    obtain ⟨a, xs, rfl, hx, hs⟩ := dp_lst dv
    refine ⟨.inl ⟨rfl, xs, hx⟩, hb H2 (e.trans e2) _ fun u H3 e3 du => ?_⟩
    have hj : ns.idxOf x < ns.length := List.idxOf_lt_length_iff.mpr hm
    refine ⟨a, u, eQ x, ns.map eQ, ns.idxOf x, eQ ns[ns.idxOf x], rfl, rfl, dp_ex e3 dv', du, shL ns, sh_eQ x, map_get hj, ?_, fun m z' hm' hz => ?_, q _ H3 (e2.trans e3) (.int _)⟩
    · rw [eqv_eQ]
      exact decide_eq_true (List.getElem_idxOf hj)
    · have hml : m < ns.length := by omega
      rw [map_get hml] at hz
      cases hz
      rw [eqv_eQ]
      refine decide_eq_false fun z => ?_
      have := List.not_of_lt_findIdx (p := (· == x)) hm'
      simp [z] at this
end
section
variable {P : Program} {w : World} {K : PySem.W.Frag} {mg : Str → Option Value} {base : Heap}
theorem sc_l_all_tuples : FnScope ["_law_able", "_law_people", "_law_found", "_law_person", "_law_longer", "_law_row", "_law_place_here"] ["_law_able", "_law_people"] (defScope (topS 106)) := ⟨rfl, rfl, rfl, by decide +kernel, rfl, by decide +kernel, by decide +kernel⟩
theorem bn_l_all_tuples : Bnd "_law_all_tuples" 106 ["_law_able", "_law_people"] := fun _ _ _ _ _ _ us hl => match us, hl with | [_, _], _ => rfl
def spAT (K : PySem.W.Frag) : Sp := fun vs H Q _ => ∃ (able : List Nat) (n : Nat) (av : V), vs = [av, .int (n : Int)] ∧ Dp K H av (eI able) ∧ n ≤ 6 ∧ 1 ≤ able.length ∧ able.length ≤ 1000 ∧ able.length ^ n ≤ 729 ∧
  ∀ p ws H2, H p = none → Ex H H2 → H2 p = some (.lst ws) → PT H2 ws (tuplesF able n) → Q (.ref p) H2
theorem evp_at {te tn : TE} {σ : L2.St} {H : Hp} {able : List Nat} {n : Nat} {E : XK} (h : Eva K te σ H (eI able)) (hn : Eva K tn σ H (.int (n : Int))) (n6 : n ≤ 6) (a1 : 1 ≤ able.length) (a2 : able.length ≤ 1000) (a3 : able.length ^ n ≤ 729) : EvP (tCall (spAT K) [] E (tCons te (tCons tn tNil))) σ H (tuplesF able n) := fun H1 e Q q =>
  h H1 e _ fun v H2 e2 dv => hn H2 (e.trans e2) _ fun u H3 e3 du => ⟨able, n, v, by rw [dp_int du]; rfl, dp_ex e3 dv, n6, a1, a2, a3, fun p ws H4 np e4 hp hw => q p ws H4 (fresh_back (e2.trans e3) np) ((e2.trans e3).trans e4) hp hw⟩
theorem has_l_all_tuples {k : Nat} (T : Tb K mg) : Has P w K mg base "_law_all_tuples" (k + 1) ["_law_able", "_law_people"] (spAT K) := by
  refine has_sp T.f_l_all_tuples sc_l_all_tuples bn_l_all_tuples (fun vs H Q E h => by obtain ⟨_, _, _, rfl, _⟩ := h; rfl) fun f cdv A outer s H vs Q E hr h => ?_
  obtain ⟨able, n, av, rfl, hav, hn, a1, a2, a3, q⟩ := h
  refine ⟨_, (pss_cons (ps_set (i := 2) sc_l_all_tuples.nd rfl (by first | exact Or.inl rfl | exact Or.inr rfl) (pe_lst (pa_cons (pe_tup pa_nil) pa_nil)))
      (pss_cons (ps_for PassesOwn.never rfl (pi_range1 (by rfl) T.range (pa_cons (pv 1) pa_nil)) (pg_name (i := 3) sc_l_all_tuples.nd rfl (by first | exact Or.inl rfl | exact Or.inr rfl)) (pss_cons (ps_set (i := 4) sc_l_all_tuples.nd rfl (by first | exact Or.inl rfl | exact Or.inr rfl) (pe_lst pa_nil))
      (pss_cons (ps_for PassesOwn.never rfl (pi_listK K (pv 2)) (pg_name (i := 5) sc_l_all_tuples.nd rfl (by first | exact Or.inl rfl | exact Or.inr rfl)) (pss_one (ps_expr (pe_bm PySem.F.plainAttrs_list PySem.F.slot_list_extend PySem.F.type_list_extend mt_extend (pv 4) (pa_cons (pe_lc (own := [("_law_place_here", 6)]) (g := (gName 6)) (tt := tYes) rfl sc_l_all_tuples.nd (pi_listK K (pv 0)) (blkOk_by (N := ["_law_able", "_law_people", "_law_found", "_law_person", "_law_longer", "_law_row", "_law_place_here"]) (sc := defScope (topS 106)) (by decide +kernel)) (fun _ _ _ _ _ => (pg_name (i := 6) sc_l_all_tuples.nd rfl (by first | exact Or.inl rfl | exact Or.inr rfl))) (fun _ _ _ _ _ => pts_nil) (fun _ _ _ _ _ => (pe_op (op_catAK K) (pv 5) (pe_tup (pa_cons (pv 6) pa_nil))))) pa_nil)))))
      (pss_one (ps_set (i := 2) sc_l_all_tuples.nd rfl (by first | exact Or.inl rfl | exact Or.inr rfl) (pv 4))))))
      (pss_one (ps_ret (pv 2))))), ?_⟩
  have few : ∀ i, i ≤ n → (tuplesF able i).length ≤ 729 := fun i hi => by
    rw [tuplesF_len]
    exact Nat.le_trans (Nat.pow_le_pow_right a1 hi) a3
  have lens : ∀ i, ∀ r ∈ tuplesF able i, r.length = i := fun i r h => (tuplesF_mem.mp h).1
  refine q_asgP (evp_lst1 evr_nilTp) fun p0 fs0 H2 np0 e2 hp0 hf0 => ?_
  refine q_forG (evg_rng (G := fun _ => True) (evaa_cons (eva_var (K := K) rfl (.int (n : Int))) evaa_nil) (by omega) (by omega))
    (fun i σ' H' => ∃ p fs z1 z2 z3, σ' = [some av, some (.int (n : Int)), some (.ref p), z1, z2, z3, none] ∧ Ex H H' ∧ H p = none ∧ H' p = some (.lst fs) ∧ PT H' fs (tuplesF able i)) (fun _ _ _ _ _ => trivial)
    (fun H4 e4 => ⟨p0, fs0, none, none, none, rfl, e2.trans e4, np0, e4 p0 _ hp0, hf0.ty (.of e4)⟩) ?_ ?_
  · intro i hi σ' H' σ2 H4 hP e4 hp'
    obtain ⟨p, fs, z1, z2, z3, rfl, eb, np, hpf, hff⟩ := hP
    cases hp'
    have hi' : i < n := by simpa using hi
    refine q_asgL (evl_lst (K := K) evaa_nil) fun r ws H5 nr e5 hr5 dw => ?_
    cases dw
    have e45 := e4.trans e5
    have nrH : H r = none := fresh_back (eb.trans e4) nr
    have hp5 := e45 p _ hpf
    have rp : p ≠ r := fun z => by rw [z] at hpf; have := e4 r _ hpf; rw [nr] at this; cases this
    have hf5 := hff.ty (.of e45)
    have hfew := few i (by omega)
    refine q_forG (evg_ownR (K := K) (F := fun v l H => Tp l v H) (xs := tuplesF able i) (G := fun H' => H' p = some (.lst fs) ∧ PT H' fs (tuplesF able i)) rfl (.inl (.inl hp5)) (fun H' h => ⟨.inl (.inl h.1), h.2⟩))
      (fun j σ' H' => ∃ ws z, σ' = [some av, some (.int (n : Int)), some (.ref p), some (.int ((List.range (n : Int).toNat)[i] : Nat)), some (.ref r), z, none] ∧ Ex H H' ∧ H' p = some (.lst fs) ∧ PT H' fs (tuplesF able i) ∧ H' r = some (.lst ws) ∧ PT H' ws (((tuplesF able i).take j).flatMap fun r => able.map fun p => r ++ [p]))
      (fun j σ' H' _ h => by obtain ⟨_, _, _, _, h1, h2, _⟩ := h; exact ⟨h1, h2⟩)
      (fun H6 e6 => ⟨[], z3, rfl, eb.trans (e45.trans e6), e6 p _ hp5, hf5.ty (.of e6), e6 r _ hr5, .nil⟩) ?_ ?_
    · intro j hj σ' H' σ2 H6 hP e6 hp'
      obtain ⟨ws, z, rfl, eb2, jp, jf, jr, jw⟩ := hP
      obtain ⟨v, rfl, tv⟩ := hp'
      have lrow := lens i _ (List.getElem_mem hj)
      have ft := flat_take (fun r => able.map fun p => r ++ [p]) hj
      have wl : ws.length ≤ 729 := by
        rw [paired_len jw]
        have h1 : ((tuplesF able i).take j).flatMap (fun r => able.map fun p => r ++ [p]) ++ ((tuplesF able i).drop j).flatMap (fun r => able.map fun p => r ++ [p]) = tuplesF able (i + 1) := by
          rw [← List.flatMap_append, List.take_append_drop]; rfl
        have h2 := congrArg List.length h1
        rw [List.length_append] at h2
        have := few (i + 1) (by omega)
        omega
      generalize (tuplesF able i)[j] = row at tv lrow ft
      refine s_ext rfl (e6 r _ jr) fun Q' q' => ?_
      refine lc_gen (vs := [6]) (xs := able) (R := fun a v H => Tp (row ++ [a]) v H) (evi_ints (j := 6) (eva_var (K := K) (σ := [some av, some (.int (n : Int)), some (.ref p), some (.int ((List.range (n : Int).toNat)[i] : Nat)), some (.ref r), some v, none]) (i := 0) rfl (dp_ex (eb2.trans e6) hav))) (by omega) (fun a => true) (fun a σ2 H2 _ hp => by obtain ⟨v, rfl, _⟩ := hp; rfl) (fun a σ2 H2 _ ex hp => evt_yes) (fun a σ2 H2 _ _ ex hp => ?_) (fun a v H1 H2 h e => h.ty (.of e)) (fun a v H1 q ws _ h hq => h.ty (.er hq rfl)) H6 (Ex.refl _) _ fun a zs H7 na e7 ha pz => ?_
      · obtain ⟨u, rfl, hu⟩ := hp
        exact evr_catTp (evr_tp rfl (tv.ty (.of ex))) (evr_oneTp (eva_var (K := K) rfl hu)) (by simp; omega)
      · rw [List.filter_eq_self.mpr fun _ _ => rfl] at pz
        have hz : zs.length ≤ 1000 := by rw [paired_len pz]; exact a2
        have pz' : PT H7 zs (able.map fun p => row ++ [p]) := by
          refine PT.ty (.of (er_ex (p := a))) ?_
          exact pt_map pz
        refine q' a zs H7 e7 ha (by omega) ?_
        have jr7 := e7 r _ (e6 r _ jr)
        have ty7 : Ty H7 (upd H7 r (.lst (ws ++ zs))) := .upd jr7 rfl
        have e67 := e6.trans e7
        refine ⟨_, some v, rfl, (eb2.trans e67).mut nrH, ?_, (jf.ty (.of e67)).ty ty7, upd_same, ?_⟩
        · rw [upd_ne rp]; exact e67 p _ jp
        · rw [ft]
          exact paired_app ((jw.ty (.of e67)).ty ty7) (pz'.ty ty7)
    · intro σ' H' hP
      obtain ⟨ws, z, rfl, eb2, jp, jf, jr, jw⟩ := hP
      rw [List.take_length] at jw
      refine s_asg0 ⟨_, rfl, r, ws, _, _, _, rfl, eb2, nrH, jr, jw⟩
  · intro σ' H' hP
    obtain ⟨p, fs, z1, z2, z3, rfl, eb, np, hpf, hff⟩ := hP
    rw [List.length_range, show (n : Int).toNat = n by omega] at hff
    exact ⟨_, rfl, q p fs H' np eb hpf hff⟩
theorem sc_l_held : FnScope ["_law_table", "_law_stood", "_law_number_here", "_law_at", "_law_more", "_law_person", "_law_place_here", "_law_least"] ["_law_table", "_law_stood", "_law_number_here", "_law_at"] (defScope (topS 107)) := ⟨rfl, rfl, rfl, by decide +kernel, rfl, by decide +kernel, by decide +kernel⟩
theorem bn_l_held : Bnd "_law_held" 107 ["_law_table", "_law_stood", "_law_number_here", "_law_at"] := fun _ _ _ _ _ _ us hl => match us, hl with | [_, _, _, _], _ => rfl
def spHeld (K : PySem.W.Frag) : Sp := fun vs H Q _ => ∃ (n : Nat) (t : Tm) (st : List Nat) (x : Int × Int) (k : Nat) (d : Addr) (sv xv : V), vs = [.ref d, sv, xv, .int (k : Int)] ∧ TabG K H d (lawLots n) (cor n t) ∧ RT n t ∧ st.length = n ∧ Dp K H sv (eL st) ∧ Dp K H xv (eQ x) ∧ Fq x ∧
  ∀ v H2, Ex H H2 → Dp K H2 v (.bool (heldB n t st x k)) → Q v H2
theorem has_l_held {k : Nat} (T : Tb K mg) (h_l_less : Has P w K mg base "_law_less" k ["_law_one", "_law_other"] (spR K rLess)) : Has P w K mg base "_law_held" (k + 1) ["_law_table", "_law_stood", "_law_number_here", "_law_at"] (spHeld K) := by
  refine has_sp T.f_l_held sc_l_held bn_l_held (fun vs H Q E h => by obtain ⟨_, _, _, _, _, _, _, _, rfl, _⟩ := h; rfl) fun f cdv A outer s H vs Q E hr h => ?_
  obtain ⟨n, t, st, x, j, d, sv, xv, rfl, tab, rt, hl, hs, hx, fx, q⟩ := h
  refine ⟨_, (pss_cons (ps_set (i := 4) sc_l_held.nd rfl (by first | exact Or.inl rfl | exact Or.inr rfl) (pe_callTy (call_tupleK K) (by rfl) T.tuple (by decide +kernel) (pa_cons (pe_lc (own := [("_law_person", 5), ("_law_place_here", 6)]) (g := (g2 K 5 6)) rfl sc_l_held.nd (pi_enumTK K (by rfl) T.enumerate (pa_cons (pv 1) pa_nil)) (blkOk_by (N := ["_law_table", "_law_stood", "_law_number_here", "_law_at", "_law_more", "_law_person", "_law_place_here", "_law_least"]) (sc := defScope (topS 107)) (by decide +kernel)) (fun _ _ _ _ _ => (pg_tup rfl (pgs_cons (pg_name (i := 5) sc_l_held.nd rfl (by first | exact Or.inl rfl | exact Or.inr rfl)) (pgs_cons (pg_name (i := 6) sc_l_held.nd rfl (by first | exact Or.inl rfl | exact Or.inr rfl)) pgs_nil)))) (fun _ _ _ _ _ => pts_one (pt_cmpR op_gt (pv 6) (pv 3) (nomark _))) (fun _ _ _ _ _ => (pv 5))) pa_nil)))
      (pss_cons (ps_set (i := 7) sc_l_held.nd rfl (by first | exact Or.inl rfl | exact Or.inr rfl) (pe_callTy (call_tupleK K) (by rfl) T.tuple (by decide +kernel) (pa_cons (pe_lc (own := [("_law_person", 5), ("_law_place_here", 6)]) (g := (g2 K 5 6)) rfl sc_l_held.nd (pi_enumTK K (by rfl) T.enumerate (pa_cons (pv 1) pa_nil)) (blkOk_by (N := ["_law_table", "_law_stood", "_law_number_here", "_law_at", "_law_more", "_law_person", "_law_place_here", "_law_least"]) (sc := defScope (topS 107)) (by decide +kernel)) (fun _ _ _ _ _ => (pg_tup rfl (pgs_cons (pg_name (i := 5) sc_l_held.nd rfl (by first | exact Or.inl rfl | exact Or.inr rfl)) (pgs_cons (pg_name (i := 6) sc_l_held.nd rfl (by first | exact Or.inl rfl | exact Or.inr rfl)) pgs_nil)))) (fun _ _ _ _ _ => pts_one (pt_cmpR op_ge (pv 6) (pv 3) (nomark _))) (fun _ _ _ _ _ => (pv 5))) pa_nil)))
      (pss_one (ps_ret (pe_and (pe_not (pe_callH h_l_less hr (pa_cons (pv 2) (pa_cons (pe_dget (hu1 hr) (pv 0) (pv 4) (fun _ _ => rfl)) pa_nil)))) (pe_one (pe_not (pe_callH h_l_less hr (pa_cons (pe_dget (hu1 hr) (pv 0) (pv 7) (fun _ _ => rfl)) (pa_cons (pv 2) pa_nil)))))))))), ?_⟩
  have n6 := rt.n6
  have fc : ∀ lot, Fq (cor n t lot) := fun lot => (cor_ok rt.wt rt.cnt lot).fq (by decide)
  have src : ∀ {σ : L2.St} {H' : Hp}, σ[1]? = some (some sv) → Ex H H' → EvI (iEnumT K (tCons (tVar 1) tNil)) (g2 K 5 6) σ H' st.zipIdx (fun p => PE2 K 5 6 (.int (p.1 : Int), p.2)) := fun hv e => by
    have z := evi_enumT (K := K) (j := 5) (k := 6) (eva_var hv (dp_ex e hs))
    rw [zi, List.map_map, List.zipIdx_map] at z
    exact z.map
  have zl : st.zipIdx.length < 100000 := by rw [List.length_zipIdx]; omega
  have lotm : ∀ g, IsLot n ((st.zipIdx.filter g).map (·.2)) := fun g => hl ▸ zipIdx_lot st g
  refine q_asg (evr_tupLTp (K := K) (l := moreAt st j) (EvaL.eva (EvaL.is (evl_lc (fun p => decide (j < p.1)) (fun p => .int (p.2 : Int)) (src rfl (Ex.refl _)) zl (fun a σ2 H2 _ hp => ?_) (fun a σ2 H2 ha ex hp => ?_) (fun a σ2 H2 ha hf ex hp => ?_) (fun _ _ => rfl)) (by unfold moreAt; rw [zi, List.map_map, List.map_map]; rfl)))) fun v H2 e2 tv => ?_
  · obtain ⟨u, rfl, _⟩ := hp; rfl
  · obtain ⟨u, rfl, hu⟩ := hp
    exact evt_is (evt_T (K := K) (eva_B0 (eva_var rfl hu) (eva_var rfl (.int (j : Int))))) (decide_eq_decide.mpr (by omega))
  · obtain ⟨u, rfl, hu⟩ := hp
    exact eva_var rfl (.int _)
  refine q_asg (evr_tupLTp (K := K) (l := leastIn st j) (EvaL.eva (EvaL.is (evl_lc (fun p => decide (j ≤ p.1)) (fun p => .int (p.2 : Int)) (src rfl e2) zl (fun a σ2 H2 _ hp => ?_) (fun a σ2 H2 ha ex hp => ?_) (fun a σ2 H2 ha hf ex hp => ?_) (fun _ _ => rfl)) (by unfold leastIn; rw [zi, List.map_map, List.map_map]; rfl)))) fun v' H3 e3 tv' => ?_
  · obtain ⟨u, rfl, _⟩ := hp; rfl
  · obtain ⟨u, rfl, hu⟩ := hp
    exact evt_is (evt_T (K := K) (eva_B0 (eva_var rfl hu) (eva_var rfl (.int (j : Int))))) (decide_eq_decide.mpr (by omega))
  · obtain ⟨u, rfl, hu⟩ := hp
    exact eva_var rfl (.int _)
  have e23 := e2.trans e3
  have tabv : ∀ {σ : L2.St}, σ[0]? = some (some (.ref d)) → Evr (tVar 0) σ H3 (fun v H' => ∃ d, v = .ref d ∧ TabG K H' d (lawLots n) (cor n t)) := fun hv => evr_var hv fun H4 e4 => ⟨d, rfl, tab_ex (e23.trans e4) tab⟩
  refine s_ret (eva_is (eva_and (eva_not (eva_call (evaa_cons (eva_var rfl (dp_ex e23 hx)) (evaa_cons (eva_tab (tabv rfl) (evr_tp rfl (tv.ty (.of e3))) (lawLots_mem.mpr (lotm _))) evaa_nil)) ⟨x, _, rfl, fx.sm, (fc _).sm, rfl⟩)) fun _ => eva_not (eva_call (evaa_cons (eva_tab (tabv rfl) (evr_tp rfl tv') (lawLots_mem.mpr (lotm _))) (evaa_cons (eva_var rfl (dp_ex e23 hx)) evaa_nil)) ⟨_, x, rfl, (fc _).sm, fx.sm, rfl⟩)) rfl) fun v H4 e4 dv => q v H4 (e23.trans e4) dv
theorem eva_held {σ : L2.St} {H : Hp} {t1 t2 t3 t4 : TE} {n : Nat} {t : Tm} {st : List Nat} {x : Q} {k : Nat} {E : XK} (h1 : Evr t1 σ H (fun v H' => TabL K n v t H')) (h2 : Eva K t2 σ H (eL st)) (h3 : Eva K t3 σ H (eQ x)) (h4 : Eva K t4 σ H (.int (k : Int))) (rt : RT n t) (hl : st.length = n) (fx : Fq x) :
    Eva K (tCall (spHeld K) [] E (tCons t1 (tCons t2 (tCons t3 (tCons t4 tNil))))) σ H (.bool (heldB n t st x k)) := fun H1 e Q q =>
  h1 H1 e _ fun v1 H2 e2 r1 => h2 H2 (e.trans e2) _ fun v2 H3 e3 r2 => h3 H3 (e.trans (e2.trans e3)) _ fun v3 H4 e4 r3 => h4 H4 (e.trans (e2.trans (e3.trans e4))) _ fun v4 H5 e5 r4 => by
    obtain ⟨d, rfl, tab⟩ := r1
    cases r4
    exact ⟨n, t, st, x, k, d, v2, v3, rfl, tab_ex (e3.trans (e4.trans e5)) tab, rt, hl, dp_ex (e4.trans e5) r2, dp_ex e5 r3, fx, fun v H6 e6 dv => q v H6 (e2.trans (e3.trans (e4.trans (e5.trans e6)))) dv⟩
theorem sc_l_fitting : FnScope ["_law_people", "_law_terms", "_law_told", "_law_numbers_here", "_law_found", "_law_tables", "_law_term_here", "_law_table", "_law_lot", "_law_ats", "_law_number_here", "_law_stood", "_law_k"] ["_law_people", "_law_terms", "_law_told"] (defScope (topS 108)) := ⟨rfl, rfl, rfl, by decide +kernel, rfl, by decide +kernel, by decide +kernel⟩
theorem bn_l_fitting : Bnd "_law_fitting" 108 ["_law_people", "_law_terms", "_law_told"] := fun _ _ _ _ _ _ us hl => match us, hl with | [_, _, _], _ => rfl
def rFitL (ds es : List PyData) : Prop := ∃ (n : Nat) (log : Log), ds = [.int (n : Int), .list (log.map fun p => eT p.1), .list (log.map fun p => eQ p.2)] ∧ LogOk n log ∧ es = (lawFit n log).map eL
theorem unlike_mem {xs : List Q} {x : Q} : x ∈ unlike xs ↔ x ∈ xs := by unfold unlike; rw [uniqL_mem, srt_mem]
theorem unlike_len (xs : List Q) : (unlike xs).length ≤ xs.length := by
  have := uniqL_len (srt xs)
  rw [srt_len] at this
  exact this
theorem openL_len (ns : List Q) (h : 1 ≤ ns.length) : 1 ≤ (openL ns).length ∧ (openL ns).length ≤ 2 * ns.length + 1 := by
  unfold openL
  rw [List.length_map, List.length_range]
  have fo : firstOpen ns ≤ 1 := by unfold firstOpen; split <;> omega
  have lo : lastOpen ns ≤ 2 * ns.length ∧ 2 * ns.length ≤ lastOpen ns + 1 := by unfold lastOpen; split <;> omega
  omega
theorem im_lots (ls : List (List Nat)) : imAll (ls.map eL) = true := imAll_map _ (fun l => by
  show imAll ((zi l).map PyData.int) = true
  exact im_ints l) _
theorem has_l_fitting {k : Nat} (T : Tb K mg) (h_l_unlike : Has P w K mg base "_law_unlike" k ["_law_numbers_here"] (spL K rUnlike)) (h_l_lots : Has P w K mg base "_law_lots" k ["_law_people"] (spLots lawLots)) (h_l_corner : Has P w K mg base "_law_corner" k ["_law_people", "_law_term_here", "_law_lot"] (spR K rLCorner))
    (h_l_open : Has P w K mg base "_law_open" k ["_law_numbers_here"] (spL K rOpenL)) (h_l_all_tuples : Has P w K mg base "_law_all_tuples" k ["_law_able", "_law_people"] (spAT K)) (h_l_held : Has P w K mg base "_law_held" k ["_law_table", "_law_stood", "_law_number_here", "_law_at"] (spHeld K)) :
    Has P w K mg base "_law_fitting" (k + 1) ["_law_people", "_law_terms", "_law_told"] (spL K rFitL) := by
  refine has_L T.f_l_fitting sc_l_fitting bn_l_fitting (fun ds d h => by obtain ⟨_, _, rfl, _⟩ := h; rfl) fun f cdv A outer s H vs Q E hr ds d hds h q => ?_
  obtain ⟨n, log, rfl, ok, rfl⟩ := h
  obtain ⟨v1, tv, uv, rfl, h1, ht, hu⟩ := dpa3 hds
  cases h1
  refine ⟨_, (pss_cons (ps_set (i := 3) sc_l_fitting.nd rfl (by first | exact Or.inl rfl | exact Or.inr rfl) (pe_callH h_l_unlike hr (pa_cons (pv 2) pa_nil)))
      (pss_cons (ps_set (i := 4) sc_l_fitting.nd rfl (by first | exact Or.inl rfl | exact Or.inr rfl) (pe_lst pa_nil))
      (pss_cons (ps_set (i := 5) sc_l_fitting.nd rfl (by first | exact Or.inl rfl | exact Or.inr rfl) (pe_lst pa_nil))
      (pss_cons (ps_for PassesOwn.never rfl (pi_listK K (pv 1)) (pg_name (i := 6) sc_l_fitting.nd rfl (by first | exact Or.inl rfl | exact Or.inr rfl)) (pss_cons (ps_set (i := 7) sc_l_fitting.nd rfl (by first | exact Or.inl rfl | exact Or.inr rfl) pe_dnewT)
      (pss_cons (ps_for PassesOwn.never rfl (pi_listK K (pe_callH h_l_lots hr (pa_cons (pv 0) pa_nil))) (pg_name (i := 8) sc_l_fitting.nd rfl (by first | exact Or.inl rfl | exact Or.inr rfl)) (pss_one (ps_dput (hu1 hr) (pv 7) (pv 8) (pe_callH h_l_corner hr (pa_cons (pv 0) (pa_cons (pv 6) (pa_cons (pv 8) pa_nil)))) (by rfl))))
      (pss_one (ps_expr (pe_bm PySem.F.plainAttrs_list PySem.F.slot_list_append PySem.F.type_list_append mt_append (pv 5) (pa_cons (pv 7) pa_nil)))))))
      (pss_cons (ps_set (i := 9) sc_l_fitting.nd rfl (by first | exact Or.inl rfl | exact Or.inr rfl) (pe_lc (own := [("_law_number_here", 10)]) (g := (gName 10)) (tt := tYes) rfl sc_l_fitting.nd (pi_listK K (pv 2)) (blkOk_by (N := ["_law_people", "_law_terms", "_law_told", "_law_numbers_here", "_law_found", "_law_tables", "_law_term_here", "_law_table", "_law_lot", "_law_ats", "_law_number_here", "_law_stood", "_law_k"]) (sc := defScope (topS 108)) (by decide +kernel)) (fun _ _ _ _ _ => (pg_name (i := 10) sc_l_fitting.nd rfl (by first | exact Or.inl rfl | exact Or.inr rfl))) (fun _ _ _ _ _ => pts_nil) (fun _ _ _ _ _ => (pe_op op_add (pe_op op_mulW pe_int (pe_bmK K PySem.F.plainAttrs_list PySem.F.slot_list_index PySem.F.type_list_index (mt_indexK K (hu65 hr)) (pv 3) (pa_cons (pv 10) pa_nil))) pe_int))))
      (pss_cons (ps_for PassesOwn.never rfl (pi_listK K (pe_callH h_l_all_tuples hr (pa_cons (pe_callH h_l_open hr (pa_cons (pv 3) pa_nil)) (pa_cons (pv 0) pa_nil)))) (pg_name (i := 11) sc_l_fitting.nd rfl (by first | exact Or.inl rfl | exact Or.inr rfl)) (pss_one (ps_if (pt_val (pe_callB (cr_allK K) (by rfl) T.all (by decide +kernel) (pa_cons (pe_lc (own := [("_law_k", 12)]) (g := (gName 12)) (tt := tYes) rfl sc_l_fitting.nd (pi_range1 (by rfl) T.range (pa_cons (pe_callB (call_lenK K) (by rfl) T.len (by decide +kernel) (pa_cons (pv 2) pa_nil)) pa_nil)) (blkOk_by (N := ["_law_people", "_law_terms", "_law_told", "_law_numbers_here", "_law_found", "_law_tables", "_law_term_here", "_law_table", "_law_lot", "_law_ats", "_law_number_here", "_law_stood", "_law_k"]) (sc := defScope (topS 108)) (by decide +kernel)) (fun _ _ _ _ _ => (pg_name (i := 12) sc_l_fitting.nd rfl (by first | exact Or.inl rfl | exact Or.inr rfl))) (fun _ _ _ _ _ => pts_nil) (fun _ _ _ _ _ => (pe_callH h_l_held hr (pa_cons (pe_ix (ix_seqK K) (pv 5) (pv 12) (fun _ _ => rfl)) (pa_cons (pv 11) (pa_cons (pe_ix (ix_seqK K) (pv 2) (pv 12) (fun _ _ => rfl)) (pa_cons (pe_ix (ix_seqK K) (pv 9) (pv 12) (fun _ _ => rfl)) pa_nil))))))) pa_nil))) (pss_one (ps_expr (pe_bm PySem.F.plainAttrs_list PySem.F.slot_list_append PySem.F.type_list_append mt_append (pv 4) (pa_cons (pv 11) pa_nil)))) pss_nil)))
      (pss_one (ps_ret (pv 4))))))))), ?_⟩
  have n6 := ok.n6
  have l1 := ok.l1
  have l4 := ok.l4
  have few := ok.few
  have etold : (log.map fun p => eQ p.2) = (told log).map eQ := by unfold told; rw [List.map_map]; rfl
  have tl : (told log).length = log.length := by simp [told]
  have fq : ∀ x ∈ told log, Fq x := fun x hx => by
    obtain ⟨p, hp, rfl⟩ := List.mem_map.mp hx
    exact (ok.ok p hp).fq (by decide)
  rw [etold] at hu
  have hlots : (lawLots n).length ≤ 64 := by
    have h1 := bySizeF_len (pow n) (pow n).length
    rw [pow_len] at h1
    have h2 : 2 ^ n ≤ 2 ^ 6 := Nat.pow_le_pow_right (by decide) n6
    unfold lawLots bySize
    rw [pow_len]
    omega
  have ul := unlike_len (told log)
  have u1 : 1 ≤ (unlike (told log)).length := by
    have : ∃ x, x ∈ unlike (told log) := by
      cases log with
      | nil => simp at l1
      | cons p log => exact ⟨p.2, unlike_mem.mpr (by simp [told])⟩
    obtain ⟨x, hx⟩ := this
    exact List.length_pos_of_mem hx
  have ol := openL_len (unlike (told log)) u1
  have o3 : (openL (unlike (told log))).length ^ n ≤ 729 := Nat.le_trans (Nat.pow_le_pow_left (by omega) n) few
  -- numbers, found, tables
  refine q_asg (evl_call (K := K) (evaa_cons (eva_var rfl hu) evaa_nil) ⟨told log, rfl, by omega, fq, rfl⟩).eva fun nv H1 e1 hn => ?_
  refine q_asgL (evl_lst (K := K) evaa_nil) fun pF ws0 H2 npF e2 hpF dw => ?_
  cases dw
  refine q_asgL (evl_lst (K := K) evaa_nil) fun pT ws0 H3 npT e3 hpT dw => ?_
  cases dw
  have npFH : H pF = none := fresh_back e1 npF
  have e12 := e1.trans e2
  -- the tables
  refine q_forG (evg_list (K := K) (i := 1) (j := 6) rfl ht (e12.trans e3)) (fun i σ' H' => ∃ tws z6 z7 z8, σ' = [some (.int (n : Int)), some tv, some uv, some nv, some (.ref pF), some (.ref pT), z6, z7, z8, none, none, none, none] ∧ Ex H2 H' ∧ H' pT = some (.lst tws) ∧ Paired (fun v t => TabL K n v t H') tws ((log.take i).map (·.1))) (fun i σ' H' _ h => by obtain ⟨_, _, _, _, _, h1, _⟩ := h; exact e12.trans h1)
    (fun H4 e4 => ⟨[], none, none, none, rfl, e3.trans e4, e4 pT _ hpT, .nil⟩) ?_ ?_
  · intro i hi σ' H' σ2 H4 hP e4 hp'
    obtain ⟨tws, z6, z7, z8, rfl, eb, hpt, htab⟩ := hP
    obtain ⟨t', rfl, ht'⟩ := hp'
    have hi' : i < log.length := by simpa using hi
    have et : (log.map fun p => eT p.1)[i] = eT log[i].1 := by simp
    rw [et] at ht'
    have rt := ok.rt log[i] (List.getElem_mem hi')
    have tk : (log.take (i + 1)).map (·.1) = (log.take i).map (·.1) ++ [log[i].1] := by rw [take_snoc hi', List.map_append]; rfl
    have lt : tws.length ≤ 4 := by
      rw [paired_len htab, List.length_map, List.length_take]; omega
    generalize log[i].1 = t at ht' rt tk
    refine fun D0 nD => ?_
    have e5 : Ex H4 (upd H4 D0 (.dT [])) := Ex.new nD
    have npt : pT ≠ D0 := fun z => by rw [z] at hpt; have := e4 D0 _ hpt; rw [nD] at this; cases this
    refine q_forF (F := fun v l H => Tp l v H) (evp_lots (eva_var (K := K) (i := 0) rfl (.int (n : Int))) n6) fun l ls H5 nl e6 hl hls => ?_
    have e46 := e5.trans e6
    refine ⟨fun j σ5 H' => ∃ z, σ5 = [some (.int (n : Int)), some tv, some uv, some nv, some (.ref pF), some (.ref pT), some t', some (.ref D0), z, none, none, none, none] ∧ Ex H4 H' ∧ H' l = some (.lst ls) ∧ PT H' ls (lawLots n) ∧ TabG K H' D0 ((lawLots n).take j) (cor n t), fun j σ' H' _ h => ?_, ⟨z8, rfl, e46, hl, hls, tab_ex e6 tab_new⟩, fun j hj σ5 H' v hP tpv => ?_, fun σ5 H' hP => ?_⟩
    · obtain ⟨_, _, _, h1, h2, _⟩ := h; exact ⟨h1, h2⟩
    · obtain ⟨z, rfl, ex, hl', hls', tab⟩ := hP
      have tks : (lawLots n).take (j + 1) = (lawLots n).take j ++ [(lawLots n)[j]] := take_snoc hj
      have tlen : ((lawLots n).take j).length ≤ 64 := by rw [List.length_take]; omega
      generalize (lawLots n)[j] = lot at tpv tks
      refine eva_call (K := K) (evaa_cons (eva_var (i := 0) rfl (.int (n : Int))) (evaa_cons (eva_var (i := 6) rfl (dp_ex ex ht')) (evaa_cons (eva_var rfl tpv.dp) evaa_nil))) ⟨n, t, lot, rfl, rt, rfl⟩ H' (Ex.refl _) _ fun u H6 e6 du => ?_
      obtain ⟨kvs, k1, k2, k3⟩ := tab_ex e6 tab
      obtain ⟨b, rfl, hb⟩ := tpv
      refine ⟨_, rfl, _, rfl, D0, _, rfl, .inr ⟨kvs, keyL lot, b, k1, rfl, by rw [keyL_V]; exact e6 b _ hb, by rw [sizeLine_eq]; omega, rfl⟩, ?_⟩
      have k1' := k1
      have ty6 : Ty H6 (upd H6 D0 (.dT (putK kvs (keyL lot) u))) := .upd k1 rfl
      have nl' : l ≠ D0 := fun z => by
        have h1 := e6 l _ hl'
        rw [z, k1] at h1
        cases h1
      refine ⟨_, rfl, (ex.trans e6).mut nD, by rw [upd_ne nl']; exact e6 l _ hl', (hls'.ty (.of e6)).ty ty6, ?_⟩
      rw [tks]
      exact tab_put k1 k2 k3 du
    · obtain ⟨z, rfl, ex, hl', hls', tab⟩ := hP
      rw [List.take_length] at tab
      have e4' := e4.trans ex
      have hpt' := e4' pT _ hpt
      refine s_app (R := fun v H => TabL K n v t H) rfl hpt' (evr_var rfl fun H6 e6 => ⟨D0, rfl, tab_ex e6 tab⟩) (by omega) fun v H6 e6 tv' hp6 => ?_
      have e46 := e4'.trans e6
      refine ⟨_, some t', some (.ref D0), z, rfl, (eb.trans e46).mut npT, upd_same, ?_⟩
      rw [tk]
      exact paired_app (Paired.mapP htab fun v t h => (h.ex e46).mutL hp6) (.cons (tv'.mutL hp6) .nil)
  · intro σ' H' hP
    obtain ⟨tws, z6, z7, z8, rfl, eb, hpt, htab⟩ := hP
    rw [List.length_map, List.take_length] at htab
    have e0 := e12.trans eb
    -- where the numbers stand
    refine q_asgL (evl_lc1 (K := K) (xs := told log) (fun x => .int (atOf (unlike (told log)) x : Int)) (EvI.map (f := eQ) (evi_list (ds := (told log).map eQ) (eva_var (i := 2) rfl (dp_ex e0 hu)))) (by omega) (fun a σ2 H2 _ hp => ?_) (fun x σ2 H4 hx ex hp => ?_) (fun _ _ => rfl)) fun pA as H4 npA e4 hpA dA => ?_
    · obtain ⟨v, rfl, _⟩ := hp; rfl
    · obtain ⟨v, rfl, hv⟩ := hp
      refine eva_is (eva_I0 (eva_I eva_int (eva_index (eva_var (i := 3) rfl (dp_ex (((e2.trans eb)).trans ex) hn)) (eva_var rfl hv) (unlike_mem.mpr hx)) (cmul_n ?_)) eva_int) ?_
      · have := List.idxOf_le_length (a := x) (l := unlike (told log))
        omega
      · show PyData.int (2 * ((unlike (told log)).idxOf x : Int) + 1) = _
        unfold atOf
        congr 1
    have eA : ((told log).map fun x => PyData.int (atOf (unlike (told log)) x : Int)) = ((told log).map fun x => (atOf (unlike (told log)) x : Int)).map PyData.int := by rw [List.map_map]; rfl
    rw [eA] at dA
    rw [dpa_ints dA] at hpA
    have e04 := e0.trans e4
    have hpt4 := e4 pT _ hpt
    have pAF : pA ≠ pF := fun z => by
      have h1 : H' pF = some (.lst []) := eb pF _ hpF
      rw [← z] at h1; rw [npA] at h1; cases h1
    have pTF : pT ≠ pF := fun z => by rw [z, hpF] at npT; cases npT
    have hpF4 : H4 pF = some (.lst []) := (eb.trans e4) pF _ hpF
    -- the tuples
    refine q_forF (F := fun v l H => Tp l v H) (evp_at (evl_call (K := K) (evaa_cons (eva_var (i := 3) rfl (dp_ex ((e2.trans eb).trans e4) hn)) evaa_nil) ⟨unlike (told log), rfl, u1, by omega, rfl⟩).eva (eva_var (i := 0) rfl (.int (n : Int))) n6 ol.1 (by omega) o3) fun l ls H5 nl e5 hl hls => ?_
    have plF : pF ≠ l := fun z => by rw [z, nl] at hpF4; cases hpF4
    let g : List Nat → Bool := fun st => log.all fun p => heldB n p.1 st p.2 (atOf (unlike (told log)) p.2)
    let Iv : Nat → L2.St → Hp → Prop := fun i σ' H' => ∃ ws z11, σ' = [some (.int (n : Int)), some tv, some uv, some nv, some (.ref pF), some (.ref pT), z6, z7, z8, some (.ref pA), none, z11, none] ∧ Ex H H' ∧ H' l = some (.lst ls) ∧ PT H' ls (tuplesF (openL (unlike (told log))) n) ∧
      H' pT = some (.lst tws) ∧ Paired (fun v t => TabL K n v t H') tws (log.map (·.1)) ∧ H' pA = some (.lst (((told log).map fun x => (atOf (unlike (told log)) x : Int)).map V.int)) ∧ H' pF = some (.lst ws) ∧ DpAll K H' ws ((((tuplesF (openL (unlike (told log))) n).take i).filter g).map eL)
    have ivx : ∀ {i σ' H' H''}, Iv i σ' H' → Ex H' H'' → Iv i σ' H'' := fun h e => by
      obtain ⟨ws, z, rfl, h1, h2, h3, h4, h5, h6, h7, h8⟩ := h
      exact ⟨ws, z, rfl, h1.trans e, e l _ h2, h3.ty (.of e), e pT _ h4, Paired.mapP h5 fun v t r => r.ex e, e pA _ h6, e pF _ h7, dpa_ex e h8⟩
    have tlen : (tuplesF (openL (unlike (told log))) n).length ≤ 729 := by rw [tuplesF_len]; exact o3
    refine ⟨Iv, fun i σ' H' _ h => ?_, ⟨[], none, rfl, e04.trans e5, hl, hls, e5 pT _ hpt4, Paired.mapP htab fun v t r => r.ex (e4.trans e5), e5 pA _ hpA, e5 pF _ hpF4, .nil⟩, fun i hi σ' H' v hP tpv => ?_, fun σ' H' hP => ?_⟩
    · obtain ⟨_, _, _, _, h1, h2, _⟩ := h; exact ⟨h1, h2⟩
    · obtain ⟨ws, z11, rfl, ex, hl', hls', hpt', htab', hpa', hpf', hd⟩ := hP
      have hst := (tuplesF_mem.mp (List.getElem_mem hi)).1
      have tks : ((tuplesF (openL (unlike (told log))) n).take (i + 1)).filter g = ((tuplesF (openL (unlike (told log))) n).take i).filter g ++ (if g (tuplesF (openL (unlike (told log))) n)[i] = true then [(tuplesF (openL (unlike (told log))) n)[i]] else []) := by
        rw [take_snoc hi, List.filter_append, List.filter_cons, List.filter_nil]
      have lw : ws.length ≤ 729 := by
        rw [dpa_len hd, List.length_map]
        refine Nat.le_trans (List.length_filter_le _ _) ?_
        rw [List.length_take]; omega
      generalize (tuplesF (openL (unlike (told log))) n)[i] = st at tpv hst tks
      have test : Eva K (tCB (rAll K) (tCons (tLc (iRng1 (tCons (tCB (rLen2 K) (tCons (tVar 2) tNil)) tNil)) (gName 12) tYes (tCall (spHeld K) [] E0 (tCons (tOp (rIx K) (tVar 5) (tVar 12)) (tCons (tVar 11) (tCons (tOp (rIx K) (tVar 2) (tVar 12)) (tCons (tOp (rIx K) (tVar 9) (tVar 12)) tNil))))) [12]) tNil))
          [some (.int (n : Int)), some tv, some uv, some nv, some (.ref pF), some (.ref pT), z6, z7, z8, some (.ref pA), none, some v, none] H' (.bool (g st)) := by
        refine eva_is (eva_all (ns := (List.range log.length).map fun j => heldB n (log.getD j (.bid 0, (0, 1))).1 st (log.getD j (.bid 0, (0, 1))).2 (atOf (unlike (told log)) (log.getD j (.bid 0, (0, 1))).2)) (EvaL.eva (EvaL.is (evl_lc1 (K := K) (fun j => .bool (heldB n (log.getD j (.bid 0, (0, 1))).1 st (log.getD j (.bid 0, (0, 1))).2 (atOf (unlike (told log)) (log.getD j (.bid 0, (0, 1))).2))) (evi_rng (n := (log.length : Int)) (evaa_cons (eva_is (eva_lenL (eva_var (i := 2) rfl (dp_ex ex hu))) (by rw [List.length_map, tl])) evaa_nil) (by omega) (by omega)) (by rw [List.length_range]; omega) (fun a σ2 H2 _ hp => ?_) (fun j σ2 H6 hj ex6 hp => ?_) (fun _ _ => rfl)) (by rw [show (log.length : Int).toNat = log.length by omega, List.map_map]; rfl)))) ?_
        · cases hp; rfl
        · cases hp
          have hj' : j < log.length := by have := List.mem_range.mp hj; omega
          have eg : log.getD j (.bid 0, (0, 1)) = log[j] := by rw [List.getD_eq_getElem?_getD, List.getElem?_eq_getElem hj']; rfl
          rw [eg]
          have hm := List.getElem_mem hj'
          have tg : (told log)[j]? = some log[j].2 := by unfold told; rw [List.getElem?_map, List.getElem?_eq_getElem hj']; rfl
          refine eva_held (t := log[j].1) (fun H7 e7 Q q => ?_) (eva_var (i := 11) rfl (tpv.ty (.of ex6)).dp) (eva_ixL (eva_var (i := 2) rfl (dp_ex (ex.trans ex6) hu)) (eva_var rfl (.int (j : Int))) (atN (by rw [List.getElem?_map, tg]; rfl))) (eva_ixL (ds := ((told log).map fun x => (atOf (unlike (told log)) x : Int)).map PyData.int) (eva_var (i := 9) rfl (dp_newL (ex6 pA _ hpa') (dpa_ofints _))) (eva_var rfl (.int (j : Int))) (atN (by rw [List.getElem?_map, List.getElem?_map, tg]; rfl))) (ok.rt _ hm) hst ((ok.ok _ hm).fq (by decide))
          have hw : j < tws.length := by rw [paired_len htab']; simpa using hj'
          have r1 := paired_at (F := fun v t => TabL K n v t H') htab' (List.getElem?_eq_getElem hw) (by rw [List.getElem?_map, List.getElem?_eq_getElem hj']; rfl)
          refine ⟨_, rfl, _, rfl, .inl ⟨pT, tws, (j : Int), tws[j], rfl, rfl, .inl (.inl ((ex6.trans e7) pT _ hpt')), ?_, q _ H7 (Ex.refl _) (r1.ex (ex6.trans e7))⟩⟩
          unfold atI
          have : ixN tws.length (j : Int) = some j := by
            unfold ixN
            simp [hw]
          rw [this]
          exact List.getElem?_eq_getElem hw
        · congr 1
          show _ = log.all _
          rw [List.all_map]
          refine Bool.eq_iff_iff.mpr ?_
          rw [List.all_eq_true, List.all_eq_true]
          constructor
          · intro h p hp
            obtain ⟨j, hj, e⟩ := List.getElem_of_mem hp
            have := h j (List.mem_range.mpr hj)
            have eg : log.getD j (.bid 0, (0, 1)) = log[j] := by rw [List.getD_eq_getElem?_getD, List.getElem?_eq_getElem hj]; rfl
            simp only [Function.comp_apply, eg, id] at this
            rw [← e]; exact this
          · intro h j hj
            have hj' := List.mem_range.mp hj
            have eg : log.getD j (.bid 0, (0, 1)) = log[j] := by rw [List.getD_eq_getElem?_getD, List.getElem?_eq_getElem hj']; rfl
            simp only [Function.comp_apply, eg, id]
            exact h _ (List.getElem_mem hj')
      refine Evl.s_when (evt_B (K := K) test) (fun hb H6 e6 => ?_) (fun hb H6 e6 => ?_)
      · refine s_app (R := fun v H => Tp st v H) rfl (e6 pF _ hpf') (evr_tp rfl (tpv.ty (.of e6))) (by omega) fun y H7 e7 ty hp7 => ?_
        have e67 := e6.trans e7
        have tyM : Ty H7 (upd H7 pF (.lst (ws ++ [y]))) := .upd hp7 rfl
        refine ⟨_, some v, rfl, (ex.trans e67).mut npFH, by rw [upd_ne (Ne.symm plF)]; exact e67 l _ hl', (hls'.ty (.of e67)).ty tyM, by rw [upd_ne pTF]; exact e67 pT _ hpt', Paired.mapP htab' fun v t r => (r.ex e67).mutL hp7, by rw [upd_ne pAF]; exact e67 pA _ hpa', upd_same, ?_⟩
        rw [tks, if_pos hb, List.map_append]
        exact dpa_mut (dpa_app (dpa_ex e67 hd) (dpa_one ty.dp)) (imAll_app (im_lots _) (im_lots [st])) hp7 rfl
      · refine ivx (i := i + 1) (H' := H') ⟨ws, some v, rfl, ex, hl', hls', hpt', htab', hpa', hpf', ?_⟩ e6
        rw [tks, if_neg (by rw [hb]; exact Bool.false_ne_true), List.append_nil]
        exact hd
    · obtain ⟨ws, z11, rfl, ex, hl', hls', hpt', htab', hpa', hpf', hd⟩ := hP
      rw [List.take_length] at hd
      exact ⟨_, rfl, q pF ws H' npFH ex hpf' (dpa_tx (tx_er hpf' rfl) hd (im_lots _))⟩
end
end Cb
set_option Elab.async false
set_option linter.all false
set_option maxRecDepth 100000
set_option maxHeartbeats 8000000
/-! Cb, the layer: what draws from the dice. -/
namespace Cb
open PySem PySem.Spec PyProof.Rows L2 Evl
/-- the dice: a list of one's own -/
def Dice (H : Hp) (p : Addr) : Prop := ∃ (c : Addr) (cs : List Int) (pos : Nat) (big st ct : Int), H p = some (.lst [.ref c, .int (pos : Int), .int big, .int st, .int ct]) ∧ c ≠ p ∧ H c = some (.lst (cs.map V.int)) ∧ (∀ x ∈ cs, 0 ≤ x) ∧ pos ≤ cs.length ∧ 0 ≤ big ∧ 0 ≤ st ∧ st < 2147483647 ∧ 0 ≤ ct
theorem Dice.ex {H H' : Hp} {p : Addr} (e : Ex H H') (h : Dice H p) : Dice H' p := by
  obtain ⟨c, cs, pos, big, st, ct, h1, h2, h3, h4⟩ := h
  exact ⟨c, cs, pos, big, st, ct, e p _ h1, h2, e c _ h3, h4⟩
theorem Dice.lst {H : Hp} {p : Addr} (h : Dice H p) : ∃ ws, H p = some (.lst ws) := by
  obtain ⟨c, cs, pos, big, st, ct, h1, _⟩ := h
  exact ⟨_, h1⟩
/-- where the cells stand -/
def cellOf (H : Hp) (p c : Addr) : Prop := ∃ rest, H p = some (.lst (.ref c :: rest))
/-- what stays but the dice -/
structure XD (p : Addr) (H H' : Hp) : Prop where
  x : Ex (er H p) (er H' p)
  d : Dice H' p
  c : ∀ c, cellOf H p c → cellOf H' p c
theorem XD.trans {p : Addr} {H1 H2 H3 : Hp} (a : XD p H1 H2) (b : XD p H2 H3) : XD p H1 H3 := ⟨a.x.trans b.x, b.d, fun c h => b.c c (a.c c h)⟩
theorem XD.of {p : Addr} {H H' : Hp} (e : Ex H H') (d : Dice H p) : XD p H H' := ⟨er_mono e, d.ex e, fun c ⟨rest, h⟩ => ⟨rest, e p _ h⟩⟩
theorem XD.refl {p : Addr} {H : Hp} (d : Dice H p) : XD p H H := ⟨Ex.refl _, d, fun _ h => h⟩
theorem XD.full {p : Addr} {H H' : Hp} (x : XD p H H') : Ex (er H p) H' := x.x.trans er_ex
section
variable {K : PySem.W.Frag}
theorem dp_er {H : Hp} {p : Addr} {v : V} {d : PyData} (h : Dp K H v d) (m : im d = true) (hd : Dice H p) : Dp K (er H p) v d := by
  obtain ⟨ws, h1⟩ := hd.lst
  exact dp_tx (tx_er h1 rfl) h m
theorem dpa_er {H : Hp} {p : Addr} {vs : List V} {ds : List PyData} (h : DpAll K H vs ds) (m : imAll ds = true) (hd : Dice H p) : DpAll K (er H p) vs ds := by
  obtain ⟨ws, h1⟩ := hd.lst
  exact dpa_tx (tx_er h1 rfl) h m
/-- an expression that may draw: its data satisfies S -/
def EvS (K : PySem.W.Frag) (p : Addr) (te : TE) (σ : L2.St) (H : Hp) (S : PyData → Prop) : Prop := ∀ H1, XD p H H1 → ∀ Q : VK, (∀ v H2 d, XD p H1 H2 → S d → Dp K (er H2 p) v d → Q v H2) → te σ H1 Q
def EvSA (K : PySem.W.Frag) (p : Addr) (ta : TA) (σ : L2.St) (H : Hp) (S : List PyData → Prop) : Prop := ∀ H1, XD p H H1 → ∀ Q : List V → Hp → Prop, (∀ vs H2 ds, XD p H1 H2 → S ds → DpAll K (er H2 p) vs ds → Q vs H2) → ta σ H1 Q
variable {p : Addr} {σ : L2.St} {H H' : Hp} {te ta tb : TE} {tg : TA} {S S1 S2 : PyData → Prop} {d : PyData} {ds : List PyData}
theorem EvS.mono (x : XD p H H') (h : EvS K p te σ H S) : EvS K p te σ H' S := fun H1 y Q q => h H1 (x.trans y) Q q
theorem EvSA.mono {SA : List PyData → Prop} (x : XD p H H') (h : EvSA K p tg σ H SA) : EvSA K p tg σ H' SA := fun H1 y Q q => h H1 (x.trans y) Q q
theorem EvS.imp (h : EvS K p te σ H S1) (i : ∀ d, S1 d → S2 d) : EvS K p te σ H S2 := fun H1 x Q q => h H1 x Q fun v H2 d x2 s dv => q v H2 d x2 (i d s) dv
theorem EvSA.imp {SA SB : List PyData → Prop} (h : EvSA K p tg σ H SA) (i : ∀ d, SA d → SB d) : EvSA K p tg σ H SB := fun H1 x Q q => h H1 x Q fun v H2 d x2 s dv => q v H2 d x2 (i d s) dv
/-- without a draw, immutable data -/
theorem evs_pure (h : Eva K te σ (er H p) d) (m : im d = true) : EvS K p te σ H (fun z => z = d) := fun H1 x Q q => h H1 x.full _ fun v H2 e dv => q v H2 d (.of e x.d) rfl (dp_er dv m (x.d.ex e))
theorem evs_var {i : Nat} {v : V} (hv : σ[i]? = some (some v)) (h : Dp K (er H p) v d) : EvS K p (tVar i) σ H (fun z => z = d) := fun H1 x Q q => ⟨v, hv, q v H1 d (.refl x.d) rfl (dp_ex x.x h)⟩
theorem evs_int {i : Int} : EvS K p (tC (.int i)) σ H (fun z => z = .int i) := evs_pure eva_int rfl
theorem evsa_nil : EvSA K p tNil σ H (fun z => z = []) := fun H1 x Q q => q [] H1 [] (.refl x.d) rfl .nil
theorem evsa_cons {SA : List PyData → Prop} (h : EvS K p te σ H S) (ht : EvSA K p tg σ H SA) : EvSA K p (tCons te tg) σ H (fun z => ∃ d ds, z = d :: ds ∧ S d ∧ SA ds) := fun H1 x Q q =>
  h H1 x _ fun v H2 d x2 s dv => ht H2 (x.trans x2) _ fun vs H3 ds x3 sa dvs => q (v :: vs) H3 (d :: ds) (x2.trans x3) ⟨d, ds, rfl, s, sa⟩ (.cons (dp_ex x3.x dv) dvs)
/-- ints -/
abbrev SI (P : Int → Prop) : PyData → Prop := fun d => ∃ i, d = .int i ∧ P i
abbrev SB (P : Bool → Prop) : PyData → Prop := fun d => ∃ b, d = .bool b ∧ P b
theorem evs_I0 {g : Int → Int → Int} {P1 P2 : Int → Prop} (ha : EvS K p ta σ H (SI P1)) (hb : EvS K p tb σ H (SI P2)) : EvS K p (tOp (rI0 fun i j => .int (g i j)) ta tb) σ H (SI fun k => ∃ i j, P1 i ∧ P2 j ∧ k = g i j) := fun H1 x Q q =>
  ha H1 x _ fun v H2 d x2 ⟨i, ei, pi⟩ dv => hb H2 (x.trans x2) _ fun u H3 d' x3 ⟨j, ej, pj⟩ du => by
    subst ei ej
    cases dv
    cases du
    exact ⟨i, j, rfl, rfl, q _ H3 _ (x2.trans x3) ⟨_, rfl, i, j, pi, pj, rfl⟩ (.int _)⟩
theorem evs_eqI {P1 P2 : Int → Prop} (ha : EvS K p ta σ H (SI P1)) (hb : EvS K p tb σ H (SI P2)) : EvS K p (tOp rEq ta tb) σ H (SB fun k => ∃ i j, P1 i ∧ P2 j ∧ k = decide (i = j)) := fun H1 x Q q =>
  ha H1 x _ fun v H2 d x2 ⟨i, ei, pi⟩ dv => hb H2 (x.trans x2) _ fun u H3 d' x3 ⟨j, ej, pj⟩ du => by
    subst ei ej
    cases dv
    cases du
    refine ⟨rfl, ?_⟩
    have e : decide ((V.int i) = V.int j) = decide (i = j) := decide_eq_decide.mpr ⟨fun h => V.int.inj h, fun h => by rw [h]⟩
    rw [e]
    exact q _ H3 _ (x2.trans x3) ⟨_, rfl, i, j, pi, pj, rfl⟩ (.bl _)
theorem evs_lst {SA : List PyData → Prop} (h : EvSA K p tg σ H SA) (hl : ∀ ds, SA ds → ds.length ≤ 100000) : EvS K p (tLst tg) σ H (fun z => ∃ ds, z = .list ds ∧ SA ds) := fun H1 x Q q =>
  h H1 x _ fun vs H2 ds x2 s dvs => ⟨by rw [dpa_len dvs]; exact sz_of (hl ds s), fun r hr => by
    have e : Ex H2 (upd H2 r (.lst vs)) := Ex.new hr
    have ne : r ≠ p := fun z => by
      obtain ⟨ws, h1⟩ := x2.d.lst
      rw [z, h1] at hr; cases hr
    exact q _ _ _ (x2.trans (.of e x2.d)) ⟨ds, rfl, s⟩ (dp_newL (by rw [er_ne ne]; exact upd_same) (dpa_ex (er_mono e) dvs))⟩
theorem evs_tup {SA : List PyData → Prop} (h : EvSA K p tg σ H SA) (hl : ∀ ds, SA ds → ds.length ≤ 100000) : EvS K p (tTup tg) σ H (fun z => ∃ ds, z = .tuple ds ∧ SA ds) := fun H1 x Q q =>
  h H1 x _ fun vs H2 ds x2 s dvs => ⟨by rw [dpa_len dvs]; exact sz_of (hl ds s), fun r hr => by
    have e : Ex H2 (upd H2 r (.tup vs)) := Ex.new hr
    have ne : r ≠ p := fun z => by
      obtain ⟨ws, h1⟩ := x2.d.lst
      rw [z, h1] at hr; cases hr
    exact q _ _ _ (x2.trans (.of e x2.d)) ⟨ds, rfl, s⟩ (dp_newT (by rw [er_ne ne]; exact upd_same) (dpa_ex (er_mono e) dvs))⟩
theorem evs_tupL {SA : List PyData → Prop} (h : EvS K p te σ H (fun z => ∃ ds, z = .list ds ∧ SA ds)) : EvS K p (tCB (rTup2 K) (tCons te tNil)) σ H (fun z => ∃ ds, z = .tuple ds ∧ SA ds) := fun H1 x Q q =>
  h H1 x _ fun v H2 d x2 ⟨ds, e, s⟩ dv => by
    subst e
    obtain ⟨a, xs, rfl, ha, hx⟩ := dp_lst dv
    refine ⟨a, xs, rfl, .inl ⟨ex_l er_ex ha, fun r hr => ?_⟩⟩
    have e : Ex H2 (upd H2 r (.tup xs)) := Ex.new hr
    have ne : r ≠ p := fun z => by
      obtain ⟨ws, h1⟩ := x2.d.lst
      rw [z, h1] at hr; cases hr
    exact q _ _ _ (x2.trans (.of e x2.d)) ⟨ds, rfl, s⟩ (dp_newT (by rw [er_ne ne]; exact upd_same) (dpa_ex (er_mono e) hx))
/-- xs[i] -/
theorem evs_ixL {SL : List PyData → Prop} {P : Int → Prop} (ha : EvS K p ta σ H (fun z => ∃ ds, z = .list ds ∧ SL ds)) (hb : EvS K p tb σ H (SI P)) (hs : ∀ ds i, SL ds → P i → ∃ d, atI ds i = some d ∧ S d) : EvS K p (tOp (rIx K) ta tb) σ H S := fun H1 x Q q =>
  ha H1 x _ fun v H2 d x2 ⟨ds, e1, s1⟩ dv => hb H2 (x.trans x2) _ fun u H3 d' x3 ⟨i, e2, s2⟩ du => by
    subst e1 e2
    obtain ⟨a, xs, rfl, ha, hx⟩ := dp_lst (dp_ex x3.x dv)
    obtain ⟨d, hd, sd⟩ := hs ds i s1 s2
    obtain ⟨w, hw, dw⟩ := atI_dpa hx hd
    exact .inl ⟨a, xs, i, w, rfl, dp_int du, ex_l er_ex ha, hw, q w H3 d (x2.trans x3) sd dw⟩
/-- calls that do not draw -/
theorem evs_callR {R : List PyData → PyData → Prop} {E : XK} {SA : List PyData → Prop} (h : EvSA K p tg σ H SA) (hr : ∀ ds, SA ds → ∃ d, R ds d ∧ S d ∧ im d = true) : EvS K p (tCall (spR K R) [] E tg) σ H S := fun H1 x Q q =>
  h H1 x _ fun vs H2 ds x2 s dvs => by
    obtain ⟨d, r, sd, m⟩ := hr ds s
    exact ⟨ds, d, by rw [List.append_nil]; exact dpa_ex er_ex dvs, r, fun v H3 e dv => q v H3 d (x2.trans (.of e x2.d)) sd (dp_er dv m (x2.d.ex e))⟩
theorem evs_callL {R : List PyData → List PyData → Prop} {E : XK} {SA : List PyData → Prop} (h : EvSA K p tg σ H SA) (hr : ∀ ds, SA ds → ∃ es, R ds es ∧ S (.list es) ∧ imAll es = true) : EvS K p (tCall (spL K R) [] E tg) σ H S := fun H1 x Q q =>
  h H1 x _ fun vs H2 ds x2 s dvs => by
    obtain ⟨es, r, sd, m⟩ := hr ds s
    refine ⟨ds, es, by rw [List.append_nil]; exact dpa_ex er_ex dvs, r, fun a ws H3 na e ha dv => ?_⟩
    have ne : a ≠ p := fun z => by
      obtain ⟨ws, h1⟩ := x2.d.lst
      rw [z, h1] at na; cases na
    refine q _ H3 _ (x2.trans (.of e x2.d)) sd (dp_newL (by rw [er_ne ne]; exact ha) ?_)
    exact dpa_er (dpa_ex er_ex dv) m (x2.d.ex e)
/-! ### promises that draw -/
def spD (K : PySem.W.Frag) (Pre : List PyData → Prop) (Post : List PyData → PyData → Prop) : Sp := fun vs H Q _ => ∃ p rest ds, vs = .ref p :: rest ∧ Dice H p ∧ DpAll K (er H p) rest ds ∧ Pre ds ∧ ∀ v H2 d, XD p H H2 → Post ds d → Dp K (er H2 p) v d → Q v H2
theorem evs_callD {Pre : List PyData → Prop} {Post : List PyData → PyData → Prop} {E : XK} {SA : List PyData → Prop} {i : Nat} (hv : σ[i]? = some (some (.ref p))) (h : EvSA K p tg σ H SA) (hp : ∀ ds, SA ds → Pre ds) (hs : ∀ ds d, SA ds → Post ds d → S d) : EvS K p (tCall (spD K Pre Post) [] E (tCons (tVar i) tg)) σ H S := fun H1 x Q q =>
  ⟨_, hv, h H1 x _ fun vs H2 ds x2 s dvs => ⟨p, vs, ds, by rw [List.append_nil], x2.d, dvs, hp ds s, fun v H3 d x3 po dv => q v H3 d (x2.trans x3) (hs ds d s po) dv⟩⟩
/-! ### statements -/
variable {D : Ends} {tz tu tw : TS}
theorem sD_ret (hd : Dice H p) (h : EvS K p te σ H S) (k : ∀ v H2 d, XD p H H2 → S d → Dp K (er H2 p) v d → D.rt v H2) : tRet te D σ H := h H (.refl hd) _ k
theorem sD_asg {i : Nat} (hd : Dice H p) (h : EvS K p te σ H S) (k : ∀ v H2 d, XD p H H2 → S d → Dp K (er H2 p) v d → D.nx (σ.set i (some v)) H2) : tAsg te (gName i) D σ H := h H (.refl hd) _ k
theorem qD_asg {i : Nat} (hd : Dice H p) (h : EvS K p te σ H S) (k : ∀ v H2 d, XD p H H2 → S d → Dp K (er H2 p) v d → tz D (σ.set i (some v)) H2) : tSeq (tAsg te (gName i)) tz D σ H := h H (.refl hd) _ k
/-- a test that may draw -/
def EvST (p : Addr) (tt : TT) (σ : L2.St) (H : Hp) (P : Bool → Prop) : Prop := ∀ H1, XD p H H1 → ∀ Q : Bool → Hp → Prop, (∀ b H2, XD p H1 H2 → P b → Q b H2) → tt σ H1 Q
theorem evst_T {P : Bool → Prop} (h : EvS K p te σ H (SB P)) : EvST p (tTest te) σ H P := fun H1 x Q q => h H1 x _ fun v H2 d x2 ⟨b, e, pb⟩ dv => by
  subst e
  exact ⟨b, dp_bl dv, q b H2 x2 pb⟩
theorem evst_B {P : Bool → Prop} (h : EvS K p te σ H (SB P)) : EvST p (tB te) σ H P := fun H1 x Q q => h H1 x _ fun v H2 d x2 ⟨b, e, pb⟩ dv => by
  subst e
  exact ⟨b, dp_bl dv, q b H2 x2 pb⟩
theorem qD_when {tt : TT} {P : Bool → Prop} (hd : Dice H p) (h : EvST p tt σ H P) (ht : ∀ H2, XD p H H2 → P true → tu { D with nx := tz D } σ H2) (hf : ∀ H2, XD p H H2 → P false → tz D σ H2) : tSeq (tIfS tt tu tNext) tz D σ H := h H (.refl hd) _ fun b H2 x2 pb => by
  cases b with
  | true => exact ht H2 x2 pb
  | false => exact hf H2 x2 pb
end
theorem er_upd_ne {H : Hp} {p q : Addr} {o : HO} (h : q ≠ p) : er (upd H q o) p = upd (er H p) q o := by
  funext a
  unfold er
  by_cases e : a = p
  · have ne : a ≠ q := fun z => h (z.symm.trans e)
    rw [if_pos e, upd_ne ne, if_pos e]
  · rw [if_neg e]
    by_cases e2 : a = q
    · rw [e2, upd_same, upd_same]
    · rw [upd_ne e2, upd_ne e2, if_neg e]
/-- a list of one's own that stands beside the dice -/
theorem Dice.mut {H : Hp} {p c q : Addr} {o : HO} (h : Dice H p) (hc : cellOf H p c) (h1 : q ≠ p) (h2 : q ≠ c) : Dice (upd H q o) p := by
  obtain ⟨c', cs, pos, big, st, ct, g1, g2, g3, g4⟩ := h
  obtain ⟨rest, g⟩ := hc
  rw [g1] at g
  cases g
  exact ⟨c, cs, pos, big, st, ct, by rw [upd_ne (Ne.symm h1)]; exact g1, g2, by rw [upd_ne (Ne.symm h2)]; exact g3, g4⟩
theorem Dice.cell {H : Hp} {p : Addr} (h : Dice H p) : ∃ (c : Addr) (cs : List Int), cellOf H p c ∧ H c = some (.lst (cs.map V.int)) ∧ c ≠ p := by
  obtain ⟨c, cs, pos, big, st, ct, g1, g2, g3, g4⟩ := h
  exact ⟨c, cs, ⟨_, g1⟩, g3, g2⟩
/-- a list that is new to H1 is changed -/
theorem XD.mut {H1 H6 : Hp} {p D : Addr} {o : HO} (d1 : Dice H1 p) (x : XD p H1 H6) (hD : H1 D = none) (ne : D ≠ p) : XD p H1 (upd H6 D o) := by
  obtain ⟨c, cs, c1, c2, c3⟩ := d1.cell
  have nc : D ≠ c := fun z => by rw [z, c2] at hD; cases hD
  refine ⟨?_, x.d.mut (x.c c c1) ne nc, fun c' h => ?_⟩
  · rw [er_upd_ne ne]
    exact x.x.mut (by rw [er_ne ne]; exact hD)
  · obtain ⟨rest, h⟩ := x.c c' h
    exact ⟨rest, by rw [upd_ne (Ne.symm ne)]; exact h⟩
section
variable {K : PySem.W.Frag} {α : Type}
/-- a comprehension whose items may draw, a new list -/
theorem lcd_coreL {J : It} {g : TG} {te : TE} {vs : List Nat} {σ : L2.St} {H H1 : Hp} {p : Addr} {xs : List α} {P : α → L2.St → L2.St → Hp → Prop} {S : α → PyData → Prop} {Q : VK} (wk : Wk J (Ex (er H p)) g xs P) (hz : xs.length < 100000)
    (hw : ∀ a σ2 H2, a ∈ xs → P a (wipe σ vs) σ2 H2 → wipe σ2 vs = wipe σ vs) (he : ∀ a σ2 H3, a ∈ xs → XD p H H3 → P a (wipe σ vs) σ2 H3 → EvS K p te σ2 H3 (S a)) (hm : ∀ a d, a ∈ xs → S a d → im d = true)
    (x1 : XD p H H1) (q : ∀ D ws ds H2, H1 D = none → D ≠ p → XD p H1 H2 → H2 D = some (.lst ws) → DpAll K (er (er H2 p) D) ws ds → imAll ds = true → Paired S xs ds → Q (.ref D) H2) : tLc (fun _ H R => R J H) g tYes te vs σ H1 Q := by
  intro D hD1
  have ne : D ≠ p := fun z => by
    obtain ⟨ws, h⟩ := x1.d.lst
    rw [z, h] at hD1; cases hD1
  let In : Nat → Hp → Prop := fun i H' => XD p H1 H' ∧ ∃ ws ds, H' D = some (.lst ws) ∧ ws.length ≤ i ∧ DpAll K (er (er H' p) D) ws ds ∧ imAll ds = true ∧ Paired S (xs.take i) ds
  refine ⟨fun i m H' => m = xs.length - i ∧ i ≤ xs.length ∧ In i H', ⟨xs.length, by simp, Nat.zero_le _, XD.mut x1.d (.refl x1.d) hD1 ne, [], [], upd_same, Nat.le_refl _, .nil, rfl, .nil⟩, ?_⟩
  rintro i m H3 ⟨rfl, hi, x3, ws, ds, h3, hl, hd, hds, hp⟩
  by_cases hlt : i < xs.length
  · refine .inr ⟨wk.goes i H3 hlt (x1.trans x3).full, In (i + 1), fun H' p' => ⟨xs.length - (i + 1), by omega, rfl, hlt, p'⟩, fun x H' y => ?_⟩
    refine wk.item i hlt H3 x H' (x1.trans x3).full y _ _ fun σ2 H4 e4 hP => ⟨hw _ _ _ (List.getElem_mem hlt) hP, ?_⟩
    have x34 := XD.of e4 x3.d
    refine evt_yes (σ := σ2) (H := H4) H4 (Ex.refl _) _ fun H5 e5 => ?_
    have tk : xs.take (i + 1) = xs.take i ++ [xs[i]] := by rw [List.take_add_one, List.getElem?_eq_getElem hlt]; rfl
    show te σ2 H5 _
    refine he _ _ _ (List.getElem_mem hlt) ((x1.trans x3).trans x34) hP H5 (XD.of e5 x34.d) _ fun v H6 d x6 s dv => ?_
    have x36 := (x34.trans (XD.of e5 x34.d)).trans x6
    have h6 : H6 D = some (.lst ws) := by
      have := x36.x D _ (by rw [er_ne ne]; exact h3)
      rwa [er_ne ne] at this
    refine ⟨ws, h6, sz_lt (by omega), XD.mut x1.d (x3.trans x36) hD1 ne, ws ++ [v], ds ++ [d], upd_same, by simp; omega, ?_, imAll_app hds (by simp [imAll, hm _ _ (List.getElem_mem hlt) s]), ?_⟩
    · rw [er_upd_ne ne, er_upd]
      have hD6 : (er H6 p) D = some (.lst ws) := by rw [er_ne ne]; exact h6
      exact dpa_app (dpa_ex (er_mono x36.x) hd) (dpa_one (dp_tx (tx_er hD6 rfl) dv (hm _ _ (List.getElem_mem hlt) s)))
    · rw [tk]
      exact paired_app hp (.cons s .nil)
  · have ei : i = xs.length := by omega
    subst ei
    rw [List.take_length] at hp
    exact .inl ⟨wk.stops H3 (x1.trans x3).full, q D ws ds H3 hD1 ne x3 h3 hd hds hp⟩
theorem lcd_core {J : It} {g : TG} {te : TE} {vs : List Nat} {σ : L2.St} {H H1 : Hp} {p : Addr} {xs : List α} {P : α → L2.St → L2.St → Hp → Prop} {S : α → PyData → Prop} {Q : VK} (wk : Wk J (Ex (er H p)) g xs P) (hz : xs.length < 100000)
    (hw : ∀ a σ2 H2, a ∈ xs → P a (wipe σ vs) σ2 H2 → wipe σ2 vs = wipe σ vs) (he : ∀ a σ2 H3, a ∈ xs → XD p H H3 → P a (wipe σ vs) σ2 H3 → EvS K p te σ2 H3 (S a)) (hm : ∀ a d, a ∈ xs → S a d → im d = true)
    (x1 : XD p H H1) (q : ∀ v H2 d, XD p H1 H2 → (∃ ds, d = .list ds ∧ Paired S xs ds) → Dp K (er H2 p) v d → Q v H2) : tLc (fun _ H R => R J H) g tYes te vs σ H1 Q :=
  lcd_coreL wk hz hw he hm x1 fun D ws ds H2 _ ne x3 h3 hd _ hp => q (.ref D) H2 (.list ds) x3 ⟨ds, rfl, hp⟩ (dp_newL (by rw [er_ne ne]; exact h3) (dpa_ex er_ex hd))
theorem evs_lc {wi : TI} {g : TG} {te : TE} {vs : List Nat} {σ : L2.St} {H : Hp} {p : Addr} {xs : List α} {P : α → L2.St → L2.St → Hp → Prop} {S : α → PyData → Prop} (hi : EvG wi g σ (er H p) (Ex (er H p)) xs P) (hz : xs.length < 100000)
    (hw : ∀ a σ2 H2, a ∈ xs → P a (wipe σ vs) σ2 H2 → wipe σ2 vs = wipe σ vs) (he : ∀ a σ2 H3, a ∈ xs → XD p H H3 → P a (wipe σ vs) σ2 H3 → EvS K p te σ2 H3 (S a)) (hm : ∀ a d, a ∈ xs → S a d → im d = true) :
    EvS K p (tLc wi g tYes te vs) σ H (fun z => ∃ ds, z = .list ds ∧ Paired S xs ds) := fun H1 x1 Q q =>
  hi H1 x1.full _ fun J H2 e2 wk => lcd_core (J := J) wk hz hw he hm (x1.trans (.of e2 x1.d)) (fun v H3 d x3 s dv => q v H3 d ((XD.of e2 x1.d).trans x3) s dv)
theorem paired_all {β : Type} {S : β → Prop} : ∀ {xs : List α} {ds : List β}, Paired (fun _ d => S d) xs ds → ∀ d ∈ ds, S d
  | _, _, .nil, d, h => by cases h
  | _, _, .cons a t, d, h => by
    rcases List.mem_cons.mp h with e | e
    · rw [e]; exact a
    · exact paired_all t d e
/-- over a range whose length may be drawn -/
theorem evs_lcN {te tn : TE} {vs : List Nat} {j : Nat} {σ : L2.St} {H : Hp} {p : Addr} {S : PyData → Prop} {Pn : Int → Prop} (hn : EvS K p tn σ H (SI Pn)) (hP : ∀ n, Pn n → 0 ≤ n ∧ n ≤ 1000)
    (hw : ∀ i σ2 H2, PN j i (wipe σ vs) σ2 H2 → wipe σ2 vs = wipe σ vs) (he : ∀ i σ2 H3, XD p H H3 → PN j i (wipe σ vs) σ2 H3 → EvS K p te σ2 H3 S) (hm : ∀ d, S d → im d = true) :
    EvS K p (tLc (iRng1 (tCons tn tNil)) (gName j) tYes te vs) σ H (fun z => ∃ ds, z = .list ds ∧ Pn (ds.length : Int) ∧ ∀ d ∈ ds, S d) := fun H1 x1 Q q =>
  hn H1 x1 _ fun v H2 d x2 ⟨n, ed, pn⟩ dv => by
    subst ed
    cases dv
    have hb := hP n pn
    refine ⟨n, rfl, by omega, by omega, ?_⟩
    refine lcd_core (J := Itr 0 n.toNat) (H := H) (S := fun _ => S) (wk_rng (j := j) rfl) (by rw [List.length_range]; omega) (fun a σ2 H2 _ h => hw a σ2 H2 h) (fun a σ2 H3 _ x3 h => he a σ2 H3 x3 h) (fun _ d _ h => hm d h) (x1.trans x2) (fun v H3 d x3 ⟨ds, e, pr⟩ dv => q v H3 d (x2.trans x3) ⟨ds, e, ?_, paired_all pr⟩ dv)
    have := paired_len pr
    rw [List.length_range] at this
    rw [← this, show ((n.toNat : Nat) : Int) = n by omega]
    exact pn
end
end Cb
set_option Elab.async false
set_option linter.all false
set_option maxRecDepth 100000
set_option maxHeartbeats 8000000
/-! Cb, the law's defs 20: the dice. -/
namespace Cb
open PySem PySem.Spec PyProof.Rows L2 Evl
def DV (p c : Addr) (cs : List Int) (pos : Nat) (big st ct : Int) (H : Hp) : Prop := H p = some (.lst [.ref c, .int (pos : Int), .int big, .int st, .int ct]) ∧ c ≠ p ∧ H c = some (.lst (cs.map V.int))
theorem dv_dp {K : PySem.W.Frag} {p c : Addr} {cs : List Int} {pos : Nat} {big st ct : Int} {H : Hp} (h : DV p c cs pos big st ct H) : Dp K H (.ref p) (.list [.list (cs.map PyData.int), .int (pos : Int), .int big, .int st, .int ct]) :=
  dp_newL h.1 (.cons (dp_newL h.2.2 (dpa_ofints cs)) (.cons (.int _) (.cons (.int _) (.cons (.int _) (.cons (.int _) .nil)))))
theorem dv_ex {p c : Addr} {cs : List Int} {pos : Nat} {big st ct : Int} {H H' : Hp} (e : Ex H H') (h : DV p c cs pos big st ct H) : DV p c cs pos big st ct H' := ⟨e p _ h.1, h.2.1, e c _ h.2.2⟩
theorem dv_dice {p c : Addr} {cs : List Int} {pos : Nat} {big st ct : Int} {H : Hp} (h : DV p c cs pos big st ct H) (h1 : ∀ x ∈ cs, 0 ≤ x) (h2 : pos ≤ cs.length) (h3 : 0 ≤ big) (h4 : 0 ≤ st) (h5 : st < 2147483647) (h6 : 0 ≤ ct) : Dice H p := ⟨c, cs, pos, big, st, ct, h.1, h.2.1, h.2.2, h1, h2, h3, h4, h5, h6⟩
theorem dv_set {p c : Addr} {cs : List Int} {pos : Nat} {big st ct : Int} {H : Hp} (h : DV p c cs pos big st ct H) {pos' : Nat} {big' st' ct' : Int} : DV p c cs pos' big' st' ct' (upd H p (.lst [.ref c, .int (pos' : Int), .int big', .int st', .int ct'])) := ⟨upd_same, h.2.1, by rw [upd_ne h.2.1]; exact h.2.2⟩
section
variable {K : PySem.W.Frag} {σ : L2.St} {H : Hp} {te ta tb : TE} {p c : Addr} {cs : List Int} {pos : Nat} {big st ct : Int}
theorem evx_int {i : Int} (h : Eva K te σ H (.int i)) : Evl.Ev te σ H (.int i) := fun H1 e Q q => h H1 e _ fun v H2 e2 dv => by rw [dp_int dv]; exact q H2 e2
theorem eva_abs1 {i : Int} (h : Eva K te σ H (.int i)) : Eva K (tCB (fun xs H Q => ∃ i, xs = [.int i] ∧ Q (.int (if i < 0 then -i else i)) H) (tCons te tNil)) σ H (.int (i.natAbs : Int)) := eva_is (eva_abs h) (by rw [abs_nat])
/-- a question, then the same way on -/
theorem q_whenT {tt : TT} {tu tz : TS} {D : Ends} {b : Bool} {Iv : L2.St → Hp → Prop} (tail : ∀ σ' H', Iv σ' H' → tz D σ' H') (h : EvT tt σ H b) (hb : b = true → ∀ H2, Ex H H2 → (∀ σ' H', Iv σ' H' → tz D σ' H') → tu { D with nx := tz D } σ H2) (hf : b = false → ∀ H2, Ex H H2 → Iv σ H2) : tSeq (tIfS tt tu tNext) tz D σ H :=
  Evl.q_when h (fun e H2 e2 => hb e H2 e2 tail) (fun e H2 e2 => tail σ H2 (hf e H2 e2))
/-- dice[k] -/
theorem eva_d1 {i : Nat} (hv : σ[i]? = some (some (.ref p))) (h : DV p c cs pos big st ct H) : Eva K (tOp (rIx K) (tVar i) (tC (.int 1))) σ H (.int (pos : Int)) := eva_ixL (eva_var hv (dv_dp h)) eva_int rfl
theorem eva_d2 {i : Nat} (hv : σ[i]? = some (some (.ref p))) (h : DV p c cs pos big st ct H) : Eva K (tOp (rIx K) (tVar i) (tC (.int 2))) σ H (.int big) := eva_ixL (eva_var hv (dv_dp h)) eva_int rfl
theorem eva_d3 {i : Nat} (hv : σ[i]? = some (some (.ref p))) (h : DV p c cs pos big st ct H) : Eva K (tOp (rIx K) (tVar i) (tC (.int 3))) σ H (.int st) := eva_ixL (eva_var hv (dv_dp h)) eva_int rfl
theorem eva_d4 {i : Nat} (hv : σ[i]? = some (some (.ref p))) (h : DV p c cs pos big st ct H) : Eva K (tOp (rIx K) (tVar i) (tC (.int 4))) σ H (.int ct) := eva_ixL (eva_var hv (dv_dp h)) eva_int rfl
theorem eva_d0 {i : Nat} (hv : σ[i]? = some (some (.ref p))) (h : DV p c cs pos big st ct H) : Eva K (tOp (rIx K) (tVar i) (tC (.int 0))) σ H (.list (cs.map PyData.int)) := eva_ixL (eva_var hv (dv_dp h)) eva_int rfl
theorem sd_set1 {y : Nat} {D : Ends} (hv : σ[0]? = some (some (.ref p))) (dv : DV p c cs pos big st ct H) (h : Eva K te σ H (.int (y : Int))) (k : ∀ H2, Ex (er H p) (er H2 p) → DV p c cs y big st ct H2 → D.nx σ H2) : tAsg te (gSub (tVar 0) (tC (.int 1)) rSetL) D σ H :=
  Evl.s_setL (j := 1) dv.1 (evx_int h) (Evl.ev_var hv) Evl.ev_c (by simp) fun H2 e => k _ (by rw [er_upd]; exact er_mono e) (dv_set (dv_ex e dv))
theorem qd_set1 {y : Nat} {D : Ends} {tz : TS} (hv : σ[0]? = some (some (.ref p))) (dv : DV p c cs pos big st ct H) (h : Eva K te σ H (.int (y : Int))) (k : ∀ H2, Ex (er H p) (er H2 p) → DV p c cs y big st ct H2 → tz D σ H2) : tSeq (tAsg te (gSub (tVar 0) (tC (.int 1)) rSetL)) tz D σ H := sd_set1 (D := { D with nx := tz D }) hv dv h k
theorem sd_set2 {y : Int} {D : Ends} (hv : σ[0]? = some (some (.ref p))) (dv : DV p c cs pos big st ct H) (h : Eva K te σ H (.int y)) (k : ∀ H2, Ex (er H p) (er H2 p) → DV p c cs pos y st ct H2 → D.nx σ H2) : tAsg te (gSub (tVar 0) (tC (.int 2)) rSetL) D σ H :=
  Evl.s_setL (j := 2) dv.1 (evx_int h) (Evl.ev_var hv) Evl.ev_c (by simp) fun H2 e => k _ (by rw [er_upd]; exact er_mono e) (dv_set (dv_ex e dv))
theorem qd_set2 {y : Int} {D : Ends} {tz : TS} (hv : σ[0]? = some (some (.ref p))) (dv : DV p c cs pos big st ct H) (h : Eva K te σ H (.int y)) (k : ∀ H2, Ex (er H p) (er H2 p) → DV p c cs pos y st ct H2 → tz D σ H2) : tSeq (tAsg te (gSub (tVar 0) (tC (.int 2)) rSetL)) tz D σ H := sd_set2 (D := { D with nx := tz D }) hv dv h k
theorem sd_set3 {y : Int} {D : Ends} (hv : σ[0]? = some (some (.ref p))) (dv : DV p c cs pos big st ct H) (h : Eva K te σ H (.int y)) (k : ∀ H2, Ex (er H p) (er H2 p) → DV p c cs pos big y ct H2 → D.nx σ H2) : tAsg te (gSub (tVar 0) (tC (.int 3)) rSetL) D σ H :=
  Evl.s_setL (j := 3) dv.1 (evx_int h) (Evl.ev_var hv) Evl.ev_c (by simp) fun H2 e => k _ (by rw [er_upd]; exact er_mono e) (dv_set (dv_ex e dv))
theorem qd_set3 {y : Int} {D : Ends} {tz : TS} (hv : σ[0]? = some (some (.ref p))) (dv : DV p c cs pos big st ct H) (h : Eva K te σ H (.int y)) (k : ∀ H2, Ex (er H p) (er H2 p) → DV p c cs pos big y ct H2 → tz D σ H2) : tSeq (tAsg te (gSub (tVar 0) (tC (.int 3)) rSetL)) tz D σ H := sd_set3 (D := { D with nx := tz D }) hv dv h k
theorem sd_set4 {y : Int} {D : Ends} (hv : σ[0]? = some (some (.ref p))) (dv : DV p c cs pos big st ct H) (h : Eva K te σ H (.int y)) (k : ∀ H2, Ex (er H p) (er H2 p) → DV p c cs pos big st y H2 → D.nx σ H2) : tAsg te (gSub (tVar 0) (tC (.int 4)) rSetL) D σ H :=
  Evl.s_setL (j := 4) dv.1 (evx_int h) (Evl.ev_var hv) Evl.ev_c (by simp) fun H2 e => k _ (by rw [er_upd]; exact er_mono e) (dv_set (dv_ex e dv))
theorem qd_set4 {y : Int} {D : Ends} {tz : TS} (hv : σ[0]? = some (some (.ref p))) (dv : DV p c cs pos big st ct H) (h : Eva K te σ H (.int y)) (k : ∀ H2, Ex (er H p) (er H2 p) → DV p c cs pos big st y H2 → tz D σ H2) : tSeq (tAsg te (gSub (tVar 0) (tC (.int 4)) rSetL)) tz D σ H := sd_set4 (D := { D with nx := tz D }) hv dv h k
end
section
variable {P : Program} {w : World} {K : PySem.W.Frag} {mg : Str → Option Value} {base : Heap}
theorem sc_l_draw : FnScope ["_law_dice_here", "_law_sides", "_law_cell", "_law_digit", "_law_mixed"] ["_law_dice_here", "_law_sides"] (defScope (topS 84)) := ⟨rfl, rfl, rfl, by decide +kernel, rfl, by decide +kernel, by decide +kernel⟩
theorem bn_l_draw : Bnd "_law_draw" 84 ["_law_dice_here", "_law_sides"] := fun _ _ _ _ _ _ us hl => match us, hl with | [_, _], _ => rfl
def preDraw (ds : List PyData) : Prop := ∃ s : Int, ds = [.int s] ∧ 1 ≤ s ∧ s ≤ 2 ^ 40
def postDraw (ds : List PyData) (d : PyData) : Prop := ∃ s r : Int, ds = [.int s] ∧ d = .int r ∧ 0 ≤ r ∧ r < s
theorem cmulR {i j : Int} (h1 : 0 ≤ j) (h2 : j < 2 ^ 40) : CMul i j := .inr ⟨by omega, by omega⟩
theorem cmulL {i j : Int} (h1 : 0 ≤ i) (h2 : i < 2 ^ 40) : CMul i j := .inl ⟨by omega, by omega⟩
theorem cdivS {i s : Int} (h1 : 1 ≤ s) (h2 : s ≤ 2 ^ 40) : CDivW i s := wide_div (b := 60) (by omega) (by
  have e : (2 : Nat) ^ 60 > 2 ^ 40 := by decide
  have e2 : (2 : Int) ^ 40 = ((2 ^ 40 : Nat) : Int) := by decide
  omega) (by decide) (by decide)
theorem has_l_draw {k : Nat} (T : Tb K mg) : Has P w K mg base "_law_draw" (k + 1) ["_law_dice_here", "_law_sides"] (spD K preDraw postDraw) := by
  refine has_sp T.f_l_draw sc_l_draw bn_l_draw (fun vs H Q E h => by
    obtain ⟨p, rest, ds, rfl, _, hd, ⟨s, rfl, _⟩, _⟩ := h
    rw [List.length_cons, dpa_len hd]
    rfl) fun f cdv A outer s H vs Q E hr h => ?_
  obtain ⟨p, rest, ds, rfl, hdice, hds, ⟨s, rfl, s1, s2⟩, q⟩ := h
  obtain ⟨v1, rfl, h1⟩ := dpa1 hds
  cases h1
  refine ⟨_, (pss_cons (ps_if (PW.pt (pw_and (pt_cmpR op_eq (pe_ix (ix_seqK K) (pv 0) pe_int (fun _ _ => rfl)) pe_int (nomark _)) (pw_and1 (pt_cmpR op_lt (pe_ix (ix_seqK K) (pv 0) pe_int (fun _ _ => rfl)) (pe_callB (call_lenK K) (by rfl) T.len (by decide +kernel) (pa_cons (pe_ix (ix_seqK K) (pv 0) pe_int (fun _ _ => rfl)) pa_nil)) (nomark _))))) (pss_cons (ps_set (i := 2) sc_l_draw.nd rfl (by first | exact Or.inl rfl | exact Or.inr rfl) (pe_ix (ix_seqK K) (pe_ix (ix_seqK K) (pv 0) pe_int (fun _ _ => rfl)) (pe_ix (ix_seqK K) (pv 0) pe_int (fun _ _ => rfl)) (fun _ _ => rfl)))
      (pss_cons (ps_asg (pe_op op_add (pe_ix (ix_seqK K) (pv 0) pe_int (fun _ _ => rfl)) pe_int) (pg_sub (pv 0) pe_int set_list))
      (pss_one (ps_if (pt_cmpR op_ge (pv 2) (pe_op op_pow pe_int pe_int) (nomark _)) (pss_one (ps_asg (pv 2) (pg_sub (pv 0) pe_int set_list))) (pss_one (ps_asg (pe_op op_mod (pe_callTy call_int1 (by rfl) T.int (by decide +kernel) (pa_cons (pe_op op_add (pe_op op_add (pe_op op_mul (pe_ix (ix_seqK K) (pv 0) pe_int (fun _ _ => rfl)) pe_int) (pe_op op_mul (pv 2) pe_int)) (pe_ix (ix_seqK K) (pv 0) pe_int (fun _ _ => rfl))) pa_nil)) pe_int) (pg_sub (pv 0) pe_int set_list))))))) pss_nil)
      (pss_cons (ps_if (pt_cmpR op_gt (pe_ix (ix_seqK K) (pv 0) pe_int (fun _ _ => rfl)) pe_int (nomark _)) (pss_cons (ps_set (i := 3) sc_l_draw.nd rfl (by first | exact Or.inl rfl | exact Or.inr rfl) (pe_op op_mod (pe_callTy call_int1 (by rfl) T.int (by decide +kernel) (pa_cons (pe_ix (ix_seqK K) (pv 0) pe_int (fun _ _ => rfl)) pa_nil)) (pv 1)))
      (pss_cons (ps_asg (pe_op op_fdivW (pe_callTy call_int1 (by rfl) T.int (by decide +kernel) (pa_cons (pe_ix (ix_seqK K) (pv 0) pe_int (fun _ _ => rfl)) pa_nil)) (pv 1)) (pg_sub (pv 0) pe_int set_list))
      (pss_one (ps_ret (pv 3))))) pss_nil)
      (pss_cons (ps_asg (pe_op op_add (pe_ix (ix_seqK K) (pv 0) pe_int (fun _ _ => rfl)) pe_int) (pg_sub (pv 0) pe_int set_list))
      (pss_cons (ps_asg (pe_op op_mod (pe_callTy call_int1 (by rfl) T.int (by decide +kernel) (pa_cons (pe_op op_add (pe_op op_add (pe_op op_mul (pe_ix (ix_seqK K) (pv 0) pe_int (fun _ _ => rfl)) pe_int) (pe_op op_mul (pe_ix (ix_seqK K) (pv 0) pe_int (fun _ _ => rfl)) pe_int)) pe_int) pa_nil)) pe_int) (pg_sub (pv 0) pe_int set_list))
      (pss_cons (ps_set (i := 4) sc_l_draw.nd rfl (by first | exact Or.inl rfl | exact Or.inr rfl) (pe_op op_mod (pe_callTy call_int1 (by rfl) T.int (by decide +kernel) (pa_cons (pe_op op_mul (pe_ix (ix_seqK K) (pv 0) pe_int (fun _ _ => rfl)) (pe_op op_add (pe_op op_fdivW (pe_ix (ix_seqK K) (pv 0) pe_int (fun _ _ => rfl)) pe_int) pe_int)) pa_nil)) pe_int))
      (pss_cons (ps_set (i := 4) sc_l_draw.nd rfl (by first | exact Or.inl rfl | exact Or.inr rfl) (pe_op op_mod (pe_callTy call_int1 (by rfl) T.int (by decide +kernel) (pa_cons (pe_op op_mul (pv 4) (pe_op op_add (pe_op op_fdivW (pv 4) pe_int) pe_int)) pa_nil)) pe_int))
      (pss_one (ps_ret (pe_op op_mod (pe_callTy call_int1 (by rfl) T.int (by decide +kernel) (pa_cons (pe_op op_fdivW (pv 4) pe_int) pa_nil)) (pv 1)))))))))), ?_⟩
  obtain ⟨c, cs, pos, big, st, ct, g1, g2, g3, g4, g5, g6, g7, g8, g9⟩ := hdice
  have dv0 : DV p c cs pos big st ct H := ⟨g1, g2, g3⟩
  clear g1 g3
  -- what follows the first question
  have fin : ∀ (H2 : Hp) (pos : Nat) (big st ct r : Int), Ex (er H p) (er H2 p) → DV p c cs pos big st ct H2 → pos ≤ cs.length → 0 ≤ big → 0 ≤ st → st < 2147483647 → 0 ≤ ct → 0 ≤ r → r < s → Q (.int r) H2 := fun H2 pos big st ct r e dv b1 b2 b3 b4 b5 r1 r2 =>
    q _ H2 (.int r) ⟨e, dv_dice dv g4 b1 b2 b3 b4 b5, fun c' ⟨rest, h⟩ => by rw [dv0.1] at h; cases h; exact ⟨_, dv.1⟩⟩ ⟨s, r, rfl, rfl, r1, r2⟩ (.int r)
  refine q_whenT (Iv := fun σ' H' => ∃ pos big st ct z2, σ' = [some (.ref p), some (.int s), z2, none, none] ∧ Ex (er H p) (er H' p) ∧ DV p c cs pos big st ct H' ∧ pos ≤ cs.length ∧ 0 ≤ big ∧ 0 ≤ st ∧ st < 2147483647 ∧ 0 ≤ ct) (fun σ' H1 hI => ?_) (Evl.et_and (evt_T (K := K) (eva_eqI (eva_d2 rfl dv0) eva_int)) fun _ => evt_T (K := K) (eva_B0 (eva_d1 rfl dv0) (eva_lenL (eva_d0 rfl dv0)))) (fun hb H2 e2 tail => ?_) (fun _ H2 e2 => ?_)
  · obtain ⟨pos, big, st, ct, z2, rfl, ex, dv, b1, b2, b3, b4, b5⟩ := hI
    refine Evl.q_when (evt_T (K := K) (eva_B0 (eva_d2 rfl dv) eva_int)) (fun hb H2 e2 => ?_) (fun hb H2 e2 => ?_)
    · have dv2 := dv_ex e2 dv
      refine q_asg (eva_I (K := K) (eva_int1 (eva_d2 rfl dv2)) (eva_var rfl (.int s)) (by show (0 : Int) < s; omega)) fun v H3 e3 dv' => ?_
      cases dv'
      have dv3 := dv_ex e3 dv2
      refine qd_set2 rfl dv3 (eva_I (eva_int1 (eva_d2 rfl dv3)) (eva_var rfl (.int s)) (cdivS s1 s2)) fun H4 e4 dv4 => ?_
      exact ⟨_, rfl, fin _ pos (big / s) st ct _ ((ex.trans (er_mono (e2.trans e3))).trans e4) dv4 b1 (Int.ediv_nonneg b2 (by omega)) b3 b4 b5 (Int.emod_nonneg _ (by omega)) (Int.emod_lt_of_pos _ (by omega))⟩
    · have dv2 := dv_ex e2 dv
      have x2 := ex.trans (er_mono (p := p) e2)
      refine qd_set4 rfl dv2 (eva_I0 (eva_d4 rfl dv2) eva_int) fun H3 e3 dv3 => ?_
      refine qd_set3 rfl dv3 (eva_I (eva_int1 (eva_I0 (eva_I0 (eva_I (eva_d3 rfl dv3) eva_int (cmulR (by decide) (by decide))) (eva_I (eva_d4 rfl dv3) eva_int (cmulR (by decide) (by decide)))) eva_int)) eva_int (by show (0 : Int) < 2147483647; decide)) fun H4 e4 dv4 => ?_
      have m0 := Int.emod_nonneg (st * 48271 + (ct + 1) * 7919 + 1) (show (2147483647 : Int) ≠ 0 by decide)
      have m1 := Int.emod_lt_of_pos (st * 48271 + (ct + 1) * 7919 + 1) (show (0 : Int) < 2147483647 by decide)
      generalize (st * 48271 + (ct + 1) * 7919 + 1) % 2147483647 = st' at dv4 m0 m1
      refine q_asg (eva_I (K := K) (eva_int1 (eva_I (eva_d3 rfl dv4) (eva_I0 (eva_I (eva_d3 rfl dv4) eva_int (cdivS (by decide) (by decide))) eva_int) (cmulL m0 (by omega)))) eva_int (by show (0 : Int) < 2147483399; decide)) fun v H5 e5 dw => ?_
      cases dw
      have a0 := Int.emod_nonneg (st' * (st' / 1009 + 69623)) (show (2147483399 : Int) ≠ 0 by decide)
      have a1 := Int.emod_lt_of_pos (st' * (st' / 1009 + 69623)) (show (0 : Int) < 2147483399 by decide)
      generalize (st' * (st' / 1009 + 69623)) % 2147483399 = mx at a0 a1
      refine q_asg (eva_I (K := K) (eva_int1 (eva_I (eva_var rfl (.int mx)) (eva_I0 (eva_I (eva_var rfl (.int mx)) eva_int (cdivS (by decide) (by decide))) eva_int) (cmulL a0 (by omega)))) eva_int (by show (0 : Int) < 2147483563; decide)) fun v H6 e6 dw => ?_
      cases dw
      generalize (mx * (mx / 2003 + 40693)) % 2147483563 = my
      refine s_ret (eva_I (K := K) (eva_int1 (eva_I (eva_var rfl (.int my)) eva_int (cdivS (by decide) (by decide)))) (eva_var rfl (.int s)) (by show (0 : Int) < s; omega)) fun v H7 e7 dw => ?_
      cases dw
      have e57 := (e5.trans e6).trans e7
      exact fin H7 pos big st' (ct + 1) _ (((x2.trans e3).trans e4).trans (er_mono e57)) (dv_ex e57 dv4) b1 b2 m0 m1 (by omega) (Int.emod_nonneg _ (by omega)) (Int.emod_lt_of_pos _ (by omega))
  · obtain ⟨hb1, hb2⟩ := Bool.and_eq_true_iff.mp hb
    have hp : pos < cs.length := by
      have := of_decide_eq_true hb2
      rw [List.length_map] at this
      omega
    have big0 : big = 0 := of_decide_eq_true hb1
    have dv2 := dv_ex e2 dv0
    have cell0 := g4 cs[pos] (List.getElem_mem hp)
    refine q_asg (eva_ixL (K := K) (eva_d0 rfl dv2) (eva_d1 rfl dv2) (d := .int cs[pos]) (atN (by rw [List.getElem?_map, List.getElem?_eq_getElem hp]; rfl))) fun v H3 e3 dw => ?_
    cases dw
    generalize cs[pos] = cell at cell0
    have dv3 := dv_ex e3 dv2
    refine qd_set1 (y := pos + 1) rfl dv3 (eva_is (eva_I0 (eva_d1 rfl dv3) eva_int) (by congr 1)) fun H4 e4 dv4 => ?_
    have x4 := (er_mono (p := p) (e2.trans e3)).trans e4
    refine Evl.s_if (evt_T (K := K) (eva_B0 (eva_var rfl (.int cell)) (eva_I eva_int eva_int (show CPow 10 18 from ⟨by decide, by decide, by decide⟩)))) (fun hb H5 e5 => ?_) (fun hb H5 e5 => ?_)
    · refine sd_set2 rfl (dv_ex e5 dv4) (eva_var (K := K) rfl (.int cell)) fun H6 e6 dv6 => tail _ _ ⟨pos + 1, cell, st, ct, _, rfl, (x4.trans (er_mono e5)).trans e6, dv6, hp, cell0, g7, g8, g9⟩
    · have dv5 := dv_ex e5 dv4
      refine sd_set3 rfl dv5 (eva_I (K := K) (eva_int1 (eva_I0 (eva_I0 (eva_I (eva_d3 rfl dv5) eva_int (cmulR (by decide) (by decide))) (eva_I (eva_var rfl (.int cell)) eva_int (cmulR (by decide) (by decide)))) (eva_d1 rfl dv5))) eva_int (by show (0 : Int) < 2147483647; decide)) fun H6 e6 dv6 => tail _ _ ⟨pos + 1, big, _, ct, _, rfl, (x4.trans (er_mono e5)).trans e6, dv6, hp, g6, Int.emod_nonneg _ (by decide), Int.emod_lt_of_pos _ (by decide), g9⟩
  · exact ⟨pos, big, st, ct, none, rfl, er_mono e2, dv_ex e2 dv0, g5, g6, g7, g8, g9⟩
theorem sc_l_dice : FnScope ["_law_script", "_law_cell"] ["_law_script"] (defScope (topS 83)) := ⟨rfl, rfl, rfl, by decide +kernel, rfl, by decide +kernel, by decide +kernel⟩
theorem bn_l_dice : Bnd "_law_dice" 83 ["_law_script"] := fun _ _ _ _ _ _ us hl => match us, hl with | [_], _ => rfl
theorem cut_to (xs : List V) (n : Nat) : cutV xs none (some (n : Int)) = xs.take n := by
  unfold cutV
  rw [HT.sIx_nat, HT.sIx_none, Nat.sub_zero, List.drop_zero]
  by_cases h : n ≤ xs.length
  · rw [Nat.min_eq_left h]
  · rw [Nat.min_eq_right (by omega), List.take_of_length_le (Nat.le_refl _), List.take_of_length_le (by omega)]
theorem evl_to {σ : L2.St} {H : Hp} {ta : TE} {ds : List PyData} {n : Nat} (ha : Eva K ta σ H (.list ds)) : EvaL K (tSl (rSlL K) ta tNoPart (tPart (tC (.int (n : Int))))) σ H (ds.take n) := fun H1 e Q q =>
  ha H1 e _ fun x H2 e2 dx => by
    obtain ⟨p, xs, rfl, hp, hx⟩ := dp_lst dx
    refine ⟨n, rfl, p, xs, rfl, hp, fun r hr => ?_⟩
    rw [cut_to]
    exact q r _ _ (fresh_back e2 hr) (e2.trans (Ex.new hr)) upd_same (dpa_ex (ex_er (Ex.new hr) hr) (dpa_take n hx))
theorem s_ret5 {σ : L2.St} {H : Hp} {te : TE} {ds : List PyData} {D : Ends} {v1 v2 v3 v4 : V} (h : EvaL K te σ H ds) (k : ∀ c ws H2, H c = none → Ex H H2 → H2 c = some (.lst ws) → DpAll K (er H2 c) ws ds → ∀ p, H2 p = none → D.rt (.ref p) (upd H2 p (.lst [.ref c, v1, v2, v3, v4]))) : tRet (tLst (tCons te (tCons (tC v1) (tCons (tC v2) (tCons (tC v3) (tCons (tC v4) tNil)))))) D σ H :=
  h H (Ex.refl _) _ fun c ws H2 nc e2 hc hd => ⟨by simp [sizeLine_eq], fun p hp => k c ws H2 nc e2 hc hd p hp⟩
def spNewD (K : PySem.W.Frag) : Sp := fun vs H Q _ => ∃ (a : Addr) (ns : List Int), vs = [.ref a] ∧ SqL K H a (ns.map V.int) ∧ ∀ p H2, H p = none → Ex H H2 → Dice H2 p → Q (.ref p) H2
theorem has_l_dice {k : Nat} (T : Tb K mg) : Has P w K mg base "_law_dice" (k + 1) ["_law_script"] (spNewD K) := by
  refine has_sp T.f_l_dice sc_l_dice bn_l_dice (fun vs H Q E h => by obtain ⟨_, _, rfl, _⟩ := h; rfl) fun f cdv A outer s H vs Q E hr h => ?_
  obtain ⟨a, ns, rfl, ha, q⟩ := h
  refine ⟨_, (pss_one (ps_ret (pe_lst (pa_cons (pe_lc (own := [("_law_cell", 1)]) (g := (gName 1)) (tt := tYes) rfl sc_l_dice.nd (pi_listK K (pe_slice (sl_listK K) (pv 0) po_none (po_some pe_int))) (blkOk_by (N := ["_law_script", "_law_cell"]) (sc := defScope (topS 83)) (by decide +kernel)) (fun _ _ _ _ _ => (pg_name (i := 1) sc_l_dice.nd rfl (by first | exact Or.inl rfl | exact Or.inr rfl))) (fun _ _ _ _ _ => pts_nil) (fun _ _ _ _ _ => (pe_callB call_abs (by rfl) T.abs (by decide +kernel) (pa_cons (pe_callTy call_int1 (by rfl) T.int (by decide +kernel) (pa_cons (pv 1) pa_nil)) pa_nil)))) (pa_cons pe_int (pa_cons pe_int (pa_cons pe_int (pa_cons pe_int pa_nil)))))))), ?_⟩
  have da : Dp K H (.ref a) (.list (ns.map PyData.int)) := .lst ha (dpa_ofints ns)
  have cells : EvaL K (tLc (iList K (tSl (rSlL K) (tVar 0) tNoPart (tPart (tC (.int 63))))) (gName 1) tYes (tCB (fun xs H Q => ∃ i, xs = [.int i] ∧ Q (.int (if i < 0 then -i else i)) H) (tCons (tCB rInt1 (tCons (tVar 1) tNil)) tNil)) [1]) (start ["_law_script", "_law_cell"] [.ref a]) H (((ns.take 63).map fun i => (i.natAbs : Int)).map PyData.int) := by
    have src := evi_list (j := 1) (evl_to (n := 63) (eva_var (K := K) (σ := start ["_law_script", "_law_cell"] [.ref a]) (i := 0) rfl da)).eva
    rw [← List.map_take] at src
    refine EvaL.is (evl_lc1 (fun i => .int (i.natAbs : Int)) src.map (by rw [List.length_take]; omega) (fun a σ2 H2 _ hp => ?_) (fun a σ2 H2 ha ex hp => ?_) (fun _ _ => rfl)) (by rw [List.map_map]; rfl)
    · obtain ⟨v, rfl, _⟩ := hp; rfl
    · obtain ⟨v, rfl, hv⟩ := hp
      exact eva_abs1 (eva_int1 (eva_var rfl hv))
  refine s_ret5 cells fun c ws H2 nc e2 hc hd p hp => ?_
  rw [dpa_ints hd] at hc
  have ne : c ≠ p := fun z => by rw [z, hp] at hc; cases hc
  refine q p _ (fresh_back e2 hp) (e2.trans (Ex.new hp)) ⟨c, _, 0, 0, 1, 0, upd_same, ne, by rw [upd_ne ne]; exact hc, fun x hx => ?_, Nat.zero_le _, by decide, by decide, by decide, by decide⟩
  obtain ⟨i, _, rfl⟩ := List.mem_map.mp hx
  omega
theorem sc_l_number : FnScope ["_law_dice_here", "_law_bottom"] ["_law_dice_here"] (defScope (topS 90)) := ⟨rfl, rfl, rfl, by decide +kernel, rfl, by decide +kernel, by decide +kernel⟩
theorem bn_l_number : Bnd "_law_number" 90 ["_law_dice_here"] := fun _ _ _ _ _ _ us hl => match us, hl with | [_], _ => rfl
def NOk (q : Q) : Prop := VOk 20 q
def preNum (ds : List PyData) : Prop := ds = []
def postNum (ds : List PyData) (d : PyData) : Prop := ∃ x : Q, d = eQ x ∧ NOk x
theorem lowest_ok {t b : Int} (h0 : 0 ≤ t) (h1 : t ≤ b) (hb : 0 < b) (h2 : b ≤ 2 ^ 20) : NOk (lowest t b) := by
  have f := lowest_frc (t := t) hb
  have v := lowest_toR (t := t) hb
  have l := lowest_le (t := t) hb
  have hbR : (0 : Rat) < (b : Rat) := by exact_mod_cast hb
  have ht0 : (0 : Rat) ≤ (t : Rat) := by exact_mod_cast h0
  have htb : (t : Rat) ≤ (b : Rat) := by exact_mod_cast h1
  refine ⟨num_of f ?_ ?_, by omega⟩
  · rw [v]
    have : ¬ (t : Rat) / (b : Rat) < 0 := by
      rw [Rat.div_lt_iff hbR]
      grind
    grind
  · rw [v]
    have : ¬ (1 : Rat) < (t : Rat) / (b : Rat) := by
      rw [Rat.lt_div_iff hbR]
      grind
    grind
theorem two20 : (2 : Int) ^ 20 = 1048576 := by decide
theorem has_l_number {k : Nat} (T : Tb K mg) (h_l_draw : Has P w K mg base "_law_draw" k ["_law_dice_here", "_law_sides"] (spD K preDraw postDraw)) (h_l_lowest : Has P w K mg base "_law_lowest" k ["_law_top", "_law_bottom"] (spR K rMade)) : Has P w K mg base "_law_number" (k + 1) ["_law_dice_here"] (spD K preNum postNum) := by
  refine has_sp T.f_l_number sc_l_number bn_l_number (fun vs H Q E h => by
    obtain ⟨p, rest, ds, rfl, _, hd, rfl, _⟩ := h
    cases hd
    rfl) fun f cdv A outer s H vs Q E hr h => ?_
  obtain ⟨p, rest, ds, rfl, hdice, hds, rfl, q⟩ := h
  cases hds
  refine ⟨_, (pss_cons (ps_set (i := 1) sc_l_number.nd rfl (by first | exact Or.inl rfl | exact Or.inr rfl) (pe_ix (ix_seqK K) (pe_lst (pa_cons pe_int (pa_cons pe_int (pa_cons pe_int (pa_cons pe_int (pa_cons pe_int (pa_cons pe_int (pa_cons pe_int (pa_cons pe_int (pa_cons pe_int (pa_cons pe_int (pa_cons pe_int pa_nil)))))))))))) (pe_callH h_l_draw hr (pa_cons (pv 0) (pa_cons pe_int pa_nil))) (fun _ _ => rfl)))
      (pss_one (ps_ret (pe_callH h_l_lowest hr (pa_cons (pe_callH h_l_draw hr (pa_cons (pv 0) (pa_cons (pe_op op_add (pv 1) pe_int) pa_nil))) (pa_cons (pv 1) pa_nil)))))), ?_⟩
  have draw : ∀ {σ : L2.St} {H1 : Hp} {te : TE} {B : Int → Prop} {E : XK}, σ[0]? = some (some (.ref p)) → EvS K p te σ H1 (SI B) → (∀ b, B b → 1 ≤ b ∧ b ≤ 2 ^ 40) → EvS K p (tCall (spD K preDraw postDraw) [] E (tCons (tVar 0) (tCons te tNil))) σ H1 (SI fun r => ∃ b, B b ∧ 0 ≤ r ∧ r < b) := fun hv ht hB =>
    evs_callD hv (evsa_cons ht evsa_nil) (fun ds hs => by
      obtain ⟨d, ds', rfl, ⟨i, rfl, hi⟩, rfl⟩ := hs
      exact ⟨i, rfl, hB i hi⟩) (fun ds d hs po => by
      obtain ⟨d', ds', rfl, ⟨i, rfl, hi⟩, rfl⟩ := hs
      obtain ⟨s, r, e, rfl, r0, r1⟩ := po
      cases e
      exact ⟨r, rfl, i, hi, r0, r1⟩)
  have eint : ∀ {σ : L2.St} {H1 : Hp} {i : Int}, EvS K p (tC (.int i)) σ H1 (SI fun z => z = i) := fun {σ H1 i} => evs_int.imp fun d e => ⟨i, e, rfl⟩
  let bots : List Int := [1, 2, 3, 4, 5, 6, 8, 10, 12, 60, 999983]
  have lst : EvS K p (tLst (tCons (tC (.int 1)) (tCons (tC (.int 2)) (tCons (tC (.int 3)) (tCons (tC (.int 4)) (tCons (tC (.int 5)) (tCons (tC (.int 6)) (tCons (tC (.int 8)) (tCons (tC (.int 10)) (tCons (tC (.int 12)) (tCons (tC (.int 60)) (tCons (tC (.int 999983)) tNil)))))))))))) (start ["_law_dice_here", "_law_bottom"] [.ref p]) H (fun z => ∃ ds, z = .list ds ∧ ds = bots.map PyData.int) := by
    refine evs_lst ((evsa_cons evs_int (evsa_cons evs_int (evsa_cons evs_int (evsa_cons evs_int (evsa_cons evs_int (evsa_cons evs_int (evsa_cons evs_int (evsa_cons evs_int (evsa_cons evs_int (evsa_cons evs_int (evsa_cons evs_int evsa_nil))))))))))).imp fun ds hs => ?_) fun ds e => by rw [e]; simp [bots]
    obtain ⟨_, _, rfl, rfl, _, _, rfl, rfl, _, _, rfl, rfl, _, _, rfl, rfl, _, _, rfl, rfl, _, _, rfl, rfl, _, _, rfl, rfl, _, _, rfl, rfl, _, _, rfl, rfl, _, _, rfl, rfl, _, _, rfl, rfl, rfl⟩ := hs
    rfl
  refine qD_asg hdice (evs_ixL (S := SI fun b => 1 ≤ b ∧ b ≤ 999983) lst (draw rfl eint (fun b e => by subst e; exact ⟨by decide, by decide⟩)) fun ds i hs hi => ?_) fun v H2 d x2 hb dv => ?_
  · subst hs
    obtain ⟨b, rfl, i0, i1⟩ := hi
    obtain ⟨j, rfl⟩ : ∃ j : Nat, i = (j : Int) := ⟨i.toNat, by omega⟩
    have hi' : j < bots.length := by simp [bots]; omega
    refine ⟨.int bots[j], ?_, bots[j], rfl, ?_⟩
    · exact atN (by rw [List.getElem?_map, List.getElem?_eq_getElem hi']; rfl)
    · have hm := List.getElem_mem hi'
      generalize bots[j] = b at hm
      simp only [bots, List.mem_cons, List.not_mem_nil, or_false] at hm
      omega
  · obtain ⟨b, rfl, b1, b2⟩ := hb
    cases dv
    refine sD_ret x2.d (S := postNum []) (evs_callR (evsa_cons (draw rfl (evs_I0 (evs_var rfl (.int b) |>.imp fun d e => ⟨b, e, rfl⟩) eint) (fun z hz => ?_)) (evsa_cons (evs_var rfl (.int b)) evsa_nil)) fun ds hs => ?_) fun v H3 d x3 hd dv => q v H3 d (x2.trans x3) hd dv
    · obtain ⟨i, j, rfl, rfl, rfl⟩ := hz
      omega
    · obtain ⟨d, ds', rfl, ⟨r, rfl, z, ⟨i, j, rfl, rfl, rfl⟩, r0, r1⟩, d2, ds2, rfl, rfl, rfl⟩ := hs
      have e60 : (2 : Nat) ^ 60 ≤ 2 ^ 9000 := pow_two_le (by decide)
      have e61 : (2 : Nat) ^ 60 > 999983 := by decide
      exact ⟨_, ⟨r, b, rfl, by omega, by omega, rfl⟩, ⟨_, rfl, lowest_ok r0 (by omega) (by omega) (by rw [two20]; omega)⟩, rfl⟩
end
end Cb
set_option Elab.async false
set_option linter.all false
set_option maxRecDepth 100000
set_option maxHeartbeats 8000000
/-! Cb, the law's defs 21: numbers, terms, rules that are drawn. -/
namespace Cb
open PySem PySem.Spec PyProof.Rows L2 Evl
section
variable {K : PySem.W.Frag} {p : Addr} {σ : L2.St} {H : Hp} {te : TE} {E : XK}
theorem evs_draw {B : Int → Prop} (hv : σ[0]? = some (some (.ref p))) (ht : EvS K p te σ H (SI B)) (hB : ∀ b, B b → 1 ≤ b ∧ b ≤ 2 ^ 40) : EvS K p (tCall (spD K preDraw postDraw) [] E (tCons (tVar 0) (tCons te tNil))) σ H (SI fun r => ∃ b, B b ∧ 0 ≤ r ∧ r < b) :=
  evs_callD hv (evsa_cons ht evsa_nil) (fun ds hs => by
    obtain ⟨d, ds', rfl, ⟨i, rfl, hi⟩, rfl⟩ := hs
    exact ⟨i, rfl, hB i hi⟩) (fun ds d hs po => by
    obtain ⟨d', ds', rfl, ⟨i, rfl, hi⟩, rfl⟩ := hs
    obtain ⟨s, r, e, rfl, r0, r1⟩ := po
    cases e
    exact ⟨r, rfl, i, hi, r0, r1⟩)
theorem evs_i {i : Int} : EvS K p (tC (.int i)) σ H (SI fun z => z = i) := evs_int.imp fun d e => ⟨i, e, rfl⟩
theorem evs_vi {k : Nat} {i : Int} (hv : σ[k]? = some (some (.int i))) : EvS K p (tVar k) σ H (SI fun z => z = i) := (evs_var hv (.int i)).imp fun d e => ⟨i, e, rfl⟩
/-- 0 .. n - 1 -/
theorem evs_drawN {n : Int} (hv : σ[0]? = some (some (.ref p))) (h1 : 1 ≤ n) (h2 : n ≤ 2 ^ 40) : EvS K p (tCall (spD K preDraw postDraw) [] E (tCons (tVar 0) (tCons (tC (.int n)) tNil))) σ H (SI fun r => 0 ≤ r ∧ r < n) :=
  (evs_draw hv evs_i (fun b e => by subst e; exact ⟨h1, h2⟩)).imp fun d ⟨r, e, b, eb, r0, r1⟩ => ⟨r, e, r0, by subst eb; exact r1⟩
theorem evs_draw1 {n : Int} (hv : σ[0]? = some (some (.ref p))) (h1 : 1 ≤ n) (h2 : n ≤ 2 ^ 30) : EvS K p (tOp (rI0 fun i j => .int (i + j)) (tC (.int 1)) (tCall (spD K preDraw postDraw) [] E (tCons (tVar 0) (tCons (tC (.int n)) tNil)))) σ H (SI fun r => 1 ≤ r ∧ r ≤ n) :=
  (evs_I0 evs_i (evs_drawN hv h1 (by omega))).imp fun d ⟨r, e, i, j, ei, ⟨j0, j1⟩, er⟩ => ⟨r, e, by subst ei; subst er; omega⟩
theorem evs_num (hv : σ[0]? = some (some (.ref p))) : EvS K p (tCall (spD K preNum postNum) [] E (tCons (tVar 0) tNil)) σ H (fun d => ∃ x : Q, d = eQ x ∧ NOk x) :=
  evs_callD hv evsa_nil (fun ds e => e) (fun ds d _ h => h)
theorem evs_str {x : Str} : EvS K p (tC (.str x)) σ H (fun z => z = .str x) := evs_pure eva_str rfl
end
section
variable {P : Program} {w : World} {K : PySem.W.Frag} {mg : Str → Option Value} {base : Heap}
theorem sc_l_numbers : FnScope ["_law_dice_here", "_law_many", "_law_k"] ["_law_dice_here", "_law_many"] (defScope (topS 91)) := ⟨rfl, rfl, rfl, by decide +kernel, rfl, by decide +kernel, by decide +kernel⟩
theorem bn_l_numbers : Bnd "_law_numbers" 91 ["_law_dice_here", "_law_many"] := fun _ _ _ _ _ _ us hl => match us, hl with | [_, _], _ => rfl
def preNums (ds : List PyData) : Prop := ∃ n : Nat, ds = [.int (n : Int)] ∧ n ≤ 1000
def postNums (ds : List PyData) (d : PyData) : Prop := ∃ (n : Nat) (b : List Q), ds = [.int (n : Int)] ∧ d = eW b ∧ b.length = n ∧ ∀ x ∈ b, NOk x
theorem eqs_of {S : Q → Prop} : ∀ {ds : List PyData}, (∀ d ∈ ds, ∃ x : Q, d = eQ x ∧ S x) → ∃ b : List Q, ds = b.map eQ ∧ ∀ x ∈ b, S x
  | [], _ => ⟨[], rfl, fun x h => by cases h⟩
  | d :: ds, h => by
    obtain ⟨x, rfl, hx⟩ := h d (by simp)
    obtain ⟨b, rfl, hb⟩ := eqs_of (ds := ds) fun d hd => h d (by simp [hd])
    refine ⟨x :: b, rfl, fun y hy => ?_⟩
    rcases List.mem_cons.mp hy with e | e
    · rw [e]; exact hx
    · exact hb y e
theorem has_l_numbers {k : Nat} (T : Tb K mg) (h_l_number : Has P w K mg base "_law_number" k ["_law_dice_here"] (spD K preNum postNum)) : Has P w K mg base "_law_numbers" (k + 1) ["_law_dice_here", "_law_many"] (spD K preNums postNums) := by
  refine has_sp T.f_l_numbers sc_l_numbers bn_l_numbers (fun vs H Q E h => by
    obtain ⟨p, rest, ds, rfl, _, hd, ⟨_, rfl, _⟩, _⟩ := h
    rw [List.length_cons, dpa_len hd]
    rfl) fun f cdv A outer s H vs Q E hr h => ?_
  obtain ⟨p, rest, ds, rfl, hdice, hds, ⟨n, rfl, hn⟩, q⟩ := h
  obtain ⟨v1, rfl, h1⟩ := dpa1 hds
  cases h1
  refine ⟨_, (pss_one (ps_ret (pe_callTy (call_tupleK K) (by rfl) T.tuple (by decide +kernel) (pa_cons (pe_lc (own := [("_law_k", 2)]) (g := (gName 2)) (tt := tYes) rfl sc_l_numbers.nd (pi_range1 (by rfl) T.range (pa_cons (pv 1) pa_nil)) (blkOk_by (N := ["_law_dice_here", "_law_many", "_law_k"]) (sc := defScope (topS 91)) (by decide +kernel)) (fun _ _ _ _ _ => (pg_name (i := 2) sc_l_numbers.nd rfl (by first | exact Or.inl rfl | exact Or.inr rfl))) (fun _ _ _ _ _ => pts_nil) (fun _ _ _ _ _ => (pe_callH h_l_number hr (pa_cons (pv 0) pa_nil)))) pa_nil)))), ?_⟩
  refine sD_ret hdice (S := postNums [.int (n : Int)]) ((evs_tupL (SA := fun ds => ds.length = n ∧ ∀ d ∈ ds, ∃ x : Int × Int, d = eQ x ∧ NOk x) ((evs_lcN (Pn := fun z => z = (n : Int)) (evs_vi rfl) (fun z e => by subst e; omega) (fun i σ2 H2 hp => by cases hp; rfl) (fun i σ2 H3 x3 hp => by cases hp; exact evs_num rfl) (fun d ⟨x, e, _⟩ => by rw [e]; rfl)).imp fun d ⟨ds, e, l, h⟩ => ⟨ds, e, by omega, h⟩)).imp fun d ⟨ds, e, l, h⟩ => ?_) fun v H2 d x2 s dv => q v H2 d x2 s dv
  obtain ⟨b, eb, hb⟩ := eqs_of h
  subst eb
  exact ⟨n, b, rfl, e, by simpa using l, hb⟩
theorem sc_l_term : FnScope ["_law_dice_here", "_law_people", "_law_deep", "_law_means", "_law_kind", "_law_parts", "_law_k", "_law_ends", "_law_part"] ["_law_dice_here", "_law_people", "_law_deep", "_law_means"] (defScope (topS 92)) := ⟨rfl, rfl, rfl, by decide +kernel, rfl, by decide +kernel, by decide +kernel⟩
theorem bn_l_term : Bnd "_law_term" 92 ["_law_dice_here", "_law_people", "_law_deep", "_law_means"] := fun _ _ _ _ _ _ us hl => match us, hl with | [_, _, _, _], _ => rfl
def cb : Nat → Nat
  | 0 => 0
  | m + 1 => 1 + 3 * cb m
def preTerm (M : Nat) (ds : List PyData) : Prop := ∃ n m : Nat, ds = [.int (n : Int), .int (m : Int), .bool true] ∧ 1 ≤ n ∧ n ≤ 6 ∧ 1 ≤ m ∧ m ≤ M
def postTerm (ds : List PyData) (d : PyData) : Prop := ∃ (n m : Nat) (t : Tm), ds = [.int (n : Int), .int (m : Int), .bool true] ∧ d = eT t ∧ WT n t ∧ dpt t ≤ m ∧ cnt t ≤ cb m
theorem terms_of {S : Tm → Prop} : ∀ {ds : List PyData}, (∀ d ∈ ds, ∃ t : Tm, d = eT t ∧ S t) → ∃ ts : List Tm, ds = ts.map eT ∧ ∀ t ∈ ts, S t
  | [], _ => ⟨[], rfl, fun x h => by cases h⟩
  | d :: ds, h => by
    obtain ⟨x, rfl, hx⟩ := h d (by simp)
    obtain ⟨b, rfl, hb⟩ := terms_of (ds := ds) fun d hd => h d (by simp [hd])
    refine ⟨x :: b, rfl, fun y hy => ?_⟩
    rcases List.mem_cons.mp hy with e | e
    · rw [e]; exact hx
    · exact hb y e
theorem cnts_le {ts : List Tm} {b : Nat} (h : ∀ t ∈ ts, cnt t ≤ b) : cnts ts ≤ ts.length * b := by
  rw [cnts_sum]
  have := sum_le (l := ts.map cnt) (b := b) fun x hx => by
    obtain ⟨t, ht, rfl⟩ := List.mem_map.mp hx
    exact h t ht
  simpa using this
/-- a node of drawn parts -/
theorem nd_ok {n m : Nat} {ts : List Tm} {op : Op} (h1 : 1 ≤ ts.length) (h3 : ts.length ≤ 3) (h : ∀ t ∈ ts, WT n t ∧ dpt t ≤ m ∧ cnt t ≤ cb m) (ho : opOk op ts.length) : WT n (.nd op ts) ∧ dpt (.nd op ts) ≤ m + 1 ∧ cnt (.nd op ts) ≤ cb (m + 1) := by
  refine ⟨?_, ?_, ?_⟩
  · rw [WT]
    exact ⟨ho, h1, by omega, wts_of fun t ht => (h t ht).1⟩
  · rw [dpt]
    have := dpts_le.mpr fun t ht => (h t ht).2.1
    omega
  · rw [cnt, cb]
    have := cnts_le fun t ht => (h t ht).2.2
    have : ts.length * cb m ≤ 3 * cb m := Nat.mul_le_mul_right _ h3
    omega
theorem means_of {B : Int} : ∀ {as ds : List PyData}, Paired (fun a d => ∃ w : Int, d = .tuple [.int w, a] ∧ 1 ≤ w ∧ w ≤ B) as ds → ∃ ws : List Int, ws.length = as.length ∧ (∀ w ∈ ws, 1 ≤ w ∧ w ≤ B) ∧ ds = (ws.zip as).map fun p => PyData.tuple [.int p.1, p.2]
  | _, _, .nil => ⟨[], rfl, (fun w h => by cases h), rfl⟩
  | _, _, .cons ⟨w, e, h1⟩ t => by
    obtain ⟨ws, l, h, rfl⟩ := means_of t
    subst e
    refine ⟨w :: ws, by simp [l], fun y hy => ?_, rfl⟩
    rcases List.mem_cons.mp hy with e | e
    · rw [e]; exact h1
    · exact h y e
theorem two_srt {x y : Q} (hx : NOk x) (hy : NOk y) : ∃ lo hi, srt [x, y] = [lo, hi] ∧ NOk lo ∧ NOk hi ∧ toR lo ≤ toR hi := by
  have l : (srt [x, y]).length = 2 := srt_len _
  have a := srt_asc [x, y]
  have m : ∀ z ∈ srt [x, y], NOk z := fun z hz => by
    have := srt_mem.mp hz
    rcases List.mem_cons.mp this with e | e
    · rw [e]; exact hx
    · rw [List.mem_singleton.mp e]; exact hy
  match h : srt [x, y], l with
  | [lo, hi], _ =>
    rw [h] at a m
    exact ⟨lo, hi, rfl, m lo (by simp), m hi (by simp), (List.pairwise_cons.mp a).1 hi (by simp)⟩
theorem one_add (j : Nat) : (1 : Int) + (j : Int) = ((1 + j : Nat) : Int) := by omega
theorem has_l_term {k : Nat} (T : Tb K mg) (h_dr : Has P w K mg base "_law_draw" k ["_law_dice_here", "_law_sides"] (spD K preDraw postDraw)) (h_nu : Has P w K mg base "_law_number" k ["_law_dice_here"] (spD K preNum postNum)) (h_srt : Has P w K mg base "_law_sorted" k ["_law_numbers_here"] (spL K rAsc)) :
    ∀ M, Has P w K mg base "_law_term" (k + M + 1) ["_law_dice_here", "_law_people", "_law_deep", "_law_means"] (spD K (preTerm M) postTerm)
  | 0 => by
    refine has_sp T.f_l_term sc_l_term bn_l_term (fun vs H Q E h => by
      obtain ⟨p, rest, ds, rfl, _, hd, ⟨_, _, rfl, _⟩, _⟩ := h
      rw [List.length_cons, dpa_len hd]
      rfl) fun f cdv A outer s H vs Q E hr h => ?_
    obtain ⟨p, rest, ds, rfl, hdice, hds, ⟨n, m, rfl, _, _, m1, m2⟩, q⟩ := h
    omega
  | M + 1 => by
    have h_l_term := has_l_term T h_dr h_nu h_srt M
    have h_l_draw := h_dr.mono (show k ≤ k + M + 1 by omega)
    have h_l_number := h_nu.mono (show k ≤ k + M + 1 by omega)
    have h_l_sorted := h_srt.mono (show k ≤ k + M + 1 by omega)
    refine has_sp T.f_l_term sc_l_term bn_l_term (fun vs H Q E h => by
      obtain ⟨p, rest, ds, rfl, _, hd, ⟨_, _, rfl, _⟩, _⟩ := h
      rw [List.length_cons, dpa_len hd]
      rfl) fun f cdv A outer s H vs Q E hr h => ?_
    obtain ⟨p, rest, ds, rfl, hdice, hds, ⟨n, m, rfl, n1, n6, m1, m2⟩, q⟩ := h
    obtain ⟨v1, v2, v3, rfl, g1, g2, g3⟩ := dpa3 hds
    cases g1
    cases g2
    cases g3
    refine ⟨_, (pss_cons (ps_set (i := 4) sc_l_term.nd rfl (by first | exact Or.inl rfl | exact Or.inr rfl) (pe_callH h_l_draw hr (pa_cons (pv 0) (pa_cons pe_int pa_nil))))
      (pss_cons (ps_if (PW.pt (pw_or (pt_cmpR op_eq (pv 2) pe_int (nomark _)) (pw_or1 (pt_cmpR op_eq (pv 4) pe_int (nomark _))))) (pss_cons (ps_if (pt_cmpR op_eq (pe_callH h_l_draw hr (pa_cons (pv 0) (pa_cons pe_int pa_nil))) pe_int (nomark _)) (pss_one (ps_ret (pe_tup (pa_cons pe_str (pa_cons (pe_callH h_l_number hr (pa_cons (pv 0) pa_nil)) pa_nil))))) pss_nil)
      (pss_one (ps_ret (pe_tup (pa_cons pe_str (pa_cons (pe_callH h_l_draw hr (pa_cons (pv 0) (pa_cons (pv 1) pa_nil))) pa_nil)))))) pss_nil)
      (pss_cons (ps_setLc (i := 5) (own := [("_law_k", 6)]) (g := (gName 6)) (tt := tYes) rfl sc_l_term.nd rfl rfl (sw_true rfl rfl rfl (by decide +kernel)) (pi_range1 (by rfl) T.range (pa_cons (pe_op op_add pe_int (pe_callH h_l_draw hr (pa_cons (pv 0) (pa_cons pe_int pa_nil)))) pa_nil)) (blkOk_by (N := ["_law_dice_here", "_law_people", "_law_deep", "_law_means", "_law_kind", "_law_parts", "_law_k", "_law_ends", "_law_part"]) (sc := defScope (topS 92)) (by decide +kernel)) (fun _ _ _ _ _ => (pg_name (i := 6) sc_l_term.nd rfl (by first | exact Or.inl rfl | exact Or.inr rfl))) (fun _ _ _ _ _ => pts_nil) (fun _ _ _ _ _ => (pe_callH h_l_term hr (pa_cons (pv 0) (pa_cons (pv 1) (pa_cons (pe_op op_sub (pv 2) pe_int) (pa_cons (pv 3) pa_nil)))))))
      (pss_cons (ps_if (pt_cmpR op_eq (pv 4) pe_int (nomark _)) (pss_cons (ps_set (i := 7) sc_l_term.nd rfl (by first | exact Or.inl rfl | exact Or.inr rfl) (pe_callH h_l_sorted hr (pa_cons (pe_lst (pa_cons (pe_callH h_l_number hr (pa_cons (pv 0) pa_nil)) (pa_cons (pe_callH h_l_number hr (pa_cons (pv 0) pa_nil)) pa_nil))) pa_nil)))
      (pss_one (ps_ret (pe_tup (pa_cons pe_str (pa_cons (pe_ix (ix_seqK K) (pv 7) pe_int (fun _ _ => rfl)) (pa_cons (pe_ix (ix_seqK K) (pv 7) pe_int (fun _ _ => rfl)) (pa_cons (pe_ix (ix_seqK K) (pv 5) pe_int (fun _ _ => rfl)) pa_nil)))))))) pss_nil)
      (pss_cons (ps_if (pt_cmpR op_eq (pv 4) pe_int (nomark _)) (pss_one (ps_ret (pe_tup (pa_cons pe_str (pa_cons (pe_callTy (call_tupleK K) (by rfl) T.tuple (by decide +kernel) (pa_cons (pv 5) pa_nil)) pa_nil))))) pss_nil)
      (pss_cons (ps_if (pt_cmpR op_eq (pv 4) pe_int (nomark _)) (pss_one (ps_ret (pe_tup (pa_cons pe_str (pa_cons (pe_callTy (call_tupleK K) (by rfl) T.tuple (by decide +kernel) (pa_cons (pv 5) pa_nil)) pa_nil))))) pss_nil)
      (pss_cons (ps_if (PW.pt (pw_or (pt_cmpR op_eq (pv 4) pe_int (nomark _)) (pw_or1 (pt_not (pt_val (pv 3)))))) (pss_one (ps_ret (pe_tup (pa_cons pe_str (pa_cons (pe_op op_add pe_int (pe_callH h_l_draw hr (pa_cons (pv 0) (pa_cons (pe_callB (call_lenK K) (by rfl) T.len (by decide +kernel) (pa_cons (pv 5) pa_nil)) pa_nil)))) (pa_cons (pe_callTy (call_tupleK K) (by rfl) T.tuple (by decide +kernel) (pa_cons (pv 5) pa_nil)) pa_nil)))))) pss_nil)
      (pss_one (ps_ret (pe_tup (pa_cons pe_str (pa_cons (pe_callTy (call_tupleK K) (by rfl) T.tuple (by decide +kernel) (pa_cons (pe_lc (own := [("_law_part", 8)]) (g := (gName 8)) (tt := tYes) rfl sc_l_term.nd (pi_listK K (pv 5)) (blkOk_by (N := ["_law_dice_here", "_law_people", "_law_deep", "_law_means", "_law_kind", "_law_parts", "_law_k", "_law_ends", "_law_part"]) (sc := defScope (topS 92)) (by decide +kernel)) (fun _ _ _ _ _ => (pg_name (i := 8) sc_l_term.nd rfl (by first | exact Or.inl rfl | exact Or.inr rfl))) (fun _ _ _ _ _ => pts_nil) (fun _ _ _ _ _ => (pe_tup (pa_cons (pe_op op_add pe_int (pe_callH h_l_draw hr (pa_cons (pv 0) (pa_cons pe_int pa_nil)))) (pa_cons (pv 8) pa_nil))))) pa_nil)) pa_nil)))))))))))), ?_⟩
    have fin : ∀ {v : V} {H2 : Hp} {t : Tm}, XD p H H2 → Dp K (er H2 p) v (eT t) → WT n t → dpt t ≤ m → cnt t ≤ cb m → Q v H2 := fun x dv a b c => q _ _ _ x ⟨n, m, _, rfl, rfl, a, b, c⟩ dv
    have cbm : 1 ≤ cb m := by
      cases m with
      | zero => omega
      | succ m => rw [cb]; omega
    refine qD_asg hdice (evs_drawN rfl (by decide) (by decide)) fun v H2 d x2 ⟨kd, ek, k0, k8⟩ dv => ?_
    subst ek
    cases dv
    have pt : EvT (tOr (tTest (tOp rEq (tVar 2) (tC (.int 1)))) (tTest (tOp rEq (tVar 4) (tC (.int 0))))) [some (.ref p), some (.int (n : Int)), some (.int (m : Int)), some (.bl true), some (.int kd), none, none, none, none] H2 (decide ((m : Int) = 1) || decide (kd = 0)) := Evl.et_or (evt_T (K := K) (eva_eqI (eva_var rfl (.int _)) eva_int)) fun _ => evt_T (K := K) (eva_eqI (eva_var rfl (.int _)) eva_int)
    refine Evl.q_when pt (fun hb H3 e3 => ?_) (fun hb H3 e3 => ?_)
    · have x3 := x2.trans (.of e3 x2.d)
      refine qD_when x3.d (evst_T (evs_eqI (evs_drawN rfl (by decide) (by decide)) evs_i)) (fun H4 x4 _ => ?_) (fun H4 x4 _ => ?_)
      · refine sD_ret x4.d (evs_tup (evsa_cons evs_str (evsa_cons (evs_num rfl) evsa_nil)) (fun ds h => by obtain ⟨_, _, rfl, _, _, _, rfl, _, rfl⟩ := h; simp)) fun v H5 d x5 hd dv => ?_
        obtain ⟨ds, rfl, _, _, rfl, rfl, _, _, rfl, ⟨x, rfl, hx⟩, rfl⟩ := hd
        exact fin (t := .fixed x) ((x3.trans x4).trans x5) (by simp only [eT]; exact dv) (by rw [WT]; exact ⟨hx.num, hx.bot⟩) (by rw [dpt]; exact m1) (by rw [cnt]; exact cbm)
      · refine sD_ret x4.d (evs_tup (evsa_cons evs_str (evsa_cons (evs_draw rfl (evs_vi rfl) (fun b e => by subst e; constructor <;> omega)) evsa_nil)) (fun ds h => by obtain ⟨_, _, rfl, _, _, _, rfl, _, rfl⟩ := h; simp)) fun v H5 d x5 hd dv => ?_
        obtain ⟨ds, rfl, _, _, rfl, rfl, _, _, rfl, ⟨r, rfl, b, rfl, r0, r1⟩, rfl⟩ := hd
        obtain ⟨j, rfl⟩ : ∃ j : Nat, r = (j : Int) := ⟨r.toNat, by omega⟩
        exact fin (t := .bid j) ((x3.trans x4).trans x5) (by simp only [eT]; exact dv) (by rw [WT]; omega) (by rw [dpt]; exact m1) (by rw [cnt]; exact cbm)
    · have x3 := x2.trans (.of e3 x2.d)
      have hm2 : 2 ≤ m := by
        obtain ⟨a, _⟩ := Bool.or_eq_false_iff.mp hb
        have := of_decide_eq_false a
        omega
      have nb : ∀ {y : Int} {D : Ends} {σ : L2.St} {H1 : Hp} {u z : TS}, kd ≠ y → σ[4]? = some (some (.int kd)) → (∀ H2, Ex H1 H2 → z D σ H2) → tSeq (tIfS (tTest (tOp rEq (tVar 4) (tC (.int y)))) u tNext) z D σ H1 := fun {y D σ H1 u z} hne hv hz =>
        Evl.q_when (evt_T (K := K) (eva_eqI (eva_var hv (.int kd)) eva_int)) (fun e => by rw [decide_eq_false hne] at e; cases e) fun _ H2 e2 => hz H2 e2
      have yes : ∀ {y : Int} {D : Ends} {σ : L2.St} {H1 : Hp} {u z : TS}, kd = y → σ[4]? = some (some (.int kd)) → (∀ H2, Ex H1 H2 → u { D with nx := z D } σ H2) → tSeq (tIfS (tTest (tOp rEq (tVar 4) (tC (.int y)))) u tNext) z D σ H1 := fun {y D σ H1 u z} heq hv hu =>
        Evl.q_when (evt_T (K := K) (eva_eqI (eva_var hv (.int kd)) eva_int)) (fun _ H2 e2 => hu H2 e2) (fun e => by rw [decide_eq_true heq] at e; cases e)
      obtain ⟨m', rfl⟩ : ∃ m', m = m' + 1 := ⟨m - 1, by omega⟩
      refine qD_asg x3.d (evs_lcN (S := fun d => ∃ t : Tm, d = eT t ∧ (WT n t ∧ dpt t ≤ m' ∧ cnt t ≤ cb m')) (Pn := fun z => 1 ≤ z ∧ z ≤ 3) (evs_draw1 rfl (by decide) (by decide)) (fun z h => by omega) (fun i σ2 H2 hp => by cases hp; rfl) (fun i σ2 H4 x4 hp => ?_) (fun d ⟨t, e, _⟩ => by rw [e]; exact im_eT t)) fun v H4 d x4 hd dv => ?_
      · cases hp
        refine evs_callD rfl (evsa_cons (evs_vi rfl) (evsa_cons (evs_I0 (evs_vi rfl) evs_i) (evsa_cons (evs_var rfl (.bl true)) evsa_nil))) (fun ds hs => ?_) (fun ds d hs po => ?_)
        · obtain ⟨_, _, rfl, ⟨_, rfl, rfl⟩, _, _, rfl, ⟨_, rfl, i, j, rfl, rfl, rfl⟩, _, _, rfl, rfl, rfl⟩ := hs
          refine ⟨n, m', ?_, n1, n6, by omega, by omega⟩
          have : ((m' + 1 : Nat) : Int) - 1 = (m' : Int) := by omega
          rw [this]
        · obtain ⟨_, _, rfl, ⟨_, rfl, rfl⟩, _, _, rfl, ⟨_, rfl, i, j, rfl, rfl, rfl⟩, _, _, rfl, rfl, rfl⟩ := hs
          obtain ⟨n', m'', t, e, rfl, w1, w2, w3⟩ := po
          have e1 : ((m' + 1 : Nat) : Int) - 1 = (m' : Int) := by omega
          rw [e1] at e
          simp only [List.cons.injEq, PyData.int.injEq, and_true] at e
          have e2 : n' = n := by omega
          have e3 : m'' = m' := by omega
          subst e2 e3
          exact ⟨t, rfl, w1, w2, w3⟩
      obtain ⟨ds, rfl, ⟨l1, l3⟩, hall⟩ := hd
      obtain ⟨ts, rfl, hts⟩ := terms_of hall
      rw [List.length_map] at l1 l3
      have x4' := x3.trans x4
      have l1' : 1 ≤ ts.length := by omega
      have l3' : ts.length ≤ 3 := by omega
      have parts : ∀ {σ : L2.St} {H5 : Hp}, σ[5]? = some (some v) → XD p H4 H5 → EvS K p (tCB (rTup2 K) (tCons (tVar 5) tNil)) σ H5 (fun z => ∃ ds, z = .tuple ds ∧ ds = ts.map eT) := fun hv x5 => evs_tupL ((evs_var hv (dp_ex x5.x dv)).imp fun d e => ⟨_, e, rfl⟩)
      by_cases h1 : kd = 1
      · refine yes h1 rfl fun H5 e5 => ?_
        have x45 := XD.of e5 x4.d
        refine qD_asg x45.d (evs_callL (S := fun z => ∃ lo hi : Int × Int, z = .list [eQ lo, eQ hi] ∧ NOk lo ∧ NOk hi ∧ toR lo ≤ toR hi) (evsa_cons (evs_lst (evsa_cons (evs_num rfl) (evsa_cons (evs_num rfl) evsa_nil)) (fun ds h => by obtain ⟨_, _, rfl, _, _, _, rfl, _, rfl⟩ := h; simp)) evsa_nil) fun ds hs => ?_) fun ev H6 d x6 hd de => ?_
        · obtain ⟨_, _, rfl, ⟨_, rfl, _, _, rfl, ⟨x, rfl, hx⟩, _, _, rfl, ⟨y, rfl, hy⟩, rfl⟩, rfl⟩ := hs
          obtain ⟨lo, hi, es, a, b, c⟩ := two_srt hx hy
          exact ⟨_, ⟨[x, y], rfl, by simp, fun z hz => by
            rcases List.mem_cons.mp hz with e | e
            · rw [e]; exact VOk.fq hx (by decide)
            · rw [List.mem_singleton.mp e]; exact VOk.fq hy (by decide), rfl⟩, by rw [es]; exact ⟨lo, hi, rfl, a, b, c⟩, ims_eQ _⟩
        · obtain ⟨lo, hi, rfl, a, b, c⟩ := hd
          obtain ⟨t, ts', rfl⟩ : ∃ t ts', ts = t :: ts' := by
            cases ts with
            | nil => simp at l1'
            | cons t ts' => exact ⟨t, ts', rfl⟩
          have ht := hts t (by simp)
          have x46 := x45.trans x6
          have ends : ∀ {σ : L2.St} {j : Int} {z : PyData}, σ[7]? = some (some ev) → atI [eQ lo, eQ hi] j = some z → EvS K p (tOp (rIx K) (tVar 7) (tC (.int j))) σ H6 (fun y => y = z) := fun hv hz => evs_ixL (SL := fun ds => ds = [eQ lo, eQ hi]) (P := fun i => i = _) ((evs_var hv de).imp fun d e => ⟨_, e, rfl⟩) evs_i fun ds i e1 e2 => ⟨_, by rw [e1, e2]; exact hz, rfl⟩
          refine sD_ret x6.d (evs_tup (evsa_cons evs_str (evsa_cons (ends (j := 0) (z := eQ lo) rfl rfl) (evsa_cons (ends (j := 1) (z := eQ hi) rfl rfl) (evsa_cons (evs_ixL (S := fun y => y = eT t) (SL := fun ds => ds = (t :: ts').map eT) (P := fun i => i = 0) ((evs_var rfl (dp_ex x46.x dv)).imp fun d e => ⟨_, e, rfl⟩) evs_i fun ds i e1 e2 => ⟨_, by rw [e1, e2]; simp [atI, ixN], rfl⟩) evsa_nil)))) (fun ds h => by obtain ⟨_, _, rfl, _, _, _, rfl, _, _, _, rfl, _, _, _, rfl, _, rfl⟩ := h; simp)) fun v' H7 d x7 hd dv' => ?_
          obtain ⟨ds, rfl, _, _, rfl, rfl, _, _, rfl, rfl, _, _, rfl, rfl, _, _, rfl, rfl, rfl⟩ := hd
          have ok := nd_ok (n := n) (m := m') (ts := [t]) (op := .between lo hi) (by simp) (by simp) (fun u hu => by rw [List.mem_singleton.mp hu]; exact ht) ⟨rfl, a.num, b.num, a.bot, b.bot, c⟩
          exact fin (t := .nd (.between lo hi) [t]) ((x4'.trans x46).trans x7) (by simp only [eT, eTs]; exact dv') ok.1 ok.2.1 ok.2.2
      · refine nb h1 rfl fun H5 e5 => ?_
        by_cases h2 : kd = 2
        · refine yes h2 rfl fun H6 e6 => ?_
          have x46 := XD.of (e5.trans e6) x4.d
          refine sD_ret x46.d (evs_tup (evsa_cons evs_str (evsa_cons (parts rfl x46) evsa_nil)) (fun ds h => by obtain ⟨_, _, rfl, _, _, _, rfl, _, rfl⟩ := h; simp)) fun v' H7 d x7 hd dv' => ?_
          obtain ⟨ds, rfl, _, _, rfl, rfl, _, _, rfl, ⟨_, rfl, rfl⟩, rfl⟩ := hd
          have ok := nd_ok (n := n) (m := m') (ts := ts) (op := .least) l1' l3' hts trivial
          exact fin (t := .nd .least ts) ((x4'.trans x46).trans x7) (by simp only [eT, eTs_map]; exact dv') ok.1 ok.2.1 ok.2.2
        · refine nb h2 rfl fun H6 e6 => ?_
          by_cases h3 : kd = 3
          · refine yes h3 rfl fun H7 e7 => ?_
            have x47 := XD.of ((e5.trans e6).trans e7) x4.d
            refine sD_ret x47.d (evs_tup (evsa_cons evs_str (evsa_cons (parts rfl x47) evsa_nil)) (fun ds h => by obtain ⟨_, _, rfl, _, _, _, rfl, _, rfl⟩ := h; simp)) fun v' H8 d x8 hd dv' => ?_
            obtain ⟨ds, rfl, _, _, rfl, rfl, _, _, rfl, ⟨_, rfl, rfl⟩, rfl⟩ := hd
            have ok := nd_ok (n := n) (m := m') (ts := ts) (op := .greatest) l1' l3' hts trivial
            exact fin (t := .nd .greatest ts) ((x4'.trans x47).trans x8) (by simp only [eT, eTs_map]; exact dv') ok.1 ok.2.1 ok.2.2
          · refine nb h3 rfl fun H7 e7 => ?_
            have x47 := XD.of ((e5.trans e6).trans e7) x4.d
            have lenE : ∀ {σ : L2.St} {H8 : Hp}, σ[5]? = some (some v) → XD p H4 H8 → EvS K p (tCB (rLen2 K) (tCons (tVar 5) tNil)) σ H8 (SI fun z => z = (ts.length : Int)) := fun hv x8 => (evs_pure (eva_lenL (eva_var hv (dp_ex x8.x dv))) rfl).imp fun d e => ⟨_, e, by rw [List.length_map]⟩
            refine Evl.q_when (Evl.et_or (evt_T (K := K) (eva_eqI (eva_var rfl (.int kd)) eva_int)) fun _ => Evl.et_not (evt_B (K := K) (eva_var rfl (.bl true)))) (fun hb H8 e8 => ?_) (fun hb H8 e8 => ?_)
            · have x48 := x47.trans (.of e8 x47.d)
              refine sD_ret x48.d (evs_tup (evsa_cons evs_str (evsa_cons (evs_I0 evs_i (evs_draw rfl (lenE rfl x48) (fun b e => by subst e; constructor <;> omega))) (evsa_cons (parts rfl x48) evsa_nil))) (fun ds h => by obtain ⟨_, _, rfl, _, _, _, rfl, _, _, _, rfl, _, rfl⟩ := h; simp)) fun v' H9 d x9 hd dv' => ?_
              obtain ⟨ds, rfl, _, _, rfl, rfl, _, _, rfl, ⟨_, rfl, i, j, rfl, ⟨b, rfl, j0, j1⟩, rfl⟩, _, _, rfl, ⟨_, rfl, rfl⟩, rfl⟩ := hd
              obtain ⟨j', rfl⟩ : ∃ j' : Nat, j = (j' : Int) := ⟨j.toNat, by omega⟩
              have ok := nd_ok (n := n) (m := m') (ts := ts) (op := .ranked (1 + j')) l1' l3' hts ⟨by omega, by omega⟩
              exact fin (t := .nd (.ranked (1 + j')) ts) ((x4'.trans x48).trans x9) (by simp only [eT, eTs_map]; rw [one_add j'] at dv'; exact dv') ok.1 ok.2.1 ok.2.2
            · have x48 := x47.trans (.of e8 x47.d)
              refine sD_ret x48.d (evs_tup (evsa_cons evs_str (evsa_cons (evs_tupL (evs_lc (S := fun a d => ∃ w : Int, d = .tuple [.int w, a] ∧ 1 ≤ w ∧ w ≤ 5) (evg_list (K := K) (i := 5) (j := 8) rfl (dp_ex x48.x dv) (Ex.refl _)) (by rw [List.length_map]; omega) (fun a σ2 H2 _ hp => by obtain ⟨v, rfl, _⟩ := hp; rfl) (fun a σ2 H9 ha x9 hp => ?_) (fun a d ha hs => ?_))) evsa_nil)) (fun ds h => by obtain ⟨_, _, rfl, _, _, _, rfl, _, rfl⟩ := h; simp)) fun v' H9 d x9 hd dv' => ?_
              · obtain ⟨u, rfl, hu⟩ := hp
                obtain ⟨t, ht, rfl⟩ := List.mem_map.mp ha
                refine (evs_tup (evsa_cons (evs_draw1 rfl (by decide) (by decide)) (evsa_cons (evs_var rfl (dp_er hu (im_eT t) x9.d)) evsa_nil)) (fun ds h => by obtain ⟨_, _, rfl, _, _, _, rfl, _, rfl⟩ := h; simp)).imp fun d h => ?_
                obtain ⟨ds, rfl, _, _, rfl, ⟨w, rfl, w1, w5⟩, _, _, rfl, rfl, rfl⟩ := h
                exact ⟨w, rfl, w1, w5⟩
              · obtain ⟨t, ht, rfl⟩ := List.mem_map.mp ha
                obtain ⟨w, rfl, _⟩ := hs
                simp [im, imAll, im_eT]
              · obtain ⟨ds, rfl, _, _, rfl, rfl, _, _, rfl, ⟨_, rfl, pr⟩, rfl⟩ := hd
                obtain ⟨ws, lw, hw, rfl⟩ := means_of pr
                rw [List.length_map] at lw
                have ok := nd_ok (n := n) (m := m') (ts := ts) (op := .mean ws) l1' l3' hts ⟨lw, fun y hy => by have := hw y hy; omega⟩
                exact fin (t := .nd (.mean ws) ts) ((x4'.trans x48).trans x9) (by simp only [eT, eTs_map]; exact dv') ok.1 ok.2.1 ok.2.2
end
end Cb
set_option Elab.async false
set_option linter.all false
set_option maxRecDepth 100000
set_option maxHeartbeats 8000000
/-! Cb, the law's defs 22: rules that are drawn. -/
namespace Cb
open PySem PySem.Spec PyProof.Rows L2 Evl
theorem qD_whenT {p : Addr} {σ : L2.St} {H : Hp} {tt : TT} {tu tz : TS} {D : Ends} {Pb : Bool → Prop} {Iv : L2.St → Hp → Prop} (tail : ∀ σ' H', Iv σ' H' → tz D σ' H') (hd : Dice H p) (h : EvST p tt σ H Pb) (ht : ∀ H2, XD p H H2 → Pb true → (∀ σ' H', Iv σ' H' → tz D σ' H') → tu { D with nx := tz D } σ H2) (hf : ∀ H2, XD p H H2 → Pb false → Iv σ H2) :
    tSeq (tIfS tt tu tNext) tz D σ H := qD_when hd h (fun H2 x pb => ht H2 x pb tail) fun H2 x pb => tail σ H2 (hf H2 x pb)
theorem paired_mapL {α β γ : Type} {f : α → γ} {S : γ → β → Prop} : ∀ {xs : List α} {ds : List β}, Paired (fun a d => S (f a) d) xs ds → Paired S (xs.map f) ds
  | _, _, .nil => .nil
  | _, _, .cons a t => .cons a (paired_mapL t)
section
variable {P : Program} {w : World} {K : PySem.W.Frag} {mg : Str → Option Value} {base : Heap}
theorem sc_l_rules : FnScope ["_law_dice_here", "_law_people", "_law_many", "_law_found", "_law_k", "_law_term_here", "_law_bids", "_law_person"] ["_law_dice_here", "_law_people", "_law_many"] (defScope (topS 102)) := ⟨rfl, rfl, rfl, by decide +kernel, rfl, by decide +kernel, by decide +kernel⟩
theorem bn_l_rules : Bnd "_law_rules" 102 ["_law_dice_here", "_law_people", "_law_many"] := fun _ _ _ _ _ _ us hl => match us, hl with | [_, _, _], _ => rfl
def preRules (ds : List PyData) : Prop := ∃ n k : Nat, ds = [.int (n : Int), .int (k : Int)] ∧ 1 ≤ n ∧ n ≤ 6 ∧ k ≤ 4
def postRules (ds : List PyData) (d : PyData) : Prop := ∃ (n k : Nat) (ts : List Tm), ds = [.int (n : Int), .int (k : Int)] ∧ d = .list (ts.map eT) ∧ ts.length = k ∧ ∀ t ∈ ts, RT n t
/-- the mean of a term and all bids -/
def wrapT (n : Nat) (t : Tm) (a b : Int) (ws : List Int) : Tm := .nd (.mean [a, b]) [t, .nd (.mean ws) ((List.range n).map Tm.bid)]
theorem wrap_ok {n : Nat} {t : Tm} {a b : Int} {ws : List Int} (n1 : 1 ≤ n) (n6 : n ≤ 6) (hw : WT n t) (hd : dpt t ≤ 3) (hc : cnt t ≤ 13) (ha : 1 ≤ a ∧ a ≤ 3) (hb : 1 ≤ b ∧ b ≤ 3) (lw : ws.length = n) (hws : ∀ w ∈ ws, 1 ≤ w ∧ w ≤ 3) : RT n (wrapT n t a b ws) := by
  have cb1 : ∀ l : List Nat, cnts (l.map Tm.bid) = l.length := fun l => by
    induction l with
    | nil => rfl
    | cons x l ih => rw [List.map_cons, cnts, ih, cnt, List.length_cons]; omega
  have db1 : dpts ((List.range n).map Tm.bid) ≤ 1 := dpts_le.mpr fun t ht => by
    obtain ⟨j, _, rfl⟩ := List.mem_map.mp ht
    rw [dpt]; exact Nat.le_refl _
  refine ⟨n1, n6, ?_, ?_, ?_⟩
  · unfold wrapT
    rw [WT]
    refine ⟨⟨rfl, fun w hw => ?_⟩, by simp, by simp, wts_of fun u hu => ?_⟩
    · rcases List.mem_cons.mp hw with e | e
      · omega
      · have := List.mem_singleton.mp e; omega
    · rcases List.mem_cons.mp hu with e | e
      · rw [e]; exact hw
      · rw [List.mem_singleton.mp e, WT]
        refine ⟨⟨by simp [lw], fun w hw => by have := hws w hw; omega⟩, by simp; omega, by simp; omega, wts_of fun u hu => ?_⟩
        obtain ⟨j, hj, rfl⟩ := List.mem_map.mp hu
        rw [WT]
        exact List.mem_range.mp hj
  · unfold wrapT
    rw [cnt, cnts, cnts, cnts, cnt, cb1, List.length_range]
    omega
  · unfold wrapT
    rw [dpt, dpts, dpts, dpts, dpt]
    omega
theorem has_l_rules {k : Nat} (T : Tb K mg) (h_l_draw : Has P w K mg base "_law_draw" k ["_law_dice_here", "_law_sides"] (spD K preDraw postDraw)) (h_l_term : Has P w K mg base "_law_term" k ["_law_dice_here", "_law_people", "_law_deep", "_law_means"] (spD K (preTerm 3) postTerm)) :
    Has P w K mg base "_law_rules" (k + 1) ["_law_dice_here", "_law_people", "_law_many"] (spD K preRules postRules) := by
  refine has_sp T.f_l_rules sc_l_rules bn_l_rules (fun vs H Q E h => by
    obtain ⟨p, rest, ds, rfl, _, hd, ⟨_, _, rfl, _⟩, _⟩ := h
    rw [List.length_cons, dpa_len hd]
    rfl) fun f cdv A outer s H vs Q E hr h => ?_
  obtain ⟨p, rest, ds, rfl, hdice, hds, ⟨n, m, rfl, n1, n6, m4⟩, q⟩ := h
  obtain ⟨v1, v2, rfl, g1, g2⟩ := dpa2 hds
  cases g1
  cases g2
  refine ⟨_, (pss_cons (ps_set (i := 3) sc_l_rules.nd rfl (by first | exact Or.inl rfl | exact Or.inr rfl) (pe_lst pa_nil))
      (pss_cons (ps_for PassesOwn.never rfl (pi_range1 (by rfl) T.range (pa_cons (pv 2) pa_nil)) (pg_name (i := 4) sc_l_rules.nd rfl (by first | exact Or.inl rfl | exact Or.inr rfl)) (pss_cons (ps_set (i := 5) sc_l_rules.nd rfl (by first | exact Or.inl rfl | exact Or.inr rfl) (pe_callH h_l_term hr (pa_cons (pv 0) (pa_cons (pv 1) (pa_cons (pe_op op_add pe_int (pe_callH h_l_draw hr (pa_cons (pv 0) (pa_cons pe_int pa_nil)))) (pa_cons pe_bl pa_nil))))))
      (pss_cons (ps_if (pt_cmpR op_eq (pe_callH h_l_draw hr (pa_cons (pv 0) (pa_cons pe_int pa_nil))) pe_int (nomark _)) (pss_cons (ps_set (i := 6) sc_l_rules.nd rfl (by first | exact Or.inl rfl | exact Or.inr rfl) (pe_callTy (call_tupleK K) (by rfl) T.tuple (by decide +kernel) (pa_cons (pe_lc (own := [("_law_person", 7)]) (g := (gName 7)) (tt := tYes) rfl sc_l_rules.nd (pi_range1 (by rfl) T.range (pa_cons (pv 1) pa_nil)) (blkOk_by (N := ["_law_dice_here", "_law_people", "_law_many", "_law_found", "_law_k", "_law_term_here", "_law_bids", "_law_person"]) (sc := defScope (topS 102)) (by decide +kernel)) (fun _ _ _ _ _ => (pg_name (i := 7) sc_l_rules.nd rfl (by first | exact Or.inl rfl | exact Or.inr rfl))) (fun _ _ _ _ _ => pts_nil) (fun _ _ _ _ _ => (pe_tup (pa_cons (pe_op op_add pe_int (pe_callH h_l_draw hr (pa_cons (pv 0) (pa_cons pe_int pa_nil)))) (pa_cons (pe_tup (pa_cons pe_str (pa_cons (pv 7) pa_nil))) pa_nil))))) pa_nil)))
      (pss_one (ps_set (i := 5) sc_l_rules.nd rfl (by first | exact Or.inl rfl | exact Or.inr rfl) (pe_tup (pa_cons pe_str (pa_cons (pe_tup (pa_cons (pe_tup (pa_cons (pe_op op_add pe_int (pe_callH h_l_draw hr (pa_cons (pv 0) (pa_cons pe_int pa_nil)))) (pa_cons (pv 5) pa_nil))) (pa_cons (pe_tup (pa_cons (pe_op op_add pe_int (pe_callH h_l_draw hr (pa_cons (pv 0) (pa_cons pe_int pa_nil)))) (pa_cons (pe_tup (pa_cons pe_str (pa_cons (pv 6) pa_nil))) pa_nil))) pa_nil))) pa_nil)))))) pss_nil)
      (pss_one (ps_expr (pe_bm PySem.F.plainAttrs_list PySem.F.slot_list_append PySem.F.type_list_append mt_append (pv 3) (pa_cons (pv 5) pa_nil)))))))
      (pss_one (ps_ret (pv 3))))), ?_⟩
  refine q_asgL (evl_lst (K := K) evaa_nil) fun r ws0 H2 nr e2 hr2 dw => ?_
  cases dw
  have ne : r ≠ p := fun z => by
    obtain ⟨ws, h⟩ := hdice.lst
    rw [z, h] at nr; cases nr
  have x2 := XD.of e2 hdice
  refine q_forG (evg_rng (G := fun _ => True) (evaa_cons (eva_var (K := K) rfl (.int (m : Int))) evaa_nil) (by omega) (by omega))
    (fun i σ' H' => ∃ (ts : List Tm) (ws : List V) (z4 z5 z6 : Option V), σ' = [some (.ref p), some (.int (n : Int)), some (.int (m : Int)), some (.ref r), z4, z5, z6, none] ∧ XD p H H' ∧ H' r = some (.lst ws) ∧ DpAll K (er (er H' p) r) ws (ts.map eT) ∧ ts.length = i ∧ ∀ t ∈ ts, RT n t) (fun _ _ _ _ _ => trivial)
    (fun H4 e4 => ⟨[], [], none, none, none, rfl, x2.trans (.of e4 x2.d), e4 r _ hr2, .nil, rfl, fun t h => by cases h⟩) ?_ ?_
  · intro i hi σ' H' σ2 H4 hP e4 hp'
    obtain ⟨ts, ws, z4, z5, z6, rfl, xb, hrl, hd, hl, hts⟩ := hP
    cases hp'
    have hi' : i < m := by simpa using hi
    have x4 := xb.trans (.of e4 xb.d)
    have hrl4 := e4 r _ hrl
    have hd4 : DpAll K (er (er H4 p) r) ws (ts.map eT) := dpa_ex (er_mono (er_mono e4)) hd
    refine qD_asg x4.d (S := fun d => ∃ t : Tm, d = eT t ∧ WT n t ∧ dpt t ≤ 3 ∧ cnt t ≤ 13) (evs_callD rfl (evsa_cons (evs_vi rfl) (evsa_cons (evs_draw1 rfl (by decide) (by decide)) (evsa_cons (evs_pure eva_bl rfl) evsa_nil))) (fun ds hs => ?_) (fun ds d hs po => ?_)) fun u H5 d x5 ⟨t, et, hw, hdp, hct⟩ du => ?_
    · obtain ⟨_, _, rfl, ⟨_, rfl, rfl⟩, _, _, rfl, ⟨j, rfl, j1, j3⟩, _, _, rfl, rfl, rfl⟩ := hs
      obtain ⟨j', rfl⟩ : ∃ j' : Nat, j = (j' : Int) := ⟨j.toNat, by omega⟩
      exact ⟨n, j', rfl, n1, n6, by omega, by omega⟩
    · obtain ⟨_, _, rfl, ⟨_, rfl, rfl⟩, _, _, rfl, ⟨j, rfl, j1, j3⟩, _, _, rfl, rfl, rfl⟩ := hs
      obtain ⟨n', m', t, e, rfl, w1, w2, w3⟩ := po
      simp only [List.cons.injEq, PyData.int.injEq, and_true] at e
      have e2 : n' = n := by omega
      subst e2
      have m3 : m' ≤ 3 := by omega
      refine ⟨t, rfl, w1, by omega, Nat.le_trans w3 ?_⟩
      have : ∀ a, a ≤ 3 → cb a ≤ 13 := by
        intro a ha
        match a, ha with
        | 0, _ => decide
        | 1, _ => decide
        | 2, _ => decide
        | 3, _ => decide
      exact this m' m3
    subst et
    have ei : (List.range (m : Int).toNat)[i] = i := by simp
    refine qD_whenT (p := p) (Iv := fun σ5 H6 => ∃ (u : V) (t : Tm) (z6 : Option V), σ5 = [some (.ref p), some (.int (n : Int)), some (.int (m : Int)), some (.ref r), some (.int (((List.range (m : Int).toNat)[i] : Nat) : Int)), some u, z6, none] ∧ XD p H4 H6 ∧ Dp K (er H6 p) u (eT t) ∧ RT n t) (fun σ5 H6 hI => ?_) x5.d (evst_T (evs_eqI (evs_drawN rfl (by decide) (by decide)) evs_i)) (fun H6 x6 _ tail => ?_) (fun H6 x6 _ => ?_)
    · obtain ⟨u, t, z6, rfl, x6, du, rt⟩ := hI
      have h6 : H6 r = some (.lst ws) := by
        have := x6.x r _ (by rw [er_ne ne]; exact hrl4)
        rwa [er_ne ne] at this
      have lw : ws.length ≤ 4 := by rw [dpa_len hd4, List.length_map]; omega
      refine s_app (R := fun v H' => v = u ∧ Ex H6 H') rfl h6 (evr_var rfl fun H7 e7 => ⟨rfl, e7⟩) (by omega) fun v H7 e7 hv h7 => ?_
      obtain ⟨rfl, _⟩ := hv
      have x7 := x6.trans (.of e7 x6.d)
      have x7' := x4.trans x7
      refine ⟨ts ++ [t], _, _, _, _, rfl, XD.mut hdice x7' nr ne, upd_same, ?_, by simp [hl], fun t' ht' => ?_⟩
      · rw [er_upd_ne ne, er_upd, List.map_append]
        have hr7 : (er H7 p) r = some (.lst ws) := by rw [er_ne ne]; exact h7
        exact dpa_app (dpa_ex (er_mono x7.x) hd4) (dpa_one (dp_tx (tx_er hr7 rfl) (dp_ex (er_mono e7) du) (im_eT t)))
      · rcases List.mem_append.mp ht' with h | h
        · exact hts t' h
        · rw [List.mem_singleton.mp h]; exact rt
    · have x46 := x5.trans x6
      refine qD_asg x6.d (S := fun d => ∃ ws : List Int, ws.length = n ∧ (∀ w ∈ ws, 1 ≤ w ∧ w ≤ 3) ∧ d = .tuple ((ws.zip ((List.range n).map fun (j : Nat) => eT (.bid j))).map fun p => PyData.tuple [.int p.1, p.2])) ((evs_tupL (evs_lc (S := fun (a : Nat) d => ∃ w : Int, d = .tuple [.int w, eT (.bid a)] ∧ 1 ≤ w ∧ w ≤ 3) (evg_rng (K := K) (n := (n : Int)) (j := 7) (evaa_cons (eva_var (i := 1) rfl (.int (n : Int))) evaa_nil) (by omega) (by omega)) (by rw [List.length_range]; omega) (fun a σ2 H2 _ hp => by cases hp; rfl) (fun a σ2 H9 ha x9 hp => ?_) (fun a d ha hs => ?_))).imp fun d h => ?_) fun bv H7 d x7 ⟨wsb, lwb, hwb, eb⟩ db => ?_
      · cases hp
        refine (evs_tup (evsa_cons (evs_draw1 rfl (by decide) (by decide)) (evsa_cons (evs_tup (evsa_cons evs_str (evsa_cons (evs_var rfl (.int (a : Int))) evsa_nil)) (fun ds h => by obtain ⟨_, _, rfl, _, _, _, rfl, _, rfl⟩ := h; simp)) evsa_nil)) (fun ds h => by obtain ⟨_, _, rfl, _, _, _, rfl, _, rfl⟩ := h; simp)).imp fun d h => ?_
        obtain ⟨ds, rfl, _, _, rfl, ⟨w, rfl, w1, w3⟩, _, _, rfl, ⟨_, rfl, _, _, rfl, rfl, _, _, rfl, rfl, rfl⟩, rfl⟩ := h
        exact ⟨w, by simp only [eT], w1, w3⟩
      · obtain ⟨w, rfl, _⟩ := hs
        simp [im, imAll, im_eT]
      · obtain ⟨ds, rfl, pr⟩ := h
        rw [show (n : Int).toNat = n by omega] at pr
        obtain ⟨ws, l, h, e⟩ := means_of (paired_mapL (f := fun (j : Nat) => eT (.bid j)) pr)
        exact ⟨ws, by simpa using l, h, by rw [e]⟩
      · subst eb
        have x67 := x46.trans x7
        refine sD_asg x7.d (S := fun d => ∃ t' : Tm, d = eT t' ∧ RT n t') ((evs_tup (evsa_cons evs_str (evsa_cons (evs_tup (evsa_cons (evs_tup (evsa_cons (evs_draw1 rfl (by decide) (by decide)) (evsa_cons (evs_var rfl (dp_ex (x6.trans x7).x du)) evsa_nil)) (fun ds h => by obtain ⟨_, _, rfl, _, _, _, rfl, _, rfl⟩ := h; simp)) (evsa_cons (evs_tup (evsa_cons (evs_draw1 rfl (by decide) (by decide)) (evsa_cons (evs_tup (evsa_cons evs_str (evsa_cons (evs_var rfl db) evsa_nil)) (fun ds h => by obtain ⟨_, _, rfl, _, _, _, rfl, _, rfl⟩ := h; simp)) evsa_nil)) (fun ds h => by obtain ⟨_, _, rfl, _, _, _, rfl, _, rfl⟩ := h; simp)) evsa_nil)) (fun ds h => by obtain ⟨_, _, rfl, _, _, _, rfl, _, rfl⟩ := h; simp)) evsa_nil)) (fun ds h => by obtain ⟨_, _, rfl, _, _, _, rfl, _, rfl⟩ := h; simp)).imp fun d h => ?_) fun v H8 d x8 ⟨t', et', rt'⟩ dv => ?_
        · obtain ⟨_, rfl, _, _, rfl, rfl, _, _, rfl, ⟨_, rfl, _, _, rfl, ⟨_, rfl, _, _, rfl, ⟨a, rfl, a1, a3⟩, _, _, rfl, rfl, rfl⟩, _, _, rfl, ⟨_, rfl, _, _, rfl, ⟨b, rfl, b1, b3⟩, _, _, rfl, ⟨_, rfl, _, _, rfl, rfl, _, _, rfl, rfl, rfl⟩, rfl⟩, rfl⟩, rfl⟩ := h
          refine ⟨wrapT n t a b wsb, ?_, wrap_ok n1 n6 hw hdp hct ⟨a1, a3⟩ ⟨b1, b3⟩ lwb hwb⟩
          unfold wrapT
          simp only [eT, eTs, eTs_map, List.zip_cons_cons, List.zip_nil_right, List.map_cons, List.map_nil, List.map_map]
          rfl
        · subst et'
          exact tail _ _ ⟨v, t', some bv, rfl, x67.trans x8, dv, rt'⟩
    · exact ⟨u, t, z6, rfl, x5.trans x6, dp_ex x6.x du, n1, n6, hw, by omega, by omega⟩
  · intro σ' H' hP
    obtain ⟨ts, ws, z4, z5, z6, rfl, xb, hrl, hd, hl, hts⟩ := hP
    rw [List.length_range, show (m : Int).toNat = m by omega] at hl
    exact ⟨_, rfl, q _ H' _ xb ⟨n, m, ts, rfl, rfl, hl, hts⟩ (dp_newL (by rw [er_ne ne]; exact hrl) (dpa_ex er_ex hd))⟩
end
end Cb
set_option Elab.async false
set_option linter.all false
set_option maxRecDepth 100000
set_option maxHeartbeats 8000000
/-! Cb, the layer: what the law itself needs: logs beside the dice, == of tuples, stores that draw. -/
namespace Cb
open PySem PySem.Spec PyProof.Rows L2 Evl
/-! ### == of data -/
theorem clA_map {α : Type} (f : α → PyData) (h : ∀ a, PyData.canLay0 (f a) = true) : ∀ xs : List α, PyData.canLayAll0 (xs.map f) = true
  | [] => rfl
  | x :: xs => by
    show (PyData.canLay0 (f x) && PyData.canLayAll0 (xs.map f)) = true
    rw [h, clA_map f h xs]; rfl
theorem dpA_map {α : Type} (f : α → PyData) (k : Nat) (h : ∀ a, PyData.depth (f a) ≤ k) : ∀ xs : List α, PyData.depthAll (xs.map f) ≤ k
  | [] => Nat.zero_le _
  | x :: xs => by
    show max (PyData.depth (f x)) (PyData.depthAll (xs.map f)) ≤ k
    have := h x
    have := dpA_map f k h xs
    omega
theorem clT_map {α : Type} (f : α → PyData) (h : ∀ a, PyData.canLay0 (f a) = true) (xs : List α) : PyData.canLay0 (.tuple (xs.map f)) = true := clA_map f h xs
theorem clL_map {α : Type} (f : α → PyData) (h : ∀ a, PyData.canLay0 (f a) = true) (xs : List α) : PyData.canLay0 (.list (xs.map f)) = true := clA_map f h xs
theorem dT_map {α : Type} (f : α → PyData) (k : Nat) (h : ∀ a, PyData.depth (f a) ≤ k) (xs : List α) : PyData.depth (.tuple (xs.map f)) ≤ k + 1 := by
  show PyData.depthAll (xs.map f) + 1 ≤ k + 1
  have := dpA_map f k h xs
  omega
theorem dL_map {α : Type} (f : α → PyData) (k : Nat) (h : ∀ a, PyData.depth (f a) ≤ k) (xs : List α) : PyData.depth (.list (xs.map f)) ≤ k + 1 := by
  show PyData.depthAll (xs.map f) + 1 ≤ k + 1
  have := dpA_map f k h xs
  omega
theorem sh_of {d : PyData} {k : Nat} (h1 : PyData.canLay0 d = true) (h2 : PyData.depth d ≤ k) (hk : k ≤ 64) : SeqAt.shaped d = true := by
  unfold SeqAt.shaped
  rw [h1, decide_eq_true (Nat.le_trans h2 hk)]
  rfl
theorem sh_ints (ns : List Int) : SeqAt.shaped (.list (ns.map PyData.int)) = true := sh_of (clL_map _ (fun _ => rfl) ns) (dL_map _ 0 (fun _ => Nat.le_refl _) ns) (by decide)
theorem cl_eL (l : List Nat) : PyData.canLay0 (eL l) = true := clT_map _ (fun _ => rfl) _
theorem d_eL (l : List Nat) : PyData.depth (eL l) ≤ 1 := dT_map _ 0 (fun _ => Nat.le_refl _) _
theorem sh_eL (l : List Nat) : SeqAt.shaped (eL l) = true := sh_of (cl_eL l) (d_eL l) (by decide)
theorem sh_eLs (ls : List (List Nat)) : SeqAt.shaped (.list (ls.map eL)) = true := sh_of (clL_map _ cl_eL ls) (dL_map _ 1 d_eL ls) (by decide)
theorem sh_eW (b : List Q) : SeqAt.shaped (eW b) = true := sh_of (clT_map _ (fun _ => rfl) b) (dT_map _ 1 (fun _ => Nat.le_refl _) b) (by decide)
theorem sh_eOW (o : Option (List Q)) : SeqAt.shaped (eOW o) = true := by
  cases o with
  | none => rfl
  | some b => exact sh_eW b
theorem eqvA_map {α : Type} [DecidableEq α] {f : α → PyData} (h : ∀ x y, PyData.eqv (f x) (f y) = decide (x = y)) : ∀ xs ys : List α, PyData.eqvAll (xs.map f) (ys.map f) = decide (xs = ys)
  | [], [] => rfl
  | [], _ :: _ => rfl
  | _ :: _, [] => rfl
  | x :: xs, y :: ys => by
    show (PyData.eqv (f x) (f y) && PyData.eqvAll (xs.map f) (ys.map f)) = _
    rw [h, eqvA_map h xs ys]
    by_cases h1 : x = y <;> by_cases h2 : xs = ys <;> simp [h1, h2]
theorem eqv_int (i j : Int) : PyData.eqv (.int i) (.int j) = decide (i = j) := by
  show (i == j) = _
  by_cases h : i = j <;> simp [h]
theorem eqv_ints (ns ms : List Int) : PyData.eqv (.list (ns.map PyData.int)) (.list (ms.map PyData.int)) = decide (ns = ms) := eqvA_map eqv_int ns ms
theorem zi_inj {a b : List Nat} (h : zi a = zi b) : a = b := by
  induction a generalizing b with
  | nil => cases b with
    | nil => rfl
    | cons _ _ => cases h
  | cons x a ih => cases b with
    | nil => cases h
    | cons y b =>
      simp only [List.map_cons, List.cons.injEq] at h
      have h1 : x = y := by omega
      rw [h1, ih h.2]
theorem eqv_eL (a b : List Nat) : PyData.eqv (eL a) (eL b) = decide (a = b) := by
  have e : PyData.eqv (eL a) (eL b) = decide (zi a = zi b) := eqvA_map eqv_int (zi a) (zi b)
  rw [e]
  exact decide_eq_decide.mpr ⟨zi_inj, fun h => by rw [h]⟩
theorem eqv_eW (a b : List Q) : PyData.eqv (eW a) (eW b) = decide (a = b) := eqvA_map eqv_eQ a b
theorem eqv_eOW (o : Option (List Q)) : PyData.eqv (eOW o) (eOW o) = true := by
  cases o with
  | none => rfl
  | some b =>
    show PyData.eqv (eW b) (eW b) = true
    rw [eqv_eW]
    exact decide_eq_true rfl
theorem any_eqvL (ls : List (List Nat)) (l : List Nat) : ((ls.map eL).any fun z => PyData.eqv z (eL l)) = decide (l ∈ ls) := by
  induction ls with
  | nil => simp
  | cons y ls ih =>
    rw [List.map_cons, List.any_cons, ih, eqv_eL]
    by_cases h : y = l
    · subst h; simp
    · have h2 : ¬ l = y := fun q => h q.symm
      simp [h, h2]
section
variable {K : PySem.W.Frag} {σ : L2.St} {H : Hp} {ta tb : TE}
theorem eva_inLs {ls : List (List Nat)} {l : List Nat} (ha : Eva K ta σ H (eL l)) (hb : Eva K tb σ H (.list (ls.map eL))) : Eva K (tOp (rInD K) ta tb) σ H (.bool (decide (l ∈ ls))) := eva_is (eva_inD ha hb (sh_eL l) (sh_eLs ls)) (by rw [any_eqvL])
theorem eva_notInLs {ls : List (List Nat)} {l : List Nat} (ha : Eva K ta σ H (eL l)) (hb : Eva K tb σ H (.list (ls.map eL))) : Eva K (tOp (rNotInD K) ta tb) σ H (.bool (!decide (l ∈ ls))) := eva_is (eva_notInD ha hb (sh_eL l) (sh_eLs ls)) (by rw [any_eqvL])
theorem eva_neL {a b : List Nat} (ha : Eva K ta σ H (eL a)) (hb : Eva K tb σ H (eL b)) : Eva K (tOp (rNeD K) ta tb) σ H (.bool (!decide (a = b))) := eva_is (eva_neD ha hb (sh_eL a) (sh_eL b)) (by rw [eqv_eL])
theorem eva_neInts {a b : List Int} (ha : Eva K ta σ H (.list (a.map PyData.int))) (hb : Eva K tb σ H (.list (b.map PyData.int))) : Eva K (tOp (rNeD K) ta tb) σ H (.bool (!decide (a = b))) := eva_is (eva_neD ha hb (sh_ints a) (sh_ints b)) (by rw [eqv_ints])
theorem eva_neOW {o : Option (List Q)} (ha : Eva K ta σ H (eOW o)) (hb : Eva K tb σ H (eOW o)) : Eva K (tOp (rNeD K) ta tb) σ H (.bool false) := eva_is (eva_neD ha hb (sh_eOW o) (sh_eOW o)) (by rw [eqv_eOW]; rfl)
end
/-- a class that is made, the names' table given (it stands within comprehensions too) -/
theorem pe_makeHM (mg : Str → Option Value) {X : Cx} {x : Str} {k : Nat} {ps : List Str} {sp : Sp} {e : Expr} {es : List Expr} {t : TA} {p pos : Pos} (h : HasMk X.prog X.w X.K X.mg X.base x k ps sp) (hr : Room (k + 1) X.A) (ha : PA X (e :: es) t) (hm : X.mg = mg := by rfl) (hg : Gl X x := by rfl) (hd : (x == ("__debug__" : Str)) = false := by decide) (he : starEach (e :: es) X.env = (false, eval e X.env) :: starEach es X.env := by rfl)
    (hpl : (backTo pos (starEach es X.env)).any (·.1) = false := by rfl) : PE X (.Call (.Name x p) (e :: es) [] pos) (tMake (refAt mg x) sp [] E0 t) := hm ▸ pe_makeH h hr ha hg hd he hpl
/-! ### logs beside a list of one's own -/
section
variable {K : PySem.W.Frag} {C : Addr} {n : Nat} {H : Hp} {v : V} {p : Addr} {ws : List V}
theorem rule_er {t : Tm} (h : RuleR K C H v n t) (hp : H p = some (.lst ws)) : RuleR K C (er H p) v n t := by
  obtain ⟨a, dx, fs, vt, rfl, h1, h2, h3, h4⟩ := h
  have ne : a ≠ p := fun z => by rw [z, hp] at h1; cases h1
  exact ⟨a, dx, fs, vt, rfl, by rw [er_ne ne]; exact h1, h2, h3, dp_tx (tx_er hp rfl) h4 (im_eT t)⟩
theorem pair_er {x : Tm × Q} (h : PairR K C n H v x) (hp : H p = some (.lst ws)) : PairR K C n (er H p) v x := by
  obtain ⟨b, r, u, rfl, h1, h2, h3⟩ := h
  exact ⟨b, r, u, rfl, sqt_tx (tx_er hp rfl) h1, rule_er h2 hp, dp_tx (tx_er hp rfl) h3 (im_eQ _)⟩
theorem log_er {log : Log} (h : LogR K C n H v log) (hp : H p = some (.lst ws)) : LogR K C n (er H p) v log := by
  obtain ⟨a, vs, rfl, h1, h2⟩ := h
  exact ⟨a, vs, rfl, sqt_tx (tx_er hp rfl) h1, Paired.mapP h2 fun v x r => pair_er r hp⟩
/-- a new list beside the dice -/
theorem lst_er {H2 : Hp} {q : Addr} {vs : List V} {ds : List PyData} (hd : Dice H p) (nq : H q = none) (e : Ex H H2) (hq : H2 q = some (.lst vs)) (hv : DpAll K (er H2 q) vs ds) (m : imAll ds = true) : Dp K (er H2 p) (.ref q) (.list ds) := by
  have ne : q ≠ p := fun z => by
    obtain ⟨ws, h⟩ := hd.lst
    rw [z, h] at nq; cases nq
  exact dp_newL (by rw [er_ne ne]; exact hq) (dpa_er (dpa_ex er_ex hv) m (hd.ex e))
end
section
variable {K : PySem.W.Frag} {σ : L2.St} {H : Hp} {te ta tb : TE} {α : Type}
theorem evr_tupF {F : V → α → Hp → Prop} {xs : List α} (h : EvF F te σ H xs) (hx : ∀ v a H1 H2, F v a H1 → Ex H1 H2 → F v a H2) : Evr (tCB (rTup2 K) (tCons te tNil)) σ H (fun v H' => ∃ a vs, v = .ref a ∧ SqT K H' a vs ∧ Paired (fun v a => F v a H') vs xs) := fun H1 e Q q =>
  h H1 e _ fun p ws H2 np e2 hp hpr => ⟨p, ws, rfl, .inl ⟨.inl (.inl hp), fun r hr => q _ _ (e2.trans (Ex.new hr)) ⟨r, ws, rfl, .inl (.inl upd_same), Paired.mapP hpr fun v a z => hx v a _ _ z (Ex.new hr)⟩⟩⟩
theorem evr_pair {C : Addr} {n : Nat} {x : Tm × Q} (ha : Evr ta σ H (fun v H' => RuleR K C H' v n x.1)) (hb : Eva K tb σ H (eQ x.2)) : Evr (tTup (tCons ta (tCons tb tNil))) σ H (fun v H' => PairR K C n H' v x) := fun H1 e Q q =>
  ha H1 e _ fun u H2 e2 ru => hb H2 (e.trans e2) _ fun w H3 e3 dw => ⟨by simp; exact sz_of (by omega), fun p hp => q _ _ ((e2.trans e3).trans (Ex.new hp)) ⟨p, u, w, rfl, .inl (.inl upd_same), rule_ex (e3.trans (Ex.new hp)) ru, dp_ex (Ex.new hp) dw⟩⟩
theorem evf_lc {wi : TI} {g : TG} {vs : List Nat} {xs : List α} {P : α → L2.St → L2.St → Hp → Prop} {R : V → α → Hp → Prop} (hi : EvI wi g σ H xs P) (hz : xs.length < 100000) (hw : ∀ a σ2 H2, a ∈ xs → P a (wipe σ vs) σ2 H2 → wipe σ2 vs = wipe σ vs)
    (he : ∀ a σ2 H2, a ∈ xs → Ex H H2 → P a (wipe σ vs) σ2 H2 → Evr te σ2 H2 (fun v H' => R v a H')) (hx : ∀ a v H1 H2, R v a H1 → Ex H1 H2 → R v a H2) (hm : ∀ a v H1 q ws, a ∈ xs → R v a H1 → H1 q = some (.lst ws) → R v a (er H1 q)) :
    EvF R (tLc wi g tYes te vs) σ H xs := fun H1 e1 Q q =>
  lc_gen (R := fun a v H => R v a H) hi hz (fun _ => true) hw (fun _ _ _ _ _ _ => evt_yes) (fun a σ2 H2 ha _ ex hp => he a σ2 H2 ha ex hp) hx hm H1 e1 Q fun p ws H2 np e2 hp pr => by
    rw [List.filter_eq_self.mpr fun _ _ => rfl] at pr
    exact q p ws H2 np e2 hp (Paired.mapP pr fun v a r => hx a v _ _ r er_ex)
end
/-! ### what draws, by a name at any place -/
section
variable {K : PySem.W.Frag} {p : Addr} {σ : L2.St} {H : Hp} {te ta tb : TE} {E : XK} {D : Ends} {tz : TS} {S : PyData → Prop}
theorem evs_drawA {i : Nat} {B : Int → Prop} (hv : σ[i]? = some (some (.ref p))) (ht : EvS K p te σ H (SI B)) (hB : ∀ b, B b → 1 ≤ b ∧ b ≤ 2 ^ 40) : EvS K p (tCall (spD K preDraw postDraw) [] E (tCons (tVar i) (tCons te tNil))) σ H (SI fun r => ∃ b, B b ∧ 0 ≤ r ∧ r < b) :=
  evs_callD hv (evsa_cons ht evsa_nil) (fun ds hs => by
    obtain ⟨d, ds', rfl, ⟨i, rfl, hi⟩, rfl⟩ := hs
    exact ⟨i, rfl, hB i hi⟩) (fun ds d hs po => by
    obtain ⟨d', ds', rfl, ⟨i, rfl, hi⟩, rfl⟩ := hs
    obtain ⟨s, r, e, rfl, r0, r1⟩ := po
    cases e
    exact ⟨r, rfl, i, hi, r0, r1⟩)
theorem evs_drawAN {i : Nat} {n : Int} (hv : σ[i]? = some (some (.ref p))) (h1 : 1 ≤ n) (h2 : n ≤ 2 ^ 40) : EvS K p (tCall (spD K preDraw postDraw) [] E (tCons (tVar i) (tCons (tC (.int n)) tNil))) σ H (SI fun r => 0 ≤ r ∧ r < n) :=
  (evs_drawA hv evs_i (fun b e => by subst e; exact ⟨h1, h2⟩)).imp fun d ⟨r, e, b, eb, r0, r1⟩ => ⟨r, e, r0, by subst eb; exact r1⟩
/-- k + a draw -/
theorem evs_drawAK {i : Nat} {n k : Int} (hv : σ[i]? = some (some (.ref p))) (h1 : 1 ≤ n) (h2 : n ≤ 2 ^ 30) : EvS K p (tOp (rI0 fun i j => .int (i + j)) (tC (.int k)) (tCall (spD K preDraw postDraw) [] E (tCons (tVar i) (tCons (tC (.int n)) tNil)))) σ H (SI fun r => k ≤ r ∧ r ≤ k + n - 1) :=
  (evs_I0 evs_i (evs_drawAN hv h1 (by omega))).imp fun d ⟨r, e, i, j, ei, ⟨j0, j1⟩, er⟩ => ⟨r, e, by subst ei; subst er; omega⟩
theorem evs_numA {i : Nat} (hv : σ[i]? = some (some (.ref p))) : EvS K p (tCall (spD K preNum postNum) [] E (tCons (tVar i) tNil)) σ H (fun d => ∃ x : Q, d = eQ x ∧ NOk x) :=
  evs_callD hv evsa_nil (fun ds e => e) (fun ds d _ h => h)
/-- a and b, the second may draw -/
theorem evs_and {P1 P2 : Bool → Prop} (ha : EvS K p ta σ H (SB P1)) (hb : EvS K p tb σ H (SB P2)) : EvS K p (tAndV ta tb) σ H (SB fun b => b = true → P1 true) := fun H1 x Q q =>
  ha H1 x _ fun v H2 d x2 ⟨b, e, pb⟩ dv => by
    subst e
    cases dv
    refine ⟨b, rfl, ?_⟩
    cases b with
    | true => exact hb H2 (x.trans x2) _ fun u H3 d' x3 ⟨c, e, _⟩ du => q u H3 d' (x2.trans x3) ⟨c, e, fun _ => pb⟩ du
    | false => exact q _ H2 _ x2 ⟨false, rfl, fun h => by cases h⟩ (.bl false)
theorem evs_intB {P1 : Bool → Prop} (h : EvS K p te σ H (SB P1)) : EvS K p (tCB rInt1 (tCons te tNil)) σ H (SI fun i => ∃ b, P1 b ∧ i = if b then 1 else 0) := fun H1 x Q q =>
  h H1 x _ fun v H2 d x2 ⟨b, e, pb⟩ dv => by
    subst e
    cases dv
    exact .inr ⟨b, rfl, q _ H2 _ x2 ⟨_, rfl, b, pb, rfl⟩ (.int _)⟩
/-- xs[k] = something that draws -/
theorem qD_set {i j m : Nat} {l : Addr} {xs : List V} (hd : Dice H p) (h : EvS K p te σ H S) (hv : σ[i]? = some (some (.ref l))) (hj : σ[j]? = some (some (.int (m : Int)))) (hl : H l = some (.lst xs)) (ne : l ≠ p) (hm : m < xs.length)
    (k : ∀ v H2 d, XD p H H2 → S d → Dp K (er H2 p) v d → H2 l = some (.lst xs) → tz D σ (upd H2 l (.lst (xs.set m v)))) : tSeq (tAsg te (gSub (tVar i) (tVar j) rSetL)) tz D σ H :=
  h H (.refl hd) _ fun v H2 d x2 sd dv => by
    have hl2 : H2 l = some (.lst xs) := by
      have := x2.x l _ (by rw [er_ne ne]; exact hl)
      rwa [er_ne ne] at this
    exact ⟨_, hv, _, hj, l, xs, (m : Int), m, rfl, rfl, hl2, Evl.ixN_nat hm, k v H2 d x2 sd dv hl2⟩
/-- xs = [.. for _ in range(n)], the items drawn -/
theorem qD_lcL {vs : List Nat} {i j n : Nat} {m : Int} (hd : Dice H p) (em : m = (n : Int)) (hn : n ≤ 1000) (hw : ∀ i σ2 H2, PN j i (wipe σ vs) σ2 H2 → wipe σ2 vs = wipe σ vs) (he : ∀ i σ2 H3, XD p H H3 → PN j i (wipe σ vs) σ2 H3 → EvS K p te σ2 H3 S) (hm : ∀ d, S d → im d = true)
    (k : ∀ Dl ws ds H2, H Dl = none → Dl ≠ p → XD p H H2 → H2 Dl = some (.lst ws) → DpAll K (er (er H2 p) Dl) ws ds → imAll ds = true → ds.length = n → (∀ d ∈ ds, S d) → tz D (σ.set i (some (.ref Dl))) H2) :
    tSeq (tAsg (tLc (iRng1 (tCons (tC (.int m)) tNil)) (gName j) tYes te vs) (gName i)) tz D σ H := by
  subst em
  refine ⟨(n : Int), rfl, by omega, by omega, ?_⟩
  show tLc (fun _ H R => R (Itr 0 (n : Int).toNat) H) (gName j) tYes te vs σ H (fun x H1 => tz D (σ.set i (some x)) H1)
  refine lcd_coreL (J := Itr 0 (n : Int).toNat) (H := H) (S := fun _ => S) (wk_rng (j := j) rfl) (by rw [List.length_range]; omega) (fun a σ2 H2 _ h => hw a σ2 H2 h) (fun a σ2 H3 _ x3 h => he a σ2 H3 x3 h) (fun _ d _ h => hm d h) (.refl hd) fun Dl ws ds H2 nD ne x2 h2 dv hm pr => ?_
  refine k Dl ws ds H2 nD ne x2 h2 dv hm ?_ (paired_all pr)
  have := paired_len pr
  rw [List.length_range] at this
  omega
end
end Cb
set_option Elab.async false
set_option linter.all false
set_option maxRecDepth 100000
set_option maxHeartbeats 8000000
/-! Cb, the law's defs 23: a log that is well. -/
namespace Cb
open PySem PySem.Spec PyProof.Rows L2 Evl
theorem zip_log {α β : Type} (f : Tm × Q → α) (g : Tm × Q → β) : ∀ log : Log, (log.map f).zip (log.map g) = log.map fun p => (f p, g p)
  | [] => rfl
  | p :: log => by rw [List.map_cons, List.map_cons, List.zip_cons_cons, zip_log f g log, List.map_cons]
theorem evi_log2 {K : PySem.W.Frag} {σ : L2.St} {H : Hp} {tl tb : TE} {j k : Nat} {log : Log} (h1 : Eva K tl σ H (.list (log.map fun p => eT p.1))) (h2 : Eva K tb σ H (.list (log.map fun p => eQ p.2))) : EvI (iZip K (tCons tl (tCons tb tNil))) (g2 K j k) σ H log (fun p => P2 K j k (eT p.1, eQ p.2)) :=
  EvI.map (f := fun p : Tm × Q => (eT p.1, eQ p.2)) (by
    have e := evi_zip (j := j) (k := k) (evaa_cons h1 (evaa_cons h2 evaa_nil))
    rwa [zip_log] at e)
theorem may_sorted {n : Nat} {log : Log} (ok : LogOk n log) {person : Nat} (hp : person < n) : zi (mayStand (levels n log) person) = usort ((lawFit n log).map fun st => ((st.getD person 0 : Nat) : Int)) := by
  have hsmall : ∀ k ∈ (lawFit n log).map (fun st => ((st.getD person 0 : Nat) : Int)), 0 ≤ k ∧ k < 60 := fun k hk => by
    obtain ⟨st, hst, rfl⟩ := List.mem_map.mp hk
    obtain ⟨h1, h2, _⟩ := (lawFit_mem ok).mp hst
    have hp' : person < st.length := by omega
    rw [List.getD_eq_getElem?_getD, List.getElem?_eq_getElem hp']
    have := (openL_mem.mp (h2 _ (List.getElem_mem hp'))).2
    have l := nums_len log
    have := ok.l4
    unfold lastOpen at *
    show 0 ≤ ((st[person] : Nat) : Int) ∧ ((st[person] : Nat) : Int) < 60
    omega
  refine asc_unique ?_ (usort_asc _) fun k => ?_
  · rw [List.pairwise_map]
    exact (may_asc _ _).imp fun h => by omega
  · rw [usort_mem hsmall, List.mem_map, List.mem_map]
    constructor
    · rintro ⟨j, hj, rfl⟩
      obtain ⟨st, hst, e⟩ := (may_fit ok hp).mp hj
      exact ⟨st, hst, by rw [List.getD_eq_getElem?_getD, e]; rfl⟩
    · rintro ⟨st, hst, rfl⟩
      obtain ⟨h1, _, _⟩ := (lawFit_mem ok).mp hst
      have hp' : person < st.length := by omega
      exact ⟨st.getD person 0, (may_fit ok hp).mpr ⟨st, hst, by rw [List.getD_eq_getElem?_getD, List.getElem?_eq_getElem hp']; rfl⟩, rfl⟩
theorem lawFit_few {n : Nat} {log : Log} (ok : LogOk n log) : (lawFit n log).length ≤ 729 := by
  have ul := unlike_len (told log)
  have tl : (told log).length = log.length := by simp [told]
  have u1 : 1 ≤ (unlike (told log)).length := by rw [nums_unlike ok]; exact nums_ne ok
  have ol := openL_len (unlike (told log)) u1
  have o3 : (openL (unlike (told log))).length ^ n ≤ 729 := Nat.le_trans (Nat.pow_le_pow_left (by omega) n) ok.few
  refine Nat.le_trans (List.length_filter_le _ _) ?_
  rw [tuplesF_len]
  exact o3
theorem im_eOW (o : Option (List Cb.Q)) : im (eOW o) = true := by
  cases o with
  | none => rfl
  | some b => exact imAll_map eQ im_eQ b
theorem eWs_of {S : List Cb.Q → Prop} : ∀ {ds : List PyData}, (∀ d ∈ ds, ∃ b : List Cb.Q, d = eW b ∧ S b) → ∃ rs : List (List Cb.Q), ds = rs.map eW ∧ ∀ b ∈ rs, S b
  | [], _ => ⟨[], rfl, fun x h => by cases h⟩
  | d :: ds, h => by
    obtain ⟨x, rfl, hx⟩ := h d (by simp)
    obtain ⟨b, rfl, hb⟩ := eWs_of (ds := ds) fun d hd => h d (by simp [hd])
    refine ⟨x :: b, rfl, fun y hy => ?_⟩
    rcases List.mem_cons.mp hy with e | e
    · rw [e]; exact hx
    · exact hb y e
theorem eOW_no (o : Option (List Cb.Q)) : isNo (eOW o) = decide (o = none) := by
  cases o with
  | none => rfl
  | some b => rfl
section
variable {P : Program} {w : World} {K : PySem.W.Frag} {mg : Str → Option Value} {base : Heap}
theorem sc_l_is_well : FnScope ["_law_dice_here", "_law_people", "_law_terms", "_law_told", "_law_log", "_law_term_here", "_law_number_here", "_law_due", "_law_numbers_here", "_law_person", "_law_stand", "_law_stood", "_law_found", "_law_rows", "_law_turn", "_law_wishes", "_law_wish", "_law_fit"] ["_law_dice_here", "_law_people", "_law_terms", "_law_told"] (defScope (topS 109)) := ⟨rfl, rfl, rfl, by decide +kernel, rfl, by decide +kernel, by decide +kernel⟩
theorem bn_l_is_well : Bnd "_law_is_well" 109 ["_law_dice_here", "_law_people", "_law_terms", "_law_told"] := fun _ _ _ _ _ _ us hl => match us, hl with | [_, _, _, _], _ => rfl
def preWell (ds : List PyData) : Prop := ∃ (n : Nat) (log : Log), ds = [.int (n : Int), .list (log.map fun p => eT p.1), .list (log.map fun p => eQ p.2)] ∧ LogOk n log
def postWell (_ : List PyData) (d : PyData) : Prop := d = .bool true
theorem has_l_is_well {k : Nat} (T : Tb K mg) (h_Rule : HasMk P w K mg base "Rule" k ["self", "people", "term"] (spInit K (RuleC mg))) (h_l_fitting : Has P w K mg base "_law_fitting" (k + 1) ["_law_people", "_law_terms", "_law_told"] (spL K rFitL))
    (h_l_unlike : Has P w K mg base "_law_unlike" (k + 1) ["_law_numbers_here"] (spL K rUnlike)) (h_many_places : Has P w K mg base "many_places" (k + 1) ["log"] (spG K (RuleC mg) rMany)) (h_may_stand : Has P w K mg base "may_stand" (k + 1) ["log", "person"] (spGL K (RuleC mg) rMay))
    (h_fitting : Has P w K mg base "fitting" (k + 1) ["log"] (spG K (RuleC mg) rFitting)) (h_l_numbers : Has P w K mg base "_law_numbers" (k + 1) ["_law_dice_here", "_law_many"] (spD K preNums postNums)) (h_places : Has P w K mg base "places" (k + 1) ["log", "wishes"] (spG K (RuleC mg) rPlaces))
    (h_l_place : Has P w K mg base "_law_place" (k + 1) ["_law_numbers_here", "_law_wish"] (spR K rPlaceOf)) (h_l_is_outcome : Has P w K mg base "_law_is_outcome" (k + 1) ["_law_people", "_law_term_here", "_law_wishes", "_law_number_here"] (spR K rIsOut))
    (h_l_flag : Has P w K mg base "_law_flag" (k + 1) ["_law_told", "_law_due"] (spR K rFlag)) (h_fits : Has P w K mg base "fits" (k + 1) ["log", "wishes"] (spG K (RuleC mg) rFit)) :
    Has P w K mg base "_law_is_well" (k + 2) ["_law_dice_here", "_law_people", "_law_terms", "_law_told"] (spD K preWell postWell) := by
  refine has_sp T.f_l_is_well sc_l_is_well bn_l_is_well (fun vs H Q E h => by
    obtain ⟨p, rest, ds, rfl, _, hd, ⟨_, _, rfl, _⟩, _⟩ := h
    rw [List.length_cons, dpa_len hd]
    rfl) fun f cdv A outer s H vs Q E hr h => ?_
  obtain ⟨p, rest, ds, rfl, hdice, hds, ⟨n, log, rfl, ok⟩, q⟩ := h
  obtain ⟨v1, tv, uv, rfl, g1, ht0, hu0⟩ := dpa3 hds
  cases g1
  refine ⟨_, (pss_cons (ps_set (i := 4) sc_l_is_well.nd rfl (by first | exact Or.inl rfl | exact Or.inr rfl) (pe_callTy (call_tupleK K) (by rfl) T.tuple (by decide +kernel) (pa_cons (pe_lc (own := [("_law_term_here", 5), ("_law_number_here", 6)]) (g := (g2 K 5 6)) (tt := tYes) rfl sc_l_is_well.nd (pi_zip (by rfl) T.zip (pa_cons (pv 2) (pa_cons (pv 3) pa_nil))) (blkOk_by (N := ["_law_dice_here", "_law_people", "_law_terms", "_law_told", "_law_log", "_law_term_here", "_law_number_here", "_law_due", "_law_numbers_here", "_law_person", "_law_stand", "_law_stood", "_law_found", "_law_rows", "_law_turn", "_law_wishes", "_law_wish", "_law_fit"]) (sc := defScope (topS 109)) (by decide +kernel)) (fun _ _ _ _ _ => (pg_tup rfl (pgs_cons (pg_name (i := 5) sc_l_is_well.nd rfl (by first | exact Or.inl rfl | exact Or.inr rfl)) (pgs_cons (pg_name (i := 6) sc_l_is_well.nd rfl (by first | exact Or.inl rfl | exact Or.inr rfl)) pgs_nil)))) (fun _ _ _ _ _ => pts_nil) (fun _ _ _ _ _ => (pe_tup (pa_cons (pe_makeHM mg h_Rule hr (pa_cons (pv 1) (pa_cons (pv 5) pa_nil))) (pa_cons (pv 6) pa_nil))))) pa_nil)))
      (pss_cons (ps_set (i := 7) sc_l_is_well.nd rfl (by first | exact Or.inl rfl | exact Or.inr rfl) (pe_callH h_l_fitting hr (pa_cons (pv 1) (pa_cons (pv 2) (pa_cons (pv 3) pa_nil)))))
      (pss_cons (ps_set (i := 8) sc_l_is_well.nd rfl (by first | exact Or.inl rfl | exact Or.inr rfl) (pe_callH h_l_unlike hr (pa_cons (pv 3) pa_nil)))
      (pss_cons (ps_if (PW.pt (pw_or (pt_cmpR op_ne (pe_callH h_many_places hr (pa_cons (pv 4) pa_nil)) (pe_callB (call_lenK K) (by rfl) T.len (by decide +kernel) (pa_cons (pv 7) pa_nil)) (nomark _)) (pw_or1 (pt_val (pe_callB (call_isiKK K) (by rfl) T.isinstance (by decide +kernel) (pa_cons (pe_callH h_many_places hr (pa_cons (pv 4) pa_nil)) (pa_cons (pe_gTy (T := "bool") T.bool (by decide +kernel)) pa_nil))))))) (pss_one (ps_ret pe_bl)) pss_nil)
      (pss_cons (ps_for PassesOwn.never rfl (pi_range1 (by rfl) T.range (pa_cons (pv 1) pa_nil)) (pg_name (i := 9) sc_l_is_well.nd rfl (by first | exact Or.inl rfl | exact Or.inr rfl)) (pss_cons (ps_set (i := 10) sc_l_is_well.nd rfl (by first | exact Or.inl rfl | exact Or.inr rfl) (pe_callH h_may_stand hr (pa_cons (pv 4) (pa_cons (pv 9) pa_nil))))
      (pss_one (ps_if (PW.pt (pw_or (pt_not (pt_val (pe_callB (call_isiKK K) (by rfl) T.isinstance (by decide +kernel) (pa_cons (pv 10) (pa_cons (pe_gTy (T := "list") T.list (by decide +kernel)) pa_nil))))) (pw_or1 (pt_cmpR (op_neDK K hr.units) (pv 10) (pe_callB (cr_sortedSet rfl) (by rfl) T.sorted (by decide +kernel) (pa_cons (pe_callTy (cr_setK K w) (by rfl) T.set (by decide +kernel) (pa_cons (pe_lc (own := [("_law_stood", 11)]) (g := (gName 11)) (tt := tYes) rfl sc_l_is_well.nd (pi_listK K (pv 7)) (blkOk_by (N := ["_law_dice_here", "_law_people", "_law_terms", "_law_told", "_law_log", "_law_term_here", "_law_number_here", "_law_due", "_law_numbers_here", "_law_person", "_law_stand", "_law_stood", "_law_found", "_law_rows", "_law_turn", "_law_wishes", "_law_wish", "_law_fit"]) (sc := defScope (topS 109)) (by decide +kernel)) (fun _ _ _ _ _ => (pg_name (i := 11) sc_l_is_well.nd rfl (by first | exact Or.inl rfl | exact Or.inr rfl))) (fun _ _ _ _ _ => pts_nil) (fun _ _ _ _ _ => (pe_ix (ix_seqK K) (pv 11) (pv 9) (fun _ _ => rfl)))) pa_nil)) pa_nil)) (nomark _))))) (pss_one (ps_ret pe_bl)) pss_nil))))
      (pss_cons (ps_set (i := 12) sc_l_is_well.nd rfl (by first | exact Or.inl rfl | exact Or.inr rfl) (pe_callH h_fitting hr (pa_cons (pv 4) pa_nil)))
      (pss_cons (ps_if (PW.pt (pw_or (pt_cmpR op_ne (pe_cmpR op_isN (pv 12) pe_non (nomark _)) (pe_cmpR op_eq (pe_callB (call_lenK K) (by rfl) T.len (by decide +kernel) (pa_cons (pv 7) pa_nil)) pe_int (nomark _)) (nomark _)) (pw_or1 (pt_cmpR (op_neDK K hr.units) (pe_callH h_fitting hr (pa_cons (pv 4) pa_nil)) (pv 12) (nomark _))))) (pss_one (ps_ret pe_bl)) pss_nil)
      (pss_cons (ps_setLc (i := 13) (own := [("_law_turn", 14)]) (g := (gName 14)) (tt := tYes) rfl sc_l_is_well.nd rfl rfl (sw_true rfl rfl rfl (by decide +kernel)) (pi_range1 (by rfl) T.range (pa_cons pe_int pa_nil)) (blkOk_by (N := ["_law_dice_here", "_law_people", "_law_terms", "_law_told", "_law_log", "_law_term_here", "_law_number_here", "_law_due", "_law_numbers_here", "_law_person", "_law_stand", "_law_stood", "_law_found", "_law_rows", "_law_turn", "_law_wishes", "_law_wish", "_law_fit"]) (sc := defScope (topS 109)) (by decide +kernel)) (fun _ _ _ _ _ => (pg_name (i := 14) sc_l_is_well.nd rfl (by first | exact Or.inl rfl | exact Or.inr rfl))) (fun _ _ _ _ _ => pts_nil) (fun _ _ _ _ _ => (pe_callH h_l_numbers hr (pa_cons (pv 0) (pa_cons (pv 1) pa_nil)))))
      (pss_cons (ps_if (pt_cmpR op_notN (pv 12) pe_non (nomark _)) (pss_cons (ps_expr (pe_bm PySem.F.plainAttrs_list PySem.F.slot_list_append PySem.F.type_list_append mt_append (pv 13) (pa_cons (pv 12) pa_nil)))
      (pss_one (ps_if (pt_cmpR (op_notInDK K (hu65 hr)) (pe_callH h_places hr (pa_cons (pv 4) (pa_cons (pv 12) pa_nil))) (pv 7) (by rfl)) (pss_one (ps_ret pe_bl)) pss_nil))) pss_nil)
      (pss_cons (ps_for PassesOwn.never rfl (pi_listK K (pv 13)) (pg_name (i := 15) sc_l_is_well.nd rfl (by first | exact Or.inl rfl | exact Or.inr rfl)) (pss_cons (ps_set (i := 11) sc_l_is_well.nd rfl (by first | exact Or.inl rfl | exact Or.inr rfl) (pe_callTy (call_tupleK K) (by rfl) T.tuple (by decide +kernel) (pa_cons (pe_lc (own := [("_law_wish", 16)]) (g := (gName 16)) (tt := tYes) rfl sc_l_is_well.nd (pi_tupK K (pv 15)) (blkOk_by (N := ["_law_dice_here", "_law_people", "_law_terms", "_law_told", "_law_log", "_law_term_here", "_law_number_here", "_law_due", "_law_numbers_here", "_law_person", "_law_stand", "_law_stood", "_law_found", "_law_rows", "_law_turn", "_law_wishes", "_law_wish", "_law_fit"]) (sc := defScope (topS 109)) (by decide +kernel)) (fun _ _ _ _ _ => (pg_name (i := 16) sc_l_is_well.nd rfl (by first | exact Or.inl rfl | exact Or.inr rfl))) (fun _ _ _ _ _ => pts_nil) (fun _ _ _ _ _ => (pe_callH h_l_place hr (pa_cons (pv 8) (pa_cons (pv 16) pa_nil))))) pa_nil)))
      (pss_cons (ps_set (i := 17) sc_l_is_well.nd rfl (by first | exact Or.inl rfl | exact Or.inr rfl) (pe_callB (cr_allK K) (by rfl) T.all (by decide +kernel) (pa_cons (pe_lc (own := [("_law_term_here", 5), ("_law_number_here", 6)]) (g := (g2 K 5 6)) (tt := tYes) rfl sc_l_is_well.nd (pi_zip (by rfl) T.zip (pa_cons (pv 2) (pa_cons (pv 3) pa_nil))) (blkOk_by (N := ["_law_dice_here", "_law_people", "_law_terms", "_law_told", "_law_log", "_law_term_here", "_law_number_here", "_law_due", "_law_numbers_here", "_law_person", "_law_stand", "_law_stood", "_law_found", "_law_rows", "_law_turn", "_law_wishes", "_law_wish", "_law_fit"]) (sc := defScope (topS 109)) (by decide +kernel)) (fun _ _ _ _ _ => (pg_tup rfl (pgs_cons (pg_name (i := 5) sc_l_is_well.nd rfl (by first | exact Or.inl rfl | exact Or.inr rfl)) (pgs_cons (pg_name (i := 6) sc_l_is_well.nd rfl (by first | exact Or.inl rfl | exact Or.inr rfl)) pgs_nil)))) (fun _ _ _ _ _ => pts_nil) (fun _ _ _ _ _ => (pe_callH h_l_is_outcome hr (pa_cons (pv 1) (pa_cons (pv 5) (pa_cons (pv 15) (pa_cons (pv 6) pa_nil))))))) pa_nil)))
      (pss_one (ps_if (PW.pt (pw_or (pt_cmpR (op_neDK K hr.units) (pe_callH h_places hr (pa_cons (pv 4) (pa_cons (pv 15) pa_nil))) (pv 11) (nomark _)) (pw_or (pt_not (pt_val (pe_callH h_l_flag hr (pa_cons (pe_callH h_fits hr (pa_cons (pv 4) (pa_cons (pv 15) pa_nil))) (pa_cons (pv 17) pa_nil))))) (pw_or1 (pt_cmpR op_ne (pv 17) (pe_cmpR (op_inDK K (hu65 hr)) (pv 11) (pv 7) (by rfl)) (nomark _)))))) (pss_one (ps_ret pe_bl)) pss_nil)))))
      (pss_one (ps_ret pe_bl)))))))))))), ?_⟩
  have n1 := ok.n1
  have n6 := ok.n6
  have l1 := ok.l1
  have l4 := ok.l4
  have fit729 := lawFit_few ok
  have etold : (log.map fun p => eQ p.2) = (told log).map eQ := by unfold told; rw [List.map_map]; rfl
  have tl : (told log).length = log.length := by simp [told]
  have fq : ∀ x ∈ told log, Fq x := fun x hx => by
    obtain ⟨p, hp, rfl⟩ := List.mem_map.mp hx
    exact (ok.ok p hp).fq (by decide)
  have nu := nums_unlike ok
  have nl := nums_len log
  -- the log
  refine q_asg (R := fun v H' => LogR K (RuleC mg) n H' v log) (Evr.imp (evr_tupF (F := fun v x H => PairR K (RuleC mg) n H v x) (xs := log) (evf_lc (xs := log) (R := fun v x H => PairR K (RuleC mg) n H v x) (P := fun x => P2 K 5 6 (eT x.1, eQ x.2)) (evi_log2 (eva_var (i := 2) rfl (dp_ex er_ex ht0)) (eva_var (i := 3) rfl (dp_ex er_ex hu0))) (by omega) (fun a σ2 H2 _ hp => ?_) (fun a σ2 H2 ha ex hp => ?_) (fun a v H1 H2 r e => pair_ex e r) (fun a v H1 q ws _ r hq => pair_er r hq)) (fun v a H1 H2 r e => pair_ex e r)) fun _ _ _ r => r) fun lv H1 e1 hlog => ?_
  · obtain ⟨_, _, rfl, _⟩ := hp; rfl
  · obtain ⟨y, z, rfl, hy, hz⟩ := hp
    exact evr_pair (evr_make (evaa_cons (eva_var rfl (.int (n : Int))) (evaa_cons (eva_var rfl hy) evaa_nil)) (ok.rt a ha)) (eva_var rfl hz)
  -- what fits, the numbers
  have hu1 : Dp K (er H p) uv (.list ((told log).map eQ)) := by rw [← etold]; exact hu0
  refine q_asgL (evl_call (K := K) (evaa_cons (eva_var rfl (.int (n : Int))) (evaa_cons (eva_var rfl (dp_ex (er_ex.trans e1) ht0)) (evaa_cons (eva_var rfl (dp_ex (er_ex.trans e1) hu0)) evaa_nil))) ⟨n, log, rfl, ok, rfl⟩) fun pD dws H2 nD e2 hpD hdD => ?_
  have e12 := e1.trans e2
  refine q_asgL (evl_call (K := K) (evaa_cons (eva_var rfl (dp_ex (er_ex.trans e12) hu1)) evaa_nil) ⟨told log, rfl, by omega, fq, rfl⟩) fun pN nws H3 nN e3 hpN hdN => ?_
  rw [nu] at hdN
  have e13 := e12.trans e3
  have hD3 : Dp K H3 (.ref pD) (.list ((lawFit n log).map eL)) := dp_newL (e3 pD _ hpD) (dpa_ex e3 (dpa_ex er_ex hdD))
  have hlog3 := log_ex (e2.trans e3) hlog
  -- how many
  refine Evl.q_when (b := false) (Evl.et_is (Evl.et_or (evt_T (K := K) (eva_neI (eva_callG (evr_log rfl hlog3) evaa_nil ok ⟨rfl, rfl⟩) (eva_lenL (eva_var rfl hD3)))) fun _ => evt_B (K := K) (eva_isi (k := false) (eva_callG (evr_log rfl hlog3) evaa_nil ok ⟨rfl, rfl⟩) kb_ib)) (by rw [List.length_map, many_fit ok]; simp)) (fun h => by cases h) fun _ H4 e4 => ?_
  have e34 := e4
  -- who may stand where
  refine q_forI (evi_rng (K := K) (n := (n : Int)) (j := 9) (evaa_cons (eva_var rfl (.int (n : Int))) evaa_nil) (by omega) (by omega)) (fun Hb i σ' H' => Ex Hb H' ∧ ∃ z9 z10, σ' = [some (.ref p), some (.int (n : Int)), some tv, some uv, some lv, none, none, some (.ref pD), some (.ref pN), z9, z10, none, none, none, none, none, none, none]) (fun _ _ _ _ h => h.1) (fun Hb eb => ⟨Ex.refl _, none, none, rfl⟩) ?_ ?_
  · intro Hb eb i hi σ' H' σ2 H5 hP e5 hp'
    obtain ⟨ex, z9, z10, rfl⟩ := hP
    cases hp'
    have hi' : i < n := by simpa using hi
    have ei : (List.range (n : Int).toNat)[i] = i := by simp
    rw [ei]
    have e35 := (e34.trans eb).trans (ex.trans e5)
    refine q_asg (evl_callG (K := K) (evr_log rfl (log_ex e35 hlog3)) (evaa_cons (eva_var rfl (.int (i : Int))) evaa_nil) ok ⟨i, rfl, hi', rfl⟩).eva fun sv H6 e6 hs => ?_
    refine Evl.s_when (b := false) (Evl.et_is (Evl.et_or (Evl.et_not (evt_B (K := K) (eva_isi (k := true) (eva_var rfl hs) kb_ll))) fun _ => evt_T (K := K) (eva_neInts (eva_var rfl hs) (evl_sortSet (ns := (lawFit n log).map fun st => ((st.getD i 0 : Nat) : Int)) (EvaL.eva (EvaL.is (evl_lc1 (K := K) (xs := lawFit n log) (fun st => .int ((st.getD i 0 : Nat) : Int)) (EvI.map (f := eL) (evi_list (j := 11) (eva_var (i := 7) rfl (dp_ex (e35.trans e6) hD3)))) (by omega) (fun a σ2 H2 _ hp => ?_) (fun st σ2 H2 ha ex hp => ?_) (fun _ _ => rfl)) (by rw [List.map_map]; rfl))) ?_ ?_).eva)) ?_) (fun h => by cases h) fun _ H7 e7 => ⟨ex.trans (e5.trans (e6.trans e7)), _, _, rfl⟩
    · obtain ⟨v, rfl, _⟩ := hp; rfl
    · obtain ⟨v, rfl, hv⟩ := hp
      have hl := ((lawFit_mem ok).mp ha).1
      have hp' : i < st.length := by omega
      exact eva_ixT (eva_var rfl hv) (eva_var rfl (.int (i : Int))) (atN (by rw [List.getElem?_map, List.getElem?_map, List.getD_eq_getElem?_getD, List.getElem?_eq_getElem hp']; rfl))
    · rw [List.length_map]; omega
    · intro y hy
      obtain ⟨st, hst, rfl⟩ := List.mem_map.mp hy
      obtain ⟨h1, h2, _⟩ := (lawFit_mem ok).mp hst
      have hp' : i < st.length := by omega
      rw [List.getD_eq_getElem?_getD, List.getElem?_eq_getElem hp']
      have := (openL_mem.mp (h2 _ (List.getElem_mem hp'))).2
      unfold lastOpen at this
      show 0 ≤ ((st[i] : Nat) : Int) ∧ ((st[i] : Nat) : Int) < 60
      omega
    · rw [may_sorted ok hi']
      simp
  · intro Hb eb σ' H5 hP
    obtain ⟨ex, z9, z10, rfl⟩ := hP
    have e35 := (e34.trans eb).trans ex
    -- some wishes that fit
    refine q_asg (eva_callG (K := K) (evr_log rfl (log_ex e35 hlog3)) evaa_nil ok ⟨rfl, rfl⟩) fun fv H6 e6 hf => ?_
    have e36 := e35.trans e6
    refine Evl.q_when (b := false) (Evl.et_is (Evl.et_or (evt_T (K := K) (eva_neB (eva_isN (eva_var rfl hf)) (eva_eqI (eva_lenL (eva_var rfl (dp_ex e36 hD3))) eva_int))) fun _ => evt_T (K := K) (eva_neOW (eva_callG (evr_log rfl (log_ex e36 hlog3)) evaa_nil ok ⟨rfl, rfl⟩) (eva_var rfl hf))) ?_) (fun h => by cases h) fun _ H7 e7 => ?_
    · rw [eOW_no, List.length_map, Bool.or_false]
      have h1 : decide (fitting n log = none) = decide (((lawFit n log).length : Int) = 0) := decide_eq_decide.mpr (by
        rw [fitting_none n ok, ← List.length_eq_zero_iff]
        omega)
      rw [h1, decide_eq_true (show decide (((lawFit n log).length : Int) = 0) = decide (((lawFit n log).length : Int) = 0) from rfl)]
      rfl
    have e17 := e13.trans (e36.trans e7)
    have d7 := hdice.ex e17
    obtain ⟨pws, hp7⟩ := d7.lst
    have fT : Dp K (er H7 p) tv (.list (log.map fun p => eT p.1)) := dp_ex (er_mono e17) ht0
    have fU : Dp K (er H7 p) uv (.list (log.map fun p => eQ p.2)) := dp_ex (er_mono e17) hu0
    have fL : LogR K (RuleC mg) n (er H7 p) lv log := log_er (log_ex (e36.trans e7) hlog3) hp7
    have fD : Dp K (er H7 p) (.ref pD) (.list ((lawFit n log).map eL)) := dp_ex (er_mono (e3.trans (e36.trans e7))) (lst_er (hdice.ex e1) nD e2 hpD hdD (im_lots _))
    have fN : Dp K (er H7 p) (.ref pN) (.list ((nums log).map eQ)) := dp_ex (er_mono (e36.trans e7)) (lst_er (hdice.ex e12) nN e3 hpN hdN (ims_eQ _))
    have fF : Dp K (er H7 p) fv (eOW (fitting n log)) := dp_er (dp_ex e7 hf) (im_eOW _) d7
    -- the rows
    refine qD_lcL (K := K) (n := 3) (vs := [14]) (S := fun d => ∃ b : List Cb.Q, d = eW b ∧ b.length = n ∧ ∀ x ∈ b, NOk x) d7 rfl (by decide) (fun i σ2 H2 hp => by cases hp; rfl) (fun i σ2 H8 x8 hp => ?_) (fun d ⟨b, e, _⟩ => by rw [e]; exact imAll_map eQ im_eQ b) fun Dl rws rds H8 nDl neD x8 hDl hrv _ hrl hall => ?_
    · cases hp
      refine evs_callD (i := 0) rfl (evsa_cons (evs_vi rfl) evsa_nil) (fun ds hs => ?_) (fun ds d hs po => ?_)
      · obtain ⟨_, _, rfl, ⟨_, rfl, rfl⟩, rfl⟩ := hs
        exact ⟨n, rfl, by omega⟩
      · obtain ⟨_, _, rfl, ⟨_, rfl, rfl⟩, rfl⟩ := hs
        obtain ⟨m, b, e, rfl, lb, hb⟩ := po
        simp only [List.cons.injEq, PyData.int.injEq, and_true] at e
        exact ⟨b, rfl, by omega, hb⟩
    obtain ⟨rs, rfl, hrs⟩ := eWs_of hall
    have bD : (er H7 p) Dl = none := by rw [er_ne neD]; exact nDl
    have exb : Ex (er H7 p) (er (er H8 p) Dl) := ex_er x8.x bD
    have bT := dp_ex exb fT
    have bU := dp_ex exb fU
    have bL := log_ex exb fL
    have bDu := dp_ex exb fD
    have bN := dp_ex exb fN
    have bF := dp_ex exb fF
    have hrw : ∀ b ∈ rs, WOk n b := fun b hb => ⟨(hrs b hb).1, fun x hx => ((hrs b hb).2 x hx).mono (by decide)⟩
    have lrs : rs.length = 3 := by rw [List.length_map] at hrl; exact hrl
    have lrw : rws.length = 3 := by rw [dpa_len hrv, hrl]
    have exH8 : Ex (er (er H8 p) Dl) H8 := er_ex.trans er_ex
    have hbn : (er (er H8 p) Dl) Dl = none := er_self
    have hf8 : Dp K H8 fv (eOW (fitting n log)) := dp_ex x8.full fF
    generalize er (er H8 p) Dl = Hb' at exb bT bU bL bDu bN bF hrv exH8 hbn
    refine q_whenT (Iv := fun σ' H' => ∃ rs' : List (List Cb.Q), σ' = [some (.ref p), some (.int (n : Int)), some tv, some uv, some lv, none, none, some (.ref pD), some (.ref pN), z9, z10, none, some fv, some (.ref Dl), none, none, none, none] ∧ Ex Hb' H' ∧ XD p H7 H' ∧ rs'.length ≤ 10 ∧ Dp K H' (.ref Dl) (.list (rs'.map eW)) ∧ ∀ b ∈ rs', WOk n b) (fun σ' H9 hI => ?_) (evt_T (K := K) (eva_notN (eva_var rfl hf8))) (fun hb H9 e9 tail => ?_) (fun hb H9 e9 => ?_)
    · obtain ⟨rs', rfl, ex9, x9, lrs', hrows, hwo⟩ := hI
      refine q_forG (evg_list (K := K) (i := 13) (j := 15) (Hb := H9) rfl hrows (Ex.refl _)) (fun i σ' H' => Ex H9 H' ∧ ∃ z11 z15 z17, σ' = [some (.ref p), some (.int (n : Int)), some tv, some uv, some lv, none, none, some (.ref pD), some (.ref pN), z9, z10, z11, some fv, some (.ref Dl), none, z15, none, z17]) (fun i σ' H' _ h => h.1) (fun H10 e10 => ⟨e10, none, none, none, rfl⟩) ?_ ?_
      · intro i hi σ' H' σ2 H10 hP e10 hp'
        obtain ⟨ex, z11, z15, z17, rfl⟩ := hP
        obtain ⟨bv, rfl, hbv⟩ := hp'
        have hi' : i < rs'.length := by simpa using hi
        rw [show (rs'.map eW)[i] = eW rs'[i] by simp] at hbv
        have wok := hwo _ (List.getElem_mem hi')
        generalize rs'[i] = b at hbv wok
        have exA : Ex Hb' H10 := ex9.trans (ex.trans e10)
        refine q_asg (R := fun v H' => Dp K H' v (eL (b.map (placeOf (nums log))))) (eva_tupL (EvaL.eva (EvaL.is (evl_lc1 (K := K) (xs := b) (fun x => .int (placeOf (nums log) x : Int)) (EvI.map (f := eQ) (evi_tup (j := 16) (ds := b.map eQ) (eva_var (i := 15) rfl hbv))) (by rw [wok.1]; omega) (fun a σ2 H2 _ hp => ?_) (fun x σ2 H11 hx ex hp => ?_) (fun _ _ => rfl)) (by rw [List.map_map, List.map_map]; rfl)))) fun sv H11 e11 hs => ?_
        · obtain ⟨v, rfl, _⟩ := hp; rfl
        · obtain ⟨v, rfl, hv⟩ := hp
          exact eva_call (evaa_cons (eva_var rfl (dp_ex (exA.trans ex) bN)) (evaa_cons (eva_var rfl hv) evaa_nil)) ⟨nums log, x, rfl, by omega, fun y hy => (nums_fq ok y hy).fq (by decide), wok.fq x hx, rfl⟩
        have exB := exA.trans e11
        have efit : ((log.map fun x => isOut n x.1 b x.2).all id) = decide (b.map (placeOf (nums log)) ∈ lawFit n log) := by
          rw [List.all_map, ← fit_iff ok wok]
          rfl
        refine q_asg (R := fun v H' => Dp K H' v (.bool (decide (b.map (placeOf (nums log)) ∈ lawFit n log)))) (eva_is (eva_all (ns := log.map fun x => isOut n x.1 b x.2) (EvaL.eva (EvaL.is (evl_lc1 (K := K) (xs := log) (fun x => .bool (isOut n x.1 b x.2)) (evi_log2 (j := 5) (k := 6) (eva_var (i := 2) rfl (dp_ex exB bT)) (eva_var (i := 3) rfl (dp_ex exB bU))) (by omega) (fun a σ2 H2 _ hp => ?_) (fun x σ2 H12 hx ex hp => ?_) (fun _ _ => rfl)) (by rw [List.map_map]; rfl)))) (by rw [efit])) fun qv H12 e12 hq => ?_
        · obtain ⟨_, _, rfl, _⟩ := hp; rfl
        · obtain ⟨y, z, rfl, hy, hz⟩ := hp
          exact eva_call (evaa_cons (eva_var rfl (.int (n : Int))) (evaa_cons (eva_var rfl hy) (evaa_cons (eva_var rfl (dp_ex (e11.trans ex) hbv)) (evaa_cons (eva_var rfl hz) evaa_nil)))) ⟨n, x.1, b, x.2, rfl, ok.rt x hx, wok, (ok.ok x hx).fq (by decide), rfl⟩
        have exC := exB.trans e12
        have hL := log_ex exC bL
        have hb12 := dp_ex (e11.trans e12) hbv
        refine Evl.s_when (b := false) (Evl.et_is (Evl.et_or (evt_T (K := K) (eva_neL (eva_callG (evr_log rfl hL) (evaa_cons (eva_var rfl hb12) evaa_nil) ok ⟨b, rfl, wok, rfl⟩) (eva_var rfl (dp_ex e12 hs)))) fun _ => Evl.et_or (Evl.et_not (evt_B (K := K) (eva_call (evaa_cons (eva_callG (evr_log rfl hL) (evaa_cons (eva_var rfl hb12) evaa_nil) ok ⟨b, rfl, wok, rfl⟩) (evaa_cons (eva_var rfl hq) evaa_nil)) ⟨_, _, rfl, rfl⟩))) fun _ => evt_T (K := K) (eva_neB (eva_var rfl hq) (eva_inLs (eva_var rfl (dp_ex e12 hs)) (eva_var rfl (dp_ex exC bDu))))) ?_) (fun h => by cases h) fun _ H13 e13 => ⟨ex.trans (e10.trans (e11.trans (e12.trans e13))), _, _, _, rfl⟩
        rw [fits_eq ok wok]
        simp
      · intro σ' H' hP
        obtain ⟨ex, z11, z15, z17, rfl⟩ := hP
        refine s_ret (eva_bl (K := K)) fun v H10 e10 dv => ?_
        cases dv
        have x10 := x9.trans (XD.of (ex.trans e10) x9.d)
        exact q _ H10 (.bool true) ((XD.of e17 hdice).trans x10) rfl (.bl true)
    · cases hfit : fitting n log with
      | none => rw [hfit] at hb; cases hb
      | some b =>
        rw [hfit] at bF
        obtain ⟨wok, mem⟩ := fitting_some ok hfit
        refine q_app (R := fun v H' => v = fv) rfl (e9 Dl _ hDl) (evr_var rfl fun _ _ => rfl) (by omega) fun v H10 e10 hv h10 => ?_
        subst hv
        have exU : Ex Hb' (upd H10 Dl (.lst (rws ++ [v]))) := (exH8.trans (e9.trans e10)).mut hbn
        have x10 := x8.trans (XD.of (e9.trans e10) x8.d)
        have xU : XD p H7 (upd H10 Dl (.lst (rws ++ [v]))) := XD.mut d7 x10 nDl neD
        refine Evl.s_when (b := false) (Evl.et_is (evt_T (K := K) (eva_notInLs (eva_callG (evr_log rfl (log_ex exU bL)) (evaa_cons (eva_var rfl (dp_ex exU bF)) evaa_nil) ok ⟨b, rfl, wok, rfl⟩) (eva_var rfl (dp_ex exU bDu)))) (by rw [decide_eq_true mem]; rfl)) (fun h => by cases h) fun _ H12 e12 => tail _ _ ⟨rs ++ [b], rfl, exU.trans e12, xU.trans (.of e12 xU.d), by simp; omega, ?_, ?_⟩
        · rw [List.map_append]
          exact dp_newL (e12 Dl _ upd_same) (dpa_app (dpa_ex (exU.trans e12) hrv) (dpa_one (dp_ex (exU.trans e12) bF)))
        · intro y hy
          rcases List.mem_append.mp hy with h | h
          · exact hrw y h
          · rw [List.mem_singleton.mp h]; exact wok
    · exact ⟨rs, rfl, exH8.trans e9, x8.trans (.of e9 x8.d), by omega, dp_newL (e9 Dl _ hDl) (dpa_ex (exH8.trans e9) hrv), hrw⟩
end
end Cb
set_option Elab.async false
set_option linter.all false
set_option maxRecDepth 100000
set_option maxHeartbeats 8000000
/-! Cb, the law's defs 24: the law. -/
namespace Cb
open PySem PySem.Spec PyProof.Rows L2 Evl
section
variable {K : PySem.W.Frag} {p : Addr} {σ : L2.St} {H : Hp} {E : XK} {D : Ends} {tu tz : TS}
theorem evst_not {t : TT} {Pb : Bool → Prop} (h : EvST p t σ H Pb) : EvST p (tNot t) σ H (fun b => Pb (!b)) := fun H1 x Q q => h H1 x _ fun b H2 x2 pb => q (!b) H2 x2 (by show Pb (!(!b)); rw [Bool.not_not]; exact pb)
/-- what is asked of a log -/
theorem evst_well {n i a b c : Nat} {ts : List Tm} {xs : List Cb.Q} {tv uv : V} (hv : σ[i]? = some (some (.ref p))) (ha : σ[a]? = some (some (.int (n : Int)))) (hb : σ[b]? = some (some tv)) (hc : σ[c]? = some (some uv)) (ht : Dp K (er H p) tv (.list (ts.map eT))) (hu : Dp K (er H p) uv (.list (xs.map eQ))) (hl : ts.length = xs.length) (ok : LogOk n (ts.zip xs)) :
    EvST p (tNot (tB (tCall (spD K preWell postWell) [] E (tCons (tVar i) (tCons (tVar a) (tCons (tVar b) (tCons (tVar c) tNil))))))) σ H (fun k => (!k) = true) :=
  evst_not (Pb := fun k => k = true) (evst_B ((evs_callD (S := fun d => d = .bool true) hv (evsa_cons (evs_vi ha) (evsa_cons (evs_var hb ht) (evsa_cons (evs_var hc hu) evsa_nil))) (fun ds hs => by
    obtain ⟨_, _, rfl, ⟨_, rfl, rfl⟩, _, _, rfl, rfl, _, _, rfl, rfl, rfl⟩ := hs
    exact ⟨n, ts.zip xs, by rw [zip_fst hl, zip_snd hl], ok⟩) (fun ds d _ h => h)).imp fun d e => ⟨true, e, rfl⟩))
theorem qD_well {n i a b c : Nat} {ts : List Tm} {xs : List Cb.Q} {tv uv : V} (hd : Dice H p) (hv : σ[i]? = some (some (.ref p))) (ha : σ[a]? = some (some (.int (n : Int)))) (hb : σ[b]? = some (some tv)) (hc : σ[c]? = some (some uv)) (ht : Dp K (er H p) tv (.list (ts.map eT))) (hu : Dp K (er H p) uv (.list (xs.map eQ))) (hl : ts.length = xs.length) (ok : LogOk n (ts.zip xs)) (k : ∀ H2, XD p H H2 → tz D σ H2) :
    tSeq (tIfS (tNot (tB (tCall (spD K preWell postWell) [] E (tCons (tVar i) (tCons (tVar a) (tCons (tVar b) (tCons (tVar c) tNil))))))) tu tNext) tz D σ H :=
  qD_when hd (evst_well hv ha hb hc ht hu hl ok) (fun H2 x pb => by cases pb) fun H2 x _ => k H2 x
theorem sD_well {n i a b c : Nat} {ts : List Tm} {xs : List Cb.Q} {tv uv : V} (hd : Dice H p) (hv : σ[i]? = some (some (.ref p))) (ha : σ[a]? = some (some (.int (n : Int)))) (hb : σ[b]? = some (some tv)) (hc : σ[c]? = some (some uv)) (ht : Dp K (er H p) tv (.list (ts.map eT))) (hu : Dp K (er H p) uv (.list (xs.map eQ))) (hl : ts.length = xs.length) (ok : LogOk n (ts.zip xs)) (k : ∀ H2, XD p H H2 → D.nx σ H2) :
    tIfS (tNot (tB (tCall (spD K preWell postWell) [] E (tCons (tVar i) (tCons (tVar a) (tCons (tVar b) (tCons (tVar c) tNil))))))) tu tNext D σ H :=
  evst_well hv ha hb hc ht hu hl ok H (.refl hd) _ fun b H2 x pb => by
    cases b with
    | true => cases pb
    | false => exact k H2 x
end
theorem last_get {xs : List Cb.Q} (h : 0 < xs.length) : (xs.map eQ).getLast? = some (eQ xs[xs.length - 1]) := by
  rw [List.getLast?_eq_getElem?, List.length_map, List.getElem?_map, List.getElem?_eq_getElem (by omega)]
  rfl
section
variable {P : Program} {w : World} {K : PySem.W.Frag} {mg : Str → Option Value} {base : Heap}
theorem fn_sp {x : Str} {i k : Nat} {N ps : List Str} {f : Addr} {fd : FuncData} {sp : Sp} (F : Fun K x x (topS i) f fd) (S : FnScope N ps (defScope (topS i))) (hlen : ∀ vs H Q E, sp vs H Q E → vs.length = ps.length)
    (hb : ∀ (f : Addr) (cdv : Value) (A : Around) (outer : List Env) (s : Shared) (H : Hp) (vs : List V) (Q : VK) (E : XK), Room k (A.deeper (envOfC x (defScope (topS i)) s.heap.objs.size f cdv)) → sp vs H Q E →
      ∃ t, PSs (cxB P w K mg base N x i f cdv A outer s H E) (defBody (topS i)) t ∧ t { nx := fun _ H' => Q .non H', rt := Q } (start N vs) H) : FnOk P w K mg base CX0 (k + 1) f fd ps sp :=
  F.ok S hlen fun cdv A outer s H vs Q E hr h => hb f cdv A outer s H vs Q E hr h
theorem sc_law : FnScope ["_law_script", "_law_dice_here", "_law_turn", "_law_people", "_law_many", "_law_terms", "_law_wishes", "_law_told", "_law_term_here", "_law_at"] ["_law_script"] (defScope (topS 110)) := ⟨rfl, rfl, rfl, by decide +kernel, rfl, by decide +kernel, by decide +kernel⟩
theorem bn_law : Bnd "law" 110 ["_law_script"] := fun _ _ _ _ _ _ us hl => match us, hl with | [_], _ => rfl
def spLaw (K : PySem.W.Frag) : Sp := fun vs H Q _ => ∃ (a : Addr) (ns : List Int), vs = [.ref a] ∧ SqL K H a (ns.map V.int) ∧ ∀ H', Q (.bl true) H'
theorem has_law {k : Nat} (T : Tb K mg) (h_Rule : HasMk P w K mg base "Rule" k ["self", "people", "term"] (spInit K (RuleC mg))) (h_l_dice : Has P w K mg base "_law_dice" (k + 1) ["_law_script"] (spNewD K))
    (h_l_draw : Has P w K mg base "_law_draw" (k + 1) ["_law_dice_here", "_law_sides"] (spD K preDraw postDraw)) (h_l_rules : Has P w K mg base "_law_rules" (k + 1) ["_law_dice_here", "_law_people", "_law_many"] (spD K preRules postRules))
    (h_l_numbers : Has P w K mg base "_law_numbers" (k + 1) ["_law_dice_here", "_law_many"] (spD K preNums postNums)) (h_outcome : Has P w K mg base "outcome" (k + 1) ["rule", "wishes"] (spU K (RuleC mg) rOutc))
    (h_l_is_well : Has P w K mg base "_law_is_well" (k + 1) ["_law_dice_here", "_law_people", "_law_terms", "_law_told"] (spD K preWell postWell)) (h_l_number : Has P w K mg base "_law_number" (k + 1) ["_law_dice_here"] (spD K preNum postNum)) :
    ∀ {f : Addr} {fd : FuncData}, Fun K "law" "law" (topS 110) f fd → FnOk P w K mg base CX0 (k + 2) f fd ["_law_script"] (spLaw K) := by
  intro f0 fd0 F
  refine fn_sp F sc_law (fun vs H Q E h => by obtain ⟨_, _, rfl, _⟩ := h; rfl) fun f cdv A outer s H vs Q E hr h => ?_
  obtain ⟨a, ns, rfl, ha, q⟩ := h
  refine ⟨_, (pss_cons (ps_set (i := 1) sc_law.nd rfl (by first | exact Or.inl rfl | exact Or.inr rfl) (pe_callH h_l_dice hr (pa_cons (pv 0) pa_nil)))
      (pss_cons (ps_for PassesOwn.never rfl (pi_range1 (by rfl) T.range (pa_cons pe_int pa_nil)) (pg_name (i := 2) sc_law.nd rfl (by first | exact Or.inl rfl | exact Or.inr rfl)) (pss_cons (ps_set (i := 3) sc_law.nd rfl (by first | exact Or.inl rfl | exact Or.inr rfl) (pe_op op_add pe_int (pe_callH h_l_draw hr (pa_cons (pv 1) (pa_cons pe_int pa_nil)))))
      (pss_cons (ps_set (i := 4) sc_law.nd rfl (by first | exact Or.inl rfl | exact Or.inr rfl) (pe_op op_add pe_int (pe_callH h_l_draw hr (pa_cons (pv 1) (pa_cons pe_int pa_nil)))))
      (pss_cons (ps_if (pt_cmpR op_eq (pe_callH h_l_draw hr (pa_cons (pv 1) (pa_cons pe_int pa_nil))) pe_int (nomark _)) (pss_cons (ps_set (i := 3) sc_law.nd rfl (by first | exact Or.inl rfl | exact Or.inr rfl) (pe_op op_add pe_int (pe_callH h_l_draw hr (pa_cons (pv 1) (pa_cons pe_int pa_nil)))))
      (pss_one (ps_set (i := 4) sc_law.nd rfl (by first | exact Or.inl rfl | exact Or.inr rfl) (pe_op op_add pe_int (pe_callTy call_int1 (by rfl) T.int (by decide +kernel) (pa_cons (pe_and (pe_cmpR op_eq (pv 3) pe_int (nomark _)) (pe_one (pe_cmpR op_eq (pe_callH h_l_draw hr (pa_cons (pv 1) (pa_cons pe_int pa_nil))) pe_int (nomark _)))) pa_nil)))))) pss_nil)
      (pss_cons (ps_set (i := 5) sc_law.nd rfl (by first | exact Or.inl rfl | exact Or.inr rfl) (pe_callH h_l_rules hr (pa_cons (pv 1) (pa_cons (pv 3) (pa_cons (pv 4) pa_nil)))))
      (pss_cons (ps_set (i := 6) sc_law.nd rfl (by first | exact Or.inl rfl | exact Or.inr rfl) (pe_callH h_l_numbers hr (pa_cons (pv 1) (pa_cons (pv 3) pa_nil))))
      (pss_cons (ps_setLc (i := 7) (own := [("_law_term_here", 8)]) (g := (gName 8)) (tt := tYes) rfl sc_law.nd rfl rfl (sw_true rfl rfl rfl (by decide +kernel)) (pi_listK K (pv 5)) (blkOk_by (N := ["_law_script", "_law_dice_here", "_law_turn", "_law_people", "_law_many", "_law_terms", "_law_wishes", "_law_told", "_law_term_here", "_law_at"]) (sc := defScope (topS 110)) (by decide +kernel)) (fun _ _ _ _ _ => (pg_name (i := 8) sc_law.nd rfl (by first | exact Or.inl rfl | exact Or.inr rfl))) (fun _ _ _ _ _ => pts_nil) (fun _ _ _ _ _ => (pe_callH h_outcome hr (pa_cons (pe_makeHM mg h_Rule hr (pa_cons (pv 3) (pa_cons (pv 8) pa_nil))) (pa_cons (pv 6) pa_nil)))))
      (pss_cons (ps_if (pt_not (pt_val (pe_callH h_l_is_well hr (pa_cons (pv 1) (pa_cons (pv 3) (pa_cons (pv 5) (pa_cons (pv 7) pa_nil))))))) (pss_one (ps_ret pe_bl)) pss_nil)
      (pss_cons (ps_set (i := 9) sc_law.nd rfl (by first | exact Or.inl rfl | exact Or.inr rfl) (pe_callH h_l_draw hr (pa_cons (pv 1) (pa_cons (pe_callB (call_lenK K) (by rfl) T.len (by decide +kernel) (pa_cons (pv 7) pa_nil)) pa_nil))))
      (pss_cons (ps_asg (pe_ix (ix_seqK K) (pe_lst (pa_cons (pe_callH h_l_number hr (pa_cons (pv 1) pa_nil)) (pa_cons (pe_tup (pa_cons pe_int (pa_cons pe_int pa_nil))) (pa_cons (pe_tup (pa_cons pe_int (pa_cons pe_int pa_nil))) (pa_cons (pe_ix (ix_seqK K) (pv 7) pe_int (fun _ _ => rfl)) (pa_cons (pe_ix (ix_seqK K) (pv 7) (pe_un un_neg pe_int) (fun _ _ => rfl)) pa_nil)))))) (pe_callH h_l_draw hr (pa_cons (pv 1) (pa_cons pe_int pa_nil))) (fun _ _ => rfl)) (pg_sub (pv 7) (pv 9) set_list))
      (pss_one (ps_if (pt_not (pt_val (pe_callH h_l_is_well hr (pa_cons (pv 1) (pa_cons (pv 3) (pa_cons (pv 5) (pa_cons (pv 7) pa_nil))))))) (pss_one (ps_ret pe_bl)) pss_nil))))))))))))
      (pss_one (ps_ret pe_bl)))), ?_⟩
  refine q_asg0 ⟨_, rfl, a, ns, rfl, ha, fun p H2 np e2 hd => ?_⟩
  refine q_forG (evg_rng (K := K) (j := 2) (n := 2) (G := fun _ => True) (evaa_cons (eva_int (K := K)) evaa_nil) (by decide) (by decide))
    (fun i σ' H' => ∃ z2 z3 z4 z5 z6 z7 z9, σ' = [some (.ref a), some (.ref p), z2, z3, z4, z5, z6, z7, none, z9] ∧ Dice H' p) (fun _ _ _ _ _ => trivial) (fun H3 e3 => ⟨none, none, none, none, none, none, none, rfl, hd.ex e3⟩) ?_ ?_
  · intro i hi σ' H' σ2 H3 hP e3 hp'
    obtain ⟨z2, z3, z4, z5, z6, z7, z9, rfl, d⟩ := hP
    cases hp'
    have d3 := d.ex e3
    refine qD_asg d3 (evs_drawAK (i := 1) rfl (by decide) (by decide)) fun v H4 dd x4 ⟨pe, epe, pe1, pe3⟩ dv => ?_
    subst epe
    cases dv
    refine qD_asg x4.d (evs_drawAK (i := 1) rfl (by decide) (by decide)) fun v H5 dd x5 ⟨ma, ema, ma1, ma4⟩ dv => ?_
    subst ema
    cases dv
    obtain ⟨pn, rfl⟩ : ∃ pn : Nat, pe = (pn : Int) := ⟨pe.toNat, by omega⟩
    obtain ⟨mn, rfl⟩ : ∃ mn : Nat, ma = (mn : Int) := ⟨ma.toNat, by omega⟩
    refine qD_whenT (p := p) (Iv := fun σ5 H6 => ∃ (y2 : Option V) (n m : Nat), σ5 = [some (.ref a), some (.ref p), y2, some (.int (n : Int)), some (.int (m : Int)), z5, z6, z7, none, z9] ∧ Dice H6 p ∧ 1 ≤ n ∧ 1 ≤ m ∧ ((n ≤ 3 ∧ m ≤ 4) ∨ (n = 4 ∧ m ≤ 2) ∨ (n ≤ 6 ∧ m ≤ 1))) (fun σ5 H6 hI => ?_) x5.d (evst_T (evs_eqI (evs_drawAN (i := 1) rfl (by decide) (by decide)) evs_i)) (fun H6 x6 _ tail => ?_) (fun H6 x6 _ => ?_)
    · obtain ⟨y2, n, m, rfl, d6, n1, m1, few⟩ := hI
      have n6 : n ≤ 6 := by omega
      have m4 : m ≤ 4 := by omega
      have few' := few_many few
      -- the rules
      refine qD_asg d6 (S := fun d => ∃ ts : List Tm, d = .list (ts.map eT) ∧ ts.length = m ∧ ∀ t ∈ ts, RT n t) (evs_callD (i := 1) rfl (evsa_cons (evs_vi (k := 3) rfl) (evsa_cons (evs_vi (k := 4) rfl) evsa_nil)) (fun ds hs => ?_) (fun ds d hs po => ?_)) fun tv H7 dd x7 ⟨ts, ets, lts, hts⟩ dtv => ?_
      · obtain ⟨_, _, rfl, ⟨_, rfl, rfl⟩, _, _, rfl, ⟨_, rfl, rfl⟩, rfl⟩ := hs
        exact ⟨n, m, rfl, n1, n6, m4⟩
      · obtain ⟨_, _, rfl, ⟨_, rfl, rfl⟩, _, _, rfl, ⟨_, rfl, rfl⟩, rfl⟩ := hs
        obtain ⟨n', m', ts, e, rfl, l, h⟩ := po
        simp only [List.cons.injEq, PyData.int.injEq, and_true] at e
        have e1 : n' = n := by omega
        have e2 : m' = m := by omega
        subst e1 e2
        exact ⟨ts, rfl, l, h⟩
      subst ets
      -- the wishes
      refine qD_asg x7.d (S := fun d => ∃ b : List Cb.Q, d = eW b ∧ b.length = n ∧ ∀ x ∈ b, NOk x) (evs_callD (i := 1) rfl (evsa_cons (evs_vi (k := 3) rfl) evsa_nil) (fun ds hs => ?_) (fun ds d hs po => ?_)) fun wv H8 dd x8 ⟨b, eb, lb, hb⟩ dwv => ?_
      · obtain ⟨_, _, rfl, ⟨_, rfl, rfl⟩, rfl⟩ := hs
        exact ⟨n, rfl, by omega⟩
      · obtain ⟨_, _, rfl, ⟨_, rfl, rfl⟩, rfl⟩ := hs
        obtain ⟨m', b, e, rfl, l, h⟩ := po
        simp only [List.cons.injEq, PyData.int.injEq, and_true] at e
        exact ⟨b, rfl, by omega, h⟩
      subst eb
      have wok : WOk n b := ⟨lb, fun x hx => (hb x hx).mono (by decide)⟩
      have d8 := x8.d
      -- what is told
      refine q_asgL (evl_lc1 (K := K) (xs := ts) (fun t => eQ (outc n t b)) (EvI.map (f := eT) (evi_list (j := 8) (eva_var (i := 5) rfl (dp_ex x8.full dtv)))) (by omega) (fun a σ2 H2 _ hp => ?_) (fun t σ2 H9 ht ex hp => ?_) (fun t _ => im_eQ _)) fun pT tws H9 nT e9 hpT hdT => ?_
      · obtain ⟨v, rfl, _⟩ := hp; rfl
      · obtain ⟨v, rfl, hv⟩ := hp
        exact eva_callU (evr_make (evaa_cons (eva_var (i := 3) rfl (.int (n : Int))) (evaa_cons (eva_var (i := 8) rfl hv) evaa_nil)) (hts t ht)) (evaa_cons (eva_var (i := 6) rfl (dp_ex (er_ex.trans ex) dwv)) evaa_nil) ⟨b, rfl, hts t ht, wok, rfl⟩
      have exs : (ts.map fun t => eQ (outc n t b)) = (ts.map fun t => outc n t b).map eQ := by rw [List.map_map]; rfl
      rw [exs] at hdT
      have vxs : ∀ x ∈ ts.map (fun t => outc n t b), VOk 1200 x := fun x hx => by
        obtain ⟨t, ht, rfl⟩ := List.mem_map.mp hx
        exact outc_vok (hts t ht) fun y hy => (hb y hy).mono (by decide)
      have lxs : ts.length = (ts.map fun t => outc n t b).length := by rw [List.length_map]
      generalize (ts.map fun t => outc n t b) = xs at hdT vxs lxs
      have neT : pT ≠ p := fun z => by
        obtain ⟨ws, h⟩ := d8.lst
        rw [z, h] at nT; cases nT
      have d9 := d8.ex e9
      have x9 : XD p H8 H9 := .of e9 d8
      have dU9 : Dp K (er H9 p) (.ref pT) (.list (xs.map eQ)) := lst_er d8 nT e9 hpT hdT (ims_eQ _)
      have ok1 : LogOk n (ts.zip xs) := zip_ok n1 n6 lxs (by omega) (by omega) (by rw [lts]; exact few') hts vxs
      refine qD_well (n := n) (i := 1) (a := 3) (b := 5) (c := 7) d9 rfl rfl rfl rfl (dp_ex (x8.trans x9).x dtv) dU9 lxs ok1 fun H10 x10 => ?_
      have dU10 : Dp K (er H10 p) (.ref pT) (.list (xs.map eQ)) := dp_ex x10.x dU9
      -- one is exchanged
      refine qD_asg x10.d (evs_drawA (i := 1) (B := fun z => z = (ts.length : Int)) rfl ((evs_pure (eva_lenL (eva_var (i := 7) rfl dU10)) rfl).imp fun d e => ⟨_, e, by rw [List.length_map, lxs]⟩) (fun b e => by subst e; constructor <;> omega)) fun v H11 dd x11 ⟨j, ej, _, ebb, j0, j1⟩ dv => ?_
      subst ej
      subst ebb
      cases dv
      obtain ⟨jn, rfl⟩ : ∃ jn : Nat, j = (jn : Int) := ⟨j.toNat, by omega⟩
      have hpT11 : H11 pT = some (.lst tws) := by
        have := (x10.trans x11).x pT _ (by rw [er_ne neT]; exact hpT)
        rwa [er_ne neT] at this
      have dU11 : Dp K (er H11 p) (.ref pT) (.list (xs.map eQ)) := dp_ex x11.x dU10
      have ltw : tws.length = xs.length := by rw [dpa_len hdT, List.length_map]
      have hx0 : 0 < xs.length := by omega
      refine qD_set (i := 7) (j := 9) (m := jn) (S := fun d => ∃ y : Cb.Q, d = eQ y ∧ VOk 1200 y) x11.d (evs_ixL (SL := fun ds => ds.length = 5 ∧ ∀ d ∈ ds, ∃ y : Cb.Q, d = eQ y ∧ VOk 1200 y) (P := fun i => 0 ≤ i ∧ i < 5) ((evs_lst (evsa_cons (evs_numA (i := 1) rfl) (evsa_cons (evs_pure (eva_qlit (a := 0) (b := 1)) rfl) (evsa_cons (evs_pure (eva_qlit (a := 1) (b := 1)) rfl) (evsa_cons (evs_pure (eva_ixL (eva_var (i := 7) rfl dU11) eva_int (d := eQ xs[0]) (atN (j := 0) (map_get hx0))) (im_eQ _)) (evsa_cons (evs_pure (eva_ixL (eva_var (i := 7) rfl dU11) (eva_neg eva_int) (d := eQ xs[xs.length - 1]) (atI_neg1L (last_get hx0))) (im_eQ _)) evsa_nil))))) (fun ds h => ?_)).imp fun d h => ?_) (evs_drawAN (i := 1) rfl (by decide) (by decide)) (fun ds i h1 h2 => ?_)) rfl rfl hpT11 neT (by omega) fun v H12 dd x12 ⟨y, ey, hy⟩ dv hp12 => ?_
      · obtain ⟨_, _, rfl, _, _, _, rfl, _, _, _, rfl, _, _, _, rfl, _, _, _, rfl, _, rfl⟩ := h
        simp
      · obtain ⟨ds, rfl, _, _, rfl, ⟨y, rfl, hy⟩, _, _, rfl, rfl, _, _, rfl, rfl, _, _, rfl, rfl, _, _, rfl, rfl, rfl⟩ := h
        refine ⟨_, rfl, rfl, fun d hd => ?_⟩
        have z : VOk 1200 (0, 1) := VOk.mono (b := 0) ⟨num_zero, by decide⟩ (by decide)
        have o : VOk 1200 (1, 1) := VOk.mono (b := 0) ⟨num_one, by decide⟩ (by decide)
        rcases List.mem_cons.mp hd with e | hd
        · exact ⟨y, e, hy.mono (by decide)⟩
        rcases List.mem_cons.mp hd with e | hd
        · exact ⟨_, e, z⟩
        rcases List.mem_cons.mp hd with e | hd
        · exact ⟨_, e, o⟩
        rcases List.mem_cons.mp hd with e | hd
        · exact ⟨_, e, vxs _ (List.getElem_mem hx0)⟩
        · exact ⟨_, List.mem_singleton.mp hd, vxs _ (List.getElem_mem (by omega))⟩
      · obtain ⟨i', rfl⟩ : ∃ i' : Nat, i = (i' : Int) := ⟨i.toNat, by omega⟩
        have hi' : i' < ds.length := by omega
        exact ⟨ds[i'], atN (List.getElem?_eq_getElem hi'), h1.2 _ (List.getElem_mem hi')⟩
      subst ey
      have x812 : XD p H8 H12 := x9.trans (x10.trans (x11.trans x12))
      have x813 : XD p H8 (upd H12 pT (.lst (tws.set jn v))) := XD.mut d8 x812 nT neT
      have hT12 : (er H12 p) pT = some (.lst tws) := by rw [er_ne neT]; exact hp12
      have dw9 : DpAll K (er H9 p) tws (xs.map eQ) := dpa_er (dpa_ex er_ex hdT) (ims_eQ _) d9
      have dw12 : DpAll K (er H12 p) tws (xs.map eQ) := dpa_ex (x10.trans (x11.trans x12)).x dw9
      have dU13 : Dp K (er (upd H12 pT (.lst (tws.set jn v))) p) (.ref pT) (.list ((xs.set jn y).map eQ)) := by
        refine dp_newL (by rw [er_ne neT]; exact upd_same) ?_
        rw [er_upd_ne neT, List.map_set]
        exact dpa_set jn (dpa_mut dw12 (ims_eQ _) hT12 rfl) (dp_mut dv (im_eQ _) hT12 rfl)
      have lxs' : ts.length = (xs.set jn y).length := by rw [List.length_set]; exact lxs
      have ok2 : LogOk n (ts.zip (xs.set jn y)) := zip_ok n1 n6 lxs' (by omega) (by omega) (by rw [lts]; exact few') hts fun x hx => by
        rcases List.mem_or_eq_of_mem_set hx with h | h
        · exact vxs x h
        · rw [h]; exact hy
      refine sD_well (n := n) (i := 1) (a := 3) (b := 5) (c := 7) x813.d rfl rfl rfl rfl (dp_ex (x8.trans x813).x dtv) dU13 lxs' ok2 fun H14 x14 => ?_
      exact ⟨_, _, _, _, _, _, _, rfl, x14.d⟩
    · refine qD_asg x6.d (evs_drawAK (i := 1) rfl (by decide) (by decide)) fun v H7 dd x7 ⟨pe', epe, p4, p6⟩ dv => ?_
      subst epe
      cases dv
      obtain ⟨pn', rfl⟩ : ∃ pn' : Nat, pe' = (pn' : Int) := ⟨pe'.toNat, by omega⟩
      refine sD_asg x7.d (evs_I0 evs_i (evs_intB (evs_and (evs_eqI (evs_vi (k := 3) rfl) evs_i) (evs_eqI (evs_drawAN (i := 1) rfl (by decide) (by decide)) evs_i)))) fun v H8 dd x8 ⟨mm, em, i1, j1, ei1, ⟨b, hb, ej⟩, emm⟩ dv => ?_
      subst em
      cases dv
      subst ei1 ej emm
      cases b with
      | true =>
        obtain ⟨y, z, ey, ez, h⟩ := hb rfl
        subst ey ez
        have := of_decide_eq_true h.symm
        exact tail _ _ ⟨_, pn', 2, rfl, x8.d, by omega, by decide, .inr (.inl ⟨by omega, by decide⟩)⟩
      | false => exact tail _ _ ⟨_, pn', 1, rfl, x8.d, by omega, by decide, .inr (.inr ⟨by omega, by decide⟩)⟩
    · exact ⟨_, pn, mn, rfl, x6.d, by omega, by omega, .inl ⟨by omega, by omega⟩⟩
  · intro σ' H' hP
    exact s_ret (eva_bl (K := K)) fun v H'' _ dv => by
      cases dv
      exact q _
end
end Cb
set_option Elab.async false
set_option linter.all false
set_option maxRecDepth 100000
set_option maxHeartbeats 0
namespace CbHead
open PySem PySem.Spec PyProof.Rows L2
def top (i : Nat) : Stmt := PySem.Challenge.pw_cornerbids_k37_whole_logs_by_all_places.main.body.getD i (.Pass ⟨0, 0, 0, 0⟩)
def d3 : He.DefD := ⟨("is_integer", none), "is_integer", "is_integer", defArgs (top 3), defBody (top 3), defScope (top 3), [], []⟩
def d4 : He.DefD := ⟨("divisor", none), "divisor", "divisor", defArgs (top 4), defBody (top 4), defScope (top 4), [], []⟩
def d5 : He.DefD := ⟨("made", none), "made", "made", defArgs (top 5), defBody (top 5), defScope (top 5), [], []⟩
def d6 : He.DefD := ⟨("plus", none), "plus", "plus", defArgs (top 6), defBody (top 6), defScope (top 6), [], []⟩
def d7 : He.DefD := ⟨("times", none), "times", "times", defArgs (top 7), defBody (top 7), defScope (top 7), [], []⟩
def d8 : He.DefD := ⟨("is_less", none), "is_less", "is_less", defArgs (top 8), defBody (top 8), defScope (top 8), [], []⟩
def d9 : He.DefD := ⟨("least_of", none), "least_of", "least_of", defArgs (top 9), defBody (top 9), defScope (top 9), [], []⟩
def d10 : He.DefD := ⟨("greatest_of", none), "greatest_of", "greatest_of", defArgs (top 10), defBody (top 10), defScope (top 10), [], []⟩
def d11 : He.DefD := ⟨("ascending", none), "ascending", "ascending", defArgs (top 11), defBody (top 11), defScope (top 11), [], []⟩
def d12 : He.DefD := ⟨("middle", none), "middle", "middle", defArgs (top 12), defBody (top 12), defScope (top 12), [], []⟩
def d13 : He.DefD := ⟨("is_fraction", none), "is_fraction", "is_fraction", defArgs (top 13), defBody (top 13), defScope (top 13), [], []⟩
def d15 : He.DefD := ⟨("mean_of", none), "mean_of", "mean_of", defArgs (top 15), defBody (top 15), defScope (top 15), [], []⟩
def d16 : He.DefD := ⟨("ranked_of", none), "ranked_of", "ranked_of", defArgs (top 16), defBody (top 16), defScope (top 16), [], []⟩
def d17 : He.DefD := ⟨("value_of", none), "value_of", "value_of", defArgs (top 17), defBody (top 17), defScope (top 17), [], []⟩
def d19 : He.DefD := ⟨("half", none), "half", "half", defArgs (top 19), defBody (top 19), defScope (top 19), [], []⟩
def d29 : He.DefD := ⟨("is_within", none), "is_within", "is_within", defArgs (top 29), defBody (top 29), defScope (top 29), [], []⟩
def d30 : He.DefD := ⟨("is_number", none), "is_number", "is_number", defArgs (top 30), defBody (top 30), defScope (top 30), [], []⟩
def d31 : He.DefD := ⟨("are_numbers", none), "are_numbers", "are_numbers", defArgs (top 31), defBody (top 31), defScope (top 31), [], []⟩
def d32 : He.DefD := ⟨("check_wishes", none), "check_wishes", "check_wishes", defArgs (top 32), defBody (top 32), defScope (top 32), [], []⟩
def d33 : He.DefD := ⟨("is_person", none), "is_person", "is_person", defArgs (top 33), defBody (top 33), defScope (top 33), [], []⟩
def d34 : He.DefD := ⟨("check_person", none), "check_person", "check_person", defArgs (top 34), defBody (top 34), defScope (top 34), [], []⟩
def d36 : He.DefD := ⟨("all_lots", none), "all_lots", "all_lots", defArgs (top 36), defBody (top 36), defScope (top 36), [], []⟩
def d37 : He.DefD := ⟨("ends_for", none), "ends_for", "ends_for", defArgs (top 37), defBody (top 37), defScope (top 37), [], []⟩
def d38 : He.DefD := ⟨("corner_of", none), "corner_of", "corner_of", defArgs (top 38), defBody (top 38), defScope (top 38), [], []⟩
def d39 : He.DefD := ⟨("corners_of", none), "corners_of", "corners_of", defArgs (top 39), defBody (top 39), defScope (top 39), [], []⟩
def d41 : He.DefD := ⟨("wishing", none), "wishing", "wishing", defArgs (top 41), defBody (top 41), defScope (top 41), [], []⟩
def d42 : He.DefD := ⟨("outcome_among", none), "outcome_among", "outcome_among", defArgs (top 42), defBody (top 42), defScope (top 42), [], []⟩
def d43 : He.DefD := ⟨("outcome_of", none), "outcome_of", "outcome_of", defArgs (top 43), defBody (top 43), defScope (top 43), [], []⟩
def d44 : He.DefD := ⟨("outcome", none), "outcome", "outcome", defArgs (top 44), defBody (top 44), defScope (top 44), [], []⟩
def d50 : He.DefD := ⟨("are_parts", none), "are_parts", "are_parts", defArgs (top 50), defBody (top 50), defScope (top 50), [], []⟩
def d51 : He.DefD := ⟨("is_weighted", none), "is_weighted", "is_weighted", defArgs (top 51), defBody (top 51), defScope (top 51), [], []⟩
def d52 : He.DefD := ⟨("is_bound", none), "is_bound", "is_bound", defArgs (top 52), defBody (top 52), defScope (top 52), [], []⟩
def d53 : He.DefD := ⟨("parts_told", none), "parts_told", "parts_told", defArgs (top 53), defBody (top 53), defScope (top 53), [], []⟩
def d54 : He.DefD := ⟨("is_leaf", none), "is_leaf", "is_leaf", defArgs (top 54), defBody (top 54), defScope (top 54), [], []⟩
def d55 : He.DefD := ⟨("terms_told", none), "terms_told", "terms_told", defArgs (top 55), defBody (top 55), defScope (top 55), [], []⟩
def d60 : He.DefD := ⟨("is_logged", none), "is_logged", "is_logged", defArgs (top 60), defBody (top 60), defScope (top 60), [], []⟩
def d61 : He.DefD := ⟨("check_log", none), "check_log", "check_log", defArgs (top 61), defBody (top 61), defScope (top 61), [], []⟩
def d62 : He.DefD := ⟨("people_in", none), "people_in", "people_in", defArgs (top 62), defBody (top 62), defScope (top 62), [], []⟩
def d63 : He.DefD := ⟨("check_logged_wishes", none), "check_logged_wishes", "check_logged_wishes", defArgs (top 63), defBody (top 63), defScope (top 63), [], []⟩
def d64 : He.DefD := ⟨("numbers_in", none), "numbers_in", "numbers_in", defArgs (top 64), defBody (top 64), defScope (top 64), [], []⟩
def d65 : He.DefD := ⟨("place_of", none), "place_of", "place_of", defArgs (top 65), defBody (top 65), defScope (top 65), [], []⟩
def d66 : He.DefD := ⟨("wish_at", none), "wish_at", "wish_at", defArgs (top 66), defBody (top 66), defScope (top 66), [], []⟩
def d67 : He.DefD := ⟨("places_open", none), "places_open", "places_open", defArgs (top 67), defBody (top 67), defScope (top 67), [], []⟩
def d68 : He.DefD := ⟨("bits_of", none), "bits_of", "bits_of", defArgs (top 68), defBody (top 68), defScope (top 68), [], []⟩
def d69 : He.DefD := ⟨("lots_for", none), "lots_for", "lots_for", defArgs (top 69), defBody (top 69), defScope (top 69), [], []⟩
def d70 : He.DefD := ⟨("levels_of", none), "levels_of", "levels_of", defArgs (top 70), defBody (top 70), defScope (top 70), [], []⟩
def d71 : He.DefD := ⟨("is_part", none), "is_part", "is_part", defArgs (top 71), defBody (top 71), defScope (top 71), [], []⟩
def d72 : He.DefD := ⟨("ways_down", none), "ways_down", "ways_down", defArgs (top 72), defBody (top 72), defScope (top 72), [], []⟩
def d73 : He.DefD := ⟨("ways_up", none), "ways_up", "ways_up", defArgs (top 73), defBody (top 73), defScope (top 73), [], []⟩
def d74 : He.DefD := ⟨("first_way", none), "first_way", "first_way", defArgs (top 74), defBody (top 74), defScope (top 74), [], []⟩
def d75 : He.DefD := ⟨("can_stand", none), "can_stand", "can_stand", defArgs (top 75), defBody (top 75), defScope (top 75), [], []⟩
def d76 : He.DefD := ⟨("do_fit", none), "do_fit", "do_fit", defArgs (top 76), defBody (top 76), defScope (top 76), [], []⟩
def d77 : He.DefD := ⟨("fits", none), "fits", "fits", defArgs (top 77), defBody (top 77), defScope (top 77), [], []⟩
def d78 : He.DefD := ⟨("fitting", none), "fitting", "fitting", defArgs (top 78), defBody (top 78), defScope (top 78), [], []⟩
def d79 : He.DefD := ⟨("places", none), "places", "places", defArgs (top 79), defBody (top 79), defScope (top 79), [], []⟩
def d80 : He.DefD := ⟨("may_stand", none), "may_stand", "may_stand", defArgs (top 80), defBody (top 80), defScope (top 80), [], []⟩
def d81 : He.DefD := ⟨("many_places", none), "many_places", "many_places", defArgs (top 81), defBody (top 81), defScope (top 81), [], []⟩
def d83 : He.DefD := ⟨("_law_dice", none), "_law_dice", "_law_dice", defArgs (top 83), defBody (top 83), defScope (top 83), [], []⟩
def d84 : He.DefD := ⟨("_law_draw", none), "_law_draw", "_law_draw", defArgs (top 84), defBody (top 84), defScope (top 84), [], []⟩
def d85 : He.DefD := ⟨("_law_lowest", none), "_law_lowest", "_law_lowest", defArgs (top 85), defBody (top 85), defScope (top 85), [], []⟩
def d86 : He.DefD := ⟨("_law_sum", none), "_law_sum", "_law_sum", defArgs (top 86), defBody (top 86), defScope (top 86), [], []⟩
def d87 : He.DefD := ⟨("_law_product", none), "_law_product", "_law_product", defArgs (top 87), defBody (top 87), defScope (top 87), [], []⟩
def d88 : He.DefD := ⟨("_law_less", none), "_law_less", "_law_less", defArgs (top 88), defBody (top 88), defScope (top 88), [], []⟩
def d89 : He.DefD := ⟨("_law_sorted", none), "_law_sorted", "_law_sorted", defArgs (top 89), defBody (top 89), defScope (top 89), [], []⟩
def d90 : He.DefD := ⟨("_law_number", none), "_law_number", "_law_number", defArgs (top 90), defBody (top 90), defScope (top 90), [], []⟩
def d91 : He.DefD := ⟨("_law_numbers", none), "_law_numbers", "_law_numbers", defArgs (top 91), defBody (top 91), defScope (top 91), [], []⟩
def d92 : He.DefD := ⟨("_law_term", none), "_law_term", "_law_term", defArgs (top 92), defBody (top 92), defScope (top 92), [], []⟩
def d93 : He.DefD := ⟨("_law_value", none), "_law_value", "_law_value", defArgs (top 93), defBody (top 93), defScope (top 93), [], []⟩
def d94 : He.DefD := ⟨("_law_lots", none), "_law_lots", "_law_lots", defArgs (top 94), defBody (top 94), defScope (top 94), [], []⟩
def d95 : He.DefD := ⟨("_law_by_size", none), "_law_by_size", "_law_by_size", defArgs (top 95), defBody (top 95), defScope (top 95), [], []⟩
def d96 : He.DefD := ⟨("_law_at_ends", none), "_law_at_ends", "_law_at_ends", defArgs (top 96), defBody (top 96), defScope (top 96), [], []⟩
def d97 : He.DefD := ⟨("_law_corner", none), "_law_corner", "_law_corner", defArgs (top 97), defBody (top 97), defScope (top 97), [], []⟩
def d98 : He.DefD := ⟨("_law_wishing", none), "_law_wishing", "_law_wishing", defArgs (top 98), defBody (top 98), defScope (top 98), [], []⟩
def d99 : He.DefD := ⟨("_law_wishing_more", none), "_law_wishing_more", "_law_wishing_more", defArgs (top 99), defBody (top 99), defScope (top 99), [], []⟩
def d100 : He.DefD := ⟨("_law_is_outcome", none), "_law_is_outcome", "_law_is_outcome", defArgs (top 100), defBody (top 100), defScope (top 100), [], []⟩
def d101 : He.DefD := ⟨("_law_flag", none), "_law_flag", "_law_flag", defArgs (top 101), defBody (top 101), defScope (top 101), [], []⟩
def d102 : He.DefD := ⟨("_law_rules", none), "_law_rules", "_law_rules", defArgs (top 102), defBody (top 102), defScope (top 102), [], []⟩
def d103 : He.DefD := ⟨("_law_unlike", none), "_law_unlike", "_law_unlike", defArgs (top 103), defBody (top 103), defScope (top 103), [], []⟩
def d104 : He.DefD := ⟨("_law_place", none), "_law_place", "_law_place", defArgs (top 104), defBody (top 104), defScope (top 104), [], []⟩
def d105 : He.DefD := ⟨("_law_open", none), "_law_open", "_law_open", defArgs (top 105), defBody (top 105), defScope (top 105), [], []⟩
def d106 : He.DefD := ⟨("_law_all_tuples", none), "_law_all_tuples", "_law_all_tuples", defArgs (top 106), defBody (top 106), defScope (top 106), [], []⟩
def d107 : He.DefD := ⟨("_law_held", none), "_law_held", "_law_held", defArgs (top 107), defBody (top 107), defScope (top 107), [], []⟩
def d108 : He.DefD := ⟨("_law_fitting", none), "_law_fitting", "_law_fitting", defArgs (top 108), defBody (top 108), defScope (top 108), [], []⟩
def d109 : He.DefD := ⟨("_law_is_well", none), "_law_is_well", "_law_is_well", defArgs (top 109), defBody (top 109), defScope (top 109), [], []⟩
def d110 : He.DefD := ⟨("law", none), "law", "law", defArgs (top 110), defBody (top 110), defScope (top 110), [], []⟩
def dInit : He.DefD := ⟨("Rule", some "__init__"), "__init__", "Rule.__init__", defArgs (inClass (top 56) 0), defBody (inClass (top 56) 0), defScope (inClass (top 56) 0), [], []⟩
def fn0 : List He.DefD := [d3, d4, d5, d6, d7, d8, d9, d10, d11, d12, d13, d15, d16, d17, d19, d29, d30, d31, d32, d33, d34, d36, d37, d38, d39, d41, d42, d43, d44, d50]
def fn1 : List He.DefD := [d51, d52, d53, d54, d55, d60, d61, d62, d63, d64, d65, d66, d67, d68, d69, d70, d71, d72, d73, d74, d75, d76, d77, d78, d79, d80, d81, d83, d84, d85]
def fn2 : List He.DefD := [d86, d87, d88, d89, d90, d91, d92, d93, d94, d95, d96, d97, d98, d99, d100, d101, d102, d103, d104, d105, d106, d107, d108, d109, d110, dInit]
def fn : List He.DefD := fn0 ++ fn1 ++ fn2
def fa0 : List He.Fa := [.glo "is_integer", .glo "divisor", .glo "made", .glo "plus", .glo "times", .glo "is_less", .glo "least_of", .glo "greatest_of", .glo "ascending", .glo "middle", .glo "is_fraction", .glo "mean_of", .glo "ranked_of", .glo "value_of", .glo "half", .glo "is_within", .glo "is_number", .glo "are_numbers", .glo "check_wishes", .glo "is_person", .glo "check_person", .glo "all_lots", .glo "ends_for", .glo "corner_of", .glo "corners_of", .glo "wishing", .glo "outcome_among", .glo "outcome_of", .glo "outcome", .glo "are_parts"]
def fa1 : List He.Fa := [.glo "is_weighted", .glo "is_bound", .glo "parts_told", .glo "is_leaf", .glo "terms_told", .glo "is_logged", .glo "check_log", .glo "people_in", .glo "check_logged_wishes", .glo "numbers_in", .glo "place_of", .glo "wish_at", .glo "places_open", .glo "bits_of", .glo "lots_for", .glo "levels_of", .glo "is_part", .glo "ways_down", .glo "ways_up", .glo "first_way", .glo "can_stand", .glo "do_fit", .glo "fits", .glo "fitting", .glo "places", .glo "may_stand", .glo "many_places", .glo "_law_dice", .glo "_law_draw", .glo "_law_lowest"]
def fa2 : List He.Fa := [.glo "_law_sum", .glo "_law_product", .glo "_law_less", .glo "_law_sorted", .glo "_law_number", .glo "_law_numbers", .glo "_law_term", .glo "_law_value", .glo "_law_lots", .glo "_law_by_size", .glo "_law_at_ends", .glo "_law_corner", .glo "_law_wishing", .glo "_law_wishing_more", .glo "_law_is_outcome", .glo "_law_flag", .glo "_law_rules", .glo "_law_unlike", .glo "_law_place", .glo "_law_open", .glo "_law_all_tuples", .glo "_law_held", .glo "_law_fitting", .glo "_law_is_well", .glo "law", .mkr "Rule", .cls "Rule", .noat "Rule" "people", .noat "Rule" "term", .glo "Rule"]
def fa3 : List He.Fa := [.glo "ZERO", .glo "ONE", .int "MOST_PEOPLE" 6, .int "MOST_DEEP" 8, .int "MOST_TERMS" 60, .int "MOST_PARTS" 8, .int "MOST_WEIGHT" 99, .int "MOST_LOGGED" 4, .int "MOST_PLACES" 20000, .free "len", .free "range", .free "tuple", .free "isinstance", .free "int", .free "bool", .free "str", .free "abs", .free "sum", .free "all", .free "any", .free "list", .free "sorted", .free "set", .free "zip", .free "enumerate"]
def fa : List He.Fa := fa0 ++ fa1 ++ fa2 ++ fa3
def lo0 : List PySem.Str := ["is_integer", "divisor", "made", "plus", "times", "is_less", "least_of", "greatest_of", "ascending", "middle", "is_fraction", "mean_of", "ranked_of", "value_of", "half", "is_within", "is_number", "are_numbers", "check_wishes", "is_person", "check_person", "all_lots", "ends_for", "corner_of", "corners_of", "wishing", "outcome_among", "outcome_of", "outcome", "are_parts"]
def lo1 : List PySem.Str := ["is_weighted", "is_bound", "parts_told", "is_leaf", "terms_told", "is_logged", "check_log", "people_in", "check_logged_wishes", "numbers_in", "place_of", "wish_at", "places_open", "bits_of", "lots_for", "levels_of", "is_part", "ways_down", "ways_up", "first_way", "can_stand", "do_fit", "fits", "fitting", "places", "may_stand", "many_places", "_law_dice", "_law_draw", "_law_lowest"]
def lo2 : List PySem.Str := ["_law_sum", "_law_product", "_law_less", "_law_sorted", "_law_number", "_law_numbers", "_law_term", "_law_value", "_law_lots", "_law_by_size", "_law_at_ends", "_law_corner", "_law_wishing", "_law_wishing_more", "_law_is_outcome", "_law_flag", "_law_rules", "_law_unlike", "_law_place", "_law_open", "_law_all_tuples", "_law_held", "_law_fitting", "_law_is_well", "BidError", "BadRule", "NoWishes", "NoPerson", "TooMany", "NoLog"]
def lo3 : List PySem.Str := ["Rule", "ZERO", "ONE", "MOST_PEOPLE", "MOST_DEEP", "MOST_TERMS", "MOST_PARTS", "MOST_WEIGHT", "MOST_LOGGED", "MOST_PLACES"]
def loose : List PySem.Str := lo0 ++ lo1 ++ lo2 ++ lo3
abbrev R : PySem.W.OpenRow := PySem.W.OpenLaw.row PySem.Challenge.rw_cornerbids_k37_whole_logs_by_all_places
/-- what is looked at besides -/
def ex (K : PySem.W.Frag) : Bool := He.tupB K "ZERO" [.int 0, .int 1] && (He.tupB K "ONE" [.int 1, .int 1] &&
  (He.eqO (PySem.W.findIn K (.ref (He.ga K "Rule")) "__class__") (some (some (.builtin "object.__class__"))) && (decide (PySem.W.specialIn K (.builtin "object.__class__") "__get__" = some (some (.builtin "getset_descriptor.__get__"))) &&
  (decide (PySem.W.takesIn K (.builtin "object.__class__") = some true) && (decide (PySem.W.mroIn K (He.ga K "Rule") (.type "object") = some true) && (decide (PySem.W.kitOne K (.ref (He.ga K "Rule")) (.ref (He.ga K "Rule")) = some true)))))))
abbrev AlX : Type := He.AlD × Bool
def obsX (K : PySem.W.Frag) : AlX := (He.obsD fa fn K, ex K)
def vals (g : Addr → Option Obj) (a : Addr) : List Addr := match g a with
  | some ⟨_, _, .dict es _, _⟩ => es.toList.flatMap fun e => He.refV e.val
  | _ => []
def codes (g : Addr → Option Obj) (a : Addr) : List Addr := match g a with
  | some ⟨_, _, .func fd, _⟩ => He.refV fd.code
  | some ⟨_, _, .cls cd, _⟩ => [cd.ns]
  | _ => []
def as3 (g : Addr → Option Obj) (l1 l2 : List Addr) : List Addr := let l3 := l2.flatMap (vals g); l1 ++ (l2 ++ (l3 ++ l3.flatMap (codes g)))
def as2 (g : Addr → Option Obj) (l1 : List Addr) : List Addr := as3 g l1 (l1.flatMap (codes g))
def asX (g : Addr → Option Obj) : List Addr := mainGlobals :: as2 g (vals g mainGlobals)
def obsXG (g : Addr → Option Obj) : AlX := obsX (He.frG g (asX g))
def hk : PySem.W.Hook where
  α := AlX
  obs := fun s => obsXG s.heap.get?
  val := fun _ => (He.valD fn, true)
  says := fun _ h => ∃ K : PySem.W.Frag, K.In h ∧ (He.SaysD fa fn K ∧ ex K = true)
  of := fun _ _ e => ⟨_, He.frG_in, (Prod.mk.inj e).1, (Prod.mk.inj e).2⟩
  keeps := fun _ _ _ ⟨K, hK, c⟩ k => ⟨K, PySem.W.Frag.In.keeps hK k, c⟩
def ob (s : PySem.W.SharedT) : AlX := obsXG (HandSHeadRun.getT s)
theorem ob_eq (s : PySem.W.SharedT) : ob s = hk.obs s.abs := by
  have e : HandSHeadRun.getT s = s.abs.heap.get? := funext (HandSHeadRun.getT_eq s)
  show obsXG (HandSHeadRun.getT s) = obsXG s.abs.heap.get?
  rw [e]
theorem run (w : World) : HandSHeadRun.RunEq R (PySem.W.view R.prog [110]) hk ob 20000 loose w := by
  intro os
  kernel_rfl
end CbHead
set_option Elab.async false
set_option linter.all false
set_option maxRecDepth 100000
set_option maxHeartbeats 0
/-! Cb, the end. -/
namespace Cb
open PySem PySem.Spec PyProof.Rows L2 Evl
theorem refAt_of {mg : Str → Option Value} {x : Str} {a : Addr} (h : mg x = some (.ref a)) : refAt mg x = a := by
  unfold refAt
  rw [h]
theorem fun_of {K : PySem.W.Frag} {x q : Str} {st : Stmt} {f : Addr} {fd : FuncData} (F : FunD K x q (defArgs st) (defBody st) (defScope st) [] [] f fd) : Fun K x q st f fd := by
  obtain ⟨⟨oc, od, dV, kV, doc, pm, an, cdv, ct, osl, h1, h2, h3, h4, h5⟩, kp⟩ := F
  rcases h4 with ⟨_, e⟩ | ⟨e, _⟩
  · subst e
    exact ⟨⟨oc, od, kV, doc, pm, an, cdv, ct, osl, h1, h2, h3⟩, kp⟩
  · exact absurd rfl e
section
variable {K : PySem.W.Frag} {h : Heap} {mg : Str → Option Value}
theorem fnAt_of (X : K.In h) (G : h.Ns mainGlobals mg) (c : He.SaysD CbHead.fa CbHead.fn K) {x : Str} {i : Nat} (j : Nat) (hj : CbHead.fn[j]? = some ⟨(x, none), x, x, defArgs (topS i), defBody (topS i), defScope (topS i), [], []⟩) (hf : CbHead.fa[j]? = some (.glo x)) : FnAt K mg x i := by
  obtain ⟨fd, F⟩ := c.def_ j hj
  exact ⟨_, fd, He.glo_ok X G (c.fact j hf), fun_of F⟩
theorem tb_of (X : K.In h) (G : h.Ns mainGlobals mg) (c : He.SaysD CbHead.fa CbHead.fn K) (e : CbHead.ex K = true) : Tb K mg := by
  obtain ⟨x1, e⟩ := He.ba e
  obtain ⟨x2, e⟩ := He.ba e
  obtain ⟨x3, e⟩ := He.ba e
  obtain ⟨x4, e⟩ := He.ba e
  obtain ⟨x5, e⟩ := He.ba e
  obtain ⟨x6, x7⟩ := He.ba e
  have gR := He.glo_ok X G (c.fact 89 (f := .glo "Rule") rfl)
  have gZ := He.glo_ok X G (c.fact 90 (f := .glo "ZERO") rfl)
  have gO := He.glo_ok X G (c.fact 91 (f := .glo "ONE") rfl)
  have rR := refAt_of gR
  have rZ := refAt_of gZ
  have rO := refAt_of gO
  have cl : Cls K (refAt mg "Rule") := by rw [rR]; exact He.cls_ok (c.fact 86 (f := .cls "Rule") rfl)
  exact {
    f_is_integer := fnAt_of X G c 0 rfl rfl
    f_divisor := fnAt_of X G c 1 rfl rfl
    f_made := fnAt_of X G c 2 rfl rfl
    f_plus := fnAt_of X G c 3 rfl rfl
    f_times := fnAt_of X G c 4 rfl rfl
    f_is_less := fnAt_of X G c 5 rfl rfl
    f_least_of := fnAt_of X G c 6 rfl rfl
    f_greatest_of := fnAt_of X G c 7 rfl rfl
    f_ascending := fnAt_of X G c 8 rfl rfl
    f_middle := fnAt_of X G c 9 rfl rfl
    f_is_fraction := fnAt_of X G c 10 rfl rfl
    f_mean_of := fnAt_of X G c 11 rfl rfl
    f_ranked_of := fnAt_of X G c 12 rfl rfl
    f_value_of := fnAt_of X G c 13 rfl rfl
    f_half := fnAt_of X G c 14 rfl rfl
    f_is_within := fnAt_of X G c 15 rfl rfl
    f_is_number := fnAt_of X G c 16 rfl rfl
    f_are_numbers := fnAt_of X G c 17 rfl rfl
    f_check_wishes := fnAt_of X G c 18 rfl rfl
    f_is_person := fnAt_of X G c 19 rfl rfl
    f_check_person := fnAt_of X G c 20 rfl rfl
    f_all_lots := fnAt_of X G c 21 rfl rfl
    f_ends_for := fnAt_of X G c 22 rfl rfl
    f_corner_of := fnAt_of X G c 23 rfl rfl
    f_corners_of := fnAt_of X G c 24 rfl rfl
    f_wishing := fnAt_of X G c 25 rfl rfl
    f_outcome_among := fnAt_of X G c 26 rfl rfl
    f_outcome_of := fnAt_of X G c 27 rfl rfl
    f_outcome := fnAt_of X G c 28 rfl rfl
    f_are_parts := fnAt_of X G c 29 rfl rfl
    f_is_weighted := fnAt_of X G c 30 rfl rfl
    f_is_bound := fnAt_of X G c 31 rfl rfl
    f_parts_told := fnAt_of X G c 32 rfl rfl
    f_is_leaf := fnAt_of X G c 33 rfl rfl
    f_terms_told := fnAt_of X G c 34 rfl rfl
    f_is_logged := fnAt_of X G c 35 rfl rfl
    f_check_log := fnAt_of X G c 36 rfl rfl
    f_people_in := fnAt_of X G c 37 rfl rfl
    f_check_logged_wishes := fnAt_of X G c 38 rfl rfl
    f_numbers_in := fnAt_of X G c 39 rfl rfl
    f_place_of := fnAt_of X G c 40 rfl rfl
    f_wish_at := fnAt_of X G c 41 rfl rfl
    f_places_open := fnAt_of X G c 42 rfl rfl
    f_bits_of := fnAt_of X G c 43 rfl rfl
    f_lots_for := fnAt_of X G c 44 rfl rfl
    f_levels_of := fnAt_of X G c 45 rfl rfl
    f_is_part := fnAt_of X G c 46 rfl rfl
    f_ways_down := fnAt_of X G c 47 rfl rfl
    f_ways_up := fnAt_of X G c 48 rfl rfl
    f_first_way := fnAt_of X G c 49 rfl rfl
    f_can_stand := fnAt_of X G c 50 rfl rfl
    f_do_fit := fnAt_of X G c 51 rfl rfl
    f_fits := fnAt_of X G c 52 rfl rfl
    f_fitting := fnAt_of X G c 53 rfl rfl
    f_places := fnAt_of X G c 54 rfl rfl
    f_may_stand := fnAt_of X G c 55 rfl rfl
    f_many_places := fnAt_of X G c 56 rfl rfl
    f_l_dice := fnAt_of X G c 57 rfl rfl
    f_l_draw := fnAt_of X G c 58 rfl rfl
    f_l_lowest := fnAt_of X G c 59 rfl rfl
    f_l_sum := fnAt_of X G c 60 rfl rfl
    f_l_product := fnAt_of X G c 61 rfl rfl
    f_l_less := fnAt_of X G c 62 rfl rfl
    f_l_sorted := fnAt_of X G c 63 rfl rfl
    f_l_number := fnAt_of X G c 64 rfl rfl
    f_l_numbers := fnAt_of X G c 65 rfl rfl
    f_l_term := fnAt_of X G c 66 rfl rfl
    f_l_value := fnAt_of X G c 67 rfl rfl
    f_l_lots := fnAt_of X G c 68 rfl rfl
    f_l_by_size := fnAt_of X G c 69 rfl rfl
    f_l_at_ends := fnAt_of X G c 70 rfl rfl
    f_l_corner := fnAt_of X G c 71 rfl rfl
    f_l_wishing := fnAt_of X G c 72 rfl rfl
    f_l_wishing_more := fnAt_of X G c 73 rfl rfl
    f_l_is_outcome := fnAt_of X G c 74 rfl rfl
    f_l_flag := fnAt_of X G c 75 rfl rfl
    f_l_rules := fnAt_of X G c 76 rfl rfl
    f_l_unlike := fnAt_of X G c 77 rfl rfl
    f_l_place := fnAt_of X G c 78 rfl rfl
    f_l_open := fnAt_of X G c 79 rfl rfl
    f_l_all_tuples := fnAt_of X G c 80 rfl rfl
    f_l_held := fnAt_of X G c 81 rfl rfl
    f_l_fitting := fnAt_of X G c 82 rfl rfl
    f_l_is_well := fnAt_of X G c 83 rfl rfl
    f_law := fnAt_of X G c 84 rfl rfl
    MOST_PEOPLE := He.int_ok X G (c.fact 92 (f := .int "MOST_PEOPLE" 6) rfl)
    MOST_DEEP := He.int_ok X G (c.fact 93 (f := .int "MOST_DEEP" 8) rfl)
    MOST_TERMS := He.int_ok X G (c.fact 94 (f := .int "MOST_TERMS" 60) rfl)
    MOST_PARTS := He.int_ok X G (c.fact 95 (f := .int "MOST_PARTS" 8) rfl)
    MOST_WEIGHT := He.int_ok X G (c.fact 96 (f := .int "MOST_WEIGHT" 99) rfl)
    MOST_LOGGED := He.int_ok X G (c.fact 97 (f := .int "MOST_LOGGED" 4) rfl)
    MOST_PLACES := He.int_ok X G (c.fact 98 (f := .int "MOST_PLACES" 20000) rfl)
    len := He.free_ok X G (c.fact 99 (f := .free "len") rfl)
    range := He.free_ok X G (c.fact 100 (f := .free "range") rfl)
    tuple := He.free_ok X G (c.fact 101 (f := .free "tuple") rfl)
    isinstance := He.free_ok X G (c.fact 102 (f := .free "isinstance") rfl)
    int := He.free_ok X G (c.fact 103 (f := .free "int") rfl)
    bool := He.free_ok X G (c.fact 104 (f := .free "bool") rfl)
    str := He.free_ok X G (c.fact 105 (f := .free "str") rfl)
    abs := He.free_ok X G (c.fact 106 (f := .free "abs") rfl)
    sum := He.free_ok X G (c.fact 107 (f := .free "sum") rfl)
    all := He.free_ok X G (c.fact 108 (f := .free "all") rfl)
    any := He.free_ok X G (c.fact 109 (f := .free "any") rfl)
    list := He.free_ok X G (c.fact 110 (f := .free "list") rfl)
    sorted := He.free_ok X G (c.fact 111 (f := .free "sorted") rfl)
    set := He.free_ok X G (c.fact 112 (f := .free "set") rfl)
    zip := He.free_ok X G (c.fact 113 (f := .free "zip") rfl)
    enumerate := He.free_ok X G (c.fact 114 (f := .free "enumerate") rfl)
    ZERO := by rw [rZ]; exact gZ
    sZERO := fun H => by rw [rZ]; exact He.tupB_ok x1 H
    ONE := by rw [rO]; exact gO
    sONE := fun H => by rw [rO]; exact He.tupB_ok x2 H
    Rule := by rw [rR]; exact gR
    cls := cl
    noP := by rw [rR]; exact He.noat_ok (c.fact 87 (f := .noat "Rule" "people") rfl)
    noT := by rw [rR]; exact He.noat_ok (c.fact 88 (f := .noat "Rule" "term") rfl)
    mkr := by
      obtain ⟨fd, F⟩ := c.def_ 85 (d := CbHead.dInit) rfl
      exact ⟨_, fd, by rw [rR]; exact He.mkr_ok (c.fact 85 (f := .mkr "Rule") rfl), fun_of F⟩
    tyR := fun H a dx fs hh => .ins hh cl (by rw [rR]; exact He.eqO_ok x3) (of_decide_eq_true x4) (of_decide_eq_true x5) (by rw [rR]; exact of_decide_eq_true x6)
    isR := by rw [rR]; exact of_decide_eq_true x7 }
end
section
variable {P : Program} {w : World} {K : PySem.W.Frag} {mg : Str → Option Value} {base : Heap}
theorem law_ok (T : Tb K mg) {f : Addr} {fd : FuncData} (F : Fun K "law" "law" (topS 110) f fd) : FnOk P w K mg base CX0 20 f fd ["_law_script"] (spLaw K) := by
  have e_is_integer := has_is_integer (P := P) (w := w) (base := base) (k := 0) T
  have e_divisor := has_divisor (P := P) (w := w) (base := base) (k := 0) T
  have e_made := has_made (P := P) (w := w) (base := base) (k := 1) T (e_divisor.mono (by decide))
  have e_plus := has_plus (P := P) (w := w) (base := base) (k := 2) T (e_made.mono (by decide))
  have e_times := has_times (P := P) (w := w) (base := base) (k := 2) T (e_made.mono (by decide))
  have e_is_less := has_is_less (P := P) (w := w) (base := base) (k := 0) T
  have e_least_of := has_least_of (P := P) (w := w) (base := base) (k := 1) T (e_is_less.mono (by decide))
  have e_greatest_of := has_greatest_of (P := P) (w := w) (base := base) (k := 1) T (e_is_less.mono (by decide))
  have e_ascending := has_ascending (P := P) (w := w) (base := base) (k := 1) T (e_is_less.mono (by decide))
  have e_middle := has_middle (P := P) (w := w) (base := base) (k := 2) T (e_ascending.mono (by decide))
  have e_is_fraction := has_is_fraction (P := P) (w := w) (base := base) (k := 1) T (e_is_integer.mono (by decide)) (e_divisor.mono (by decide))
  have e_is_within := has_is_within (P := P) (w := w) (base := base) (k := 1) T (e_is_integer.mono (by decide))
  have e_is_number := has_is_number (P := P) (w := w) (base := base) (k := 2) T (e_is_fraction.mono (by decide))
  have e_are_numbers := has_are_numbers (P := P) (w := w) (base := base) (k := 3) T (e_is_number.mono (by decide))
  have e_mean_of := has_mean_of (P := P) (w := w) (base := base) (k := 3) T (e_plus.mono (by decide)) (e_times.mono (by decide)) (e_made.mono (by decide))
  have e_ranked_of := has_ranked_of (P := P) (w := w) (base := base) (k := 2) T (e_ascending.mono (by decide))
  have e_value_of := fun n : Nat => has_value_of (P := P) (w := w) (base := base) (k := 4) (n := n) T (e_mean_of.mono (by decide)) (e_middle.mono (by decide)) (e_ranked_of.mono (by decide)) (e_least_of.mono (by decide)) (e_greatest_of.mono (by decide)) 5
  have e_half := has_half (P := P) (w := w) (base := base) (k := 3) T (e_plus.mono (by decide)) (e_times.mono (by decide)) (e_made.mono (by decide))
  have e_ends_for := has_ends_for (P := P) (w := w) (base := base) (k := 0) T
  have e_wishing := has_wishing (P := P) (w := w) (base := base) (k := 1) T (e_is_less.mono (by decide))
  have e_corner_of := has_corner_of (P := P) (w := w) (base := base) (k := 10) T (fun n => (e_value_of n).mono (by decide)) (e_ends_for.mono (by decide))
  have e_outcome_among := has_outcome_among (P := P) (w := w) (base := base) (k := 10) T (fun n => (e_value_of n).mono (by decide)) (e_ends_for.mono (by decide)) (e_wishing.mono (by decide)) (e_least_of.mono (by decide)) (e_greatest_of.mono (by decide))
  have e_outcome_of := has_outcome_of (P := P) (w := w) (base := base) (k := 11) T (e_outcome_among.mono (by decide))
  have e_check_wishes := has_check_wishes (P := P) (w := w) (base := base) (k := 4) T (e_are_numbers.mono (by decide))
  have e_outcome := has_outcome (P := P) (w := w) (base := base) (k := 12) T (e_check_wishes.mono (by decide)) (e_outcome_of.mono (by decide))
  have e_is_person := has_is_person (P := P) (w := w) (base := base) (k := 2) T (e_is_within.mono (by decide))
  have e_check_person := has_check_person (P := P) (w := w) (base := base) (k := 3) T (e_is_person.mono (by decide))
  have e_all_lots := has_all_lots (P := P) (w := w) (base := base) (k := 0) T
  have e_corners_of := has_corners_of (P := P) (w := w) (base := base) (k := 11) T (e_all_lots.mono (by decide)) (e_corner_of.mono (by decide))
  have e_is_logged := has_is_logged (P := P) (w := w) (base := base) (k := 3) T (e_is_number.mono (by decide))
  have e_people_in := has_people_in (P := P) (w := w) (base := base) (k := 0) T
  have e_check_log := has_check_log (P := P) (w := w) (base := base) (k := 4) T (e_is_logged.mono (by decide))
  have e_check_logged_wishes := has_check_logged_wishes (P := P) (w := w) (base := base) (k := 4) T (e_are_numbers.mono (by decide)) (e_people_in.mono (by decide))
  have e_numbers_in := has_numbers_in (P := P) (w := w) (base := base) (k := 2) T (e_ascending.mono (by decide))
  have e_place_of := has_place_of (P := P) (w := w) (base := base) (k := 1) T (e_is_less.mono (by decide))
  have e_places_open := has_places_open (P := P) (w := w) (base := base) (k := 0) T
  have e_bits_of := has_bits_of (P := P) (w := w) (base := base) (k := 0) T
  have e_is_part := has_is_part (P := P) (w := w) (base := base) (k := 0) T
  have e_wish_at := has_wish_at (P := P) (w := w) (base := base) (k := 4) T (e_half.mono (by decide))
  have e_do_fit := has_do_fit (P := P) (w := w) (base := base) (k := 12) T (e_outcome_of.mono (by decide))
  have e_fits := has_fits (P := P) (w := w) (base := base) (k := 13) T (e_check_log.mono (by decide)) (e_check_logged_wishes.mono (by decide)) (e_do_fit.mono (by decide))
  have e_places := has_places (P := P) (w := w) (base := base) (k := 5) T (e_check_log.mono (by decide)) (e_check_logged_wishes.mono (by decide)) (e_numbers_in.mono (by decide)) (e_place_of.mono (by decide))
  have e_lots_for := has_lots_for (P := P) (w := w) (base := base) (k := 1) T (e_all_lots.mono (by decide)) (e_is_less.mono (by decide)) (e_bits_of.mono (by decide))
  have e_levels_of := has_levels_of (P := P) (w := w) (base := base) (k := 12) T (e_people_in.mono (by decide)) (e_bits_of.mono (by decide)) (e_numbers_in.mono (by decide)) (e_corners_of.mono (by decide)) (e_lots_for.mono (by decide))
  have e_ways_down := has_ways_down (P := P) (w := w) (base := base) (k := 1) T (e_is_part.mono (by decide))
  have e_ways_up := has_ways_up (P := P) (w := w) (base := base) (k := 1) T (e_is_part.mono (by decide))
  have e_first_way := has_first_way (P := P) (w := w) (base := base) (k := 2) T (e_ways_down.mono (by decide)) (e_is_part.mono (by decide))
  have e_can_stand := has_can_stand (P := P) (w := w) (base := base) (k := 1) T (e_is_part.mono (by decide))
  have e_fitting := has_fitting (P := P) (w := w) (base := base) (k := 13) T (e_check_log.mono (by decide)) (e_levels_of.mono (by decide)) (e_first_way.mono (by decide)) (e_numbers_in.mono (by decide)) (e_people_in.mono (by decide)) (e_wish_at.mono (by decide))
  have e_may_stand := has_may_stand (P := P) (w := w) (base := base) (k := 13) T (e_check_log.mono (by decide)) (e_check_person.mono (by decide)) (e_levels_of.mono (by decide)) (e_ways_up.mono (by decide)) (e_ways_down.mono (by decide)) (e_can_stand.mono (by decide))
  have e_many_places := has_many_places (P := P) (w := w) (base := base) (k := 13) T (e_check_log.mono (by decide)) (e_people_in.mono (by decide)) (e_places_open.mono (by decide)) (e_numbers_in.mono (by decide)) (e_levels_of.mono (by decide)) (e_ways_down.mono (by decide))
  have e_are_parts := has_are_parts (P := P) (w := w) (base := base) (k := 0) T
  have e_is_weighted := has_is_weighted (P := P) (w := w) (base := base) (k := 2) T (e_is_within.mono (by decide))
  have e_is_bound := has_is_bound (P := P) (w := w) (base := base) (k := 3) T (e_is_number.mono (by decide)) (e_is_less.mono (by decide))
  have e_parts_told := has_parts_told (P := P) (w := w) (base := base) (k := 4) T (e_are_parts.mono (by decide)) (e_is_weighted.mono (by decide)) (e_is_within.mono (by decide)) (e_is_bound.mono (by decide))
  have e_is_leaf := has_is_leaf (P := P) (w := w) (base := base) (k := 3) T (e_is_within.mono (by decide)) (e_is_number.mono (by decide))
  have e_terms_told := fun n : Nat => has_terms_told (P := P) (w := w) (base := base) (k := 5) (n := n) T (e_is_leaf.mono (by decide)) (e_parts_told.mono (by decide)) 5
  have e_Rule := has_init (P := P) (w := w) (base := base) (k := 11) T (e_is_within.mono (by decide)) (fun n => (e_terms_told n).mono (by decide))
  have e_l_lowest := has_l_lowest (P := P) (w := w) (base := base) (k := 0) T
  have e_l_sum := has_l_sum (P := P) (w := w) (base := base) (k := 1) T (e_l_lowest.mono (by decide))
  have e_l_product := has_l_product (P := P) (w := w) (base := base) (k := 1) T (e_l_lowest.mono (by decide))
  have e_l_less := has_l_less (P := P) (w := w) (base := base) (k := 0) T
  have e_l_sorted := has_l_sorted (P := P) (w := w) (base := base) (k := 1) T (e_l_less.mono (by decide))
  have e_l_value := fun n : Nat => has_l_value (P := P) (w := w) (base := base) (k := 2) (n := n) T (e_l_sum.mono (by decide)) (e_l_product.mono (by decide)) (e_l_sorted.mono (by decide)) 5
  have e_l_by_size := has_l_by_size (P := P) (w := w) (base := base) (k := 0) T
  have e_l_lots := has_l_lots (P := P) (w := w) (base := base) (k := 1) T (e_l_by_size.mono (by decide))
  have e_l_at_ends := has_l_at_ends (P := P) (w := w) (base := base) (k := 0) T
  have e_l_corner := has_l_corner (P := P) (w := w) (base := base) (k := 8) T (fun n => (e_l_value n).mono (by decide)) (e_l_at_ends.mono (by decide))
  have e_l_wishing := has_l_wishing (P := P) (w := w) (base := base) (k := 1) T (e_l_less.mono (by decide))
  have e_l_wishing_more := has_l_wishing_more (P := P) (w := w) (base := base) (k := 1) T (e_l_less.mono (by decide))
  have e_l_is_outcome := has_l_is_outcome (P := P) (w := w) (base := base) (k := 9) T (e_l_less.mono (by decide)) (e_l_corner.mono (by decide)) (e_l_wishing.mono (by decide)) (e_l_wishing_more.mono (by decide))
  have e_l_flag := has_l_flag (P := P) (w := w) (base := base) (k := 0) T
  have e_l_unlike := has_l_unlike (P := P) (w := w) (base := base) (k := 2) T (e_l_sorted.mono (by decide))
  have e_l_place := has_l_place (P := P) (w := w) (base := base) (k := 1) T (e_l_less.mono (by decide))
  have e_l_open := has_l_open (P := P) (w := w) (base := base) (k := 0) T
  have e_l_all_tuples := has_l_all_tuples (P := P) (w := w) (base := base) (k := 0) T
  have e_l_held := has_l_held (P := P) (w := w) (base := base) (k := 1) T (e_l_less.mono (by decide))
  have e_l_fitting := has_l_fitting (P := P) (w := w) (base := base) (k := 9) T (e_l_unlike.mono (by decide)) (e_l_lots.mono (by decide)) (e_l_corner.mono (by decide)) (e_l_open.mono (by decide)) (e_l_all_tuples.mono (by decide)) (e_l_held.mono (by decide))
  have e_l_draw := has_l_draw (P := P) (w := w) (base := base) (k := 0) T
  have e_l_dice := has_l_dice (P := P) (w := w) (base := base) (k := 0) T
  have e_l_number := has_l_number (P := P) (w := w) (base := base) (k := 1) T (e_l_draw.mono (by decide)) (e_l_lowest.mono (by decide))
  have e_l_numbers := has_l_numbers (P := P) (w := w) (base := base) (k := 2) T (e_l_number.mono (by decide))
  have e_l_term := has_l_term (P := P) (w := w) (base := base) (k := 2) T (e_l_draw.mono (by decide)) (e_l_number.mono (by decide)) (e_l_sorted.mono (by decide)) 3
  have e_l_rules := has_l_rules (P := P) (w := w) (base := base) (k := 6) T (e_l_draw.mono (by decide)) (e_l_term.mono (by decide))
  have e_l_is_well := has_l_is_well (P := P) (w := w) (base := base) (k := 13) T (e_Rule.mono (by decide)) (e_l_fitting.mono (by decide)) (e_l_unlike.mono (by decide)) (e_many_places.mono (by decide)) (e_may_stand.mono (by decide)) (e_fitting.mono (by decide)) (e_l_numbers.mono (by decide)) (e_places.mono (by decide)) (e_l_place.mono (by decide)) (e_l_is_outcome.mono (by decide)) (e_l_flag.mono (by decide)) (e_fits.mono (by decide))
  have e_law := has_law (P := P) (w := w) (base := base) (k := 14) T (e_Rule.mono (by decide)) (e_l_dice.mono (by decide)) (e_l_draw.mono (by decide)) (e_l_rules.mono (by decide)) (e_l_numbers.mono (by decide)) (e_outcome.mono (by decide)) (e_l_is_well.mono (by decide)) (e_l_number.mono (by decide)) F
  exact e_law.mono (by decide)
end
end Cb
namespace CbEnd
open PySem PySem.Spec PyProof.Rows L2
theorem facts {P : Program} {w : World} {K : PySem.W.Frag} {h : Heap} {mg : Str → Option Value} {f : Addr} (X : K.In h) (G : h.Ns mainGlobals mg) (hfa : mg ("law" : Str) = some (.ref f)) (c : He.SaysD CbHead.fa CbHead.fn K) (e : CbHead.ex K = true) :
    ∃ fd : FuncData, (∀ (s : Shared) (v : Value), BindsTo s fd ⟨[v], []⟩ [("_law_script", v)]) ∧ ∀ base : Heap, K.In base → base.Ns mainGlobals mg → FnOk P w K mg base CX0 20 f fd ["_law_script"] (Cb.spLaw K) := by
  have T := Cb.tb_of X G c e
  obtain ⟨fd, F⟩ := c.def_ 84 (d := CbHead.d110) rfl
  have eq := hfa.symm.trans (He.glo_ok X G (c.fact 84 (f := .glo "law") rfl))
  cases eq
  have b := FunD.bindsA (ps := ["_law_script"]) F fun _ _ _ _ _ _ us hl => match us, hl with | [_], _ => rfl
  exact ⟨fd, fun s v => b s [v] rfl, fun base _ _ => Cb.law_ok T (Cb.fun_of F)⟩
end CbEnd
open PySem PySem.W PySem.Calls PyProof.Rows
theorem PySem.Challenge.cw_cornerbids_k37_whole_logs_by_all_places_holds : PySem.Challenge.rw_cornerbids_k37_whole_logs_by_all_places.Holds := by
  w_on; o_law
  refine HandSHeadRun.head_any (r := OpenLaw.row PySem.Challenge.rw_cornerbids_k37_whole_logs_by_all_places) (q := view (OpenLaw.row PySem.Challenge.rw_cornerbids_k37_whole_logs_by_all_places).prog [110]) (H := CbHead.hk) (ob := CbHead.ob) (M := 20000) (loose := CbHead.loose) (d := HandSHeadRun.topDef (OpenLaw.row PySem.Challenge.rw_cornerbids_k37_whole_logs_by_all_places).prog 110) (kwd := []) CbHead.ob_eq
    (by kernel_rfl) (fun s => by kernel_rfl) CbHead.run (by kernel_rfl) (by kernel_rfl) (by kernel_rfl) (by rfl) (by first | assumption | decide +kernel) (by decide +kernel) ⟨rfl, rfl, rfl, rfl, rfl, by decide +kernel⟩ ?hw ?hc
  case hw => w_witness2
  case hc =>
    refine L2.walk_ofE (l := PySem.Challenge.rw_cornerbids_k37_whole_logs_by_all_places) (n := 63) (k := 20) (x := "_law_script") (CX := L2.CX0) rfl (by decide) (by kernel_rfl) ⟨rfl, by decide, by decide⟩ ?F (fun _ _ _ _ z => z)
    intro w mg fa h Y G hmg0
    obtain ⟨K, KX, c, e⟩ := Y
    have hmg : mg ("law" : PySem.Str) = some (.ref fa) := by
      have e : (HandSHeadRun.topDef (OpenLaw.row PySem.Challenge.rw_cornerbids_k37_whole_logs_by_all_places).prog 110).name = ("law" : PySem.Str) := by kernel_rfl
      rw [← e]
      exact hmg0
    obtain ⟨fd, hb, hF⟩ := CbEnd.facts (P := (PySem.Challenge.rw_cornerbids_k37_whole_logs_by_all_places).prog) (w := w) KX G hmg c e
    exact ⟨K, fd, Cb.spLaw K, KX, hb, fun H a ns hl _ hS => ⟨a, ns, rfl, hS, fun _ => rfl⟩, hF⟩
